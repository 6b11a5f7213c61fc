/- Calls that are proved, rank 10. -/
import Derived.Test.YtpamikcnbnkgkaaGreatDoorB22
set_option linter.all false
set_option maxRecDepth 1000000
set_option maxHeartbeats 0
namespace Go.Ev
noncomputable section
def L10ae : List Ent := [
 N 16 0 xaj 17 x9c x9d 18 xad,
 N 16 0 xaj 17 x9y x9k 17 [],
 N 16 0 xal 17 x9c x9d 18 xad,
 N 16 0 xal 17 x9y x9k 17 [],
 N 16 0 xan 17 x9c x9d 18 xad]
theorem L10ae_t : entsB (envT EB (mkT A10)) L10ae = true := by decide +kernel
theorem L10ae_ok : AllOK L10ae := entsB_ok (like_of okA10) L10ae_t
end
end Go.Ev
set_option maxRecDepth 1000000
set_option maxHeartbeats 0
namespace Go.Ev
noncomputable section
def L10ak : List Ent := [
 N 16 0 xb2 17 x9c x9d 18 xad,
 N 16 0 xb2 17 x9y x9k 17 [],
 N 16 0 xb3 17 x9c x9d 18 xad,
 N 16 0 xb3 17 x9y x9k 17 [],
 N 16 0 xb4 17 x9c x9d 18 xad]
theorem L10ak_t : entsB (envT EB (mkT A10)) L10ak = true := by decide +kernel
theorem L10ak_ok : AllOK L10ak := entsB_ok (like_of okA10) L10ak_t
end
end Go.Ev
set_option maxRecDepth 1000000
set_option maxHeartbeats 0
namespace Go.Ev
noncomputable section
def L10aq : List Ent := [
 N 16 0 xbh 17 x9c x9d 18 xad,
 N 16 0 xbh 17 x9y x9k 17 [],
 N 16 0 xbi 17 x9c x9d 18 xad,
 N 16 0 xbi 17 x9y x9k 17 [],
 N 16 0 xbj 17 x9c x9d 18 xad]
theorem L10aq_t : entsB (envT EB (mkT A10)) L10aq = true := by decide +kernel
theorem L10aq_ok : AllOK L10aq := entsB_ok (like_of okA10) L10aq_t
end
end Go.Ev
set_option maxRecDepth 1000000
set_option maxHeartbeats 0
namespace Go.Ev
noncomputable section
def L10aw : List Ent := [
 N 16 0 xae 17 xdt x9k 17 [],
 N 16 0 xaf 17 xdf x9d 18 xdz,
 N 16 0 xaf 17 xdt x9k 17 [],
 N 16 0 x4 17 xdf x9d 18 xdz,
 N 16 0 x4 17 xdt x9k 17 []]
theorem L10aw_t : entsB (envT EB (mkT A10)) L10aw = true := by decide +kernel
theorem L10aw_ok : AllOK L10aw := entsB_ok (like_of okA10) L10aw_t
end
end Go.Ev
set_option maxRecDepth 1000000
set_option maxHeartbeats 0
namespace Go.Ev
noncomputable section
def L10bc : List Ent := [
 N 16 0 xax 17 xdt x9k 17 [],
 N 16 0 xay 17 xdf x9d 18 xdz,
 N 16 0 xay 17 xdt x9k 17 [],
 N 16 0 xaz 17 xdf x9d 18 xdz,
 N 16 0 xaz 17 xdt x9k 17 []]
theorem L10bc_t : entsB (envT EB (mkT A10)) L10bc = true := by decide +kernel
theorem L10bc_ok : AllOK L10bc := entsB_ok (like_of okA10) L10bc_t
end
end Go.Ev
set_option maxRecDepth 1000000
set_option maxHeartbeats 0
namespace Go.Ev
noncomputable section
def L10bi : List Ent := [
 N 16 0 xbc 17 xdt x9k 17 [],
 N 16 0 xbd 17 xdf x9d 18 xdz,
 N 16 0 xbd 17 xdt x9k 17 [],
 N 16 0 xbe 17 xdf x9d 18 xdz,
 N 16 0 xbe 17 xdt x9k 17 []]
theorem L10bi_t : entsB (envT EB (mkT A10)) L10bi = true := by decide +kernel
theorem L10bi_ok : AllOK L10bi := entsB_ok (like_of okA10) L10bi_t
end
end Go.Ev
set_option maxRecDepth 1000000
set_option maxHeartbeats 0
namespace Go.Ev
noncomputable section
def L10bo : List Ent := [
 N 16 0 x9b 21 xfv x9k 22 [(12,C 87 [x9x,x7,x3,xaq,x9,xaq,N0,x5]),(15,C 330 [S 21 0 1 1,M 17,M 18]),(17,.mp [] 3),(18,.mp [(xc,xj,0),(xm,xj,1),(xk,xj,2)] 3),(21,D 3 [xk]),(16,.gone)],
 N 16 0 xac 21 xfq x9d 23 [(12,C 87 [S 22 0 4 2,x7,x3,xaq,x9,xaq,N0,x5]),(14,C 176 ([P 19 0,x3,I 7,x0,x0,x0,x0,x0,x0,x0,x0,xl,I 7,I 6,x9]++(Q 12 x0)++xfj)),(15,C 330 [S 21 0 0 1,M 17,M 18]),(17,.mp [] 3),(18,.mp [(xc,xj,0),(xm,xj,1),(xk,xj,2)] 3),(20,xfn),(21,D 3 [xk]),(22,xfp),(16,.gone),(13,.gone)],
 N 16 0 xac 21 xfv x9k 22 [(12,C 87 [x9x,x7,x3,xaq,x9,xaq,N0,x5]),(15,C 330 [S 21 0 0 1,M 17,M 18]),(17,.mp [] 3),(18,.mp [(xc,xj,0),(xm,xj,1),(xk,xj,2)] 3),(21,D 3 [xk]),(16,.gone)],
 N 16 0 [x2,xk] 17 xfg x9d 18 xfy,
 N 16 0 [x2,xk] 17 xfs x9k 17 [],
 N 16 0 [x2,x9] 17 xfg x9d 18 xfy]
theorem L10bo_t : entsB (envT EB (mkT A10)) L10bo = true := by decide +kernel
theorem L10bo_ok : AllOK L10bo := entsB_ok (like_of okA10) L10bo_t
end
end Go.Ev
set_option maxRecDepth 1000000
set_option maxHeartbeats 0
namespace Go.Ev
noncomputable section
def L10bu : List Ent := [
 N 16 0 xar 17 xfg x9d 18 xfy,
 N 16 0 xar 17 xfs x9k 17 [],
 N 16 0 xas 17 xfg x9d 18 xfy,
 N 16 0 xas 17 xfs x9k 17 []]
theorem L10bu_t : entsB (envT EB (mkT A10)) L10bu = true := by decide +kernel
theorem L10bu_ok : AllOK L10bu := entsB_ok (like_of okA10) L10bu_t
end
end Go.Ev
set_option maxRecDepth 1000000
set_option maxHeartbeats 0
namespace Go.Ev
noncomputable section
def L10ca : List Ent := [
 N 16 0 xb3 17 xfg x9d 18 xfy,
 N 16 0 xb3 17 xfs x9k 17 [],
 N 16 0 xb4 17 xfg x9d 18 xfy,
 N 16 0 xb4 17 xfs x9k 17 []]
theorem L10ca_t : entsB (envT EB (mkT A10)) L10ca = true := by decide +kernel
theorem L10ca_ok : AllOK L10ca := entsB_ok (like_of okA10) L10ca_t
end
end Go.Ev
set_option maxRecDepth 1000000
set_option maxHeartbeats 0
namespace Go.Ev
noncomputable section
def L10cg : List Ent := [
 N 16 0 xbf 17 xfg x9d 18 xfy,
 N 16 0 xbf 17 xfs x9k 17 [],
 N 16 0 xbg 17 xfg x9d 18 xfy,
 N 16 0 xbg 17 xfs x9k 17 []]
theorem L10cg_t : entsB (envT EB (mkT A10)) L10cg = true := by decide +kernel
theorem L10cg_ok : AllOK L10cg := entsB_ok (like_of okA10) L10cg_t
end
end Go.Ev
