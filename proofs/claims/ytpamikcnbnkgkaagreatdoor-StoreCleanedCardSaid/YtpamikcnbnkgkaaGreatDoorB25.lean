/- Calls that are proved, rank 10. -/
import Derived.Test.YtpamikcnbnkgkaaGreatDoorB22
set_option linter.all false
set_option maxRecDepth 1000000
set_option maxHeartbeats 0
namespace Go.Ev
noncomputable section
def L10ac : List Ent := [
 N 16 0 xae 17 x9c x9d 18 xad,
 N 16 0 xae 17 x9y x9k 17 [],
 N 16 0 xaf 17 x9c x9d 18 xad,
 N 16 0 xaf 17 x9y x9k 17 [],
 N 16 0 x4 17 x9c x9d 18 xad]
theorem L10ac_t : entsB (envT EB (mkT A10)) L10ac = true := by decide +kernel
theorem L10ac_ok : AllOK L10ac := entsB_ok (like_of okA10) L10ac_t
end
end Go.Ev
set_option maxRecDepth 1000000
set_option maxHeartbeats 0
namespace Go.Ev
noncomputable section
def L10ai : List Ent := [
 N 16 0 xax 17 x9c x9d 18 xad,
 N 16 0 xax 17 x9y x9k 17 [],
 N 16 0 xay 17 x9c x9d 18 xad,
 N 16 0 xay 17 x9y x9k 17 [],
 N 16 0 xaz 17 x9c x9d 18 xad]
theorem L10ai_t : entsB (envT EB (mkT A10)) L10ai = true := by decide +kernel
theorem L10ai_ok : AllOK L10ai := entsB_ok (like_of okA10) L10ai_t
end
end Go.Ev
set_option maxRecDepth 1000000
set_option maxHeartbeats 0
namespace Go.Ev
noncomputable section
def L10ao : List Ent := [
 N 16 0 xbc 17 x9c x9d 18 xad,
 N 16 0 xbc 17 x9y x9k 17 [],
 N 16 0 xbd 17 x9c x9d 18 xad,
 N 16 0 xbd 17 x9y x9k 17 [],
 N 16 0 xbe 17 x9c x9d 18 xad]
theorem L10ao_t : entsB (envT EB (mkT A10)) L10ao = true := by decide +kernel
theorem L10ao_ok : AllOK L10ao := entsB_ok (like_of okA10) L10ao_t
end
end Go.Ev
set_option maxRecDepth 1000000
set_option maxHeartbeats 0
namespace Go.Ev
noncomputable section
def L10au : List Ent := [
 N 16 0 x9b 21 xdr x9d 23 [(12,C 87 [S 22 0 4 2,x7,x3,xak,x9,xak,N0,x5]),(14,C 176 ([P 19 0,x3,I 6,x0,x0,x0,x0,x0,x0,x9,I 7,xl,x9]++xdi++xdj)),(15,C 330 [S 21 0 1 1,M 17,M 18]),(17,.mp [] 3),(18,.mp [(xc,xj,0),(xm,xj,1),(xk,xj,2)] 3),(20,xdo),(21,D 3 [xk]),(22,xdq),(16,.gone),(13,.gone)],
 N 16 0 x9b 21 xdw x9k 22 [(12,C 87 [x9x,x7,x3,xak,x9,xak,N0,x5]),(15,C 330 [S 21 0 1 1,M 17,M 18]),(17,.mp [] 3),(18,.mp [(xc,xj,0),(xm,xj,1),(xk,xj,2)] 3),(21,D 3 [xk]),(16,.gone)],
 N 16 0 xac 21 xdr x9d 23 [(12,C 87 [S 22 0 4 2,x7,x3,xak,x9,xak,N0,x5]),(14,C 176 ([P 19 0,x3,I 6,x0,x0,x0,x0,x0,x0,x9,I 7,xl,x9]++xdi++xdj)),(15,C 330 [S 21 0 0 1,M 17,M 18]),(17,.mp [] 3),(18,.mp [(xc,xj,0),(xm,xj,1),(xk,xj,2)] 3),(20,xdo),(21,D 3 [xk]),(22,xdq),(16,.gone),(13,.gone)],
 N 16 0 xac 21 xdw x9k 22 [(12,C 87 [x9x,x7,x3,xak,x9,xak,N0,x5]),(15,C 330 [S 21 0 0 1,M 17,M 18]),(17,.mp [] 3),(18,.mp [(xc,xj,0),(xm,xj,1),(xk,xj,2)] 3),(21,D 3 [xk]),(16,.gone)],
 N 16 0 [x2,xk] 17 xdf x9d 18 xdz,
 N 16 0 [x2,xk] 17 xdt x9k 17 []]
theorem L10au_t : entsB (envT EB (mkT A10)) L10au = true := by decide +kernel
theorem L10au_ok : AllOK L10au := entsB_ok (like_of okA10) L10au_t
end
end Go.Ev
set_option maxRecDepth 1000000
set_option maxHeartbeats 0
namespace Go.Ev
noncomputable section
def L10ba : List Ent := [
 N 16 0 xas 17 xdt x9k 17 [],
 N 16 0 xat 17 xdf x9d 18 xdz,
 N 16 0 xat 17 xdt x9k 17 [],
 N 16 0 xau 17 xdf x9d 18 xdz,
 N 16 0 xau 17 xdt x9k 17 []]
theorem L10ba_t : entsB (envT EB (mkT A10)) L10ba = true := by decide +kernel
theorem L10ba_ok : AllOK L10ba := entsB_ok (like_of okA10) L10ba_t
end
end Go.Ev
set_option maxRecDepth 1000000
set_option maxHeartbeats 0
namespace Go.Ev
noncomputable section
def L10bg : List Ent := [
 N 16 0 xb7 17 xdt x9k 17 [],
 N 16 0 xb8 17 xdf x9d 18 xdz,
 N 16 0 xb8 17 xdt x9k 17 [],
 N 16 0 xb9 17 xdf x9d 18 xdz,
 N 16 0 xb9 17 xdt x9k 17 []]
theorem L10bg_t : entsB (envT EB (mkT A10)) L10bg = true := by decide +kernel
theorem L10bg_ok : AllOK L10bg := entsB_ok (like_of okA10) L10bg_t
end
end Go.Ev
set_option maxRecDepth 1000000
set_option maxHeartbeats 0
namespace Go.Ev
noncomputable section
def L10bm : List Ent := [
 N 16 0 xbm 17 xdt x9k 17 [],
 N 16 0 xbn 17 xdf x9d 18 xdz,
 N 16 0 xbn 17 xdt x9k 17 [],
 N 16 0 xbo 17 xdf x9d 18 xdz,
 N 16 0 xbo 17 xdt x9k 17 []]
theorem L10bm_t : entsB (envT EB (mkT A10)) L10bm = true := by decide +kernel
theorem L10bm_ok : AllOK L10bm := entsB_ok (like_of okA10) L10bm_t
end
end Go.Ev
set_option maxRecDepth 1000000
set_option maxHeartbeats 0
namespace Go.Ev
noncomputable section
def L10bs : List Ent := [
 N 16 0 xaj 17 xfg x9d 18 xfy,
 N 16 0 xaj 17 xfs x9k 17 [],
 N 16 0 xal 17 xfg x9d 18 xfy,
 N 16 0 xal 17 xfs x9k 17 []]
theorem L10bs_t : entsB (envT EB (mkT A10)) L10bs = true := by decide +kernel
theorem L10bs_ok : AllOK L10bs := entsB_ok (like_of okA10) L10bs_t
end
end Go.Ev
set_option maxRecDepth 1000000
set_option maxHeartbeats 0
namespace Go.Ev
noncomputable section
def L10by : List Ent := [
 N 16 0 xaz 17 xfg x9d 18 xfy,
 N 16 0 xaz 17 xfs x9k 17 [],
 N 16 0 xb0 17 xfg x9d 18 xfy,
 N 16 0 xb0 17 xfs x9k 17 []]
theorem L10by_t : entsB (envT EB (mkT A10)) L10by = true := by decide +kernel
theorem L10by_ok : AllOK L10by := entsB_ok (like_of okA10) L10by_t
end
end Go.Ev
set_option maxRecDepth 1000000
set_option maxHeartbeats 0
namespace Go.Ev
noncomputable section
def L10ce : List Ent := [
 N 16 0 xbb 17 xfg x9d 18 xfy,
 N 16 0 xbb 17 xfs x9k 17 [],
 N 16 0 xbc 17 xfg x9d 18 xfy,
 N 16 0 xbc 17 xfs x9k 17 []]
theorem L10ce_t : entsB (envT EB (mkT A10)) L10ce = true := by decide +kernel
theorem L10ce_ok : AllOK L10ce := entsB_ok (like_of okA10) L10ce_t
end
end Go.Ev
set_option maxRecDepth 1000000
set_option maxHeartbeats 0
namespace Go.Ev
noncomputable section
def L10ck : List Ent := [
 N 16 0 xbn 17 xfg x9d 18 xfy,
 N 16 0 xbn 17 xfs x9k 17 [],
 N 16 0 xbo 17 xfg x9d 18 xfy,
 N 16 0 xbo 17 xfs x9k 17 []]
theorem L10ck_t : entsB (envT EB (mkT A10)) L10ck = true := by decide +kernel
theorem L10ck_ok : AllOK L10ck := entsB_ok (like_of okA10) L10ck_t
end
end Go.Ev
