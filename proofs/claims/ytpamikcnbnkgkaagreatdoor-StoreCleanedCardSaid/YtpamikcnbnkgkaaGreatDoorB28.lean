/- Calls that are proved, rank 10. -/
import Derived.Test.YtpamikcnbnkgkaaGreatDoorB22
set_option linter.all false
set_option maxRecDepth 1000000
set_option maxHeartbeats 0
namespace Go.Ev
noncomputable section
def L10af : List Ent := [
 N 16 0 xan 17 x9y x9k 17 [],
 N 16 0 xap 17 x9c x9d 18 xad,
 N 16 0 xap 17 x9y x9k 17 [],
 N 16 0 xar 17 x9c x9d 18 xad,
 N 16 0 xar 17 x9y x9k 17 []]
theorem L10af_t : entsB (envT EB (mkT A10)) L10af = true := by decide +kernel
theorem L10af_ok : AllOK L10af := entsB_ok (like_of okA10) L10af_t
end
end Go.Ev
set_option maxRecDepth 1000000
set_option maxHeartbeats 0
namespace Go.Ev
noncomputable section
def L10al : List Ent := [
 N 16 0 xb4 17 x9y x9k 17 [],
 N 16 0 xb5 17 x9c x9d 18 xad,
 N 16 0 xb5 17 x9y x9k 17 [],
 N 16 0 xb6 17 x9c x9d 18 xad,
 N 16 0 xb6 17 x9y x9k 17 []]
theorem L10al_t : entsB (envT EB (mkT A10)) L10al = true := by decide +kernel
theorem L10al_ok : AllOK L10al := entsB_ok (like_of okA10) L10al_t
end
end Go.Ev
set_option maxRecDepth 1000000
set_option maxHeartbeats 0
namespace Go.Ev
noncomputable section
def L10ar : List Ent := [
 N 16 0 xbj 17 x9y x9k 17 [],
 N 16 0 xbk 17 x9c x9d 18 xad,
 N 16 0 xbk 17 x9y x9k 17 [],
 N 16 0 xbl 17 x9c x9d 18 xad,
 N 16 0 xbl 17 x9y x9k 17 []]
theorem L10ar_t : entsB (envT EB (mkT A10)) L10ar = true := by decide +kernel
theorem L10ar_ok : AllOK L10ar := entsB_ok (like_of okA10) L10ar_t
end
end Go.Ev
set_option maxRecDepth 1000000
set_option maxHeartbeats 0
namespace Go.Ev
noncomputable section
def L10ax : List Ent := [
 N 16 0 xag 17 xdf x9d 18 xdz,
 N 16 0 xag 17 xdt x9k 17 [],
 N 16 0 xah 17 xdf x9d 18 xdz,
 N 16 0 xah 17 xdt x9k 17 [],
 N 16 0 xaj 17 xdf x9d 18 xdz]
theorem L10ax_t : entsB (envT EB (mkT A10)) L10ax = true := by decide +kernel
theorem L10ax_ok : AllOK L10ax := entsB_ok (like_of okA10) L10ax_t
end
end Go.Ev
set_option maxRecDepth 1000000
set_option maxHeartbeats 0
namespace Go.Ev
noncomputable section
def L10bd : List Ent := [
 N 16 0 xb0 17 xdf x9d 18 xdz,
 N 16 0 xb0 17 xdt x9k 17 [],
 N 16 0 xb1 17 xdf x9d 18 xdz,
 N 16 0 xb1 17 xdt x9k 17 [],
 N 16 0 xb2 17 xdf x9d 18 xdz]
theorem L10bd_t : entsB (envT EB (mkT A10)) L10bd = true := by decide +kernel
theorem L10bd_ok : AllOK L10bd := entsB_ok (like_of okA10) L10bd_t
end
end Go.Ev
set_option maxRecDepth 1000000
set_option maxHeartbeats 0
namespace Go.Ev
noncomputable section
def L10bj : List Ent := [
 N 16 0 xbf 17 xdf x9d 18 xdz,
 N 16 0 xbf 17 xdt x9k 17 [],
 N 16 0 xbg 17 xdf x9d 18 xdz,
 N 16 0 xbg 17 xdt x9k 17 [],
 N 16 0 xbh 17 xdf x9d 18 xdz]
theorem L10bj_t : entsB (envT EB (mkT A10)) L10bj = true := by decide +kernel
theorem L10bj_ok : AllOK L10bj := entsB_ok (like_of okA10) L10bj_t
end
end Go.Ev
set_option maxRecDepth 1000000
set_option maxHeartbeats 0
namespace Go.Ev
noncomputable section
def L10bp : List Ent := [
 N 16 0 [x2,x9] 17 xfs x9k 17 [],
 N 16 0 [x2,xl] 17 xfg x9d 18 xfy,
 N 16 0 [x2,xl] 17 xfs x9k 17 [],
 N 16 0 xae 17 xfg x9d 18 xfy,
 N 16 0 xae 17 xfs x9k 17 []]
theorem L10bp_t : entsB (envT EB (mkT A10)) L10bp = true := by decide +kernel
theorem L10bp_ok : AllOK L10bp := entsB_ok (like_of okA10) L10bp_t
end
end Go.Ev
set_option maxRecDepth 1000000
set_option maxHeartbeats 0
namespace Go.Ev
noncomputable section
def L10bv : List Ent := [
 N 16 0 xat 17 xfg x9d 18 xfy,
 N 16 0 xat 17 xfs x9k 17 [],
 N 16 0 xau 17 xfg x9d 18 xfy,
 N 16 0 xau 17 xfs x9k 17 []]
theorem L10bv_t : entsB (envT EB (mkT A10)) L10bv = true := by decide +kernel
theorem L10bv_ok : AllOK L10bv := entsB_ok (like_of okA10) L10bv_t
end
end Go.Ev
set_option maxRecDepth 1000000
set_option maxHeartbeats 0
namespace Go.Ev
noncomputable section
def L10cb : List Ent := [
 N 16 0 xb5 17 xfg x9d 18 xfy,
 N 16 0 xb5 17 xfs x9k 17 [],
 N 16 0 xb6 17 xfg x9d 18 xfy,
 N 16 0 xb6 17 xfs x9k 17 []]
theorem L10cb_t : entsB (envT EB (mkT A10)) L10cb = true := by decide +kernel
theorem L10cb_ok : AllOK L10cb := entsB_ok (like_of okA10) L10cb_t
end
end Go.Ev
set_option maxRecDepth 1000000
set_option maxHeartbeats 0
namespace Go.Ev
noncomputable section
def L10ch : List Ent := [
 N 16 0 xbh 17 xfg x9d 18 xfy,
 N 16 0 xbh 17 xfs x9k 17 [],
 N 16 0 xbi 17 xfg x9d 18 xfy,
 N 16 0 xbi 17 xfs x9k 17 []]
theorem L10ch_t : entsB (envT EB (mkT A10)) L10ch = true := by decide +kernel
theorem L10ch_ok : AllOK L10ch := entsB_ok (like_of okA10) L10ch_t
end
end Go.Ev
