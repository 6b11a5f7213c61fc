/- Calls that are proved, rank 10. -/
import Derived.Test.YtpamikcnbnkgkaaGreatDoorB22
set_option linter.all false
set_option maxRecDepth 1000000
set_option maxHeartbeats 0
namespace Go.Ev
noncomputable section
def L10ab : List Ent := [
 N 16 0 [x2,xk] 17 x9y x9k 17 [],
 N 16 0 [x2,x9] 17 x9c x9d 18 xad,
 N 16 0 [x2,x9] 17 x9y x9k 17 [],
 N 16 0 [x2,xl] 17 x9c x9d 18 xad,
 N 16 0 [x2,xl] 17 x9y x9k 17 []]
theorem L10ab_t : entsB (envT EB (mkT A10)) L10ab = true := by decide +kernel
theorem L10ab_ok : AllOK L10ab := entsB_ok (like_of okA10) L10ab_t
end
end Go.Ev
set_option maxRecDepth 1000000
set_option maxHeartbeats 0
namespace Go.Ev
noncomputable section
def L10ah : List Ent := [
 N 16 0 xau 17 x9y x9k 17 [],
 N 16 0 xav 17 x9c x9d 18 xad,
 N 16 0 xav 17 x9y x9k 17 [],
 N 16 0 xaw 17 x9c x9d 18 xad,
 N 16 0 xaw 17 x9y x9k 17 []]
theorem L10ah_t : entsB (envT EB (mkT A10)) L10ah = true := by decide +kernel
theorem L10ah_ok : AllOK L10ah := entsB_ok (like_of okA10) L10ah_t
end
end Go.Ev
set_option maxRecDepth 1000000
set_option maxHeartbeats 0
namespace Go.Ev
noncomputable section
def L10an : List Ent := [
 N 16 0 xb9 17 x9y x9k 17 [],
 N 16 0 xba 17 x9c x9d 18 xad,
 N 16 0 xba 17 x9y x9k 17 [],
 N 16 0 xbb 17 x9c x9d 18 xad,
 N 16 0 xbb 17 x9y x9k 17 []]
theorem L10an_t : entsB (envT EB (mkT A10)) L10an = true := by decide +kernel
theorem L10an_ok : AllOK L10an := entsB_ok (like_of okA10) L10an_t
end
end Go.Ev
set_option maxRecDepth 1000000
set_option maxHeartbeats 0
namespace Go.Ev
noncomputable section
def L10at : List Ent := [
 N 16 0 xbo 17 x9y x9k 17 [],
 N 16 0 xbp 17 x9c x9d 18 xad,
 N 16 0 xbp 17 x9y x9k 17 [],
 N 16 0 xbq 17 x9c x9d 18 xad,
 N 16 0 xbq 17 x9y x9k 17 []]
theorem L10at_t : entsB (envT EB (mkT A10)) L10at = true := by decide +kernel
theorem L10at_ok : AllOK L10at := entsB_ok (like_of okA10) L10at_t
end
end Go.Ev
set_option maxRecDepth 1000000
set_option maxHeartbeats 0
namespace Go.Ev
noncomputable section
def L10az : List Ent := [
 N 16 0 xap 17 xdf x9d 18 xdz,
 N 16 0 xap 17 xdt x9k 17 [],
 N 16 0 xar 17 xdf x9d 18 xdz,
 N 16 0 xar 17 xdt x9k 17 [],
 N 16 0 xas 17 xdf x9d 18 xdz]
theorem L10az_t : entsB (envT EB (mkT A10)) L10az = true := by decide +kernel
theorem L10az_ok : AllOK L10az := entsB_ok (like_of okA10) L10az_t
end
end Go.Ev
set_option maxRecDepth 1000000
set_option maxHeartbeats 0
namespace Go.Ev
noncomputable section
def L10bf : List Ent := [
 N 16 0 xb5 17 xdf x9d 18 xdz,
 N 16 0 xb5 17 xdt x9k 17 [],
 N 16 0 xb6 17 xdf x9d 18 xdz,
 N 16 0 xb6 17 xdt x9k 17 [],
 N 16 0 xb7 17 xdf x9d 18 xdz]
theorem L10bf_t : entsB (envT EB (mkT A10)) L10bf = true := by decide +kernel
theorem L10bf_ok : AllOK L10bf := entsB_ok (like_of okA10) L10bf_t
end
end Go.Ev
set_option maxRecDepth 1000000
set_option maxHeartbeats 0
namespace Go.Ev
noncomputable section
def L10bl : List Ent := [
 N 16 0 xbk 17 xdf x9d 18 xdz,
 N 16 0 xbk 17 xdt x9k 17 [],
 N 16 0 xbl 17 xdf x9d 18 xdz,
 N 16 0 xbl 17 xdt x9k 17 [],
 N 16 0 xbm 17 xdf x9d 18 xdz]
theorem L10bl_t : entsB (envT EB (mkT A10)) L10bl = true := by decide +kernel
theorem L10bl_ok : AllOK L10bl := entsB_ok (like_of okA10) L10bl_t
end
end Go.Ev
set_option maxRecDepth 1000000
set_option maxHeartbeats 0
namespace Go.Ev
noncomputable section
def L10br : List Ent := [
 N 16 0 xag 17 xfg x9d 18 xfy,
 N 16 0 xag 17 xfs x9k 17 [],
 N 16 0 xah 17 xfg x9d 18 xfy,
 N 16 0 xah 17 xfs x9k 17 []]
theorem L10br_t : entsB (envT EB (mkT A10)) L10br = true := by decide +kernel
theorem L10br_ok : AllOK L10br := entsB_ok (like_of okA10) L10br_t
end
end Go.Ev
set_option maxRecDepth 1000000
set_option maxHeartbeats 0
namespace Go.Ev
noncomputable section
def L10bx : List Ent := [
 N 16 0 xax 17 xfg x9d 18 xfy,
 N 16 0 xax 17 xfs x9k 17 [],
 N 16 0 xay 17 xfg x9d 18 xfy,
 N 16 0 xay 17 xfs x9k 17 []]
theorem L10bx_t : entsB (envT EB (mkT A10)) L10bx = true := by decide +kernel
theorem L10bx_ok : AllOK L10bx := entsB_ok (like_of okA10) L10bx_t
end
end Go.Ev
set_option maxRecDepth 1000000
set_option maxHeartbeats 0
namespace Go.Ev
noncomputable section
def L10cd : List Ent := [
 N 16 0 xb9 17 xfg x9d 18 xfy,
 N 16 0 xb9 17 xfs x9k 17 [],
 N 16 0 xba 17 xfg x9d 18 xfy,
 N 16 0 xba 17 xfs x9k 17 []]
theorem L10cd_t : entsB (envT EB (mkT A10)) L10cd = true := by decide +kernel
theorem L10cd_ok : AllOK L10cd := entsB_ok (like_of okA10) L10cd_t
end
end Go.Ev
set_option maxRecDepth 1000000
set_option maxHeartbeats 0
namespace Go.Ev
noncomputable section
def L10cj : List Ent := [
 N 16 0 xbl 17 xfg x9d 18 xfy,
 N 16 0 xbl 17 xfs x9k 17 [],
 N 16 0 xbm 17 xfg x9d 18 xfy,
 N 16 0 xbm 17 xfs x9k 17 []]
theorem L10cj_t : entsB (envT EB (mkT A10)) L10cj = true := by decide +kernel
theorem L10cj_ok : AllOK L10cj := entsB_ok (like_of okA10) L10cj_t
end
end Go.Ev
