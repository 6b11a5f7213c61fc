/- Calls that are proved, rank 9. -/
import Derived.Test.YtpamikcnbnkgkaaGreatDoorB17
set_option linter.all false
set_option maxRecDepth 1000000
set_option maxHeartbeats 0
namespace Go.Ev
noncomputable section
def L9ab : List Ent := [
 N 8 0 x3u 22 [(13,C 49 [x0,K 14 0 6 6]),(14,C 46 [xl,x0,x1,x1,x0,x0,x1,Z,Z,xf,x1f,x0,x1,x1,x1,x0,x0,x1,x1,xc,x0,xf,x1,x0,x0,x1,Z,x2t,x1,Z,x0,x1,x1,x1,x0,x0,x1,x1,xc,x0,xf,x1,x0,x0,x1,Z,K 17 0 5 5,x1,Z,x0,x1,x1,x1,x0,x0,x1,x1,xc,x0,xf,x1,x0,x0,x1,Z,x1h,x1,Z,x0,x1,x1,x1,x0,x0,x1,x1,xk,xu,x1,xx,x0,x0,x1,Z,Z,x1,Z,x0,x1,x1,x1,x0,x0,x1,x1,xk,xs,x1,xi,x0,x0,x1,Z,Z,x1,Z,x0,x1,x1,x1,x0,x0,x1,x1]),(18,xw),(17,xv),(16,xt),(15,xo),(12,C 87 [Z,P 19 0,x3,x0,xc,x0,N0,x5]),(19,C 176 ([P 20 0,x3,xl]++xa++xb)),(20,C 75 [K 21 0 40 40,Z,x5,x0]),(21,C 188 (Q 2560 x6))] x3v 24 [(12,C 87 [S 23 0 1 2,P 19 0,x3,xc,x9,x0,N0,x5]),(19,C 176 ([P 20 0,x3,xl,xc,x9]++x3w++x3x)),(21,x4i),(22,C 24 [x0]),(23,x45)]]
theorem L9ab_t : entsB (envT EB (mkT A9)) L9ab = true := by decide +kernel
theorem L9ab_ok : AllOK L9ab := entsB_ok (like_of okA9) L9ab_t
end
end Go.Ev
set_option maxRecDepth 1000000
set_option maxHeartbeats 0
namespace Go.Ev
noncomputable section
def L9af : List Ent := [
 N 8 0 x3u 19 [(13,C 49 [xl,x4c]),(14,C 46 x6v),(12,C 87 [S 15 0 5 2,x22,x3,xl,x9,x0,N0,x5]),(16,C 176 ([x23,x3,xl,xc,x3,xm,xl]++x62++x63)),(17,C 75 [K 18 0 40 40,Z,x5,x0]),(18,C 188 (x4g++x3y++x4h++x3z++x40++x41++x54++x55++x56++x41++x5j++x55++x5k++x41++x64++x65++x66++x55++x67++x41++x6o++x55++x6p++x41++x6q++(Q 1728 x6))),(15,x6s)] x53 21 [(12,C 87 [S 20 0 6 2,x22,x3,I 6,x9,x0,N0,x5]),(16,C 176 ([x23,x3,xl,xc,x3,xm,I 7]++x62++x63)),(18,C 188 (x4g++x3y++x4h++x3z++x40++x41++x54++x55++x56++x41++x5j++x55++x5k++x41++x64++x65++x66++x55++x67++x41++x6o++x55++x6p++x41++x74++x55++x75++x41++x76++(Q 1600 x6))),(19,C 24 [x0]),(20,x78),(15,.gone)]]
theorem L9af_t : entsB (envT EB (mkT A9)) L9af = true := by decide +kernel
theorem L9af_ok : AllOK L9af := entsB_ok (like_of okA9) L9af_t
end
end Go.Ev
set_option maxRecDepth 1000000
set_option maxHeartbeats 0
namespace Go.Ev
noncomputable section
def L9aj : List Ent := [
 N 8 0 x3u 19 [(13,C 49 [I 9,x4c]),(14,C 46 x8w),(12,C 87 [S 15 0 9 2,x22,x3,I 9,x9,x0,N0,x5]),(16,C 176 ([x23,x3,xl,xc,x3,xm,I 7,xk,I 7]++x7l++x7m)),(17,C 75 [K 18 0 40 40,Z,x5,x0]),(18,x8r),(15,x8t)] (.t [Z,I 132]) 19 []]
theorem L9aj_t : entsB (envT EB (mkT A9)) L9aj = true := by decide +kernel
theorem L9aj_ok : AllOK L9aj := entsB_ok (like_of okA9) L9aj_t
end
end Go.Ev
set_option maxRecDepth 1000000
set_option maxHeartbeats 0
namespace Go.Ev
noncomputable section
def L9an : List Ent := [
 N 8 0 x3u 19 [(13,C 49 [xk,x4c]),(14,C 46 x5t),(12,C 87 [S 15 0 3 2,x22,x3,xk,x9,x0,N0,x5]),(16,C 176 ([x23,x3,I 6,xc,x3]++x3w++x3x)),(17,C 75 [K 18 0 48 48,Z,x5,x0]),(18,C 188 (xbs++x3y++xbt++x3z++x40++x41++x54++x55++x56++x41++x5j++x55++x5k++x41++x5l++(Q 2560 x6))),(15,x5n)] x53 21 [(12,C 87 [S 20 0 4 2,x22,x3,x9,x9,x0,N0,x5]),(16,C 176 ([x23,x3,I 6,xc,x3,xm,xk]++x62++x63)),(18,C 188 (xbs++x3y++xbt++x3z++x40++x41++x54++x55++x56++x41++x5j++x55++x5k++x41++xbv++x65++xbw++x55++x67++x41++x68++(Q 2368 x6))),(19,C 24 [x0]),(20,x6a),(15,.gone)]]
theorem L9an_t : entsB (envT EB (mkT A9)) L9an = true := by decide +kernel
theorem L9an_ok : AllOK L9an := entsB_ok (like_of okA9) L9an_t
end
end Go.Ev
set_option maxRecDepth 1000000
set_option maxHeartbeats 0
namespace Go.Ev
noncomputable section
def L9ar : List Ent := [
 N 8 0 x3u 19 [(13,C 49 [I 7,x4c]),(14,C 46 x7x),(12,C 87 [S 15 0 7 2,x22,x3,I 7,x9,x0,N0,x5]),(16,C 176 ([x23,x3,I 6,xc,x3,xm,I 7,xk,xk]++x7l++x7m)),(17,C 75 [K 18 0 48 48,Z,x5,x0]),(18,C 188 (xbs++x3y++xbt++x3z++x40++x41++x54++x55++x56++x41++x5j++x55++x5k++x41++xbv++x65++xbw++x55++x67++x41++x6o++x55++x6p++x41++x74++x55++x75++x41++x76++x7n++xbx++x7p++xby++x55++x7r++x41++x7s++(Q 1856 x6))),(15,x7u)] x53 21 [(12,C 87 [S 20 0 8 2,x22,x3,x3,x9,x0,N0,x5]),(16,C 176 ([x23,x3,I 6,xc,x3,xm,I 7,xk,xl]++x7l++x7m)),(18,C 188 (xbs++x3y++xbt++x3z++x40++x41++x54++x55++x56++x41++x5j++x55++x5k++x41++xbv++x65++xbw++x55++x67++x41++x6o++x55++x6p++x41++x74++x55++x75++x41++x76++x7n++xbx++x7p++xby++x55++x7r++x41++x87++x55++x88++x41++x89++(Q 1728 x6))),(19,C 24 [x0]),(20,x8b),(15,.gone)]]
theorem L9ar_t : entsB (envT EB (mkT A9)) L9ar = true := by decide +kernel
theorem L9ar_ok : AllOK L9ar := entsB_ok (like_of okA9) L9ar_t
end
end Go.Ev
set_option maxRecDepth 1000000
set_option maxHeartbeats 0
namespace Go.Ev
noncomputable section
def L9av : List Ent := [
 N 8 0 x3u 19 [(13,C 49 [xai,x4c]),(14,C 46 xcm),(12,C 87 [S 15 0 11 2,x22,x3,xai,x9,x0,N0,x5]),(16,C 176 ([x23,x3,I 6,xc,x3,xm,I 7,xk,I 7,x9,xl]++x9l++x9m)),(17,C 75 [K 18 0 48 48,Z,x5,x0]),(18,C 188 (xbs++x3y++xbt++x3z++x40++x41++x54++x55++x56++x41++x5j++x55++x5k++x41++xbv++x65++xbw++x55++x67++x41++x6o++x55++x6p++x41++x74++x55++x75++x41++x76++x7n++xbx++x7p++xby++x55++x7r++x41++x87++x55++x88++x41++x8o++x55++x8p++x41++x8q++x7n++xbz++x9o++xc0++x55++xc1++x41++xcg++x55++xch++x41++(B [224,128,183,201])++(Q 1216 x6))),(15,xcj)] x53 21 [(12,C 87 [S 20 0 12 2,x22,x3,xak,x9,x0,N0,x5]),(16,C 176 ([x23,x3,I 6,xc,x3,xm,I 7,xk,I 7,x9,I 7]++x9l++x9m)),(18,xcz),(19,C 24 [x0]),(20,xd1),(15,.gone)]]
theorem L9av_t : entsB (envT EB (mkT A9)) L9av = true := by decide +kernel
theorem L9av_ok : AllOK L9av := entsB_ok (like_of okA9) L9av_t
end
end Go.Ev
set_option maxRecDepth 1000000
set_option maxHeartbeats 0
namespace Go.Ev
noncomputable section
def L9az : List Ent := [
 N 8 0 x3u 19 [(13,C 49 [xc,x4c]),(14,C 46 x4k),(12,x4j),(16,C 176 ([x23,x3,I 7,xc,x9]++x3w++x3x)),(17,C 75 [K 18 0 56 56,Z,x5,x0]),(18,xe3),(15,x45)] x53 21 [(12,C 87 [S 20 0 2 2,x22,x3,xm,x9,x0,N0,x5]),(16,C 176 ([x23,x3,I 7,xc,I 6]++x3w++x3x)),(18,C 188 (xe1++x3y++xe2++x3z++x40++x41++x54++x55++x56++x41++x57++(Q 3200 x6))),(19,C 24 [x0]),(20,x59),(15,.gone)],
 N 8 0 x3u 19 [(13,C 49 [xm,x4c]),(14,C 46 x5b),(12,C 87 [S 15 0 2 2,x22,x3,xm,x9,x0,N0,x5]),(16,C 176 ([x23,x3,I 7,xc,I 6]++x3w++x3x)),(17,C 75 [K 18 0 56 56,Z,x5,x0]),(18,C 188 (xe1++x3y++xe2++x3z++x40++x41++x54++x55++x56++x41++x57++(Q 3200 x6))),(15,x59)] x53 21 [(12,C 87 [S 20 0 3 2,x22,x3,xk,x9,x0,N0,x5]),(16,C 176 ([x23,x3,I 7,xc,x3]++x3w++x3x)),(18,C 188 (xe1++x3y++xe2++x3z++x40++x41++x54++x55++x56++x41++x5j++x55++x5k++x41++x5l++(Q 3072 x6))),(19,C 24 [x0]),(20,x5n),(15,.gone)]]
theorem L9az_t : entsB (envT EB (mkT A9)) L9az = true := by decide +kernel
theorem L9az_ok : AllOK L9az := entsB_ok (like_of okA9) L9az_t
end
end Go.Ev
set_option maxRecDepth 1000000
set_option maxHeartbeats 0
namespace Go.Ev
noncomputable section
def L9bd : List Ent := [
 N 8 0 x3u 19 [(13,C 49 [I 6,x4c]),(14,C 46 x7b),(12,C 87 [S 15 0 6 2,x22,x3,I 6,x9,x0,N0,x5]),(16,C 176 ([x23,x3,I 7,xc,x3,xm,I 7]++x62++x63)),(17,C 75 [K 18 0 56 56,Z,x5,x0]),(18,C 188 (xe1++x3y++xe2++x3z++x40++x41++x54++x55++x56++x41++x5j++x55++x5k++x41++xe4++x65++xe5++x55++x67++x41++x6o++x55++x6p++x41++x74++x55++x75++x41++x76++(Q 2624 x6))),(15,x78)] x53 21 [(12,C 87 [S 20 0 7 2,x22,x3,I 7,x9,x0,N0,x5]),(16,C 176 ([x23,x3,I 7,xc,x3,xm,I 7,xk,xk]++x7l++x7m)),(18,C 188 (xe1++x3y++xe2++x3z++x40++x41++x54++x55++x56++x41++x5j++x55++x5k++x41++xe4++x65++xe5++x55++x67++x41++x6o++x55++x6p++x41++x74++x55++x75++x41++x76++x7n++xe6++x7p++xe7++x55++x7r++x41++x7s++(Q 2368 x6))),(19,C 24 [x0]),(20,x7u),(15,.gone)]]
theorem L9bd_t : entsB (envT EB (mkT A9)) L9bd = true := by decide +kernel
theorem L9bd_ok : AllOK L9bd := entsB_ok (like_of okA9) L9bd_t
end
end Go.Ev
set_option maxRecDepth 1000000
set_option maxHeartbeats 0
namespace Go.Ev
noncomputable section
def L9bh : List Ent := [
 N 8 0 x3u 19 [(13,C 49 [x93,x4c]),(14,C 46 xc6),(12,C 87 [S 15 0 10 2,x22,x3,x93,x9,x0,N0,x5]),(16,C 176 ([x23,x3,I 7,xc,x3,xm,I 7,xk,I 7,x9,xk]++x9l++x9m)),(17,C 75 [K 18 0 56 56,Z,x5,x0]),(18,C 188 (xe1++x3y++xe2++x3z++x40++x41++x54++x55++x56++x41++x5j++x55++x5k++x41++xe4++x65++xe5++x55++x67++x41++x6o++x55++x6p++x41++x74++x55++x75++x41++x76++x7n++xe6++x7p++xe7++x55++x7r++x41++x87++x55++x88++x41++x8o++x55++x8p++x41++x8q++x7n++xe8++x9o++xe9++x55++xc1++x41++(B [179,126,90,145])++(Q 1856 x6))),(15,xc3)] x53 21 [(12,C 87 [S 20 0 11 2,x22,x3,xai,x9,x0,N0,x5]),(16,C 176 ([x23,x3,I 7,xc,x3,xm,I 7,xk,I 7,x9,xl]++x9l++x9m)),(18,C 188 (xe1++x3y++xe2++x3z++x40++x41++x54++x55++x56++x41++x5j++x55++x5k++x41++xe4++x65++xe5++x55++x67++x41++x6o++x55++x6p++x41++x74++x55++x75++x41++x76++x7n++xe6++x7p++xe7++x55++x7r++x41++x87++x55++x88++x41++x8o++x55++x8p++x41++x8q++x7n++xe8++x9o++xe9++x55++xc1++x41++xcg++x55++xch++x41++(B [224,128,183,201])++(Q 1728 x6))),(19,C 24 [x0]),(20,xcj),(15,.gone)]]
theorem L9bh_t : entsB (envT EB (mkT A9)) L9bh = true := by decide +kernel
theorem L9bh_ok : AllOK L9bh := entsB_ok (like_of okA9) L9bh_t
end
end Go.Ev
set_option maxRecDepth 1000000
set_option maxHeartbeats 0
namespace Go.Ev
noncomputable section
def L9bl : List Ent := [
 N 8 0 x3u 19 [(13,C 49 [xao,x4c]),(14,C 46 xev),(12,C 87 [S 15 0 14 2,x22,x3,xao,x9,x0,N0,x5]),(16,C 176 ([x23,x3,I 7,xc,x3,xm,I 7,xk,I 7,x9,I 7,xl,xl]++xdi++xdj)),(17,C 75 [K 18 0 56 56,Z,x5,x0]),(18,C 188 (xe1++x3y++xe2++x3z++x40++x41++x54++x55++x56++x41++x5j++x55++x5k++x41++xe4++x65++xe5++x55++x67++x41++x6o++x55++x6p++x41++x74++x55++x75++x41++x76++x7n++xe6++x7p++xe7++x55++x7r++x41++x87++x55++x88++x41++x8o++x55++x8p++x41++x8q++x7n++xe8++x9o++xe9++x55++xc1++x41++xcg++x55++xch++x41++xcw++x55++xcx++x41++xcy++x7n++xea++xdl++xeb++x55++xec++x41++xep++x55++xeq++x41++(B [170,71,184,90])++(Q 1216 x6))),(15,xes)] x53 21 [(12,C 87 [S 20 0 15 2,x22,x3,xaq,x9,x0,N0,x5]),(16,C 176 ([x23,x3,I 7,xc,x3,xm,I 7,xk,I 7,x9,I 7,xl,I 7]++xdi++xdj)),(18,xf5),(19,C 24 [x0]),(20,xf7),(15,.gone)]]
theorem L9bl_t : entsB (envT EB (mkT A9)) L9bl = true := by decide +kernel
theorem L9bl_ok : AllOK L9bl := entsB_ok (like_of okA9) L9bl_t
end
end Go.Ev
set_option maxRecDepth 1000000
set_option maxHeartbeats 0
namespace Go.Ev
noncomputable section
def L9bp : List Ent := [
 N 33 0 [x2,x5p] 24 [(13,D 104 [xc,x9,xk,x0,x0,x0,Z,x0,x0,x1,xf,x2j,x0,x1,x1,x1,x0,x0,x1,x1,xc,x9,xc,xm,x0,x0,x2k,x0,x0,x1,x1,Z,x0,x1,x1,x1,x0,x0,x1,x1,xc,x9,xc,xk,x0,x0,x2l,x0,x0,x1,x1,Z,x0,x1,x1,x1,x0,x0,x1,x1,xc,x9,xm,x0,x0,x0,Z,xm,x0,xi,x1,Z,x0,x1,x1,x1,x0,x0,x1,x1,xc,x9,xm,x0,x0,x0,Z,xc,x0,xx,x1,Z,x0,x1,x1,x1,x0,x0,x1,x1,I 7,xk,xc,xc,x0,x0,x47,x0,x0,x1,x1,Z,x0,x1,x1,x1,x0,x0,x1,x1,x3,xk,xc,xc,x0,x0,x51,x0,x0,x1,x1,Z,x0,x1,x1,x1,x0,x0,x1,x1,I 9,xk,xc,xc,x0,x0,x2u,x0,x0,x1,x1,Z,x0,x1,x1,x1,x0,x0,x1,x1]),(19,x8u),(18,x8c),(17,x7v),(16,x18),(15,x16),(14,x1a),(12,C 87 [S 20 0 4 2,P 21 0,x3,I 9,x9,I 9,N0,x5]),(21,C 176 ([P 22 0,x3,xl,x0,x0,x0,x0,xk,I 7,x9,x9]++x9l++x9m)),(22,C 75 [K 23 0 40 40,Z,x5,x0]),(23,x9r),(20,x9t)] (.t [xj,.ni]) 24 []]
theorem L9bp_t : entsB (envT EB (mkT A9)) L9bp = true := by decide +kernel
theorem L9bp_ok : AllOK L9bp := entsB_ok (like_of okA9) L9bp_t
end
end Go.Ev
set_option maxRecDepth 1000000
set_option maxHeartbeats 0
namespace Go.Ev
noncomputable section
def L9bt : List Ent := [
 N 33 0 [x2,x5p] 24 [(13,D 104 [xc,I 6,xk,x0,x0,x0,Z,x0,x0,x1,xf,x2j,x0,x1,x1,x1,x0,x0,x1,x1,xc,I 6,xc,xm,x0,x0,x2k,x0,x0,x1,x1,Z,x0,x1,x1,x1,x0,x0,x1,x1,xc,I 6,xc,xk,x0,x0,x2l,x0,x0,x1,x1,Z,x0,x1,x1,x1,x0,x0,x1,x1,xc,I 6,xm,x0,x0,x0,Z,xm,x0,xi,x1,Z,x0,x1,x1,x1,x0,x0,x1,x1,xc,I 6,xm,x0,x0,x0,Z,xc,x0,xx,x1,Z,x0,x1,x1,x1,x0,x0,x1,x1,xam,xl,xc,xc,x0,x0,x47,x0,x0,x1,x1,Z,x0,x1,x1,x1,x0,x0,x1,x1,xao,xl,xc,xc,x0,x0,x51,x0,x0,x1,x1,Z,x0,x1,x1,x1,x0,x0,x1,x1,xaq,xl,xc,xc,x0,x0,x2u,x0,x0,x1,x1,Z,x0,x1,x1,x1,x0,x0,x1,x1]),(19,xf8),(18,xet),(17,xef),(16,x18),(15,x16),(14,x1a),(12,C 87 [S 20 0 4 2,P 21 0,x3,xaq,x9,xaq,N0,x5]),(21,C 176 ([P 22 0,x3,I 7,x0,x0,x0,x0,x0,x0,x0,x0,xl,I 7,I 6,x9]++(Q 12 x0)++xfj)),(22,C 75 [K 23 0 56 56,Z,x5,x0]),(23,xfn),(20,xfp)] (.t [xj,.ni]) 24 []]
theorem L9bt_t : entsB (envT EB (mkT A9)) L9bt = true := by decide +kernel
theorem L9bt_ok : AllOK L9bt := entsB_ok (like_of okA9) L9bt_t
end
end Go.Ev
