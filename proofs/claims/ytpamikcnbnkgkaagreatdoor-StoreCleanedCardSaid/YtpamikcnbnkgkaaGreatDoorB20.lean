/- Calls that are proved, rank 9. -/
import Derived.Test.YtpamikcnbnkgkaaGreatDoorB17
set_option linter.all false
set_option maxRecDepth 1000000
set_option maxHeartbeats 0
namespace Go.Ev
noncomputable section
def L9ac : List Ent := [
 N 8 0 x3u 19 [(13,C 49 [xc,x4c]),(14,C 46 x4k),(12,x4j),(16,C 176 ([x23,x3,xl,xc,x9]++x3w++x3x)),(17,C 75 [K 18 0 40 40,Z,x5,x0]),(18,x4i),(15,x45)] x53 21 [(12,C 87 [S 20 0 2 2,x22,x3,xm,x9,x0,N0,x5]),(16,C 176 ([x23,x3,xl,xc,I 6]++x3w++x3x)),(18,C 188 (x4g++x3y++x4h++x3z++x40++x41++x54++x55++x56++x41++x57++(Q 2176 x6))),(19,C 24 [x0]),(20,x59),(15,.gone)],
 N 8 0 x3u 19 [(13,C 49 [xm,x4c]),(14,C 46 x5b),(12,C 87 [S 15 0 2 2,x22,x3,xm,x9,x0,N0,x5]),(16,C 176 ([x23,x3,xl,xc,I 6]++x3w++x3x)),(17,C 75 [K 18 0 40 40,Z,x5,x0]),(18,C 188 (x4g++x3y++x4h++x3z++x40++x41++x54++x55++x56++x41++x57++(Q 2176 x6))),(15,x59)] x53 21 [(12,C 87 [S 20 0 3 2,x22,x3,xk,x9,x0,N0,x5]),(16,C 176 ([x23,x3,xl,xc,x3]++x3w++x3x)),(18,C 188 (x4g++x3y++x4h++x3z++x40++x41++x54++x55++x56++x41++x5j++x55++x5k++x41++x5l++(Q 2048 x6))),(19,C 24 [x0]),(20,x5n),(15,.gone)]]
theorem L9ac_t : entsB (envT EB (mkT A9)) L9ac = true := by decide +kernel
theorem L9ac_ok : AllOK L9ac := entsB_ok (like_of okA9) L9ac_t
end
end Go.Ev
set_option maxRecDepth 1000000
set_option maxHeartbeats 0
namespace Go.Ev
noncomputable section
def L9ag : List Ent := [
 N 8 0 x3u 19 [(13,C 49 [I 6,x4c]),(14,C 46 x7b),(12,C 87 [S 15 0 6 2,x22,x3,I 6,x9,x0,N0,x5]),(16,C 176 ([x23,x3,xl,xc,x3,xm,I 7]++x62++x63)),(17,C 75 [K 18 0 40 40,Z,x5,x0]),(18,C 188 (x4g++x3y++x4h++x3z++x40++x41++x54++x55++x56++x41++x5j++x55++x5k++x41++x64++x65++x66++x55++x67++x41++x6o++x55++x6p++x41++x74++x55++x75++x41++x76++(Q 1600 x6))),(15,x78)] x53 21 [(12,C 87 [S 20 0 7 2,x22,x3,I 7,x9,x0,N0,x5]),(16,C 176 ([x23,x3,xl,xc,x3,xm,I 7,xk,xk]++x7l++x7m)),(18,C 188 (x4g++x3y++x4h++x3z++x40++x41++x54++x55++x56++x41++x5j++x55++x5k++x41++x64++x65++x66++x55++x67++x41++x6o++x55++x6p++x41++x74++x55++x75++x41++x76++x7n++x7o++x7p++x7q++x55++x7r++x41++x7s++(Q 1344 x6))),(19,C 24 [x0]),(20,x7u),(15,.gone)]]
theorem L9ag_t : entsB (envT EB (mkT A9)) L9ag = true := by decide +kernel
theorem L9ag_ok : AllOK L9ag := entsB_ok (like_of okA9) L9ag_t
end
end Go.Ev
set_option maxRecDepth 1000000
set_option maxHeartbeats 0
namespace Go.Ev
noncomputable section
def L9ak : List Ent := [
 N 8 0 x3u 19 [(13,C 49 [I 9,x4c]),(14,C 46 xa4),(12,C 87 [S 15 0 4 2,x22,x3,I 9,x9,I 9,N0,x5]),(16,C 176 ([x23,x3,xl,x0,x0,x0,x0,xk,I 7,x9,x9]++x9l++x9m)),(17,C 75 [K 18 0 40 40,Z,x5,x0]),(18,x9r),(15,x9t)] x53 21 [(12,C 87 [S 20 0 5 2,x22,x3,x93,x9,I 9,N0,x5]),(16,C 176 ([x23,x3,xl,x0,x0,x0,x0,xk,I 7,x9,I 6]++x9l++x9m)),(18,C 188 (x4g++x3y++x4h++x3z++x40++x41++x54++x55++x56++x41++x5j++x55++x5k++x41++x64++x65++x66++x55++x67++x41++x6o++x55++x6p++x41++x74++x55++x75++x41++x76++x7n++x7o++x7p++x7q++x55++x7r++x41++x87++x55++x88++x41++x8o++x55++x8p++x41++x8q++x7n++x9n++x9o++x9p++(Q 22 x6)++x9q++x41++(B [171,212,136,245,0,0,4,4,3,21,0,2,20,8,2,2,2,0,0,10,2,198,1,6,4,8,6,10,0,4,2,120])++(Q 32 x6)++(B [91,211,157,139,0,0,4,5,4])++x41++(B [248,42,101,173])++(Q 640 x6))),(19,C 24 [x0]),(20,D 221 [xk,x7t,xk,x8a,xk,x8s,x9,x9s,x9,.s [2,20,8,2,2,2,0,0,10,2,198,1,6,4,8,6,10,0,4,2,120]]),(15,.gone)]]
theorem L9ak_t : entsB (envT EB (mkT A9)) L9ak = true := by decide +kernel
theorem L9ak_ok : AllOK L9ak := entsB_ok (like_of okA9) L9ak_t
end
end Go.Ev
set_option maxRecDepth 1000000
set_option maxHeartbeats 0
namespace Go.Ev
noncomputable section
def L9ao : List Ent := [
 N 8 0 x3u 19 [(13,C 49 [x9,x4c]),(14,C 46 x6e),(12,C 87 [S 15 0 4 2,x22,x3,x9,x9,x0,N0,x5]),(16,C 176 ([x23,x3,I 6,xc,x3,xm,xk]++x62++x63)),(17,C 75 [K 18 0 48 48,Z,x5,x0]),(18,C 188 (xbs++x3y++xbt++x3z++x40++x41++x54++x55++x56++x41++x5j++x55++x5k++x41++xbv++x65++xbw++x55++x67++x41++x68++(Q 2368 x6))),(15,x6a)] x53 21 [(12,C 87 [S 20 0 5 2,x22,x3,xl,x9,x0,N0,x5]),(16,C 176 ([x23,x3,I 6,xc,x3,xm,xl]++x62++x63)),(18,C 188 (xbs++x3y++xbt++x3z++x40++x41++x54++x55++x56++x41++x5j++x55++x5k++x41++xbv++x65++xbw++x55++x67++x41++x6o++x55++x6p++x41++x6q++(Q 2240 x6))),(19,C 24 [x0]),(20,x6s),(15,.gone)]]
theorem L9ao_t : entsB (envT EB (mkT A9)) L9ao = true := by decide +kernel
theorem L9ao_ok : AllOK L9ao := entsB_ok (like_of okA9) L9ao_t
end
end Go.Ev
set_option maxRecDepth 1000000
set_option maxHeartbeats 0
namespace Go.Ev
noncomputable section
def L9as : List Ent := [
 N 8 0 x3u 19 [(13,C 49 [x3,x4c]),(14,C 46 x8e),(12,C 87 [S 15 0 8 2,x22,x3,x3,x9,x0,N0,x5]),(16,C 176 ([x23,x3,I 6,xc,x3,xm,I 7,xk,xl]++x7l++x7m)),(17,C 75 [K 18 0 48 48,Z,x5,x0]),(18,C 188 (xbs++x3y++xbt++x3z++x40++x41++x54++x55++x56++x41++x5j++x55++x5k++x41++xbv++x65++xbw++x55++x67++x41++x6o++x55++x6p++x41++x74++x55++x75++x41++x76++x7n++xbx++x7p++xby++x55++x7r++x41++x87++x55++x88++x41++x89++(Q 1728 x6))),(15,x8b)] x53 21 [(12,C 87 [S 20 0 9 2,x22,x3,I 9,x9,x0,N0,x5]),(16,C 176 ([x23,x3,I 6,xc,x3,xm,I 7,xk,I 7]++x7l++x7m)),(18,C 188 (xbs++x3y++xbt++x3z++x40++x41++x54++x55++x56++x41++x5j++x55++x5k++x41++xbv++x65++xbw++x55++x67++x41++x6o++x55++x6p++x41++x74++x55++x75++x41++x76++x7n++xbx++x7p++xby++x55++x7r++x41++x87++x55++x88++x41++x8o++x55++x8p++x41++x8q++(Q 1600 x6))),(19,C 24 [x0]),(20,x8t),(15,.gone)]]
theorem L9as_t : entsB (envT EB (mkT A9)) L9as = true := by decide +kernel
theorem L9as_ok : AllOK L9as := entsB_ok (like_of okA9) L9as_t
end
end Go.Ev
set_option maxRecDepth 1000000
set_option maxHeartbeats 0
namespace Go.Ev
noncomputable section
def L9aw : List Ent := [
 N 8 0 x3u 19 [(13,C 49 [xak,x4c]),(14,C 46 xd4),(12,C 87 [S 15 0 12 2,x22,x3,xak,x9,x0,N0,x5]),(16,C 176 ([x23,x3,I 6,xc,x3,xm,I 7,xk,I 7,x9,I 7]++x9l++x9m)),(17,C 75 [K 18 0 48 48,Z,x5,x0]),(18,xcz),(15,xd1)] (.t [Z,I 132]) 19 []]
theorem L9aw_t : entsB (envT EB (mkT A9)) L9aw = true := by decide +kernel
theorem L9aw_ok : AllOK L9aw := entsB_ok (like_of okA9) L9aw_t
end
end Go.Ev
set_option maxRecDepth 1000000
set_option maxHeartbeats 0
namespace Go.Ev
noncomputable section
def L9ba : List Ent := [
 N 8 0 x3u 19 [(13,C 49 [xk,x4c]),(14,C 46 x5t),(12,C 87 [S 15 0 3 2,x22,x3,xk,x9,x0,N0,x5]),(16,C 176 ([x23,x3,I 7,xc,x3]++x3w++x3x)),(17,C 75 [K 18 0 56 56,Z,x5,x0]),(18,C 188 (xe1++x3y++xe2++x3z++x40++x41++x54++x55++x56++x41++x5j++x55++x5k++x41++x5l++(Q 3072 x6))),(15,x5n)] x53 21 [(12,C 87 [S 20 0 4 2,x22,x3,x9,x9,x0,N0,x5]),(16,C 176 ([x23,x3,I 7,xc,x3,xm,xk]++x62++x63)),(18,C 188 (xe1++x3y++xe2++x3z++x40++x41++x54++x55++x56++x41++x5j++x55++x5k++x41++xe4++x65++xe5++x55++x67++x41++x68++(Q 2880 x6))),(19,C 24 [x0]),(20,x6a),(15,.gone)]]
theorem L9ba_t : entsB (envT EB (mkT A9)) L9ba = true := by decide +kernel
theorem L9ba_ok : AllOK L9ba := entsB_ok (like_of okA9) L9ba_t
end
end Go.Ev
set_option maxRecDepth 1000000
set_option maxHeartbeats 0
namespace Go.Ev
noncomputable section
def L9be : List Ent := [
 N 8 0 x3u 19 [(13,C 49 [I 7,x4c]),(14,C 46 x7x),(12,C 87 [S 15 0 7 2,x22,x3,I 7,x9,x0,N0,x5]),(16,C 176 ([x23,x3,I 7,xc,x3,xm,I 7,xk,xk]++x7l++x7m)),(17,C 75 [K 18 0 56 56,Z,x5,x0]),(18,C 188 (xe1++x3y++xe2++x3z++x40++x41++x54++x55++x56++x41++x5j++x55++x5k++x41++xe4++x65++xe5++x55++x67++x41++x6o++x55++x6p++x41++x74++x55++x75++x41++x76++x7n++xe6++x7p++xe7++x55++x7r++x41++x7s++(Q 2368 x6))),(15,x7u)] x53 21 [(12,C 87 [S 20 0 8 2,x22,x3,x3,x9,x0,N0,x5]),(16,C 176 ([x23,x3,I 7,xc,x3,xm,I 7,xk,xl]++x7l++x7m)),(18,C 188 (xe1++x3y++xe2++x3z++x40++x41++x54++x55++x56++x41++x5j++x55++x5k++x41++xe4++x65++xe5++x55++x67++x41++x6o++x55++x6p++x41++x74++x55++x75++x41++x76++x7n++xe6++x7p++xe7++x55++x7r++x41++x87++x55++x88++x41++x89++(Q 2240 x6))),(19,C 24 [x0]),(20,x8b),(15,.gone)]]
theorem L9be_t : entsB (envT EB (mkT A9)) L9be = true := by decide +kernel
theorem L9be_ok : AllOK L9be := entsB_ok (like_of okA9) L9be_t
end
end Go.Ev
set_option maxRecDepth 1000000
set_option maxHeartbeats 0
namespace Go.Ev
noncomputable section
def L9bi : List Ent := [
 N 8 0 x3u 19 [(13,C 49 [xai,x4c]),(14,C 46 xcm),(12,C 87 [S 15 0 11 2,x22,x3,xai,x9,x0,N0,x5]),(16,C 176 ([x23,x3,I 7,xc,x3,xm,I 7,xk,I 7,x9,xl]++x9l++x9m)),(17,C 75 [K 18 0 56 56,Z,x5,x0]),(18,C 188 (xe1++x3y++xe2++x3z++x40++x41++x54++x55++x56++x41++x5j++x55++x5k++x41++xe4++x65++xe5++x55++x67++x41++x6o++x55++x6p++x41++x74++x55++x75++x41++x76++x7n++xe6++x7p++xe7++x55++x7r++x41++x87++x55++x88++x41++x8o++x55++x8p++x41++x8q++x7n++xe8++x9o++xe9++x55++xc1++x41++xcg++x55++xch++x41++(B [224,128,183,201])++(Q 1728 x6))),(15,xcj)] x53 21 [(12,C 87 [S 20 0 12 2,x22,x3,xak,x9,x0,N0,x5]),(16,C 176 ([x23,x3,I 7,xc,x3,xm,I 7,xk,I 7,x9,I 7]++x9l++x9m)),(18,C 188 (xe1++x3y++xe2++x3z++x40++x41++x54++x55++x56++x41++x5j++x55++x5k++x41++xe4++x65++xe5++x55++x67++x41++x6o++x55++x6p++x41++x74++x55++x75++x41++x76++x7n++xe6++x7p++xe7++x55++x7r++x41++x87++x55++x88++x41++x8o++x55++x8p++x41++x8q++x7n++xe8++x9o++xe9++x55++xc1++x41++xcg++x55++xch++x41++xcw++x55++xcx++x41++xcy++(Q 1600 x6))),(19,C 24 [x0]),(20,xd1),(15,.gone)]]
theorem L9bi_t : entsB (envT EB (mkT A9)) L9bi = true := by decide +kernel
theorem L9bi_ok : AllOK L9bi := entsB_ok (like_of okA9) L9bi_t
end
end Go.Ev
set_option maxRecDepth 1000000
set_option maxHeartbeats 0
namespace Go.Ev
noncomputable section
def L9bm : List Ent := [
 N 8 0 x3u 19 [(13,C 49 [xaq,x4c]),(14,C 46 xfa),(12,C 87 [S 15 0 15 2,x22,x3,xaq,x9,x0,N0,x5]),(16,C 176 ([x23,x3,I 7,xc,x3,xm,I 7,xk,I 7,x9,I 7,xl,I 7]++xdi++xdj)),(17,C 75 [K 18 0 56 56,Z,x5,x0]),(18,xf5),(15,xf7)] (.t [Z,I 132]) 19 []]
theorem L9bm_t : entsB (envT EB (mkT A9)) L9bm = true := by decide +kernel
theorem L9bm_ok : AllOK L9bm := entsB_ok (like_of okA9) L9bm_t
end
end Go.Ev
set_option maxRecDepth 1000000
set_option maxHeartbeats 0
namespace Go.Ev
noncomputable section
def L9bq : List Ent := [
 N 33 0 [x2,S 13 0 17 20] 33 [(13,D 104 [xc,xc,xk,x0,x0,x0,Z,x0,x0,x1,xf,x2j,x0,x1,x1,x1,x0,x0,x1,x1,xc,xc,xc,xc,x0,x0,x2k,x0,x0,x1,x1,Z,x0,x1,x1,x1,x0,x0,x1,x1,xc,xc,xc,xm,x0,x0,x2l,x0,x0,x1,x1,Z,x0,x1,x1,x1,x0,x0,x1,x1,xc,xc,xc,xk,x0,x0,x47,x0,x0,x1,x1,Z,x0,x1,x1,x1,x0,x0,x1,x1,xc,xc,xm,x0,x0,x0,Z,xm,x0,xi,x1,Z,x0,x1,x1,x1,x0,x0,x1,x1,xc,xc,xm,x0,x0,x0,Z,xc,x0,xx,x1,Z,x0,x1,x1,x1,x0,x0,x1,x1,xm,xc,xc,xc,x0,x0,x51,x0,x0,x1,x1,Z,x0,x1,x1,x1,x0,x0,x1,x1,xk,xc,xc,xc,x0,x0,x2u,x0,x0,x1,x1,Z,x0,x1,x1,x1,x0,x0,x1,x1,x9,xm,xc,xc,x0,x0,x2v,x0,x0,x1,x1,Z,x0,x1,x1,x1,x0,x0,x1,x1,xl,xm,xc,xc,x0,x0,x2w,x0,x0,x1,x1,Z,x0,x1,x1,x1,x0,x0,x1,x1,I 6,xm,xc,xc,x0,x0,x2x,x0,x0,x1,x1,Z,x0,x1,x1,x1,x0,x0,x1,x1,I 7,xk,xc,xc,x0,x0,x7i,x0,x0,x1,x1,Z,x0,x1,x1,x1,x0,x0,x1,x1,x3,xk,xc,xc,x0,x0,x84,x0,x0,x1,x1,Z,x0,x1,x1,x1,x0,x0,x1,x1,I 9,xk,xc,xc,x0,x0,x8l,x0,x0,x1,x1,Z,x0,x1,x1,x1,x0,x0,x1,x1,x93,x9,xc,xc,x0,x0,x97,x0,x0,x1,x1,Z,x0,x1,x1,x1,x0,x0,x1,x1,xai,x9,xc,xc,x0,x0,xcd,x0,x0,x1,x1,Z,x0,x1,x1,x1,x0,x0,x1,x1,xak,x9,xc,xc,x0,x0,xct,x0,x0,x1,x1,Z,x0,x1,x1,x1,x0,x0,x1,x1]),(28,xd2),(27,xck),(26,xc4),(25,x8u),(24,x8c),(23,x7v),(22,x79),(21,x6t),(20,x6b),(19,x5o),(18,x14),(17,x18),(16,x16),(15,x14),(14,x1a),(12,C 87 [S 29 0 12 2,P 30 0,x3,xak,x9,x0,N0,x5]),(30,C 176 ([P 31 0,x3,I 6,xc,x3,xm,I 7,xk,I 7,x9,I 7]++x9l++x9m)),(31,C 75 [K 32 0 48 48,Z,x5,x0]),(32,xcz),(29,xd1)] (.t [x5,.ni]) 34 [(12,C 87 [S 33 0 4 2,P 30 0,x3,xak,x9,xak,N0,x5]),(30,C 176 ([P 31 0,x3,I 6,x0,x0,x0,x0,x0,x0,x9,I 7,xl,x9]++xdi++xdj)),(32,xdo),(33,xdq),(29,.gone)]]
theorem L9bq_t : entsB (envT EB (mkT A9)) L9bq = true := by decide +kernel
theorem L9bq_ok : AllOK L9bq := entsB_ok (like_of okA9) L9bq_t
end
end Go.Ev
