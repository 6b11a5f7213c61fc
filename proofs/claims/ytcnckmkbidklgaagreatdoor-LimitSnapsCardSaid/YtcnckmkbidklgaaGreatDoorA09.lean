/- The tables of this program for the abstract machine: types, functions. (Printed by gen_env.py.) -/
import Derived.Test.YtcnckmkbidklgaaGreatDoorProg
import Derived.Test.YtcnckmkbidklgaaGreatDoorA07
namespace Go.Ev
open Go.Proofs

def AllT {α : Type} (p : Nat → α → Prop) : T α → Prop
  | .leaf => True
  | .node l v r => p 0 v ∧ AllT (fun m => p (2 * m + 1)) l ∧ AllT (fun m => p (2 * m + 2)) r
theorem AllT.lf {α : Type} {p : Nat → α → Prop} : AllT p .leaf := trivial
theorem AllT.mk {α : Type} {p : Nat → α → Prop} {l r : T α} {v : α} (h : p 0 v) (hl : AllT (fun m => p (2 * m + 1)) l) (hr : AllT (fun m => p (2 * m + 2)) r) : AllT p (.node l v r) := ⟨h, hl, hr⟩
theorem AllT.get {α : Type} {d : α} : ∀ {t : T α} {p : Nat → α → Prop}, AllT p t → (∀ n, p n d) → ∀ n, p n (T.get d t n)
  | .leaf, p, _, hd, n => by rw [T.get_leaf]; exact hd n
  | .node l v r, p, h, hd, n => by
    rw [T.get_node]
    by_cases h0 : n = 0
    · rw [if_pos h0, h0]; exact h.1
    · rw [if_neg h0]
      by_cases h1 : n % 2 = 1
      · rw [if_pos h1]
        have := AllT.get (d := d) h.2.1 (fun m => hd _) ((n - 1) / 2)
        rwa [show 2 * ((n - 1) / 2) + 1 = n by omega] at this
      · rw [if_neg h1]
        have := AllT.get (d := d) h.2.2 (fun m => hd _) ((n - 1) / 2)
        rwa [show 2 * ((n - 1) / 2) + 2 = n by omega] at this

theorem info_of {P : Program} {t : TypeId} {i : TypeInfo} (h : P.types[t]? = some i) : P.info? t = some i := by
  have hlt : t < P.types.size := (Array.getElem?_eq_some_iff.1 h).1
  unfold Tables.info?
  rw [if_pos hlt]; exact h

noncomputable def d0 : TypeDesc := Tryz.t0.desc
theorem u0 : Tryz.prog.underlying 0 = some d0 := Tryz.underlying0
noncomputable def d1 : TypeDesc := Tryz.t1.desc
theorem u1 : Tryz.prog.underlying 1 = some d1 := Tryz.underlying1
noncomputable def d2 : TypeDesc := Tryz.t2.desc
theorem u2 : Tryz.prog.underlying 2 = some d2 := Tryz.underlying2
noncomputable def d3 : TypeDesc := Tryz.t3.desc
theorem u3 : Tryz.prog.underlying 3 = some d3 := Tryz.underlying3
noncomputable def d4 : TypeDesc := Tryz.t4.desc
theorem u4 : Tryz.prog.underlying 4 = some d4 := Tryz.underlying4
noncomputable def d5 : TypeDesc := Tryz.t5.desc
theorem u5 : Tryz.prog.underlying 5 = some d5 := Tryz.underlying5
noncomputable def d6 : TypeDesc := Tryz.t5.desc
theorem u6 : Tryz.prog.underlying 6 = some d6 := Tryz.underlying6
noncomputable def d7 : TypeDesc := Tryz.t7.desc
theorem u7 : Tryz.prog.underlying 7 = some d7 := Tryz.underlying7
noncomputable def d8 : TypeDesc := Tryz.t7.desc
theorem u8 : Tryz.prog.underlying 8 = some d8 := Tryz.underlying8
noncomputable def d9 : TypeDesc := Tryz.t9.desc
theorem u9 : Tryz.prog.underlying 9 = some d9 := Tryz.underlying9
noncomputable def d10 : TypeDesc := Tryz.t9.desc
theorem u10 : Tryz.prog.underlying 10 = some d10 := Tryz.underlying10
noncomputable def d11 : TypeDesc := Tryz.t9.desc
theorem u11 : Tryz.prog.underlying 11 = some d11 := Tryz.underlying11
noncomputable def d12 : TypeDesc := Tryz.t12.desc
theorem u12 : Tryz.prog.underlying 12 = some d12 := Tryz.underlying12
noncomputable def d13 : TypeDesc := Tryz.t13.desc
theorem u13 : Tryz.prog.underlying 13 = some d13 := Tryz.underlying13
noncomputable def d14 : TypeDesc := Tryz.t13.desc
theorem u14 : Tryz.prog.underlying 14 = some d14 := Tryz.underlying14
noncomputable def d15 : TypeDesc := Tryz.t15.desc
theorem u15 : Tryz.prog.underlying 15 = some d15 := Tryz.underlying15
noncomputable def d16 : TypeDesc := Tryz.t16.desc
theorem u16 : Tryz.prog.underlying 16 = some d16 := Tryz.underlying16
noncomputable def d17 : TypeDesc := Tryz.t17.desc
theorem u17 : Tryz.prog.underlying 17 = some d17 := Tryz.underlying17
noncomputable def d18 : TypeDesc := Tryz.t18.desc
theorem u18 : Tryz.prog.underlying 18 = some d18 := Tryz.underlying18
noncomputable def d19 : TypeDesc := Tryz.t18.desc
theorem u19 : Tryz.prog.underlying 19 = some d19 := Tryz.underlying19
noncomputable def d20 : TypeDesc := Tryz.t20.desc
theorem u20 : Tryz.prog.underlying 20 = some d20 := Tryz.underlying20
noncomputable def d21 : TypeDesc := Tryz.t21.desc
theorem u21 : Tryz.prog.underlying 21 = some d21 := Tryz.underlying21
noncomputable def d22 : TypeDesc := Tryz.t22.desc
theorem u22 : Tryz.prog.underlying 22 = some d22 := Tryz.underlying22
noncomputable def d23 : TypeDesc := Tryz.t23.desc
theorem u23 : Tryz.prog.underlying 23 = some d23 := Tryz.underlying23
noncomputable def d24 : TypeDesc := Tryz.t24.desc
theorem u24 : Tryz.prog.underlying 24 = some d24 := Tryz.underlying24
noncomputable def d25 : TypeDesc := Tryz.t25.desc
theorem u25 : Tryz.prog.underlying 25 = some d25 := Tryz.underlying25
noncomputable def d26 : TypeDesc := Tryz.t25.desc
theorem u26 : Tryz.prog.underlying 26 = some d26 := Tryz.underlying26
noncomputable def d27 : TypeDesc := Tryz.t27.desc
theorem u27 : Tryz.prog.underlying 27 = some d27 := Tryz.underlying27
noncomputable def d28 : TypeDesc := Tryz.t28.desc
theorem u28 : Tryz.prog.underlying 28 = some d28 := Tryz.underlying28
noncomputable def d29 : TypeDesc := Tryz.t29.desc
theorem u29 : Tryz.prog.underlying 29 = some d29 := Tryz.underlying29
noncomputable def d30 : TypeDesc := Tryz.t29.desc
theorem u30 : Tryz.prog.underlying 30 = some d30 := Tryz.underlying30
noncomputable def d31 : TypeDesc := Tryz.t31.desc
theorem u31 : Tryz.prog.underlying 31 = some d31 := Tryz.underlying31
noncomputable def d32 : TypeDesc := Tryz.t3.desc
theorem u32 : Tryz.prog.underlying 32 = some d32 := Tryz.underlying32
noncomputable def d33 : TypeDesc := Tryz.t33.desc
theorem u33 : Tryz.prog.underlying 33 = some d33 := Tryz.underlying33
noncomputable def d34 : TypeDesc := Tryz.t34.desc
theorem u34 : Tryz.prog.underlying 34 = some d34 := Tryz.underlying34
noncomputable def d35 : TypeDesc := Tryz.t35.desc
theorem u35 : Tryz.prog.underlying 35 = some d35 := Tryz.underlying35
noncomputable def d36 : TypeDesc := Tryz.t35.desc
theorem u36 : Tryz.prog.underlying 36 = some d36 := Tryz.underlying36
noncomputable def d37 : TypeDesc := Tryz.t37.desc
theorem u37 : Tryz.prog.underlying 37 = some d37 := Tryz.underlying37
noncomputable def d38 : TypeDesc := Tryz.t38.desc
theorem u38 : Tryz.prog.underlying 38 = some d38 := Tryz.underlying38
noncomputable def d39 : TypeDesc := Tryz.t38.desc
theorem u39 : Tryz.prog.underlying 39 = some d39 := Tryz.underlying39
noncomputable def d40 : TypeDesc := Tryz.t40.desc
theorem u40 : Tryz.prog.underlying 40 = some d40 := Tryz.underlying40
noncomputable def d41 : TypeDesc := Tryz.t40.desc
theorem u41 : Tryz.prog.underlying 41 = some d41 := Tryz.underlying41
noncomputable def d42 : TypeDesc := Tryz.t42.desc
theorem u42 : Tryz.prog.underlying 42 = some d42 := Tryz.underlying42
noncomputable def d43 : TypeDesc := Tryz.t42.desc
theorem u43 : Tryz.prog.underlying 43 = some d43 := Tryz.underlying43
noncomputable def d44 : TypeDesc := Tryz.t44.desc
theorem u44 : Tryz.prog.underlying 44 = some d44 := Tryz.underlying44
noncomputable def d45 : TypeDesc := Tryz.t44.desc
theorem u45 : Tryz.prog.underlying 45 = some d45 := Tryz.underlying45
noncomputable def d46 : TypeDesc := Tryz.t46.desc
theorem u46 : Tryz.prog.underlying 46 = some d46 := Tryz.underlying46
noncomputable def d47 : TypeDesc := Tryz.t47.desc
theorem u47 : Tryz.prog.underlying 47 = some d47 := Tryz.underlying47
noncomputable def d48 : TypeDesc := Tryz.t48.desc
theorem u48 : Tryz.prog.underlying 48 = some d48 := Tryz.underlying48
noncomputable def d49 : TypeDesc := Tryz.t49.desc
theorem u49 : Tryz.prog.underlying 49 = some d49 := Tryz.underlying49
noncomputable def d50 : TypeDesc := Tryz.t50.desc
theorem u50 : Tryz.prog.underlying 50 = some d50 := Tryz.underlying50
noncomputable def d51 : TypeDesc := Tryz.t51.desc
theorem u51 : Tryz.prog.underlying 51 = some d51 := Tryz.underlying51
noncomputable def d52 : TypeDesc := Tryz.t52.desc
theorem u52 : Tryz.prog.underlying 52 = some d52 := Tryz.underlying52
noncomputable def d53 : TypeDesc := Tryz.t53.desc
theorem u53 : Tryz.prog.underlying 53 = some d53 := Tryz.underlying53
noncomputable def d54 : TypeDesc := Tryz.t54.desc
theorem u54 : Tryz.prog.underlying 54 = some d54 := Tryz.underlying54
noncomputable def d55 : TypeDesc := Tryz.t55.desc
theorem u55 : Tryz.prog.underlying 55 = some d55 := Tryz.underlying55
noncomputable def d56 : TypeDesc := Tryz.t56.desc
theorem u56 : Tryz.prog.underlying 56 = some d56 := Tryz.underlying56
noncomputable def d57 : TypeDesc := Tryz.t56.desc
theorem u57 : Tryz.prog.underlying 57 = some d57 := Tryz.underlying57
noncomputable def d58 : TypeDesc := Tryz.t58.desc
theorem u58 : Tryz.prog.underlying 58 = some d58 := Tryz.underlying58
noncomputable def d59 : TypeDesc := Tryz.t59.desc
theorem u59 : Tryz.prog.underlying 59 = some d59 := Tryz.underlying59
noncomputable def d60 : TypeDesc := Tryz.t60.desc
theorem u60 : Tryz.prog.underlying 60 = some d60 := Tryz.underlying60
noncomputable def d61 : TypeDesc := Tryz.t60.desc
theorem u61 : Tryz.prog.underlying 61 = some d61 := Tryz.underlying61
noncomputable def d62 : TypeDesc := Tryz.t62.desc
theorem u62 : Tryz.prog.underlying 62 = some d62 := Tryz.underlying62
noncomputable def d63 : TypeDesc := Tryz.t63.desc
theorem u63 : Tryz.prog.underlying 63 = some d63 := Tryz.underlying63
noncomputable def d64 : TypeDesc := Tryz.t64.desc
theorem u64 : Tryz.prog.underlying 64 = some d64 := Tryz.underlying64
noncomputable def d65 : TypeDesc := Tryz.t64.desc
theorem u65 : Tryz.prog.underlying 65 = some d65 := Tryz.underlying65
noncomputable def d66 : TypeDesc := Tryz.t66.desc
theorem u66 : Tryz.prog.underlying 66 = some d66 := Tryz.underlying66
noncomputable def d67 : TypeDesc := Tryz.t67.desc
theorem u67 : Tryz.prog.underlying 67 = some d67 := Tryz.underlying67
noncomputable def d68 : TypeDesc := Tryz.t67.desc
theorem u68 : Tryz.prog.underlying 68 = some d68 := Tryz.underlying68
noncomputable def d69 : TypeDesc := Tryz.t69.desc
theorem u69 : Tryz.prog.underlying 69 = some d69 := Tryz.underlying69
noncomputable def d70 : TypeDesc := Tryz.t69.desc
theorem u70 : Tryz.prog.underlying 70 = some d70 := Tryz.underlying70
noncomputable def d71 : TypeDesc := Tryz.t71.desc
theorem u71 : Tryz.prog.underlying 71 = some d71 := Tryz.underlying71
noncomputable def d72 : TypeDesc := Tryz.t71.desc
theorem u72 : Tryz.prog.underlying 72 = some d72 := Tryz.underlying72
noncomputable def d73 : TypeDesc := Tryz.t73.desc
theorem u73 : Tryz.prog.underlying 73 = some d73 := Tryz.underlying73
noncomputable def d74 : TypeDesc := Tryz.t74.desc
theorem u74 : Tryz.prog.underlying 74 = some d74 := Tryz.underlying74
noncomputable def d75 : TypeDesc := Tryz.t75.desc
theorem u75 : Tryz.prog.underlying 75 = some d75 := Tryz.underlying75
noncomputable def d76 : TypeDesc := Tryz.t75.desc
theorem u76 : Tryz.prog.underlying 76 = some d76 := Tryz.underlying76
noncomputable def d77 : TypeDesc := Tryz.t77.desc
theorem u77 : Tryz.prog.underlying 77 = some d77 := Tryz.underlying77
noncomputable def d78 : TypeDesc := Tryz.t78.desc
theorem u78 : Tryz.prog.underlying 78 = some d78 := Tryz.underlying78
noncomputable def d79 : TypeDesc := Tryz.t79.desc
theorem u79 : Tryz.prog.underlying 79 = some d79 := Tryz.underlying79
noncomputable def d80 : TypeDesc := Tryz.t80.desc
theorem u80 : Tryz.prog.underlying 80 = some d80 := Tryz.underlying80
noncomputable def d81 : TypeDesc := Tryz.t81.desc
theorem u81 : Tryz.prog.underlying 81 = some d81 := Tryz.underlying81
noncomputable def d82 : TypeDesc := Tryz.t82.desc
theorem u82 : Tryz.prog.underlying 82 = some d82 := Tryz.underlying82
noncomputable def d83 : TypeDesc := Tryz.t83.desc
theorem u83 : Tryz.prog.underlying 83 = some d83 := Tryz.underlying83
noncomputable def d84 : TypeDesc := Tryz.t84.desc
theorem u84 : Tryz.prog.underlying 84 = some d84 := Tryz.underlying84
noncomputable def d85 : TypeDesc := Tryz.t85.desc
theorem u85 : Tryz.prog.underlying 85 = some d85 := Tryz.underlying85
noncomputable def d86 : TypeDesc := Tryz.t85.desc
theorem u86 : Tryz.prog.underlying 86 = some d86 := Tryz.underlying86
noncomputable def d87 : TypeDesc := Tryz.t87.desc
theorem u87 : Tryz.prog.underlying 87 = some d87 := Tryz.underlying87
noncomputable def d88 : TypeDesc := Tryz.t88.desc
theorem u88 : Tryz.prog.underlying 88 = some d88 := Tryz.underlying88
noncomputable def d89 : TypeDesc := Tryz.t89.desc
theorem u89 : Tryz.prog.underlying 89 = some d89 := Tryz.underlying89
noncomputable def d90 : TypeDesc := Tryz.t90.desc
theorem u90 : Tryz.prog.underlying 90 = some d90 := Tryz.underlying90
noncomputable def d91 : TypeDesc := Tryz.t90.desc
theorem u91 : Tryz.prog.underlying 91 = some d91 := Tryz.underlying91
noncomputable def d92 : TypeDesc := Tryz.t92.desc
theorem u92 : Tryz.prog.underlying 92 = some d92 := Tryz.underlying92
noncomputable def d93 : TypeDesc := Tryz.t93.desc
theorem u93 : Tryz.prog.underlying 93 = some d93 := Tryz.underlying93
noncomputable def d94 : TypeDesc := Tryz.t94.desc
theorem u94 : Tryz.prog.underlying 94 = some d94 := Tryz.underlying94
noncomputable def d95 : TypeDesc := Tryz.t95.desc
theorem u95 : Tryz.prog.underlying 95 = some d95 := Tryz.underlying95
noncomputable def d96 : TypeDesc := Tryz.t96.desc
theorem u96 : Tryz.prog.underlying 96 = some d96 := Tryz.underlying96
noncomputable def d97 : TypeDesc := Tryz.t97.desc
theorem u97 : Tryz.prog.underlying 97 = some d97 := Tryz.underlying97
noncomputable def d98 : TypeDesc := Tryz.t98.desc
theorem u98 : Tryz.prog.underlying 98 = some d98 := Tryz.underlying98
noncomputable def d99 : TypeDesc := Tryz.t99.desc
theorem u99 : Tryz.prog.underlying 99 = some d99 := Tryz.underlying99
noncomputable def d100 : TypeDesc := Tryz.t100.desc
theorem u100 : Tryz.prog.underlying 100 = some d100 := Tryz.underlying100
noncomputable def d101 : TypeDesc := Tryz.t101.desc
theorem u101 : Tryz.prog.underlying 101 = some d101 := Tryz.underlying101
noncomputable def d102 : TypeDesc := Tryz.t102.desc
theorem u102 : Tryz.prog.underlying 102 = some d102 := Tryz.underlying102
noncomputable def d103 : TypeDesc := Tryz.t103.desc
theorem u103 : Tryz.prog.underlying 103 = some d103 := Tryz.underlying103
noncomputable def d104 : TypeDesc := Tryz.t104.desc
theorem u104 : Tryz.prog.underlying 104 = some d104 := Tryz.underlying104
noncomputable def d105 : TypeDesc := Tryz.t105.desc
theorem u105 : Tryz.prog.underlying 105 = some d105 := Tryz.underlying105
noncomputable def d106 : TypeDesc := Tryz.t105.desc
theorem u106 : Tryz.prog.underlying 106 = some d106 := Tryz.underlying106
noncomputable def d107 : TypeDesc := Tryz.t107.desc
theorem u107 : Tryz.prog.underlying 107 = some d107 := Tryz.underlying107
noncomputable def d108 : TypeDesc := Tryz.t108.desc
theorem u108 : Tryz.prog.underlying 108 = some d108 := Tryz.underlying108
noncomputable def d109 : TypeDesc := Tryz.t109.desc
theorem u109 : Tryz.prog.underlying 109 = some d109 := Tryz.underlying109
noncomputable def d110 : TypeDesc := Tryz.t110.desc
theorem u110 : Tryz.prog.underlying 110 = some d110 := Tryz.underlying110
noncomputable def d111 : TypeDesc := Tryz.t111.desc
theorem u111 : Tryz.prog.underlying 111 = some d111 := Tryz.underlying111
noncomputable def d112 : TypeDesc := Tryz.t112.desc
theorem u112 : Tryz.prog.underlying 112 = some d112 := Tryz.underlying112
noncomputable def d113 : TypeDesc := Tryz.t113.desc
theorem u113 : Tryz.prog.underlying 113 = some d113 := Tryz.underlying113
noncomputable def d114 : TypeDesc := Tryz.t114.desc
theorem u114 : Tryz.prog.underlying 114 = some d114 := Tryz.underlying114
noncomputable def d115 : TypeDesc := Tryz.t115.desc
theorem u115 : Tryz.prog.underlying 115 = some d115 := Tryz.underlying115
noncomputable def d116 : TypeDesc := Tryz.t116.desc
theorem u116 : Tryz.prog.underlying 116 = some d116 := Tryz.underlying116
noncomputable def d117 : TypeDesc := Tryz.t117.desc
theorem u117 : Tryz.prog.underlying 117 = some d117 := Tryz.underlying117
noncomputable def d118 : TypeDesc := Tryz.t118.desc
theorem u118 : Tryz.prog.underlying 118 = some d118 := Tryz.underlying118
noncomputable def d119 : TypeDesc := Tryz.t119.desc
theorem u119 : Tryz.prog.underlying 119 = some d119 := Tryz.underlying119
noncomputable def d120 : TypeDesc := Tryz.t120.desc
theorem u120 : Tryz.prog.underlying 120 = some d120 := Tryz.underlying120
noncomputable def d121 : TypeDesc := Tryz.t121.desc
theorem u121 : Tryz.prog.underlying 121 = some d121 := Tryz.underlying121
noncomputable def d122 : TypeDesc := Tryz.t122.desc
theorem u122 : Tryz.prog.underlying 122 = some d122 := Tryz.underlying122
noncomputable def d123 : TypeDesc := Tryz.t123.desc
theorem u123 : Tryz.prog.underlying 123 = some d123 := Tryz.underlying123
noncomputable def d124 : TypeDesc := Tryz.t124.desc
theorem u124 : Tryz.prog.underlying 124 = some d124 := Tryz.underlying124
noncomputable def d125 : TypeDesc := Tryz.t125.desc
theorem u125 : Tryz.prog.underlying 125 = some d125 := Tryz.underlying125
noncomputable def d126 : TypeDesc := Tryz.t126.desc
theorem u126 : Tryz.prog.underlying 126 = some d126 := Tryz.underlying126
noncomputable def d127 : TypeDesc := Tryz.t127.desc
theorem u127 : Tryz.prog.underlying 127 = some d127 := Tryz.underlying127
noncomputable def d128 : TypeDesc := Tryz.t128.desc
theorem u128 : Tryz.prog.underlying 128 = some d128 := Tryz.underlying128
noncomputable def d129 : TypeDesc := Tryz.t129.desc
theorem u129 : Tryz.prog.underlying 129 = some d129 := Tryz.underlying129
noncomputable def d130 : TypeDesc := Tryz.t130.desc
theorem u130 : Tryz.prog.underlying 130 = some d130 := Tryz.underlying130
noncomputable def d131 : TypeDesc := Tryz.t131.desc
theorem u131 : Tryz.prog.underlying 131 = some d131 := Tryz.underlying131
noncomputable def d132 : TypeDesc := Tryz.t132.desc
theorem u132 : Tryz.prog.underlying 132 = some d132 := Tryz.underlying132
noncomputable def d133 : TypeDesc := Tryz.t133.desc
theorem u133 : Tryz.prog.underlying 133 = some d133 := Tryz.underlying133
noncomputable def d134 : TypeDesc := Tryz.t134.desc
theorem u134 : Tryz.prog.underlying 134 = some d134 := Tryz.underlying134
noncomputable def d135 : TypeDesc := Tryz.t134.desc
theorem u135 : Tryz.prog.underlying 135 = some d135 := Tryz.underlying135
noncomputable def d136 : TypeDesc := Tryz.t136.desc
theorem u136 : Tryz.prog.underlying 136 = some d136 := Tryz.underlying136
noncomputable def d137 : TypeDesc := Tryz.t136.desc
theorem u137 : Tryz.prog.underlying 137 = some d137 := Tryz.underlying137
noncomputable def d138 : TypeDesc := Tryz.t138.desc
theorem u138 : Tryz.prog.underlying 138 = some d138 := Tryz.underlying138
noncomputable def d139 : TypeDesc := Tryz.t139.desc
theorem u139 : Tryz.prog.underlying 139 = some d139 := Tryz.underlying139
noncomputable def d140 : TypeDesc := Tryz.t140.desc
theorem u140 : Tryz.prog.underlying 140 = some d140 := Tryz.underlying140
noncomputable def d141 : TypeDesc := Tryz.t141.desc
theorem u141 : Tryz.prog.underlying 141 = some d141 := Tryz.underlying141
noncomputable def d142 : TypeDesc := Tryz.t142.desc
theorem u142 : Tryz.prog.underlying 142 = some d142 := Tryz.underlying142
noncomputable def d143 : TypeDesc := Tryz.t143.desc
theorem u143 : Tryz.prog.underlying 143 = some d143 := Tryz.underlying143
noncomputable def d144 : TypeDesc := Tryz.t144.desc
theorem u144 : Tryz.prog.underlying 144 = some d144 := Tryz.underlying144
noncomputable def d145 : TypeDesc := Tryz.t144.desc
theorem u145 : Tryz.prog.underlying 145 = some d145 := Tryz.underlying145
noncomputable def d146 : TypeDesc := Tryz.t146.desc
theorem u146 : Tryz.prog.underlying 146 = some d146 := Tryz.underlying146
noncomputable def d147 : TypeDesc := Tryz.t146.desc
theorem u147 : Tryz.prog.underlying 147 = some d147 := Tryz.underlying147
noncomputable def d148 : TypeDesc := Tryz.t148.desc
theorem u148 : Tryz.prog.underlying 148 = some d148 := Tryz.underlying148
noncomputable def d149 : TypeDesc := Tryz.t149.desc
theorem u149 : Tryz.prog.underlying 149 = some d149 := Tryz.underlying149
noncomputable def d150 : TypeDesc := Tryz.t150.desc
theorem u150 : Tryz.prog.underlying 150 = some d150 := Tryz.underlying150
noncomputable def d151 : TypeDesc := Tryz.t151.desc
theorem u151 : Tryz.prog.underlying 151 = some d151 := Tryz.underlying151
noncomputable def d152 : TypeDesc := Tryz.t152.desc
theorem u152 : Tryz.prog.underlying 152 = some d152 := Tryz.underlying152
noncomputable def d153 : TypeDesc := Tryz.t153.desc
theorem u153 : Tryz.prog.underlying 153 = some d153 := Tryz.underlying153
noncomputable def d154 : TypeDesc := Tryz.t154.desc
theorem u154 : Tryz.prog.underlying 154 = some d154 := Tryz.underlying154
noncomputable def d155 : TypeDesc := Tryz.t155.desc
theorem u155 : Tryz.prog.underlying 155 = some d155 := Tryz.underlying155
noncomputable def d156 : TypeDesc := Tryz.t156.desc
theorem u156 : Tryz.prog.underlying 156 = some d156 := Tryz.underlying156
noncomputable def d157 : TypeDesc := Tryz.t157.desc
theorem u157 : Tryz.prog.underlying 157 = some d157 := Tryz.underlying157
noncomputable def d158 : TypeDesc := Tryz.t158.desc
theorem u158 : Tryz.prog.underlying 158 = some d158 := Tryz.underlying158
noncomputable def d159 : TypeDesc := Tryz.t159.desc
theorem u159 : Tryz.prog.underlying 159 = some d159 := Tryz.underlying159
noncomputable def d160 : TypeDesc := Tryz.t160.desc
theorem u160 : Tryz.prog.underlying 160 = some d160 := Tryz.underlying160
noncomputable def d161 : TypeDesc := Tryz.t161.desc
theorem u161 : Tryz.prog.underlying 161 = some d161 := Tryz.underlying161
noncomputable def d162 : TypeDesc := Tryz.t162.desc
theorem u162 : Tryz.prog.underlying 162 = some d162 := Tryz.underlying162
noncomputable def d163 : TypeDesc := Tryz.t163.desc
theorem u163 : Tryz.prog.underlying 163 = some d163 := Tryz.underlying163
noncomputable def d164 : TypeDesc := Tryz.t164.desc
theorem u164 : Tryz.prog.underlying 164 = some d164 := Tryz.underlying164
noncomputable def d165 : TypeDesc := Tryz.t165.desc
theorem u165 : Tryz.prog.underlying 165 = some d165 := Tryz.underlying165
noncomputable def d166 : TypeDesc := Tryz.t166.desc
theorem u166 : Tryz.prog.underlying 166 = some d166 := Tryz.underlying166
noncomputable def d167 : TypeDesc := Tryz.t167.desc
theorem u167 : Tryz.prog.underlying 167 = some d167 := Tryz.underlying167
noncomputable def d168 : TypeDesc := Tryz.t168.desc
theorem u168 : Tryz.prog.underlying 168 = some d168 := Tryz.underlying168
noncomputable def d169 : TypeDesc := Tryz.t169.desc
theorem u169 : Tryz.prog.underlying 169 = some d169 := Tryz.underlying169
noncomputable def d170 : TypeDesc := Tryz.t170.desc
theorem u170 : Tryz.prog.underlying 170 = some d170 := Tryz.underlying170
noncomputable def d171 : TypeDesc := Tryz.t171.desc
theorem u171 : Tryz.prog.underlying 171 = some d171 := Tryz.underlying171
noncomputable def d172 : TypeDesc := Tryz.t172.desc
theorem u172 : Tryz.prog.underlying 172 = some d172 := Tryz.underlying172
noncomputable def d173 : TypeDesc := Tryz.t172.desc
theorem u173 : Tryz.prog.underlying 173 = some d173 := Tryz.underlying173
noncomputable def d174 : TypeDesc := Tryz.t174.desc
theorem u174 : Tryz.prog.underlying 174 = some d174 := Tryz.underlying174
noncomputable def d175 : TypeDesc := Tryz.t175.desc
theorem u175 : Tryz.prog.underlying 175 = some d175 := Tryz.underlying175
noncomputable def d176 : TypeDesc := Tryz.t176.desc
theorem u176 : Tryz.prog.underlying 176 = some d176 := Tryz.underlying176
noncomputable def d177 : TypeDesc := Tryz.t177.desc
theorem u177 : Tryz.prog.underlying 177 = some d177 := Tryz.underlying177
noncomputable def d178 : TypeDesc := Tryz.t178.desc
theorem u178 : Tryz.prog.underlying 178 = some d178 := Tryz.underlying178
noncomputable def d179 : TypeDesc := Tryz.t179.desc
theorem u179 : Tryz.prog.underlying 179 = some d179 := Tryz.underlying179
noncomputable def d180 : TypeDesc := Tryz.t180.desc
theorem u180 : Tryz.prog.underlying 180 = some d180 := Tryz.underlying180
noncomputable def d181 : TypeDesc := Tryz.t181.desc
theorem u181 : Tryz.prog.underlying 181 = some d181 := Tryz.underlying181
noncomputable def d182 : TypeDesc := Tryz.t182.desc
theorem u182 : Tryz.prog.underlying 182 = some d182 := Tryz.underlying182
noncomputable def d183 : TypeDesc := Tryz.t182.desc
theorem u183 : Tryz.prog.underlying 183 = some d183 := Tryz.underlying183
noncomputable def d184 : TypeDesc := Tryz.t184.desc
theorem u184 : Tryz.prog.underlying 184 = some d184 := Tryz.underlying184
noncomputable def d185 : TypeDesc := Tryz.t185.desc
theorem u185 : Tryz.prog.underlying 185 = some d185 := Tryz.underlying185
noncomputable def d186 : TypeDesc := Tryz.t186.desc
theorem u186 : Tryz.prog.underlying 186 = some d186 := Tryz.underlying186
noncomputable def d187 : TypeDesc := Tryz.t187.desc
theorem u187 : Tryz.prog.underlying 187 = some d187 := Tryz.underlying187
noncomputable def d188 : TypeDesc := Tryz.t188.desc
theorem u188 : Tryz.prog.underlying 188 = some d188 := Tryz.underlying188
noncomputable def d189 : TypeDesc := Tryz.t189.desc
theorem u189 : Tryz.prog.underlying 189 = some d189 := Tryz.underlying189
noncomputable def d190 : TypeDesc := Tryz.t190.desc
theorem u190 : Tryz.prog.underlying 190 = some d190 := Tryz.underlying190
noncomputable def d191 : TypeDesc := Tryz.t191.desc
theorem u191 : Tryz.prog.underlying 191 = some d191 := Tryz.underlying191
noncomputable def d192 : TypeDesc := Tryz.t192.desc
theorem u192 : Tryz.prog.underlying 192 = some d192 := Tryz.underlying192
noncomputable def d193 : TypeDesc := Tryz.t193.desc
theorem u193 : Tryz.prog.underlying 193 = some d193 := Tryz.underlying193
noncomputable def d194 : TypeDesc := Tryz.t193.desc
theorem u194 : Tryz.prog.underlying 194 = some d194 := Tryz.underlying194
noncomputable def d195 : TypeDesc := Tryz.t195.desc
theorem u195 : Tryz.prog.underlying 195 = some d195 := Tryz.underlying195
noncomputable def d196 : TypeDesc := Tryz.t196.desc
theorem u196 : Tryz.prog.underlying 196 = some d196 := Tryz.underlying196
noncomputable def d197 : TypeDesc := Tryz.t197.desc
theorem u197 : Tryz.prog.underlying 197 = some d197 := Tryz.underlying197
noncomputable def d198 : TypeDesc := Tryz.t197.desc
theorem u198 : Tryz.prog.underlying 198 = some d198 := Tryz.underlying198
noncomputable def d199 : TypeDesc := Tryz.t199.desc
theorem u199 : Tryz.prog.underlying 199 = some d199 := Tryz.underlying199
noncomputable def d200 : TypeDesc := Tryz.t200.desc
theorem u200 : Tryz.prog.underlying 200 = some d200 := Tryz.underlying200
noncomputable def d201 : TypeDesc := Tryz.t201.desc
theorem u201 : Tryz.prog.underlying 201 = some d201 := Tryz.underlying201
noncomputable def d202 : TypeDesc := Tryz.t202.desc
theorem u202 : Tryz.prog.underlying 202 = some d202 := Tryz.underlying202
noncomputable def d203 : TypeDesc := Tryz.t203.desc
theorem u203 : Tryz.prog.underlying 203 = some d203 := Tryz.underlying203
noncomputable def d204 : TypeDesc := Tryz.t204.desc
theorem u204 : Tryz.prog.underlying 204 = some d204 := Tryz.underlying204
noncomputable def d205 : TypeDesc := Tryz.t3.desc
theorem u205 : Tryz.prog.underlying 205 = some d205 := Tryz.underlying205
noncomputable def d206 : TypeDesc := Tryz.t206.desc
theorem u206 : Tryz.prog.underlying 206 = some d206 := Tryz.underlying206
noncomputable def d207 : TypeDesc := Tryz.t207.desc
theorem u207 : Tryz.prog.underlying 207 = some d207 := Tryz.underlying207
noncomputable def d208 : TypeDesc := Tryz.t208.desc
theorem u208 : Tryz.prog.underlying 208 = some d208 := Tryz.underlying208
noncomputable def d209 : TypeDesc := Tryz.t209.desc
theorem u209 : Tryz.prog.underlying 209 = some d209 := Tryz.underlying209
noncomputable def d210 : TypeDesc := Tryz.t210.desc
theorem u210 : Tryz.prog.underlying 210 = some d210 := Tryz.underlying210
noncomputable def d211 : TypeDesc := Tryz.t211.desc
theorem u211 : Tryz.prog.underlying 211 = some d211 := Tryz.underlying211
noncomputable def d212 : TypeDesc := Tryz.t212.desc
theorem u212 : Tryz.prog.underlying 212 = some d212 := Tryz.underlying212
noncomputable def d213 : TypeDesc := Tryz.t213.desc
theorem u213 : Tryz.prog.underlying 213 = some d213 := Tryz.underlying213
noncomputable def d214 : TypeDesc := Tryz.t214.desc
theorem u214 : Tryz.prog.underlying 214 = some d214 := Tryz.underlying214
noncomputable def d215 : TypeDesc := Tryz.t215.desc
theorem u215 : Tryz.prog.underlying 215 = some d215 := Tryz.underlying215
noncomputable def d216 : TypeDesc := Tryz.t216.desc
theorem u216 : Tryz.prog.underlying 216 = some d216 := Tryz.underlying216
noncomputable def d217 : TypeDesc := Tryz.t217.desc
theorem u217 : Tryz.prog.underlying 217 = some d217 := Tryz.underlying217
noncomputable def d218 : TypeDesc := Tryz.t218.desc
theorem u218 : Tryz.prog.underlying 218 = some d218 := Tryz.underlying218
noncomputable def d219 : TypeDesc := Tryz.t219.desc
theorem u219 : Tryz.prog.underlying 219 = some d219 := Tryz.underlying219
noncomputable def d220 : TypeDesc := Tryz.t220.desc
theorem u220 : Tryz.prog.underlying 220 = some d220 := Tryz.underlying220
noncomputable def d221 : TypeDesc := Tryz.t221.desc
theorem u221 : Tryz.prog.underlying 221 = some d221 := Tryz.underlying221
noncomputable def d222 : TypeDesc := Tryz.t222.desc
theorem u222 : Tryz.prog.underlying 222 = some d222 := Tryz.underlying222
noncomputable def d223 : TypeDesc := Tryz.t223.desc
theorem u223 : Tryz.prog.underlying 223 = some d223 := Tryz.underlying223
noncomputable def d224 : TypeDesc := Tryz.t224.desc
theorem u224 : Tryz.prog.underlying 224 = some d224 := Tryz.underlying224
noncomputable def d225 : TypeDesc := Tryz.t225.desc
theorem u225 : Tryz.prog.underlying 225 = some d225 := Tryz.underlying225
noncomputable def d226 : TypeDesc := Tryz.t226.desc
theorem u226 : Tryz.prog.underlying 226 = some d226 := Tryz.underlying226
noncomputable def d227 : TypeDesc := Tryz.t227.desc
theorem u227 : Tryz.prog.underlying 227 = some d227 := Tryz.underlying227
noncomputable def d228 : TypeDesc := Tryz.t228.desc
theorem u228 : Tryz.prog.underlying 228 = some d228 := Tryz.underlying228
noncomputable def d229 : TypeDesc := Tryz.t229.desc
theorem u229 : Tryz.prog.underlying 229 = some d229 := Tryz.underlying229
noncomputable def d230 : TypeDesc := Tryz.t230.desc
theorem u230 : Tryz.prog.underlying 230 = some d230 := Tryz.underlying230
noncomputable def d231 : TypeDesc := Tryz.t231.desc
theorem u231 : Tryz.prog.underlying 231 = some d231 := Tryz.underlying231
noncomputable def d232 : TypeDesc := Tryz.t232.desc
theorem u232 : Tryz.prog.underlying 232 = some d232 := Tryz.underlying232
noncomputable def d233 : TypeDesc := Tryz.t233.desc
theorem u233 : Tryz.prog.underlying 233 = some d233 := Tryz.underlying233
noncomputable def d234 : TypeDesc := Tryz.t234.desc
theorem u234 : Tryz.prog.underlying 234 = some d234 := Tryz.underlying234
noncomputable def d235 : TypeDesc := Tryz.t235.desc
theorem u235 : Tryz.prog.underlying 235 = some d235 := Tryz.underlying235
noncomputable def d236 : TypeDesc := Tryz.t235.desc
theorem u236 : Tryz.prog.underlying 236 = some d236 := Tryz.underlying236
noncomputable def d237 : TypeDesc := Tryz.t237.desc
theorem u237 : Tryz.prog.underlying 237 = some d237 := Tryz.underlying237
noncomputable def d238 : TypeDesc := Tryz.t238.desc
theorem u238 : Tryz.prog.underlying 238 = some d238 := Tryz.underlying238
noncomputable def d239 : TypeDesc := Tryz.t239.desc
theorem u239 : Tryz.prog.underlying 239 = some d239 := Tryz.underlying239
noncomputable def d240 : TypeDesc := Tryz.t240.desc
theorem u240 : Tryz.prog.underlying 240 = some d240 := Tryz.underlying240
noncomputable def d241 : TypeDesc := Tryz.t241.desc
theorem u241 : Tryz.prog.underlying 241 = some d241 := Tryz.underlying241
noncomputable def d242 : TypeDesc := Tryz.t242.desc
theorem u242 : Tryz.prog.underlying 242 = some d242 := Tryz.underlying242
noncomputable def d243 : TypeDesc := Tryz.t243.desc
theorem u243 : Tryz.prog.underlying 243 = some d243 := Tryz.underlying243
noncomputable def d244 : TypeDesc := Tryz.t243.desc
theorem u244 : Tryz.prog.underlying 244 = some d244 := Tryz.underlying244
noncomputable def d245 : TypeDesc := Tryz.t245.desc
theorem u245 : Tryz.prog.underlying 245 = some d245 := Tryz.underlying245
noncomputable def d246 : TypeDesc := Tryz.t246.desc
theorem u246 : Tryz.prog.underlying 246 = some d246 := Tryz.underlying246
noncomputable def d247 : TypeDesc := Tryz.t247.desc
theorem u247 : Tryz.prog.underlying 247 = some d247 := Tryz.underlying247
noncomputable def d248 : TypeDesc := Tryz.t248.desc
theorem u248 : Tryz.prog.underlying 248 = some d248 := Tryz.underlying248
noncomputable def d249 : TypeDesc := Tryz.t249.desc
theorem u249 : Tryz.prog.underlying 249 = some d249 := Tryz.underlying249
noncomputable def d250 : TypeDesc := Tryz.t250.desc
theorem u250 : Tryz.prog.underlying 250 = some d250 := Tryz.underlying250
noncomputable def d251 : TypeDesc := Tryz.t251.desc
theorem u251 : Tryz.prog.underlying 251 = some d251 := Tryz.underlying251
noncomputable def d252 : TypeDesc := Tryz.t252.desc
theorem u252 : Tryz.prog.underlying 252 = some d252 := Tryz.underlying252
noncomputable def d253 : TypeDesc := Tryz.t253.desc
theorem u253 : Tryz.prog.underlying 253 = some d253 := Tryz.underlying253
noncomputable def d254 : TypeDesc := Tryz.t253.desc
theorem u254 : Tryz.prog.underlying 254 = some d254 := Tryz.underlying254
noncomputable def d255 : TypeDesc := Tryz.t255.desc
theorem u255 : Tryz.prog.underlying 255 = some d255 := Tryz.underlying255
noncomputable def d256 : TypeDesc := Tryz.t256.desc
theorem u256 : Tryz.prog.underlying 256 = some d256 := Tryz.underlying256
noncomputable def d257 : TypeDesc := Tryz.t257.desc
theorem u257 : Tryz.prog.underlying 257 = some d257 := Tryz.underlying257
noncomputable def d258 : TypeDesc := Tryz.t258.desc
theorem u258 : Tryz.prog.underlying 258 = some d258 := Tryz.underlying258
noncomputable def d259 : TypeDesc := Tryz.t214.desc
theorem u259 : Tryz.prog.underlying 259 = some d259 := Tryz.underlying259
noncomputable def d260 : TypeDesc := Tryz.t260.desc
theorem u260 : Tryz.prog.underlying 260 = some d260 := Tryz.underlying260
noncomputable def d261 : TypeDesc := Tryz.t261.desc
theorem u261 : Tryz.prog.underlying 261 = some d261 := Tryz.underlying261
noncomputable def d262 : TypeDesc := Tryz.t262.desc
theorem u262 : Tryz.prog.underlying 262 = some d262 := Tryz.underlying262
noncomputable def d263 : TypeDesc := Tryz.t263.desc
theorem u263 : Tryz.prog.underlying 263 = some d263 := Tryz.underlying263
noncomputable def d264 : TypeDesc := Tryz.t264.desc
theorem u264 : Tryz.prog.underlying 264 = some d264 := Tryz.underlying264
noncomputable def d265 : TypeDesc := Tryz.t265.desc
theorem u265 : Tryz.prog.underlying 265 = some d265 := Tryz.underlying265
noncomputable def d266 : TypeDesc := Tryz.t266.desc
theorem u266 : Tryz.prog.underlying 266 = some d266 := Tryz.underlying266
noncomputable def d267 : TypeDesc := Tryz.t267.desc
theorem u267 : Tryz.prog.underlying 267 = some d267 := Tryz.underlying267
noncomputable def d268 : TypeDesc := Tryz.t268.desc
theorem u268 : Tryz.prog.underlying 268 = some d268 := Tryz.underlying268
noncomputable def d269 : TypeDesc := Tryz.t269.desc
theorem u269 : Tryz.prog.underlying 269 = some d269 := Tryz.underlying269
noncomputable def d270 : TypeDesc := Tryz.t270.desc
theorem u270 : Tryz.prog.underlying 270 = some d270 := Tryz.underlying270
noncomputable def d271 : TypeDesc := Tryz.t271.desc
theorem u271 : Tryz.prog.underlying 271 = some d271 := Tryz.underlying271
noncomputable def d272 : TypeDesc := Tryz.t272.desc
theorem u272 : Tryz.prog.underlying 272 = some d272 := Tryz.underlying272
noncomputable def d273 : TypeDesc := Tryz.t273.desc
theorem u273 : Tryz.prog.underlying 273 = some d273 := Tryz.underlying273
noncomputable def d274 : TypeDesc := Tryz.t274.desc
theorem u274 : Tryz.prog.underlying 274 = some d274 := Tryz.underlying274
noncomputable def d275 : TypeDesc := Tryz.t275.desc
theorem u275 : Tryz.prog.underlying 275 = some d275 := Tryz.underlying275
noncomputable def d276 : TypeDesc := Tryz.t276.desc
theorem u276 : Tryz.prog.underlying 276 = some d276 := Tryz.underlying276
noncomputable def d277 : TypeDesc := Tryz.t277.desc
theorem u277 : Tryz.prog.underlying 277 = some d277 := Tryz.underlying277
noncomputable def d278 : TypeDesc := Tryz.t278.desc
theorem u278 : Tryz.prog.underlying 278 = some d278 := Tryz.underlying278
noncomputable def d279 : TypeDesc := Tryz.t279.desc
theorem u279 : Tryz.prog.underlying 279 = some d279 := Tryz.underlying279
noncomputable def d280 : TypeDesc := Tryz.t280.desc
theorem u280 : Tryz.prog.underlying 280 = some d280 := Tryz.underlying280
noncomputable def d281 : TypeDesc := Tryz.t281.desc
theorem u281 : Tryz.prog.underlying 281 = some d281 := Tryz.underlying281
noncomputable def d282 : TypeDesc := Tryz.t282.desc
theorem u282 : Tryz.prog.underlying 282 = some d282 := Tryz.underlying282
noncomputable def d283 : TypeDesc := Tryz.t283.desc
theorem u283 : Tryz.prog.underlying 283 = some d283 := Tryz.underlying283
noncomputable def d284 : TypeDesc := Tryz.t284.desc
theorem u284 : Tryz.prog.underlying 284 = some d284 := Tryz.underlying284
noncomputable def d285 : TypeDesc := Tryz.t285.desc
theorem u285 : Tryz.prog.underlying 285 = some d285 := Tryz.underlying285
noncomputable def d286 : TypeDesc := Tryz.t286.desc
theorem u286 : Tryz.prog.underlying 286 = some d286 := Tryz.underlying286
noncomputable def d287 : TypeDesc := Tryz.t287.desc
theorem u287 : Tryz.prog.underlying 287 = some d287 := Tryz.underlying287
noncomputable def d288 : TypeDesc := Tryz.t288.desc
theorem u288 : Tryz.prog.underlying 288 = some d288 := Tryz.underlying288
noncomputable def d289 : TypeDesc := Tryz.t289.desc
theorem u289 : Tryz.prog.underlying 289 = some d289 := Tryz.underlying289
noncomputable def d290 : TypeDesc := Tryz.t290.desc
theorem u290 : Tryz.prog.underlying 290 = some d290 := Tryz.underlying290
noncomputable def d291 : TypeDesc := Tryz.t290.desc
theorem u291 : Tryz.prog.underlying 291 = some d291 := Tryz.underlying291
noncomputable def d292 : TypeDesc := Tryz.t292.desc
theorem u292 : Tryz.prog.underlying 292 = some d292 := Tryz.underlying292
noncomputable def d293 : TypeDesc := Tryz.t293.desc
theorem u293 : Tryz.prog.underlying 293 = some d293 := Tryz.underlying293
noncomputable def d294 : TypeDesc := Tryz.t294.desc
theorem u294 : Tryz.prog.underlying 294 = some d294 := Tryz.underlying294
noncomputable def d295 : TypeDesc := Tryz.t295.desc
theorem u295 : Tryz.prog.underlying 295 = some d295 := Tryz.underlying295
noncomputable def d296 : TypeDesc := Tryz.t296.desc
theorem u296 : Tryz.prog.underlying 296 = some d296 := Tryz.underlying296
noncomputable def d297 : TypeDesc := Tryz.t297.desc
theorem u297 : Tryz.prog.underlying 297 = some d297 := Tryz.underlying297
noncomputable def d298 : TypeDesc := Tryz.t297.desc
theorem u298 : Tryz.prog.underlying 298 = some d298 := Tryz.underlying298
noncomputable def d299 : TypeDesc := Tryz.t299.desc
theorem u299 : Tryz.prog.underlying 299 = some d299 := Tryz.underlying299
noncomputable def d300 : TypeDesc := Tryz.t300.desc
theorem u300 : Tryz.prog.underlying 300 = some d300 := Tryz.underlying300
noncomputable def d301 : TypeDesc := Tryz.t301.desc
theorem u301 : Tryz.prog.underlying 301 = some d301 := Tryz.underlying301
noncomputable def d302 : TypeDesc := Tryz.t302.desc
theorem u302 : Tryz.prog.underlying 302 = some d302 := Tryz.underlying302
noncomputable def d303 : TypeDesc := Tryz.t303.desc
theorem u303 : Tryz.prog.underlying 303 = some d303 := Tryz.underlying303
noncomputable def d304 : TypeDesc := Tryz.t304.desc
theorem u304 : Tryz.prog.underlying 304 = some d304 := Tryz.underlying304
noncomputable def d305 : TypeDesc := Tryz.t305.desc
theorem u305 : Tryz.prog.underlying 305 = some d305 := Tryz.underlying305
noncomputable def d306 : TypeDesc := Tryz.t306.desc
theorem u306 : Tryz.prog.underlying 306 = some d306 := Tryz.underlying306
noncomputable def d307 : TypeDesc := Tryz.t307.desc
theorem u307 : Tryz.prog.underlying 307 = some d307 := Tryz.underlying307
noncomputable def d308 : TypeDesc := Tryz.t308.desc
theorem u308 : Tryz.prog.underlying 308 = some d308 := Tryz.underlying308
noncomputable def d309 : TypeDesc := Tryz.t309.desc
theorem u309 : Tryz.prog.underlying 309 = some d309 := Tryz.underlying309
noncomputable def d310 : TypeDesc := Tryz.t310.desc
theorem u310 : Tryz.prog.underlying 310 = some d310 := Tryz.underlying310
noncomputable def d311 : TypeDesc := Tryz.t311.desc
theorem u311 : Tryz.prog.underlying 311 = some d311 := Tryz.underlying311
noncomputable def d312 : TypeDesc := Tryz.t312.desc
theorem u312 : Tryz.prog.underlying 312 = some d312 := Tryz.underlying312
noncomputable def d313 : TypeDesc := Tryz.t313.desc
theorem u313 : Tryz.prog.underlying 313 = some d313 := Tryz.underlying313
noncomputable def d314 : TypeDesc := Tryz.t313.desc
theorem u314 : Tryz.prog.underlying 314 = some d314 := Tryz.underlying314
noncomputable def d315 : TypeDesc := Tryz.t315.desc
theorem u315 : Tryz.prog.underlying 315 = some d315 := Tryz.underlying315
noncomputable def d316 : TypeDesc := Tryz.t315.desc
theorem u316 : Tryz.prog.underlying 316 = some d316 := Tryz.underlying316
noncomputable def d317 : TypeDesc := Tryz.t9.desc
theorem u317 : Tryz.prog.underlying 317 = some d317 := Tryz.underlying317
noncomputable def d318 : TypeDesc := Tryz.t318.desc
theorem u318 : Tryz.prog.underlying 318 = some d318 := Tryz.underlying318
noncomputable def d319 : TypeDesc := Tryz.t318.desc
theorem u319 : Tryz.prog.underlying 319 = some d319 := Tryz.underlying319
noncomputable def d320 : TypeDesc := Tryz.t320.desc
theorem u320 : Tryz.prog.underlying 320 = some d320 := Tryz.underlying320
noncomputable def d321 : TypeDesc := Tryz.t321.desc
theorem u321 : Tryz.prog.underlying 321 = some d321 := Tryz.underlying321
noncomputable def d322 : TypeDesc := Tryz.t322.desc
theorem u322 : Tryz.prog.underlying 322 = some d322 := Tryz.underlying322
noncomputable def d323 : TypeDesc := Tryz.t323.desc
theorem u323 : Tryz.prog.underlying 323 = some d323 := Tryz.underlying323
noncomputable def d324 : TypeDesc := Tryz.t323.desc
theorem u324 : Tryz.prog.underlying 324 = some d324 := Tryz.underlying324
noncomputable def d325 : TypeDesc := Tryz.t325.desc
theorem u325 : Tryz.prog.underlying 325 = some d325 := Tryz.underlying325
noncomputable def d326 : TypeDesc := Tryz.t326.desc
theorem u326 : Tryz.prog.underlying 326 = some d326 := Tryz.underlying326
noncomputable def d327 : TypeDesc := Tryz.t327.desc
theorem u327 : Tryz.prog.underlying 327 = some d327 := Tryz.underlying327
noncomputable def d328 : TypeDesc := Tryz.t328.desc
theorem u328 : Tryz.prog.underlying 328 = some d328 := Tryz.underlying328
noncomputable def d329 : TypeDesc := Tryz.t329.desc
theorem u329 : Tryz.prog.underlying 329 = some d329 := Tryz.underlying329
noncomputable def d330 : TypeDesc := Tryz.t329.desc
theorem u330 : Tryz.prog.underlying 330 = some d330 := Tryz.underlying330
noncomputable def d331 : TypeDesc := Tryz.t331.desc
theorem u331 : Tryz.prog.underlying 331 = some d331 := Tryz.underlying331
noncomputable def d332 : TypeDesc := Tryz.t332.desc
theorem u332 : Tryz.prog.underlying 332 = some d332 := Tryz.underlying332
noncomputable def d333 : TypeDesc := Tryz.t333.desc
theorem u333 : Tryz.prog.underlying 333 = some d333 := Tryz.underlying333
noncomputable def d334 : TypeDesc := Tryz.t333.desc
theorem u334 : Tryz.prog.underlying 334 = some d334 := Tryz.underlying334
noncomputable def d335 : TypeDesc := Tryz.t335.desc
theorem u335 : Tryz.prog.underlying 335 = some d335 := Tryz.underlying335
noncomputable def d336 : TypeDesc := Tryz.t335.desc
theorem u336 : Tryz.prog.underlying 336 = some d336 := Tryz.underlying336
noncomputable def d337 : TypeDesc := Tryz.t337.desc
theorem u337 : Tryz.prog.underlying 337 = some d337 := Tryz.underlying337
noncomputable def d338 : TypeDesc := Tryz.t338.desc
theorem u338 : Tryz.prog.underlying 338 = some d338 := Tryz.underlying338
noncomputable def d339 : TypeDesc := Tryz.t339.desc
theorem u339 : Tryz.prog.underlying 339 = some d339 := Tryz.underlying339
noncomputable def d340 : TypeDesc := Tryz.t340.desc
theorem u340 : Tryz.prog.underlying 340 = some d340 := Tryz.underlying340
noncomputable def d341 : TypeDesc := Tryz.t341.desc
theorem u341 : Tryz.prog.underlying 341 = some d341 := Tryz.underlying341
noncomputable def d342 : TypeDesc := Tryz.t342.desc
theorem u342 : Tryz.prog.underlying 342 = some d342 := Tryz.underlying342
noncomputable def d343 : TypeDesc := Tryz.t342.desc
theorem u343 : Tryz.prog.underlying 343 = some d343 := Tryz.underlying343
noncomputable def d344 : TypeDesc := Tryz.t344.desc
theorem u344 : Tryz.prog.underlying 344 = some d344 := Tryz.underlying344
noncomputable def d345 : TypeDesc := Tryz.t345.desc
theorem u345 : Tryz.prog.underlying 345 = some d345 := Tryz.underlying345
noncomputable def d346 : TypeDesc := Tryz.t346.desc
theorem u346 : Tryz.prog.underlying 346 = some d346 := Tryz.underlying346
noncomputable def d347 : TypeDesc := Tryz.t347.desc
theorem u347 : Tryz.prog.underlying 347 = some d347 := Tryz.underlying347
noncomputable def d348 : TypeDesc := Tryz.t348.desc
theorem u348 : Tryz.prog.underlying 348 = some d348 := Tryz.underlying348
noncomputable def d349 : TypeDesc := Tryz.t349.desc
theorem u349 : Tryz.prog.underlying 349 = some d349 := Tryz.underlying349
noncomputable def d350 : TypeDesc := Tryz.t350.desc
theorem u350 : Tryz.prog.underlying 350 = some d350 := Tryz.underlying350
noncomputable def d351 : TypeDesc := Tryz.t351.desc
theorem u351 : Tryz.prog.underlying 351 = some d351 := Tryz.underlying351
noncomputable def d352 : TypeDesc := Tryz.t352.desc
theorem u352 : Tryz.prog.underlying 352 = some d352 := Tryz.underlying352
noncomputable def d353 : TypeDesc := Tryz.t353.desc
theorem u353 : Tryz.prog.underlying 353 = some d353 := Tryz.underlying353
noncomputable def d354 : TypeDesc := Tryz.t354.desc
theorem u354 : Tryz.prog.underlying 354 = some d354 := Tryz.underlying354
noncomputable def d355 : TypeDesc := Tryz.t354.desc
theorem u355 : Tryz.prog.underlying 355 = some d355 := Tryz.underlying355
noncomputable def d356 : TypeDesc := Tryz.t356.desc
theorem u356 : Tryz.prog.underlying 356 = some d356 := Tryz.underlying356
noncomputable def d357 : TypeDesc := Tryz.t357.desc
theorem u357 : Tryz.prog.underlying 357 = some d357 := Tryz.underlying357
noncomputable def d358 : TypeDesc := Tryz.t357.desc
theorem u358 : Tryz.prog.underlying 358 = some d358 := Tryz.underlying358
noncomputable def d359 : TypeDesc := Tryz.t359.desc
theorem u359 : Tryz.prog.underlying 359 = some d359 := Tryz.underlying359
noncomputable def d360 : TypeDesc := Tryz.t359.desc
theorem u360 : Tryz.prog.underlying 360 = some d360 := Tryz.underlying360
noncomputable def d361 : TypeDesc := Tryz.t361.desc
theorem u361 : Tryz.prog.underlying 361 = some d361 := Tryz.underlying361
noncomputable def d362 : TypeDesc := Tryz.t362.desc
theorem u362 : Tryz.prog.underlying 362 = some d362 := Tryz.underlying362
noncomputable def d363 : TypeDesc := Tryz.t362.desc
theorem u363 : Tryz.prog.underlying 363 = some d363 := Tryz.underlying363
noncomputable def d364 : TypeDesc := Tryz.t364.desc
theorem u364 : Tryz.prog.underlying 364 = some d364 := Tryz.underlying364
noncomputable def d365 : TypeDesc := Tryz.t365.desc
theorem u365 : Tryz.prog.underlying 365 = some d365 := Tryz.underlying365
noncomputable def d366 : TypeDesc := Tryz.t366.desc
theorem u366 : Tryz.prog.underlying 366 = some d366 := Tryz.underlying366
noncomputable def d367 : TypeDesc := Tryz.t367.desc
theorem u367 : Tryz.prog.underlying 367 = some d367 := Tryz.underlying367
noncomputable def d368 : TypeDesc := Tryz.t368.desc
theorem u368 : Tryz.prog.underlying 368 = some d368 := Tryz.underlying368
noncomputable def d369 : TypeDesc := Tryz.t369.desc
theorem u369 : Tryz.prog.underlying 369 = some d369 := Tryz.underlying369
noncomputable def d370 : TypeDesc := Tryz.t369.desc
theorem u370 : Tryz.prog.underlying 370 = some d370 := Tryz.underlying370
noncomputable def d371 : TypeDesc := Tryz.t371.desc
theorem u371 : Tryz.prog.underlying 371 = some d371 := Tryz.underlying371
noncomputable def d372 : TypeDesc := Tryz.t372.desc
theorem u372 : Tryz.prog.underlying 372 = some d372 := Tryz.underlying372
noncomputable def d373 : TypeDesc := Tryz.t373.desc
theorem u373 : Tryz.prog.underlying 373 = some d373 := Tryz.underlying373
noncomputable def d374 : TypeDesc := Tryz.t374.desc
theorem u374 : Tryz.prog.underlying 374 = some d374 := Tryz.underlying374
noncomputable def d375 : TypeDesc := Tryz.t375.desc
theorem u375 : Tryz.prog.underlying 375 = some d375 := Tryz.underlying375
noncomputable def d376 : TypeDesc := Tryz.t376.desc
theorem u376 : Tryz.prog.underlying 376 = some d376 := Tryz.underlying376
noncomputable def d377 : TypeDesc := Tryz.t377.desc
theorem u377 : Tryz.prog.underlying 377 = some d377 := Tryz.underlying377
noncomputable def d378 : TypeDesc := Tryz.t378.desc
theorem u378 : Tryz.prog.underlying 378 = some d378 := Tryz.underlying378
noncomputable def d379 : TypeDesc := Tryz.t379.desc
theorem u379 : Tryz.prog.underlying 379 = some d379 := Tryz.underlying379
noncomputable def d380 : TypeDesc := Tryz.t380.desc
theorem u380 : Tryz.prog.underlying 380 = some d380 := Tryz.underlying380
noncomputable def d381 : TypeDesc := Tryz.t380.desc
theorem u381 : Tryz.prog.underlying 381 = some d381 := Tryz.underlying381
noncomputable def d382 : TypeDesc := Tryz.t382.desc
theorem u382 : Tryz.prog.underlying 382 = some d382 := Tryz.underlying382
noncomputable def d383 : TypeDesc := Tryz.t383.desc
theorem u383 : Tryz.prog.underlying 383 = some d383 := Tryz.underlying383
noncomputable def d384 : TypeDesc := Tryz.t384.desc
theorem u384 : Tryz.prog.underlying 384 = some d384 := Tryz.underlying384
noncomputable def d385 : TypeDesc := Tryz.t385.desc
theorem u385 : Tryz.prog.underlying 385 = some d385 := Tryz.underlying385
noncomputable def d386 : TypeDesc := Tryz.t386.desc
theorem u386 : Tryz.prog.underlying 386 = some d386 := Tryz.underlying386
noncomputable def d387 : TypeDesc := Tryz.t387.desc
theorem u387 : Tryz.prog.underlying 387 = some d387 := Tryz.underlying387
noncomputable def d388 : TypeDesc := Tryz.t388.desc
theorem u388 : Tryz.prog.underlying 388 = some d388 := Tryz.underlying388
noncomputable def d389 : TypeDesc := Tryz.t389.desc
theorem u389 : Tryz.prog.underlying 389 = some d389 := Tryz.underlying389
noncomputable def d390 : TypeDesc := Tryz.t390.desc
theorem u390 : Tryz.prog.underlying 390 = some d390 := Tryz.underlying390
noncomputable def d391 : TypeDesc := Tryz.t12.desc
theorem u391 : Tryz.prog.underlying 391 = some d391 := Tryz.underlying391
noncomputable def d392 : TypeDesc := Tryz.t392.desc
theorem u392 : Tryz.prog.underlying 392 = some d392 := Tryz.underlying392
noncomputable def d393 : TypeDesc := Tryz.t392.desc
theorem u393 : Tryz.prog.underlying 393 = some d393 := Tryz.underlying393
noncomputable def d394 : TypeDesc := Tryz.t394.desc
theorem u394 : Tryz.prog.underlying 394 = some d394 := Tryz.underlying394
noncomputable def d395 : TypeDesc := Tryz.t395.desc
theorem u395 : Tryz.prog.underlying 395 = some d395 := Tryz.underlying395
noncomputable def d396 : TypeDesc := Tryz.t395.desc
theorem u396 : Tryz.prog.underlying 396 = some d396 := Tryz.underlying396
noncomputable def d397 : TypeDesc := Tryz.t397.desc
theorem u397 : Tryz.prog.underlying 397 = some d397 := Tryz.underlying397
noncomputable def d398 : TypeDesc := Tryz.t5.desc
theorem u398 : Tryz.prog.underlying 398 = some d398 := Tryz.underlying398
noncomputable def d399 : TypeDesc := Tryz.t399.desc
theorem u399 : Tryz.prog.underlying 399 = some d399 := Tryz.underlying399
noncomputable def d400 : TypeDesc := Tryz.t400.desc
theorem u400 : Tryz.prog.underlying 400 = some d400 := Tryz.underlying400
noncomputable def d401 : TypeDesc := Tryz.t401.desc
theorem u401 : Tryz.prog.underlying 401 = some d401 := Tryz.underlying401
noncomputable def d402 : TypeDesc := Tryz.t402.desc
theorem u402 : Tryz.prog.underlying 402 = some d402 := Tryz.underlying402
noncomputable def d403 : TypeDesc := Tryz.t403.desc
theorem u403 : Tryz.prog.underlying 403 = some d403 := Tryz.underlying403
noncomputable def d404 : TypeDesc := Tryz.t404.desc
theorem u404 : Tryz.prog.underlying 404 = some d404 := Tryz.underlying404
noncomputable def d405 : TypeDesc := Tryz.t405.desc
theorem u405 : Tryz.prog.underlying 405 = some d405 := Tryz.underlying405
noncomputable def d406 : TypeDesc := Tryz.t405.desc
theorem u406 : Tryz.prog.underlying 406 = some d406 := Tryz.underlying406
noncomputable def d407 : TypeDesc := Tryz.t407.desc
theorem u407 : Tryz.prog.underlying 407 = some d407 := Tryz.underlying407
noncomputable def d408 : TypeDesc := Tryz.t408.desc
theorem u408 : Tryz.prog.underlying 408 = some d408 := Tryz.underlying408
noncomputable def d409 : TypeDesc := Tryz.t409.desc
theorem u409 : Tryz.prog.underlying 409 = some d409 := Tryz.underlying409
noncomputable def d410 : TypeDesc := Tryz.t410.desc
theorem u410 : Tryz.prog.underlying 410 = some d410 := Tryz.underlying410
noncomputable def d411 : TypeDesc := Tryz.t411.desc
theorem u411 : Tryz.prog.underlying 411 = some d411 := Tryz.underlying411
noncomputable def d412 : TypeDesc := Tryz.t3.desc
theorem u412 : Tryz.prog.underlying 412 = some d412 := Tryz.underlying412
noncomputable def d413 : TypeDesc := Tryz.t413.desc
theorem u413 : Tryz.prog.underlying 413 = some d413 := Tryz.underlying413
noncomputable def d414 : TypeDesc := Tryz.t414.desc
theorem u414 : Tryz.prog.underlying 414 = some d414 := Tryz.underlying414
noncomputable def d415 : TypeDesc := Tryz.t415.desc
theorem u415 : Tryz.prog.underlying 415 = some d415 := Tryz.underlying415
noncomputable def d416 : TypeDesc := Tryz.t416.desc
theorem u416 : Tryz.prog.underlying 416 = some d416 := Tryz.underlying416
noncomputable def d417 : TypeDesc := Tryz.t416.desc
theorem u417 : Tryz.prog.underlying 417 = some d417 := Tryz.underlying417
noncomputable def d418 : TypeDesc := Tryz.t418.desc
theorem u418 : Tryz.prog.underlying 418 = some d418 := Tryz.underlying418
noncomputable def d419 : TypeDesc := Tryz.t419.desc
theorem u419 : Tryz.prog.underlying 419 = some d419 := Tryz.underlying419
noncomputable def d420 : TypeDesc := Tryz.t420.desc
theorem u420 : Tryz.prog.underlying 420 = some d420 := Tryz.underlying420
noncomputable def d421 : TypeDesc := Tryz.t421.desc
theorem u421 : Tryz.prog.underlying 421 = some d421 := Tryz.underlying421
noncomputable def d422 : TypeDesc := Tryz.t422.desc
theorem u422 : Tryz.prog.underlying 422 = some d422 := Tryz.underlying422
noncomputable def d423 : TypeDesc := Tryz.t423.desc
theorem u423 : Tryz.prog.underlying 423 = some d423 := Tryz.underlying423
noncomputable def d424 : TypeDesc := Tryz.t423.desc
theorem u424 : Tryz.prog.underlying 424 = some d424 := Tryz.underlying424
noncomputable def d425 : TypeDesc := Tryz.t425.desc
theorem u425 : Tryz.prog.underlying 425 = some d425 := Tryz.underlying425
noncomputable def d426 : TypeDesc := Tryz.t426.desc
theorem u426 : Tryz.prog.underlying 426 = some d426 := Tryz.underlying426
noncomputable def d427 : TypeDesc := Tryz.t427.desc
theorem u427 : Tryz.prog.underlying 427 = some d427 := Tryz.underlying427
noncomputable def d428 : TypeDesc := Tryz.t428.desc
theorem u428 : Tryz.prog.underlying 428 = some d428 := Tryz.underlying428
noncomputable def d429 : TypeDesc := Tryz.t429.desc
theorem u429 : Tryz.prog.underlying 429 = some d429 := Tryz.underlying429
noncomputable def d430 : TypeDesc := Tryz.t430.desc
theorem u430 : Tryz.prog.underlying 430 = some d430 := Tryz.underlying430
noncomputable def d431 : TypeDesc := Tryz.t431.desc
theorem u431 : Tryz.prog.underlying 431 = some d431 := Tryz.underlying431
noncomputable def d432 : TypeDesc := Tryz.t432.desc
theorem u432 : Tryz.prog.underlying 432 = some d432 := Tryz.underlying432
noncomputable def d433 : TypeDesc := Tryz.t433.desc
theorem u433 : Tryz.prog.underlying 433 = some d433 := Tryz.underlying433
noncomputable def d434 : TypeDesc := Tryz.t434.desc
theorem u434 : Tryz.prog.underlying 434 = some d434 := Tryz.underlying434
noncomputable def d435 : TypeDesc := Tryz.t435.desc
theorem u435 : Tryz.prog.underlying 435 = some d435 := Tryz.underlying435
noncomputable def d436 : TypeDesc := Tryz.t436.desc
theorem u436 : Tryz.prog.underlying 436 = some d436 := Tryz.underlying436
noncomputable def d437 : TypeDesc := Tryz.t437.desc
theorem u437 : Tryz.prog.underlying 437 = some d437 := Tryz.underlying437
noncomputable def d438 : TypeDesc := Tryz.t438.desc
theorem u438 : Tryz.prog.underlying 438 = some d438 := Tryz.underlying438
noncomputable def d439 : TypeDesc := Tryz.t439.desc
theorem u439 : Tryz.prog.underlying 439 = some d439 := Tryz.underlying439
noncomputable def d440 : TypeDesc := Tryz.t440.desc
theorem u440 : Tryz.prog.underlying 440 = some d440 := Tryz.underlying440
noncomputable def d441 : TypeDesc := Tryz.t441.desc
theorem u441 : Tryz.prog.underlying 441 = some d441 := Tryz.underlying441
noncomputable def d442 : TypeDesc := Tryz.t442.desc
theorem u442 : Tryz.prog.underlying 442 = some d442 := Tryz.underlying442
noncomputable def d443 : TypeDesc := Tryz.t443.desc
theorem u443 : Tryz.prog.underlying 443 = some d443 := Tryz.underlying443
noncomputable def d444 : TypeDesc := Tryz.t444.desc
theorem u444 : Tryz.prog.underlying 444 = some d444 := Tryz.underlying444
noncomputable def d445 : TypeDesc := Tryz.t445.desc
theorem u445 : Tryz.prog.underlying 445 = some d445 := Tryz.underlying445
noncomputable def d446 : TypeDesc := Tryz.t445.desc
theorem u446 : Tryz.prog.underlying 446 = some d446 := Tryz.underlying446
noncomputable def d447 : TypeDesc := Tryz.t447.desc
theorem u447 : Tryz.prog.underlying 447 = some d447 := Tryz.underlying447
noncomputable def d448 : TypeDesc := Tryz.t448.desc
theorem u448 : Tryz.prog.underlying 448 = some d448 := Tryz.underlying448
noncomputable def d449 : TypeDesc := Tryz.t449.desc
theorem u449 : Tryz.prog.underlying 449 = some d449 := Tryz.underlying449
noncomputable def d450 : TypeDesc := Tryz.t450.desc
theorem u450 : Tryz.prog.underlying 450 = some d450 := Tryz.underlying450
noncomputable def d451 : TypeDesc := Tryz.t451.desc
theorem u451 : Tryz.prog.underlying 451 = some d451 := Tryz.underlying451
noncomputable def d452 : TypeDesc := Tryz.t452.desc
theorem u452 : Tryz.prog.underlying 452 = some d452 := Tryz.underlying452
noncomputable def d453 : TypeDesc := Tryz.t453.desc
theorem u453 : Tryz.prog.underlying 453 = some d453 := Tryz.underlying453
noncomputable def d454 : TypeDesc := Tryz.t454.desc
theorem u454 : Tryz.prog.underlying 454 = some d454 := Tryz.underlying454
noncomputable def d455 : TypeDesc := Tryz.t455.desc
theorem u455 : Tryz.prog.underlying 455 = some d455 := Tryz.underlying455
noncomputable def d456 : TypeDesc := Tryz.t456.desc
theorem u456 : Tryz.prog.underlying 456 = some d456 := Tryz.underlying456
noncomputable def d457 : TypeDesc := Tryz.t457.desc
theorem u457 : Tryz.prog.underlying 457 = some d457 := Tryz.underlying457
noncomputable def d458 : TypeDesc := Tryz.t458.desc
theorem u458 : Tryz.prog.underlying 458 = some d458 := Tryz.underlying458
noncomputable def d459 : TypeDesc := Tryz.t459.desc
theorem u459 : Tryz.prog.underlying 459 = some d459 := Tryz.underlying459
noncomputable def d460 : TypeDesc := Tryz.t460.desc
theorem u460 : Tryz.prog.underlying 460 = some d460 := Tryz.underlying460
noncomputable def d461 : TypeDesc := Tryz.t461.desc
theorem u461 : Tryz.prog.underlying 461 = some d461 := Tryz.underlying461
noncomputable def d462 : TypeDesc := Tryz.t462.desc
theorem u462 : Tryz.prog.underlying 462 = some d462 := Tryz.underlying462
noncomputable def d463 : TypeDesc := Tryz.t463.desc
theorem u463 : Tryz.prog.underlying 463 = some d463 := Tryz.underlying463
noncomputable def d464 : TypeDesc := Tryz.t464.desc
theorem u464 : Tryz.prog.underlying 464 = some d464 := Tryz.underlying464
noncomputable def d465 : TypeDesc := Tryz.t465.desc
theorem u465 : Tryz.prog.underlying 465 = some d465 := Tryz.underlying465
noncomputable def d466 : TypeDesc := Tryz.t466.desc
theorem u466 : Tryz.prog.underlying 466 = some d466 := Tryz.underlying466
noncomputable def d467 : TypeDesc := Tryz.t467.desc
theorem u467 : Tryz.prog.underlying 467 = some d467 := Tryz.underlying467
noncomputable def d468 : TypeDesc := Tryz.t468.desc
theorem u468 : Tryz.prog.underlying 468 = some d468 := Tryz.underlying468
noncomputable def d469 : TypeDesc := Tryz.t469.desc
theorem u469 : Tryz.prog.underlying 469 = some d469 := Tryz.underlying469
noncomputable def d470 : TypeDesc := Tryz.t470.desc
theorem u470 : Tryz.prog.underlying 470 = some d470 := Tryz.underlying470
noncomputable def d471 : TypeDesc := Tryz.t471.desc
theorem u471 : Tryz.prog.underlying 471 = some d471 := Tryz.underlying471
noncomputable def d472 : TypeDesc := Tryz.t472.desc
theorem u472 : Tryz.prog.underlying 472 = some d472 := Tryz.underlying472
noncomputable def d473 : TypeDesc := Tryz.t472.desc
theorem u473 : Tryz.prog.underlying 473 = some d473 := Tryz.underlying473
noncomputable def d474 : TypeDesc := Tryz.t474.desc
theorem u474 : Tryz.prog.underlying 474 = some d474 := Tryz.underlying474
noncomputable def d475 : TypeDesc := Tryz.t475.desc
theorem u475 : Tryz.prog.underlying 475 = some d475 := Tryz.underlying475
noncomputable def d476 : TypeDesc := Tryz.t476.desc
theorem u476 : Tryz.prog.underlying 476 = some d476 := Tryz.underlying476
noncomputable def d477 : TypeDesc := Tryz.t477.desc
theorem u477 : Tryz.prog.underlying 477 = some d477 := Tryz.underlying477
noncomputable def d478 : TypeDesc := Tryz.t478.desc
theorem u478 : Tryz.prog.underlying 478 = some d478 := Tryz.underlying478
noncomputable def d479 : TypeDesc := Tryz.t479.desc
theorem u479 : Tryz.prog.underlying 479 = some d479 := Tryz.underlying479
noncomputable def d480 : TypeDesc := Tryz.t480.desc
theorem u480 : Tryz.prog.underlying 480 = some d480 := Tryz.underlying480
noncomputable def d481 : TypeDesc := Tryz.t481.desc
theorem u481 : Tryz.prog.underlying 481 = some d481 := Tryz.underlying481
noncomputable def d482 : TypeDesc := Tryz.t482.desc
theorem u482 : Tryz.prog.underlying 482 = some d482 := Tryz.underlying482
noncomputable def d483 : TypeDesc := Tryz.t3.desc
theorem u483 : Tryz.prog.underlying 483 = some d483 := Tryz.underlying483
noncomputable def d484 : TypeDesc := Tryz.t484.desc
theorem u484 : Tryz.prog.underlying 484 = some d484 := Tryz.underlying484
noncomputable def d485 : TypeDesc := Tryz.t485.desc
theorem u485 : Tryz.prog.underlying 485 = some d485 := Tryz.underlying485
noncomputable def d486 : TypeDesc := Tryz.t486.desc
theorem u486 : Tryz.prog.underlying 486 = some d486 := Tryz.underlying486
noncomputable def d487 : TypeDesc := Tryz.t487.desc
theorem u487 : Tryz.prog.underlying 487 = some d487 := Tryz.underlying487
noncomputable def d488 : TypeDesc := Tryz.t488.desc
theorem u488 : Tryz.prog.underlying 488 = some d488 := Tryz.underlying488
noncomputable def d489 : TypeDesc := Tryz.t489.desc
theorem u489 : Tryz.prog.underlying 489 = some d489 := Tryz.underlying489
noncomputable def d490 : TypeDesc := Tryz.t490.desc
theorem u490 : Tryz.prog.underlying 490 = some d490 := Tryz.underlying490
noncomputable def d491 : TypeDesc := Tryz.t491.desc
theorem u491 : Tryz.prog.underlying 491 = some d491 := Tryz.underlying491
noncomputable def d492 : TypeDesc := Tryz.t492.desc
theorem u492 : Tryz.prog.underlying 492 = some d492 := Tryz.underlying492
noncomputable def d493 : TypeDesc := Tryz.t493.desc
theorem u493 : Tryz.prog.underlying 493 = some d493 := Tryz.underlying493
noncomputable def d494 : TypeDesc := Tryz.t494.desc
theorem u494 : Tryz.prog.underlying 494 = some d494 := Tryz.underlying494
noncomputable def d495 : TypeDesc := Tryz.t495.desc
theorem u495 : Tryz.prog.underlying 495 = some d495 := Tryz.underlying495
noncomputable def d496 : TypeDesc := Tryz.t495.desc
theorem u496 : Tryz.prog.underlying 496 = some d496 := Tryz.underlying496
noncomputable def d497 : TypeDesc := Tryz.t497.desc
theorem u497 : Tryz.prog.underlying 497 = some d497 := Tryz.underlying497
noncomputable def d498 : TypeDesc := Tryz.t498.desc
theorem u498 : Tryz.prog.underlying 498 = some d498 := Tryz.underlying498
noncomputable def d499 : TypeDesc := Tryz.t499.desc
theorem u499 : Tryz.prog.underlying 499 = some d499 := Tryz.underlying499
noncomputable def d500 : TypeDesc := Tryz.t500.desc
theorem u500 : Tryz.prog.underlying 500 = some d500 := Tryz.underlying500
noncomputable def d501 : TypeDesc := Tryz.t500.desc
theorem u501 : Tryz.prog.underlying 501 = some d501 := Tryz.underlying501
noncomputable def d502 : TypeDesc := Tryz.t502.desc
theorem u502 : Tryz.prog.underlying 502 = some d502 := Tryz.underlying502
noncomputable def d503 : TypeDesc := Tryz.t502.desc
theorem u503 : Tryz.prog.underlying 503 = some d503 := Tryz.underlying503
noncomputable def d504 : TypeDesc := Tryz.t504.desc
theorem u504 : Tryz.prog.underlying 504 = some d504 := Tryz.underlying504
noncomputable def d505 : TypeDesc := Tryz.t505.desc
theorem u505 : Tryz.prog.underlying 505 = some d505 := Tryz.underlying505
noncomputable def d506 : TypeDesc := Tryz.t505.desc
theorem u506 : Tryz.prog.underlying 506 = some d506 := Tryz.underlying506
noncomputable def d507 : TypeDesc := Tryz.t507.desc
theorem u507 : Tryz.prog.underlying 507 = some d507 := Tryz.underlying507
noncomputable def d508 : TypeDesc := Tryz.t5.desc
theorem u508 : Tryz.prog.underlying 508 = some d508 := Tryz.underlying508
noncomputable def d509 : TypeDesc := Tryz.t509.desc
theorem u509 : Tryz.prog.underlying 509 = some d509 := Tryz.underlying509
noncomputable def d510 : TypeDesc := Tryz.t21.desc
theorem u510 : Tryz.prog.underlying 510 = some d510 := Tryz.underlying510
noncomputable def d511 : TypeDesc := Tryz.t21.desc
theorem u511 : Tryz.prog.underlying 511 = some d511 := Tryz.underlying511
noncomputable def d512 : TypeDesc := Tryz.t512.desc
theorem u512 : Tryz.prog.underlying 512 = some d512 := Tryz.underlying512
noncomputable def d513 : TypeDesc := Tryz.t512.desc
theorem u513 : Tryz.prog.underlying 513 = some d513 := Tryz.underlying513
noncomputable def d514 : TypeDesc := Tryz.t514.desc
theorem u514 : Tryz.prog.underlying 514 = some d514 := Tryz.underlying514
noncomputable def d515 : TypeDesc := Tryz.t515.desc
theorem u515 : Tryz.prog.underlying 515 = some d515 := Tryz.underlying515
noncomputable def d516 : TypeDesc := Tryz.t516.desc
theorem u516 : Tryz.prog.underlying 516 = some d516 := Tryz.underlying516
noncomputable def d517 : TypeDesc := Tryz.t517.desc
theorem u517 : Tryz.prog.underlying 517 = some d517 := Tryz.underlying517
noncomputable def d518 : TypeDesc := Tryz.t517.desc
theorem u518 : Tryz.prog.underlying 518 = some d518 := Tryz.underlying518
noncomputable def d519 : TypeDesc := Tryz.t519.desc
theorem u519 : Tryz.prog.underlying 519 = some d519 := Tryz.underlying519
noncomputable def d520 : TypeDesc := Tryz.t520.desc
theorem u520 : Tryz.prog.underlying 520 = some d520 := Tryz.underlying520
noncomputable def d521 : TypeDesc := Tryz.t521.desc
theorem u521 : Tryz.prog.underlying 521 = some d521 := Tryz.underlying521
noncomputable def d522 : TypeDesc := Tryz.t522.desc
theorem u522 : Tryz.prog.underlying 522 = some d522 := Tryz.underlying522
noncomputable def d523 : TypeDesc := Tryz.t522.desc
theorem u523 : Tryz.prog.underlying 523 = some d523 := Tryz.underlying523
noncomputable def d524 : TypeDesc := Tryz.t524.desc
theorem u524 : Tryz.prog.underlying 524 = some d524 := Tryz.underlying524
noncomputable def d525 : TypeDesc := Tryz.t21.desc
theorem u525 : Tryz.prog.underlying 525 = some d525 := Tryz.underlying525
noncomputable def d526 : TypeDesc := Tryz.t526.desc
theorem u526 : Tryz.prog.underlying 526 = some d526 := Tryz.underlying526
noncomputable def d527 : TypeDesc := Tryz.t526.desc
theorem u527 : Tryz.prog.underlying 527 = some d527 := Tryz.underlying527
noncomputable def d528 : TypeDesc := Tryz.t528.desc
theorem u528 : Tryz.prog.underlying 528 = some d528 := Tryz.underlying528
theorem n0 : (Tryz.f0.name == "runtime.NumGoroutine") = false := by decide
theorem n1 : (Tryz.f1.name == "runtime.NumGoroutine") = false := by decide
theorem n2 : (Tryz.f2.name == "runtime.NumGoroutine") = false := by decide
theorem n3 : (Tryz.f3.name == "runtime.NumGoroutine") = false := by decide
theorem n4 : (Tryz.f4.name == "runtime.NumGoroutine") = false := by decide
theorem n5 : (Tryz.f5.name == "runtime.NumGoroutine") = false := by decide
theorem n6 : (Tryz.f6.name == "runtime.NumGoroutine") = false := by decide
theorem n7 : (Tryz.f7.name == "runtime.NumGoroutine") = false := by decide
theorem n8 : (Tryz.f8.name == "runtime.NumGoroutine") = false := by decide
theorem n9 : (Tryz.f9.name == "runtime.NumGoroutine") = false := by decide
theorem n10 : (Tryz.f10.name == "runtime.NumGoroutine") = false := by decide
theorem n11 : (Tryz.f11.name == "runtime.NumGoroutine") = false := by decide
theorem n12 : (Tryz.f12.name == "runtime.NumGoroutine") = false := by decide
theorem n13 : (Tryz.f13.name == "runtime.NumGoroutine") = false := by decide
theorem n14 : (Tryz.f14.name == "runtime.NumGoroutine") = false := by decide
theorem n15 : (Tryz.f15.name == "runtime.NumGoroutine") = false := by decide
theorem n16 : (Tryz.f16.name == "runtime.NumGoroutine") = false := by decide
theorem n17 : (Tryz.f17.name == "runtime.NumGoroutine") = false := by decide
theorem n18 : (Tryz.f18.name == "runtime.NumGoroutine") = false := by decide
theorem n19 : (Tryz.f19.name == "runtime.NumGoroutine") = false := by decide
theorem n20 : (Tryz.f20.name == "runtime.NumGoroutine") = false := by decide
theorem n21 : (Tryz.f21.name == "runtime.NumGoroutine") = false := by decide
theorem n22 : (Tryz.f22.name == "runtime.NumGoroutine") = false := by decide
theorem n23 : (Tryz.f23.name == "runtime.NumGoroutine") = false := by decide
theorem n24 : (Tryz.f24.name == "runtime.NumGoroutine") = false := by decide
theorem n25 : (Tryz.f25.name == "runtime.NumGoroutine") = false := by decide
theorem n26 : (Tryz.f26.name == "runtime.NumGoroutine") = false := by decide
theorem n27 : (Tryz.f27.name == "runtime.NumGoroutine") = false := by decide
theorem n28 : (Tryz.f28.name == "runtime.NumGoroutine") = false := by decide
theorem n29 : (Tryz.f29.name == "runtime.NumGoroutine") = false := by decide
theorem n30 : (Tryz.f30.name == "runtime.NumGoroutine") = false := by decide
theorem n31 : (Tryz.f31.name == "runtime.NumGoroutine") = false := by decide
theorem n32 : (Tryz.f32.name == "runtime.NumGoroutine") = false := by decide
theorem n33 : (Tryz.f33.name == "runtime.NumGoroutine") = false := by decide
theorem n34 : (Tryz.f34.name == "runtime.NumGoroutine") = false := by decide
theorem n35 : (Tryz.f35.name == "runtime.NumGoroutine") = false := by decide
theorem n36 : (Tryz.f36.name == "runtime.NumGoroutine") = false := by decide
theorem n37 : (Tryz.f37.name == "runtime.NumGoroutine") = false := by decide
theorem n38 : (Tryz.f38.name == "runtime.NumGoroutine") = false := by decide
theorem n39 : (Tryz.f39.name == "runtime.NumGoroutine") = false := by decide
theorem n40 : (Tryz.f40.name == "runtime.NumGoroutine") = false := by decide
theorem n41 : (Tryz.f41.name == "runtime.NumGoroutine") = false := by decide
theorem n42 : (Tryz.f42.name == "runtime.NumGoroutine") = false := by decide
theorem n43 : (Tryz.f43.name == "runtime.NumGoroutine") = false := by decide
theorem n44 : (Tryz.f44.name == "runtime.NumGoroutine") = false := by decide
theorem n45 : (Tryz.f45.name == "runtime.NumGoroutine") = false := by decide
theorem n46 : (Tryz.f46.name == "runtime.NumGoroutine") = false := by decide
theorem n47 : (Tryz.f47.name == "runtime.NumGoroutine") = false := by decide
theorem n48 : (Tryz.f48.name == "runtime.NumGoroutine") = false := by decide
theorem n49 : (Tryz.f49.name == "runtime.NumGoroutine") = false := by decide
theorem n50 : (Tryz.f50.name == "runtime.NumGoroutine") = false := by decide
theorem n51 : (Tryz.f51.name == "runtime.NumGoroutine") = false := by decide
theorem n52 : (Tryz.f52.name == "runtime.NumGoroutine") = false := by decide
theorem n53 : (Tryz.f53.name == "runtime.NumGoroutine") = false := by decide
theorem n54 : (Tryz.f54.name == "runtime.NumGoroutine") = false := by decide
theorem n55 : (Tryz.f55.name == "runtime.NumGoroutine") = false := by decide
theorem n56 : (Tryz.f56.name == "runtime.NumGoroutine") = false := by decide
theorem n57 : (Tryz.f57.name == "runtime.NumGoroutine") = false := by decide
theorem n58 : (Tryz.f58.name == "runtime.NumGoroutine") = false := by decide
theorem n59 : (Tryz.f59.name == "runtime.NumGoroutine") = false := by decide
theorem n60 : (Tryz.f60.name == "runtime.NumGoroutine") = false := by decide
theorem n61 : (Tryz.f61.name == "runtime.NumGoroutine") = false := by decide
theorem n62 : (Tryz.f62.name == "runtime.NumGoroutine") = false := by decide
theorem n63 : (Tryz.f63.name == "runtime.NumGoroutine") = false := by decide
theorem n64 : (Tryz.f64.name == "runtime.NumGoroutine") = false := by decide
theorem n65 : (Tryz.f65.name == "runtime.NumGoroutine") = false := by decide
theorem n66 : (Tryz.f66.name == "runtime.NumGoroutine") = false := by decide
theorem n67 : (Tryz.f67.name == "runtime.NumGoroutine") = false := by decide
theorem n68 : (Tryz.f68.name == "runtime.NumGoroutine") = false := by decide
theorem n69 : (Tryz.f69.name == "runtime.NumGoroutine") = false := by decide
theorem n70 : (Tryz.f70.name == "runtime.NumGoroutine") = false := by decide
theorem n71 : (Tryz.f71.name == "runtime.NumGoroutine") = false := by decide
theorem n72 : (Tryz.f72.name == "runtime.NumGoroutine") = false := by decide
theorem n73 : (Tryz.f73.name == "runtime.NumGoroutine") = false := by decide
theorem n74 : (Tryz.f74.name == "runtime.NumGoroutine") = false := by decide
theorem n75 : (Tryz.f75.name == "runtime.NumGoroutine") = false := by decide
theorem n76 : (Tryz.f76.name == "runtime.NumGoroutine") = false := by decide
theorem n77 : (Tryz.f77.name == "runtime.NumGoroutine") = false := by decide
theorem n78 : (Tryz.f78.name == "runtime.NumGoroutine") = false := by decide
theorem n79 : (Tryz.f79.name == "runtime.NumGoroutine") = false := by decide
theorem n80 : (Tryz.f80.name == "runtime.NumGoroutine") = false := by decide
theorem n81 : (Tryz.f81.name == "runtime.NumGoroutine") = false := by decide
theorem n82 : (Tryz.f82.name == "runtime.NumGoroutine") = false := by decide
theorem n83 : (Tryz.f83.name == "runtime.NumGoroutine") = false := by decide
theorem n84 : (Tryz.f84.name == "runtime.NumGoroutine") = false := by decide
theorem n85 : (Tryz.f85.name == "runtime.NumGoroutine") = false := by decide
theorem n86 : (Tryz.f86.name == "runtime.NumGoroutine") = false := by decide
theorem n87 : (Tryz.f87.name == "runtime.NumGoroutine") = false := by decide
theorem n88 : (Tryz.f88.name == "runtime.NumGoroutine") = false := by decide
theorem n89 : (Tryz.f89.name == "runtime.NumGoroutine") = false := by decide
theorem n90 : (Tryz.f90.name == "runtime.NumGoroutine") = false := by decide
theorem n91 : (Tryz.f91.name == "runtime.NumGoroutine") = false := by decide
theorem n92 : (Tryz.f92.name == "runtime.NumGoroutine") = false := by decide
theorem n93 : (Tryz.f93.name == "runtime.NumGoroutine") = false := by decide
theorem n94 : (Tryz.f94.name == "runtime.NumGoroutine") = false := by decide
theorem n95 : (Tryz.f95.name == "runtime.NumGoroutine") = false := by decide
theorem n96 : (Tryz.f96.name == "runtime.NumGoroutine") = false := by decide
theorem n97 : (Tryz.f97.name == "runtime.NumGoroutine") = false := by decide
theorem n98 : (Tryz.f98.name == "runtime.NumGoroutine") = false := by decide
theorem n99 : (Tryz.f99.name == "runtime.NumGoroutine") = false := by decide
theorem n100 : (Tryz.f100.name == "runtime.NumGoroutine") = false := by decide
theorem n101 : (Tryz.f101.name == "runtime.NumGoroutine") = false := by decide
theorem n102 : (Tryz.f102.name == "runtime.NumGoroutine") = false := by decide
theorem n103 : (Tryz.f103.name == "runtime.NumGoroutine") = false := by decide
theorem n104 : (Tryz.f104.name == "runtime.NumGoroutine") = false := by decide
theorem n105 : (Tryz.f105.name == "runtime.NumGoroutine") = false := by decide
theorem n106 : (Tryz.f106.name == "runtime.NumGoroutine") = false := by decide
theorem n107 : (Tryz.f107.name == "runtime.NumGoroutine") = false := by decide
theorem n108 : (Tryz.f108.name == "runtime.NumGoroutine") = false := by decide
theorem n109 : (Tryz.f109.name == "runtime.NumGoroutine") = false := by decide
theorem n110 : (Tryz.f110.name == "runtime.NumGoroutine") = false := by decide
theorem n111 : (Tryz.f111.name == "runtime.NumGoroutine") = false := by decide
theorem n112 : (Tryz.f112.name == "runtime.NumGoroutine") = false := by decide
theorem n113 : (Tryz.f113.name == "runtime.NumGoroutine") = false := by decide
theorem n114 : (Tryz.f114.name == "runtime.NumGoroutine") = false := by decide
theorem n115 : (Tryz.f115.name == "runtime.NumGoroutine") = false := by decide
theorem n116 : (Tryz.f116.name == "runtime.NumGoroutine") = false := by decide
theorem n117 : (Tryz.f117.name == "runtime.NumGoroutine") = false := by decide
theorem n118 : (Tryz.f118.name == "runtime.NumGoroutine") = false := by decide
theorem n119 : (Tryz.f119.name == "runtime.NumGoroutine") = false := by decide
theorem n120 : (Tryz.f120.name == "runtime.NumGoroutine") = false := by decide
theorem n121 : (Tryz.f121.name == "runtime.NumGoroutine") = false := by decide
theorem n122 : (Tryz.f122.name == "runtime.NumGoroutine") = false := by decide
theorem n123 : (Tryz.f123.name == "runtime.NumGoroutine") = false := by decide
theorem n124 : (Tryz.f124.name == "runtime.NumGoroutine") = false := by decide
theorem n125 : (Tryz.f125.name == "runtime.NumGoroutine") = false := by decide
theorem n126 : (Tryz.f126.name == "runtime.NumGoroutine") = false := by decide
theorem n127 : (Tryz.f127.name == "runtime.NumGoroutine") = false := by decide
theorem n128 : (Tryz.f128.name == "runtime.NumGoroutine") = false := by decide
theorem n129 : (Tryz.f129.name == "runtime.NumGoroutine") = false := by decide
theorem n130 : (Tryz.f130.name == "runtime.NumGoroutine") = false := by decide
theorem n131 : (Tryz.f131.name == "runtime.NumGoroutine") = false := by decide
theorem n132 : (Tryz.f132.name == "runtime.NumGoroutine") = false := by decide
theorem n133 : (Tryz.f133.name == "runtime.NumGoroutine") = false := by decide
theorem n134 : (Tryz.f134.name == "runtime.NumGoroutine") = false := by decide
theorem n135 : (Tryz.f135.name == "runtime.NumGoroutine") = false := by decide
theorem n136 : (Tryz.f136.name == "runtime.NumGoroutine") = false := by decide
theorem n137 : (Tryz.f137.name == "runtime.NumGoroutine") = false := by decide
theorem n138 : (Tryz.f138.name == "runtime.NumGoroutine") = false := by decide
theorem n139 : (Tryz.f139.name == "runtime.NumGoroutine") = false := by decide
theorem n140 : (Tryz.f140.name == "runtime.NumGoroutine") = false := by decide
theorem n141 : (Tryz.f141.name == "runtime.NumGoroutine") = false := by decide
theorem n142 : (Tryz.f142.name == "runtime.NumGoroutine") = false := by decide
theorem n143 : (Tryz.f143.name == "runtime.NumGoroutine") = false := by decide
theorem n144 : (Tryz.f144.name == "runtime.NumGoroutine") = false := by decide
theorem n145 : (Tryz.f145.name == "runtime.NumGoroutine") = false := by decide
theorem n146 : (Tryz.f146.name == "runtime.NumGoroutine") = false := by decide
theorem n147 : (Tryz.f147.name == "runtime.NumGoroutine") = false := by decide
theorem n148 : (Tryz.f148.name == "runtime.NumGoroutine") = false := by decide
theorem n149 : (Tryz.f149.name == "runtime.NumGoroutine") = false := by decide
theorem n150 : (Tryz.f150.name == "runtime.NumGoroutine") = false := by decide
theorem n151 : (Tryz.f151.name == "runtime.NumGoroutine") = false := by decide
theorem n152 : (Tryz.f152.name == "runtime.NumGoroutine") = false := by decide
theorem n153 : (Tryz.f153.name == "runtime.NumGoroutine") = false := by decide
theorem n154 : (Tryz.f154.name == "runtime.NumGoroutine") = false := by decide
theorem n155 : (Tryz.f155.name == "runtime.NumGoroutine") = false := by decide
theorem n156 : (Tryz.f156.name == "runtime.NumGoroutine") = false := by decide
theorem n157 : (Tryz.f157.name == "runtime.NumGoroutine") = false := by decide
theorem n158 : (Tryz.f158.name == "runtime.NumGoroutine") = false := by decide
theorem n159 : (Tryz.f159.name == "runtime.NumGoroutine") = false := by decide
theorem n160 : (Tryz.f160.name == "runtime.NumGoroutine") = false := by decide
theorem n161 : (Tryz.f161.name == "runtime.NumGoroutine") = false := by decide
theorem n162 : (Tryz.f162.name == "runtime.NumGoroutine") = false := by decide
theorem n163 : (Tryz.f163.name == "runtime.NumGoroutine") = false := by decide
theorem n164 : (Tryz.f164.name == "runtime.NumGoroutine") = false := by decide
theorem n165 : (Tryz.f165.name == "runtime.NumGoroutine") = false := by decide
theorem n166 : (Tryz.f166.name == "runtime.NumGoroutine") = false := by decide
theorem n167 : (Tryz.f167.name == "runtime.NumGoroutine") = false := by decide
theorem n168 : (Tryz.f168.name == "runtime.NumGoroutine") = false := by decide
theorem n169 : (Tryz.f169.name == "runtime.NumGoroutine") = false := by decide
theorem n170 : (Tryz.f170.name == "runtime.NumGoroutine") = false := by decide
theorem n171 : (Tryz.f171.name == "runtime.NumGoroutine") = false := by decide
theorem n172 : (Tryz.f172.name == "runtime.NumGoroutine") = false := by decide
theorem n173 : (Tryz.f173.name == "runtime.NumGoroutine") = false := by decide
theorem n174 : (Tryz.f174.name == "runtime.NumGoroutine") = false := by decide
theorem n175 : (Tryz.f175.name == "runtime.NumGoroutine") = false := by decide
theorem n176 : (Tryz.f176.name == "runtime.NumGoroutine") = false := by decide
theorem n177 : (Tryz.f177.name == "runtime.NumGoroutine") = false := by decide
theorem n178 : (Tryz.f178.name == "runtime.NumGoroutine") = false := by decide
theorem n179 : (Tryz.f179.name == "runtime.NumGoroutine") = false := by decide
theorem n180 : (Tryz.f180.name == "runtime.NumGoroutine") = false := by decide
theorem n181 : (Tryz.f181.name == "runtime.NumGoroutine") = false := by decide
theorem n182 : (Tryz.f182.name == "runtime.NumGoroutine") = false := by decide
theorem n183 : (Tryz.f183.name == "runtime.NumGoroutine") = false := by decide
theorem n184 : (Tryz.f184.name == "runtime.NumGoroutine") = false := by decide
theorem n185 : (Tryz.f185.name == "runtime.NumGoroutine") = false := by decide
theorem n186 : (Tryz.f186.name == "runtime.NumGoroutine") = false := by decide
theorem n187 : (Tryz.f187.name == "runtime.NumGoroutine") = false := by decide
theorem n188 : (Tryz.f188.name == "runtime.NumGoroutine") = false := by decide
theorem n189 : (Tryz.f189.name == "runtime.NumGoroutine") = false := by decide
theorem n190 : (Tryz.f190.name == "runtime.NumGoroutine") = false := by decide
theorem n191 : (Tryz.f191.name == "runtime.NumGoroutine") = false := by decide
theorem n192 : (Tryz.f192.name == "runtime.NumGoroutine") = false := by decide
theorem n193 : (Tryz.f193.name == "runtime.NumGoroutine") = false := by decide
theorem n194 : (Tryz.f194.name == "runtime.NumGoroutine") = false := by decide
theorem n195 : (Tryz.f195.name == "runtime.NumGoroutine") = false := by decide
theorem n196 : (Tryz.f196.name == "runtime.NumGoroutine") = false := by decide
theorem n197 : (Tryz.f197.name == "runtime.NumGoroutine") = false := by decide
theorem n198 : (Tryz.f198.name == "runtime.NumGoroutine") = false := by decide
theorem n199 : (Tryz.f199.name == "runtime.NumGoroutine") = false := by decide
theorem n200 : (Tryz.f200.name == "runtime.NumGoroutine") = false := by decide
theorem n201 : (Tryz.f201.name == "runtime.NumGoroutine") = false := by decide
theorem n202 : (Tryz.f202.name == "runtime.NumGoroutine") = false := by decide
theorem n203 : (Tryz.f203.name == "runtime.NumGoroutine") = false := by decide
theorem n204 : (Tryz.f204.name == "runtime.NumGoroutine") = false := by decide
theorem n205 : (Tryz.f205.name == "runtime.NumGoroutine") = false := by decide
theorem n206 : (Tryz.f206.name == "runtime.NumGoroutine") = false := by decide
theorem n207 : (Tryz.f207.name == "runtime.NumGoroutine") = false := by decide
theorem n208 : (Tryz.f208.name == "runtime.NumGoroutine") = false := by decide
theorem n209 : (Tryz.f209.name == "runtime.NumGoroutine") = false := by decide
theorem n210 : (Tryz.f210.name == "runtime.NumGoroutine") = false := by decide
theorem n211 : (Tryz.f211.name == "runtime.NumGoroutine") = false := by decide
theorem n212 : (Tryz.f212.name == "runtime.NumGoroutine") = false := by decide
theorem n213 : (Tryz.f213.name == "runtime.NumGoroutine") = false := by decide
theorem n214 : (Tryz.f214.name == "runtime.NumGoroutine") = false := by decide
theorem n215 : (Tryz.f215.name == "runtime.NumGoroutine") = false := by decide
theorem n216 : (Tryz.f216.name == "runtime.NumGoroutine") = false := by decide
theorem n217 : (Tryz.f217.name == "runtime.NumGoroutine") = false := by decide
theorem n218 : (Tryz.f218.name == "runtime.NumGoroutine") = false := by decide
theorem n219 : (Tryz.f219.name == "runtime.NumGoroutine") = false := by decide
theorem n220 : (Tryz.f220.name == "runtime.NumGoroutine") = false := by decide
theorem n221 : (Tryz.f221.name == "runtime.NumGoroutine") = false := by decide
theorem n222 : (Tryz.f222.name == "runtime.NumGoroutine") = false := by decide
theorem n223 : (Tryz.f223.name == "runtime.NumGoroutine") = false := by decide
theorem n224 : (Tryz.f224.name == "runtime.NumGoroutine") = false := by decide
theorem n225 : (Tryz.f225.name == "runtime.NumGoroutine") = false := by decide
theorem n226 : (Tryz.f226.name == "runtime.NumGoroutine") = false := by decide
theorem n227 : (Tryz.f227.name == "runtime.NumGoroutine") = false := by decide
theorem n228 : (Tryz.f228.name == "runtime.NumGoroutine") = false := by decide
theorem n229 : (Tryz.f229.name == "runtime.NumGoroutine") = false := by decide
theorem n230 : (Tryz.f230.name == "runtime.NumGoroutine") = false := by decide
theorem n231 : (Tryz.f231.name == "runtime.NumGoroutine") = false := by decide
theorem n232 : (Tryz.f232.name == "runtime.NumGoroutine") = false := by decide
theorem n233 : (Tryz.f233.name == "runtime.NumGoroutine") = false := by decide
theorem n234 : (Tryz.f234.name == "runtime.NumGoroutine") = false := by decide
theorem n235 : (Tryz.f235.name == "runtime.NumGoroutine") = false := by decide
theorem n236 : (Tryz.f236.name == "runtime.NumGoroutine") = false := by decide
theorem n237 : (Tryz.f237.name == "runtime.NumGoroutine") = false := by decide
theorem n238 : (Tryz.f238.name == "runtime.NumGoroutine") = false := by decide
theorem n239 : (Tryz.f239.name == "runtime.NumGoroutine") = false := by decide
theorem n240 : (Tryz.f240.name == "runtime.NumGoroutine") = false := by decide
theorem n241 : (Tryz.f241.name == "runtime.NumGoroutine") = false := by decide
theorem n242 : (Tryz.f242.name == "runtime.NumGoroutine") = false := by decide
theorem n243 : (Tryz.f243.name == "runtime.NumGoroutine") = false := by decide
theorem n244 : (Tryz.f244.name == "runtime.NumGoroutine") = false := by decide
theorem n245 : (Tryz.f245.name == "runtime.NumGoroutine") = false := by decide
theorem n246 : (Tryz.f246.name == "runtime.NumGoroutine") = false := by decide
theorem n247 : (Tryz.f247.name == "runtime.NumGoroutine") = false := by decide
theorem n248 : (Tryz.f248.name == "runtime.NumGoroutine") = false := by decide
theorem n249 : (Tryz.f249.name == "runtime.NumGoroutine") = false := by decide
theorem n250 : (Tryz.f250.name == "runtime.NumGoroutine") = false := by decide
theorem n251 : (Tryz.f251.name == "runtime.NumGoroutine") = false := by decide
theorem n252 : (Tryz.f252.name == "runtime.NumGoroutine") = false := by decide
theorem n253 : (Tryz.f253.name == "runtime.NumGoroutine") = false := by decide
theorem n254 : (Tryz.f254.name == "runtime.NumGoroutine") = false := by decide
theorem n255 : (Tryz.f255.name == "runtime.NumGoroutine") = false := by decide
theorem n256 : (Tryz.f256.name == "runtime.NumGoroutine") = false := by decide
theorem n257 : (Tryz.f257.name == "runtime.NumGoroutine") = false := by decide
theorem n258 : (Tryz.f258.name == "runtime.NumGoroutine") = false := by decide
theorem n259 : (Tryz.f259.name == "runtime.NumGoroutine") = false := by decide
theorem n260 : (Tryz.f260.name == "runtime.NumGoroutine") = false := by decide
theorem n261 : (Tryz.f261.name == "runtime.NumGoroutine") = false := by decide
theorem n262 : (Tryz.f262.name == "runtime.NumGoroutine") = false := by decide
theorem n263 : (Tryz.f263.name == "runtime.NumGoroutine") = false := by decide
theorem n264 : (Tryz.f264.name == "runtime.NumGoroutine") = false := by decide
theorem n265 : (Tryz.f265.name == "runtime.NumGoroutine") = false := by decide
theorem n266 : (Tryz.f266.name == "runtime.NumGoroutine") = false := by decide
theorem n267 : (Tryz.f267.name == "runtime.NumGoroutine") = false := by decide
theorem n268 : (Tryz.f268.name == "runtime.NumGoroutine") = false := by decide
theorem n269 : (Tryz.f269.name == "runtime.NumGoroutine") = false := by decide
theorem n270 : (Tryz.f270.name == "runtime.NumGoroutine") = false := by decide
theorem n271 : (Tryz.f271.name == "runtime.NumGoroutine") = false := by decide
theorem n272 : (Tryz.f272.name == "runtime.NumGoroutine") = false := by decide
theorem n273 : (Tryz.f273.name == "runtime.NumGoroutine") = false := by decide
theorem n274 : (Tryz.f274.name == "runtime.NumGoroutine") = false := by decide
theorem n275 : (Tryz.f275.name == "runtime.NumGoroutine") = false := by decide
theorem n276 : (Tryz.f276.name == "runtime.NumGoroutine") = false := by decide
theorem n277 : (Tryz.f277.name == "runtime.NumGoroutine") = false := by decide
theorem n278 : (Tryz.f278.name == "runtime.NumGoroutine") = false := by decide
theorem n279 : (Tryz.f279.name == "runtime.NumGoroutine") = false := by decide
theorem n280 : (Tryz.f280.name == "runtime.NumGoroutine") = false := by decide
theorem n281 : (Tryz.f281.name == "runtime.NumGoroutine") = false := by decide
theorem n282 : (Tryz.f282.name == "runtime.NumGoroutine") = false := by decide
theorem n283 : (Tryz.f283.name == "runtime.NumGoroutine") = false := by decide
theorem n284 : (Tryz.f284.name == "runtime.NumGoroutine") = false := by decide
theorem n285 : (Tryz.f285.name == "runtime.NumGoroutine") = false := by decide
theorem n286 : (Tryz.f286.name == "runtime.NumGoroutine") = false := by decide
theorem n287 : (Tryz.f287.name == "runtime.NumGoroutine") = false := by decide
theorem n288 : (Tryz.f288.name == "runtime.NumGoroutine") = false := by decide
theorem n289 : (Tryz.f289.name == "runtime.NumGoroutine") = false := by decide
theorem n290 : (Tryz.f290.name == "runtime.NumGoroutine") = false := by decide
theorem n291 : (Tryz.f291.name == "runtime.NumGoroutine") = false := by decide
theorem n292 : (Tryz.f292.name == "runtime.NumGoroutine") = false := by decide
theorem n293 : (Tryz.f293.name == "runtime.NumGoroutine") = false := by decide
theorem n294 : (Tryz.f294.name == "runtime.NumGoroutine") = false := by decide
theorem n295 : (Tryz.f295.name == "runtime.NumGoroutine") = false := by decide
theorem n296 : (Tryz.f296.name == "runtime.NumGoroutine") = false := by decide
theorem n297 : (Tryz.f297.name == "runtime.NumGoroutine") = false := by decide
theorem n298 : (Tryz.f298.name == "runtime.NumGoroutine") = false := by decide
theorem n299 : (Tryz.f299.name == "runtime.NumGoroutine") = false := by decide
theorem n300 : (Tryz.f300.name == "runtime.NumGoroutine") = false := by decide
theorem n301 : (Tryz.f301.name == "runtime.NumGoroutine") = false := by decide
theorem n302 : (Tryz.f302.name == "runtime.NumGoroutine") = false := by decide
theorem n303 : (Tryz.f303.name == "runtime.NumGoroutine") = false := by decide
theorem n304 : (Tryz.f304.name == "runtime.NumGoroutine") = false := by decide
theorem n305 : (Tryz.f305.name == "runtime.NumGoroutine") = false := by decide
theorem n306 : (Tryz.f306.name == "runtime.NumGoroutine") = false := by decide
theorem n307 : (Tryz.f307.name == "runtime.NumGoroutine") = false := by decide
theorem n308 : (Tryz.f308.name == "runtime.NumGoroutine") = false := by decide
theorem n309 : (Tryz.f309.name == "runtime.NumGoroutine") = false := by decide
theorem n310 : (Tryz.f310.name == "runtime.NumGoroutine") = false := by decide
theorem n311 : (Tryz.f311.name == "runtime.NumGoroutine") = false := by decide
theorem n312 : (Tryz.f312.name == "runtime.NumGoroutine") = false := by decide
theorem n313 : (Tryz.f313.name == "runtime.NumGoroutine") = false := by decide
theorem n314 : (Tryz.f314.name == "runtime.NumGoroutine") = false := by decide
theorem n315 : (Tryz.f315.name == "runtime.NumGoroutine") = false := by decide
theorem n316 : (Tryz.f316.name == "runtime.NumGoroutine") = false := by decide
theorem n317 : (Tryz.f317.name == "runtime.NumGoroutine") = false := by decide
theorem n318 : (Tryz.f318.name == "runtime.NumGoroutine") = false := by decide
theorem n319 : (Tryz.f319.name == "runtime.NumGoroutine") = false := by decide
theorem n320 : (Tryz.f320.name == "runtime.NumGoroutine") = false := by decide
theorem n321 : (Tryz.f321.name == "runtime.NumGoroutine") = false := by decide
theorem n322 : (Tryz.f322.name == "runtime.NumGoroutine") = false := by decide
theorem n323 : (Tryz.f323.name == "runtime.NumGoroutine") = false := by decide
theorem n324 : (Tryz.f324.name == "runtime.NumGoroutine") = false := by decide
theorem n325 : (Tryz.f325.name == "runtime.NumGoroutine") = false := by decide
theorem n326 : (Tryz.f326.name == "runtime.NumGoroutine") = false := by decide
theorem n327 : (Tryz.f327.name == "runtime.NumGoroutine") = false := by decide
theorem n328 : (Tryz.f328.name == "runtime.NumGoroutine") = false := by decide
theorem n329 : (Tryz.f329.name == "runtime.NumGoroutine") = false := by decide
theorem n330 : (Tryz.f330.name == "runtime.NumGoroutine") = false := by decide
theorem n331 : (Tryz.f331.name == "runtime.NumGoroutine") = false := by decide
theorem n332 : (Tryz.f332.name == "runtime.NumGoroutine") = false := by decide
theorem n333 : (Tryz.f333.name == "runtime.NumGoroutine") = false := by decide
theorem n334 : (Tryz.f334.name == "runtime.NumGoroutine") = false := by decide
theorem n335 : (Tryz.f335.name == "runtime.NumGoroutine") = false := by decide
theorem n336 : (Tryz.f336.name == "runtime.NumGoroutine") = false := by decide
theorem n337 : (Tryz.f337.name == "runtime.NumGoroutine") = false := by decide
theorem n338 : (Tryz.f338.name == "runtime.NumGoroutine") = false := by decide
theorem n339 : (Tryz.f339.name == "runtime.NumGoroutine") = false := by decide
theorem n340 : (Tryz.f340.name == "runtime.NumGoroutine") = false := by decide
theorem n341 : (Tryz.f341.name == "runtime.NumGoroutine") = false := by decide
theorem n342 : (Tryz.f342.name == "runtime.NumGoroutine") = false := by decide
theorem n343 : (Tryz.f343.name == "runtime.NumGoroutine") = false := by decide
theorem n344 : (Tryz.f344.name == "runtime.NumGoroutine") = false := by decide
theorem n345 : (Tryz.f345.name == "runtime.NumGoroutine") = false := by decide
theorem n346 : (Tryz.f346.name == "runtime.NumGoroutine") = false := by decide
theorem n347 : (Tryz.f347.name == "runtime.NumGoroutine") = false := by decide
theorem n348 : (Tryz.f348.name == "runtime.NumGoroutine") = false := by decide
theorem n349 : (Tryz.f349.name == "runtime.NumGoroutine") = false := by decide
theorem n350 : (Tryz.f350.name == "runtime.NumGoroutine") = false := by decide
theorem n351 : (Tryz.f351.name == "runtime.NumGoroutine") = false := by decide
theorem n352 : (Tryz.f352.name == "runtime.NumGoroutine") = false := by decide
theorem n353 : (Tryz.f353.name == "runtime.NumGoroutine") = false := by decide
theorem n354 : (Tryz.f354.name == "runtime.NumGoroutine") = false := by decide
theorem n355 : (Tryz.f355.name == "runtime.NumGoroutine") = false := by decide
theorem n356 : (Tryz.f356.name == "runtime.NumGoroutine") = false := by decide
theorem n357 : (Tryz.f357.name == "runtime.NumGoroutine") = false := by decide
theorem n358 : (Tryz.f358.name == "runtime.NumGoroutine") = false := by decide
theorem n359 : (Tryz.f359.name == "runtime.NumGoroutine") = false := by decide
theorem n360 : (Tryz.f360.name == "runtime.NumGoroutine") = false := by decide
theorem n361 : (Tryz.f361.name == "runtime.NumGoroutine") = false := by decide
theorem n362 : (Tryz.f362.name == "runtime.NumGoroutine") = false := by decide
theorem n363 : (Tryz.f363.name == "runtime.NumGoroutine") = false := by decide
theorem n364 : (Tryz.f364.name == "runtime.NumGoroutine") = false := by decide
theorem n365 : (Tryz.f365.name == "runtime.NumGoroutine") = false := by decide
theorem n366 : (Tryz.f366.name == "runtime.NumGoroutine") = false := by decide
theorem n367 : (Tryz.f367.name == "runtime.NumGoroutine") = false := by decide
theorem n368 : (Tryz.f368.name == "runtime.NumGoroutine") = false := by decide
theorem n369 : (Tryz.f369.name == "runtime.NumGoroutine") = false := by decide
theorem n370 : (Tryz.f370.name == "runtime.NumGoroutine") = false := by decide
theorem n371 : (Tryz.f371.name == "runtime.NumGoroutine") = false := by decide
theorem n372 : (Tryz.f372.name == "runtime.NumGoroutine") = false := by decide
theorem n373 : (Tryz.f373.name == "runtime.NumGoroutine") = false := by decide
theorem n374 : (Tryz.f374.name == "runtime.NumGoroutine") = false := by decide
theorem n375 : (Tryz.f375.name == "runtime.NumGoroutine") = false := by decide
theorem n376 : (Tryz.f376.name == "runtime.NumGoroutine") = false := by decide
theorem n377 : (Tryz.f377.name == "runtime.NumGoroutine") = false := by decide
theorem n378 : (Tryz.f378.name == "runtime.NumGoroutine") = false := by decide
theorem n379 : (Tryz.f379.name == "runtime.NumGoroutine") = false := by decide
theorem n380 : (Tryz.f380.name == "runtime.NumGoroutine") = false := by decide
theorem n381 : (Tryz.f381.name == "runtime.NumGoroutine") = false := by decide
theorem n382 : (Tryz.f382.name == "runtime.NumGoroutine") = false := by decide
theorem n383 : (Tryz.f383.name == "runtime.NumGoroutine") = false := by decide
theorem n384 : (Tryz.f384.name == "runtime.NumGoroutine") = false := by decide
theorem n385 : (Tryz.f385.name == "runtime.NumGoroutine") = false := by decide
theorem n386 : (Tryz.f386.name == "runtime.NumGoroutine") = false := by decide
theorem n387 : (Tryz.f387.name == "runtime.NumGoroutine") = false := by decide
theorem n388 : (Tryz.f388.name == "runtime.NumGoroutine") = false := by decide
theorem n389 : (Tryz.f389.name == "runtime.NumGoroutine") = false := by decide
theorem n390 : (Tryz.f390.name == "runtime.NumGoroutine") = false := by decide
theorem n391 : (Tryz.f391.name == "runtime.NumGoroutine") = false := by decide
theorem n392 : (Tryz.f392.name == "runtime.NumGoroutine") = false := by decide
theorem n393 : (Tryz.f393.name == "runtime.NumGoroutine") = false := by decide
theorem n394 : (Tryz.f394.name == "runtime.NumGoroutine") = false := by decide
theorem n395 : (Tryz.f395.name == "runtime.NumGoroutine") = false := by decide
theorem n396 : (Tryz.f396.name == "runtime.NumGoroutine") = false := by decide
theorem n397 : (Tryz.f397.name == "runtime.NumGoroutine") = false := by decide
theorem n398 : (Tryz.f398.name == "runtime.NumGoroutine") = false := by decide
theorem n399 : (Tryz.f399.name == "runtime.NumGoroutine") = false := by decide
theorem n400 : (Tryz.f400.name == "runtime.NumGoroutine") = false := by decide
theorem n401 : (Tryz.f401.name == "runtime.NumGoroutine") = false := by decide
theorem n402 : (Tryz.f402.name == "runtime.NumGoroutine") = false := by decide
theorem n403 : (Tryz.f403.name == "runtime.NumGoroutine") = false := by decide
theorem n404 : (Tryz.f404.name == "runtime.NumGoroutine") = false := by decide
theorem n405 : (Tryz.f405.name == "runtime.NumGoroutine") = false := by decide
theorem n406 : (Tryz.f406.name == "runtime.NumGoroutine") = false := by decide
theorem n407 : (Tryz.f407.name == "runtime.NumGoroutine") = false := by decide
theorem n408 : (Tryz.f408.name == "runtime.NumGoroutine") = false := by decide
theorem n409 : (Tryz.f409.name == "runtime.NumGoroutine") = false := by decide
theorem n410 : (Tryz.f410.name == "runtime.NumGoroutine") = false := by decide
theorem n411 : (Tryz.f411.name == "runtime.NumGoroutine") = false := by decide
theorem n412 : (Tryz.f412.name == "runtime.NumGoroutine") = false := by decide
theorem n413 : (Tryz.f413.name == "runtime.NumGoroutine") = false := by decide
theorem n414 : (Tryz.f414.name == "runtime.NumGoroutine") = false := by decide
theorem n415 : (Tryz.f415.name == "runtime.NumGoroutine") = false := by decide
theorem n416 : (Tryz.f416.name == "runtime.NumGoroutine") = false := by decide
theorem n417 : (Tryz.f417.name == "runtime.NumGoroutine") = false := by decide
theorem n418 : (Tryz.f418.name == "runtime.NumGoroutine") = false := by decide
theorem n419 : (Tryz.f419.name == "runtime.NumGoroutine") = false := by decide
theorem n420 : (Tryz.f420.name == "runtime.NumGoroutine") = false := by decide
theorem n421 : (Tryz.f421.name == "runtime.NumGoroutine") = false := by decide
theorem n422 : (Tryz.f422.name == "runtime.NumGoroutine") = false := by decide
theorem n423 : (Tryz.f423.name == "runtime.NumGoroutine") = false := by decide
theorem n424 : (Tryz.f424.name == "runtime.NumGoroutine") = false := by decide
theorem n425 : (Tryz.f425.name == "runtime.NumGoroutine") = false := by decide
theorem n426 : (Tryz.f426.name == "runtime.NumGoroutine") = false := by decide
theorem n427 : (Tryz.f427.name == "runtime.NumGoroutine") = false := by decide
theorem n428 : (Tryz.f428.name == "runtime.NumGoroutine") = false := by decide
theorem n429 : (Tryz.f429.name == "runtime.NumGoroutine") = false := by decide
theorem n430 : (Tryz.f430.name == "runtime.NumGoroutine") = false := by decide
theorem n431 : (Tryz.f431.name == "runtime.NumGoroutine") = false := by decide
theorem n432 : (Tryz.f432.name == "runtime.NumGoroutine") = false := by decide
theorem n433 : (Tryz.f433.name == "runtime.NumGoroutine") = false := by decide
theorem n434 : (Tryz.f434.name == "runtime.NumGoroutine") = false := by decide

def TyOK (t : Nat) (x : Option (TypeInfo × TypeDesc)) : Prop := ∀ e, x = some e → Tryz.prog.info? t = some e.1 ∧ Tryz.prog.underlying t = some e.2
theorem tyOK {n : Nat} (t : Nat) (i : TypeInfo) (d : TypeDesc) (h : n = t) (h1 : Tryz.prog.types[t]? = some i) (h2 : Tryz.prog.underlying t = some d) : TyOK n (some (i, d)) := fun e q => by
  subst h; cases q; exact ⟨info_of h1, h2⟩
def FnOK (f : Nat) (x : Option Func) : Prop := ∀ fn, x = some fn → Tryz.prog.funcs[f]? = some fn ∧ (fn.name == "runtime.NumGoroutine") = false
theorem fnOK {n : Nat} (f : Nat) (fn : Func) (h : n = f) (h1 : Tryz.prog.funcs[f]? = some fn) (h2 : (fn.name == "runtime.NumGoroutine") = false) : FnOK n (some fn) := fun e q => by
  subst h; cases q; exact ⟨h1, h2⟩

noncomputable def ty_llllll : T (Option (TypeInfo × TypeDesc)) := (T.node (T.node (T.node (T.node T.leaf (some (Tryz.t511, d511)) T.leaf) (some (Tryz.t255, d255)) T.leaf) (some (Tryz.t127, d127)) (T.node T.leaf (some (Tryz.t383, d383)) T.leaf)) (some (Tryz.t63, d63)) (T.node (T.node T.leaf (some (Tryz.t319, d319)) T.leaf) (some (Tryz.t191, d191)) (T.node T.leaf (some (Tryz.t447, d447)) T.leaf)))
noncomputable def ty_lllll : T (Option (TypeInfo × TypeDesc)) := (T.node ty_llllll (some (Tryz.t31, d31)) (T.node (T.node (T.node T.leaf (some (Tryz.t287, d287)) T.leaf) (some (Tryz.t159, d159)) (T.node T.leaf (some (Tryz.t415, d415)) T.leaf)) (some (Tryz.t95, d95)) (T.node (T.node T.leaf (some (Tryz.t351, d351)) T.leaf) (some (Tryz.t223, d223)) (T.node T.leaf (some (Tryz.t479, d479)) T.leaf))))
noncomputable def ty_llllrl : T (Option (TypeInfo × TypeDesc)) := (T.node (T.node (T.node (T.node T.leaf (some (Tryz.t527, d527)) T.leaf) (some (Tryz.t271, d271)) T.leaf) (some (Tryz.t143, d143)) (T.node T.leaf (some (Tryz.t399, d399)) T.leaf)) (some (Tryz.t79, d79)) (T.node (T.node T.leaf (some (Tryz.t335, d335)) T.leaf) (some (Tryz.t207, d207)) (T.node T.leaf (some (Tryz.t463, d463)) T.leaf)))
noncomputable def ty_llllr : T (Option (TypeInfo × TypeDesc)) := (T.node ty_llllrl (some (Tryz.t47, d47)) (T.node (T.node (T.node T.leaf (some (Tryz.t303, d303)) T.leaf) (some (Tryz.t175, d175)) (T.node T.leaf (some (Tryz.t431, d431)) T.leaf)) (some (Tryz.t111, d111)) (T.node (T.node T.leaf (some (Tryz.t367, d367)) T.leaf) (some (Tryz.t239, d239)) (T.node T.leaf (some (Tryz.t495, d495)) T.leaf))))
noncomputable def ty_lllrll : T (Option (TypeInfo × TypeDesc)) := (T.node (T.node (T.node (T.node T.leaf (some (Tryz.t519, d519)) T.leaf) (some (Tryz.t263, d263)) T.leaf) (some (Tryz.t135, d135)) (T.node T.leaf (some (Tryz.t391, d391)) T.leaf)) (some (Tryz.t71, d71)) (T.node (T.node T.leaf (some (Tryz.t327, d327)) T.leaf) (some (Tryz.t199, d199)) (T.node T.leaf (some (Tryz.t455, d455)) T.leaf)))
noncomputable def ty_lllrl : T (Option (TypeInfo × TypeDesc)) := (T.node ty_lllrll (some (Tryz.t39, d39)) (T.node (T.node (T.node T.leaf (some (Tryz.t295, d295)) T.leaf) (some (Tryz.t167, d167)) (T.node T.leaf (some (Tryz.t423, d423)) T.leaf)) (some (Tryz.t103, d103)) (T.node (T.node T.leaf (some (Tryz.t359, d359)) T.leaf) (some (Tryz.t231, d231)) (T.node T.leaf (some (Tryz.t487, d487)) T.leaf))))
noncomputable def ty_lllrr : T (Option (TypeInfo × TypeDesc)) := (T.node (T.node (T.node (T.node T.leaf (some (Tryz.t279, d279)) T.leaf) (some (Tryz.t151, d151)) (T.node T.leaf (some (Tryz.t407, d407)) T.leaf)) (some (Tryz.t87, d87)) (T.node (T.node T.leaf (some (Tryz.t343, d343)) T.leaf) (some (Tryz.t215, d215)) (T.node T.leaf (some (Tryz.t471, d471)) T.leaf))) (some (Tryz.t55, d55)) (T.node (T.node (T.node T.leaf (some (Tryz.t311, d311)) T.leaf) (some (Tryz.t183, d183)) (T.node T.leaf (some (Tryz.t439, d439)) T.leaf)) (some (Tryz.t119, d119)) (T.node (T.node T.leaf (some (Tryz.t375, d375)) T.leaf) (some (Tryz.t247, d247)) (T.node T.leaf (some (Tryz.t503, d503)) T.leaf))))
noncomputable def ty_llrlll : T (Option (TypeInfo × TypeDesc)) := (T.node (T.node (T.node (T.node T.leaf (some (Tryz.t515, d515)) T.leaf) (some (Tryz.t259, d259)) T.leaf) (some (Tryz.t131, d131)) (T.node T.leaf (some (Tryz.t387, d387)) T.leaf)) (some (Tryz.t67, d67)) (T.node (T.node T.leaf (some (Tryz.t323, d323)) T.leaf) (some (Tryz.t195, d195)) (T.node T.leaf (some (Tryz.t451, d451)) T.leaf)))
noncomputable def ty_llrll : T (Option (TypeInfo × TypeDesc)) := (T.node ty_llrlll (some (Tryz.t35, d35)) (T.node (T.node (T.node T.leaf (some (Tryz.t291, d291)) T.leaf) (some (Tryz.t163, d163)) (T.node T.leaf (some (Tryz.t419, d419)) T.leaf)) (some (Tryz.t99, d99)) (T.node (T.node T.leaf (some (Tryz.t355, d355)) T.leaf) (some (Tryz.t227, d227)) (T.node T.leaf (some (Tryz.t483, d483)) T.leaf))))
noncomputable def ty_llrlr : T (Option (TypeInfo × TypeDesc)) := (T.node (T.node (T.node (T.node T.leaf (some (Tryz.t275, d275)) T.leaf) (some (Tryz.t147, d147)) (T.node T.leaf (some (Tryz.t403, d403)) T.leaf)) (some (Tryz.t83, d83)) (T.node (T.node T.leaf (some (Tryz.t339, d339)) T.leaf) (some (Tryz.t211, d211)) (T.node T.leaf (some (Tryz.t467, d467)) T.leaf))) (some (Tryz.t51, d51)) (T.node (T.node (T.node T.leaf (some (Tryz.t307, d307)) T.leaf) (some (Tryz.t179, d179)) (T.node T.leaf (some (Tryz.t435, d435)) T.leaf)) (some (Tryz.t115, d115)) (T.node (T.node T.leaf (some (Tryz.t371, d371)) T.leaf) (some (Tryz.t243, d243)) (T.node T.leaf (some (Tryz.t499, d499)) T.leaf))))
noncomputable def ty_llrrll : T (Option (TypeInfo × TypeDesc)) := (T.node (T.node (T.node (T.node T.leaf (some (Tryz.t523, d523)) T.leaf) (some (Tryz.t267, d267)) T.leaf) (some (Tryz.t139, d139)) (T.node T.leaf (some (Tryz.t395, d395)) T.leaf)) (some (Tryz.t75, d75)) (T.node (T.node T.leaf (some (Tryz.t331, d331)) T.leaf) (some (Tryz.t203, d203)) (T.node T.leaf (some (Tryz.t459, d459)) T.leaf)))
noncomputable def ty_llrrl : T (Option (TypeInfo × TypeDesc)) := (T.node ty_llrrll (some (Tryz.t43, d43)) (T.node (T.node (T.node T.leaf (some (Tryz.t299, d299)) T.leaf) (some (Tryz.t171, d171)) (T.node T.leaf (some (Tryz.t427, d427)) T.leaf)) (some (Tryz.t107, d107)) (T.node (T.node T.leaf (some (Tryz.t363, d363)) T.leaf) (some (Tryz.t235, d235)) (T.node T.leaf (some (Tryz.t491, d491)) T.leaf))))
noncomputable def ty_llrrr : T (Option (TypeInfo × TypeDesc)) := (T.node (T.node (T.node (T.node T.leaf (some (Tryz.t283, d283)) T.leaf) (some (Tryz.t155, d155)) (T.node T.leaf (some (Tryz.t411, d411)) T.leaf)) (some (Tryz.t91, d91)) (T.node (T.node T.leaf (some (Tryz.t347, d347)) T.leaf) (some (Tryz.t219, d219)) (T.node T.leaf (some (Tryz.t475, d475)) T.leaf))) (some (Tryz.t59, d59)) (T.node (T.node (T.node T.leaf (some (Tryz.t315, d315)) T.leaf) (some (Tryz.t187, d187)) (T.node T.leaf (some (Tryz.t443, d443)) T.leaf)) (some (Tryz.t123, d123)) (T.node (T.node T.leaf (some (Tryz.t379, d379)) T.leaf) (some (Tryz.t251, d251)) (T.node T.leaf (some (Tryz.t507, d507)) T.leaf))))
noncomputable def ty_lrllll : T (Option (TypeInfo × TypeDesc)) := (T.node (T.node (T.node (T.node T.leaf (some (Tryz.t513, d513)) T.leaf) (some (Tryz.t257, d257)) T.leaf) (some (Tryz.t129, d129)) (T.node T.leaf (some (Tryz.t385, d385)) T.leaf)) (some (Tryz.t65, d65)) (T.node (T.node T.leaf (some (Tryz.t321, d321)) T.leaf) (some (Tryz.t193, d193)) (T.node T.leaf (some (Tryz.t449, d449)) T.leaf)))
noncomputable def ty_lrlll : T (Option (TypeInfo × TypeDesc)) := (T.node ty_lrllll (some (Tryz.t33, d33)) (T.node (T.node (T.node T.leaf (some (Tryz.t289, d289)) T.leaf) (some (Tryz.t161, d161)) (T.node T.leaf (some (Tryz.t417, d417)) T.leaf)) (some (Tryz.t97, d97)) (T.node (T.node T.leaf (some (Tryz.t353, d353)) T.leaf) (some (Tryz.t225, d225)) (T.node T.leaf (some (Tryz.t481, d481)) T.leaf))))
noncomputable def ty_lrllr : T (Option (TypeInfo × TypeDesc)) := (T.node (T.node (T.node (T.node T.leaf (some (Tryz.t273, d273)) T.leaf) (some (Tryz.t145, d145)) (T.node T.leaf (some (Tryz.t401, d401)) T.leaf)) (some (Tryz.t81, d81)) (T.node (T.node T.leaf (some (Tryz.t337, d337)) T.leaf) (some (Tryz.t209, d209)) (T.node T.leaf (some (Tryz.t465, d465)) T.leaf))) (some (Tryz.t49, d49)) (T.node (T.node (T.node T.leaf (some (Tryz.t305, d305)) T.leaf) (some (Tryz.t177, d177)) (T.node T.leaf (some (Tryz.t433, d433)) T.leaf)) (some (Tryz.t113, d113)) (T.node (T.node T.leaf (some (Tryz.t369, d369)) T.leaf) (some (Tryz.t241, d241)) (T.node T.leaf (some (Tryz.t497, d497)) T.leaf))))
noncomputable def ty_lrlrll : T (Option (TypeInfo × TypeDesc)) := (T.node (T.node (T.node (T.node T.leaf (some (Tryz.t521, d521)) T.leaf) (some (Tryz.t265, d265)) T.leaf) (some (Tryz.t137, d137)) (T.node T.leaf (some (Tryz.t393, d393)) T.leaf)) (some (Tryz.t73, d73)) (T.node (T.node T.leaf (some (Tryz.t329, d329)) T.leaf) (some (Tryz.t201, d201)) (T.node T.leaf (some (Tryz.t457, d457)) T.leaf)))
noncomputable def ty_lrlrl : T (Option (TypeInfo × TypeDesc)) := (T.node ty_lrlrll (some (Tryz.t41, d41)) (T.node (T.node (T.node T.leaf (some (Tryz.t297, d297)) T.leaf) (some (Tryz.t169, d169)) (T.node T.leaf (some (Tryz.t425, d425)) T.leaf)) (some (Tryz.t105, d105)) (T.node (T.node T.leaf (some (Tryz.t361, d361)) T.leaf) (some (Tryz.t233, d233)) (T.node T.leaf (some (Tryz.t489, d489)) T.leaf))))
noncomputable def ty_lrlrr : T (Option (TypeInfo × TypeDesc)) := (T.node (T.node (T.node (T.node T.leaf (some (Tryz.t281, d281)) T.leaf) (some (Tryz.t153, d153)) (T.node T.leaf (some (Tryz.t409, d409)) T.leaf)) (some (Tryz.t89, d89)) (T.node (T.node T.leaf (some (Tryz.t345, d345)) T.leaf) (some (Tryz.t217, d217)) (T.node T.leaf (some (Tryz.t473, d473)) T.leaf))) (some (Tryz.t57, d57)) (T.node (T.node (T.node T.leaf (some (Tryz.t313, d313)) T.leaf) (some (Tryz.t185, d185)) (T.node T.leaf (some (Tryz.t441, d441)) T.leaf)) (some (Tryz.t121, d121)) (T.node (T.node T.leaf (some (Tryz.t377, d377)) T.leaf) (some (Tryz.t249, d249)) (T.node T.leaf (some (Tryz.t505, d505)) T.leaf))))
noncomputable def ty_lrrlll : T (Option (TypeInfo × TypeDesc)) := (T.node (T.node (T.node (T.node T.leaf (some (Tryz.t517, d517)) T.leaf) (some (Tryz.t261, d261)) T.leaf) (some (Tryz.t133, d133)) (T.node T.leaf (some (Tryz.t389, d389)) T.leaf)) (some (Tryz.t69, d69)) (T.node (T.node T.leaf (some (Tryz.t325, d325)) T.leaf) (some (Tryz.t197, d197)) (T.node T.leaf (some (Tryz.t453, d453)) T.leaf)))
noncomputable def ty_lrrll : T (Option (TypeInfo × TypeDesc)) := (T.node ty_lrrlll (some (Tryz.t37, d37)) (T.node (T.node (T.node T.leaf (some (Tryz.t293, d293)) T.leaf) (some (Tryz.t165, d165)) (T.node T.leaf (some (Tryz.t421, d421)) T.leaf)) (some (Tryz.t101, d101)) (T.node (T.node T.leaf (some (Tryz.t357, d357)) T.leaf) (some (Tryz.t229, d229)) (T.node T.leaf (some (Tryz.t485, d485)) T.leaf))))
noncomputable def ty_lrrlr : T (Option (TypeInfo × TypeDesc)) := (T.node (T.node (T.node (T.node T.leaf (some (Tryz.t277, d277)) T.leaf) (some (Tryz.t149, d149)) (T.node T.leaf (some (Tryz.t405, d405)) T.leaf)) (some (Tryz.t85, d85)) (T.node (T.node T.leaf (some (Tryz.t341, d341)) T.leaf) (some (Tryz.t213, d213)) (T.node T.leaf (some (Tryz.t469, d469)) T.leaf))) (some (Tryz.t53, d53)) (T.node (T.node (T.node T.leaf (some (Tryz.t309, d309)) T.leaf) (some (Tryz.t181, d181)) (T.node T.leaf (some (Tryz.t437, d437)) T.leaf)) (some (Tryz.t117, d117)) (T.node (T.node T.leaf (some (Tryz.t373, d373)) T.leaf) (some (Tryz.t245, d245)) (T.node T.leaf (some (Tryz.t501, d501)) T.leaf))))
noncomputable def ty_lrrrll : T (Option (TypeInfo × TypeDesc)) := (T.node (T.node (T.node (T.node T.leaf (some (Tryz.t525, d525)) T.leaf) (some (Tryz.t269, d269)) T.leaf) (some (Tryz.t141, d141)) (T.node T.leaf (some (Tryz.t397, d397)) T.leaf)) (some (Tryz.t77, d77)) (T.node (T.node T.leaf (some (Tryz.t333, d333)) T.leaf) (some (Tryz.t205, d205)) (T.node T.leaf (some (Tryz.t461, d461)) T.leaf)))
noncomputable def ty_lrrrl : T (Option (TypeInfo × TypeDesc)) := (T.node ty_lrrrll (some (Tryz.t45, d45)) (T.node (T.node (T.node T.leaf (some (Tryz.t301, d301)) T.leaf) (some (Tryz.t173, d173)) (T.node T.leaf (some (Tryz.t429, d429)) T.leaf)) (some (Tryz.t109, d109)) (T.node (T.node T.leaf (some (Tryz.t365, d365)) T.leaf) (some (Tryz.t237, d237)) (T.node T.leaf (some (Tryz.t493, d493)) T.leaf))))
noncomputable def ty_lrrrr : T (Option (TypeInfo × TypeDesc)) := (T.node (T.node (T.node (T.node T.leaf (some (Tryz.t285, d285)) T.leaf) (some (Tryz.t157, d157)) (T.node T.leaf (some (Tryz.t413, d413)) T.leaf)) (some (Tryz.t93, d93)) (T.node (T.node T.leaf (some (Tryz.t349, d349)) T.leaf) (some (Tryz.t221, d221)) (T.node T.leaf (some (Tryz.t477, d477)) T.leaf))) (some (Tryz.t61, d61)) (T.node (T.node (T.node T.leaf (some (Tryz.t317, d317)) T.leaf) (some (Tryz.t189, d189)) (T.node T.leaf (some (Tryz.t445, d445)) T.leaf)) (some (Tryz.t125, d125)) (T.node (T.node T.leaf (some (Tryz.t381, d381)) T.leaf) (some (Tryz.t253, d253)) (T.node T.leaf (some (Tryz.t509, d509)) T.leaf))))
noncomputable def ty_rlllll : T (Option (TypeInfo × TypeDesc)) := (T.node (T.node (T.node (T.node T.leaf (some (Tryz.t512, d512)) T.leaf) (some (Tryz.t256, d256)) T.leaf) (some (Tryz.t128, d128)) (T.node T.leaf (some (Tryz.t384, d384)) T.leaf)) (some (Tryz.t64, d64)) (T.node (T.node T.leaf (some (Tryz.t320, d320)) T.leaf) (some (Tryz.t192, d192)) (T.node T.leaf (some (Tryz.t448, d448)) T.leaf)))
noncomputable def ty_rllll : T (Option (TypeInfo × TypeDesc)) := (T.node ty_rlllll (some (Tryz.t32, d32)) (T.node (T.node (T.node T.leaf (some (Tryz.t288, d288)) T.leaf) (some (Tryz.t160, d160)) (T.node T.leaf (some (Tryz.t416, d416)) T.leaf)) (some (Tryz.t96, d96)) (T.node (T.node T.leaf (some (Tryz.t352, d352)) T.leaf) (some (Tryz.t224, d224)) (T.node T.leaf (some (Tryz.t480, d480)) T.leaf))))
noncomputable def ty_rlllrl : T (Option (TypeInfo × TypeDesc)) := (T.node (T.node (T.node (T.node T.leaf (some (Tryz.t528, d528)) T.leaf) (some (Tryz.t272, d272)) T.leaf) (some (Tryz.t144, d144)) (T.node T.leaf (some (Tryz.t400, d400)) T.leaf)) (some (Tryz.t80, d80)) (T.node (T.node T.leaf (some (Tryz.t336, d336)) T.leaf) (some (Tryz.t208, d208)) (T.node T.leaf (some (Tryz.t464, d464)) T.leaf)))
noncomputable def ty_rlllr : T (Option (TypeInfo × TypeDesc)) := (T.node ty_rlllrl (some (Tryz.t48, d48)) (T.node (T.node (T.node T.leaf (some (Tryz.t304, d304)) T.leaf) (some (Tryz.t176, d176)) (T.node T.leaf (some (Tryz.t432, d432)) T.leaf)) (some (Tryz.t112, d112)) (T.node (T.node T.leaf (some (Tryz.t368, d368)) T.leaf) (some (Tryz.t240, d240)) (T.node T.leaf (some (Tryz.t496, d496)) T.leaf))))
noncomputable def ty_rllrll : T (Option (TypeInfo × TypeDesc)) := (T.node (T.node (T.node (T.node T.leaf (some (Tryz.t520, d520)) T.leaf) (some (Tryz.t264, d264)) T.leaf) (some (Tryz.t136, d136)) (T.node T.leaf (some (Tryz.t392, d392)) T.leaf)) (some (Tryz.t72, d72)) (T.node (T.node T.leaf (some (Tryz.t328, d328)) T.leaf) (some (Tryz.t200, d200)) (T.node T.leaf (some (Tryz.t456, d456)) T.leaf)))
noncomputable def ty_rllrl : T (Option (TypeInfo × TypeDesc)) := (T.node ty_rllrll (some (Tryz.t40, d40)) (T.node (T.node (T.node T.leaf (some (Tryz.t296, d296)) T.leaf) (some (Tryz.t168, d168)) (T.node T.leaf (some (Tryz.t424, d424)) T.leaf)) (some (Tryz.t104, d104)) (T.node (T.node T.leaf (some (Tryz.t360, d360)) T.leaf) (some (Tryz.t232, d232)) (T.node T.leaf (some (Tryz.t488, d488)) T.leaf))))
noncomputable def ty_rllrr : T (Option (TypeInfo × TypeDesc)) := (T.node (T.node (T.node (T.node T.leaf (some (Tryz.t280, d280)) T.leaf) (some (Tryz.t152, d152)) (T.node T.leaf (some (Tryz.t408, d408)) T.leaf)) (some (Tryz.t88, d88)) (T.node (T.node T.leaf (some (Tryz.t344, d344)) T.leaf) (some (Tryz.t216, d216)) (T.node T.leaf (some (Tryz.t472, d472)) T.leaf))) (some (Tryz.t56, d56)) (T.node (T.node (T.node T.leaf (some (Tryz.t312, d312)) T.leaf) (some (Tryz.t184, d184)) (T.node T.leaf (some (Tryz.t440, d440)) T.leaf)) (some (Tryz.t120, d120)) (T.node (T.node T.leaf (some (Tryz.t376, d376)) T.leaf) (some (Tryz.t248, d248)) (T.node T.leaf (some (Tryz.t504, d504)) T.leaf))))
noncomputable def ty_rlrlll : T (Option (TypeInfo × TypeDesc)) := (T.node (T.node (T.node (T.node T.leaf (some (Tryz.t516, d516)) T.leaf) (some (Tryz.t260, d260)) T.leaf) (some (Tryz.t132, d132)) (T.node T.leaf (some (Tryz.t388, d388)) T.leaf)) (some (Tryz.t68, d68)) (T.node (T.node T.leaf (some (Tryz.t324, d324)) T.leaf) (some (Tryz.t196, d196)) (T.node T.leaf (some (Tryz.t452, d452)) T.leaf)))
noncomputable def ty_rlrll : T (Option (TypeInfo × TypeDesc)) := (T.node ty_rlrlll (some (Tryz.t36, d36)) (T.node (T.node (T.node T.leaf (some (Tryz.t292, d292)) T.leaf) (some (Tryz.t164, d164)) (T.node T.leaf (some (Tryz.t420, d420)) T.leaf)) (some (Tryz.t100, d100)) (T.node (T.node T.leaf (some (Tryz.t356, d356)) T.leaf) (some (Tryz.t228, d228)) (T.node T.leaf (some (Tryz.t484, d484)) T.leaf))))
noncomputable def ty_rlrlr : T (Option (TypeInfo × TypeDesc)) := (T.node (T.node (T.node (T.node T.leaf (some (Tryz.t276, d276)) T.leaf) (some (Tryz.t148, d148)) (T.node T.leaf (some (Tryz.t404, d404)) T.leaf)) (some (Tryz.t84, d84)) (T.node (T.node T.leaf (some (Tryz.t340, d340)) T.leaf) (some (Tryz.t212, d212)) (T.node T.leaf (some (Tryz.t468, d468)) T.leaf))) (some (Tryz.t52, d52)) (T.node (T.node (T.node T.leaf (some (Tryz.t308, d308)) T.leaf) (some (Tryz.t180, d180)) (T.node T.leaf (some (Tryz.t436, d436)) T.leaf)) (some (Tryz.t116, d116)) (T.node (T.node T.leaf (some (Tryz.t372, d372)) T.leaf) (some (Tryz.t244, d244)) (T.node T.leaf (some (Tryz.t500, d500)) T.leaf))))
noncomputable def ty_rlrrll : T (Option (TypeInfo × TypeDesc)) := (T.node (T.node (T.node (T.node T.leaf (some (Tryz.t524, d524)) T.leaf) (some (Tryz.t268, d268)) T.leaf) (some (Tryz.t140, d140)) (T.node T.leaf (some (Tryz.t396, d396)) T.leaf)) (some (Tryz.t76, d76)) (T.node (T.node T.leaf (some (Tryz.t332, d332)) T.leaf) (some (Tryz.t204, d204)) (T.node T.leaf (some (Tryz.t460, d460)) T.leaf)))
noncomputable def ty_rlrrl : T (Option (TypeInfo × TypeDesc)) := (T.node ty_rlrrll (some (Tryz.t44, d44)) (T.node (T.node (T.node T.leaf (some (Tryz.t300, d300)) T.leaf) (some (Tryz.t172, d172)) (T.node T.leaf (some (Tryz.t428, d428)) T.leaf)) (some (Tryz.t108, d108)) (T.node (T.node T.leaf (some (Tryz.t364, d364)) T.leaf) (some (Tryz.t236, d236)) (T.node T.leaf (some (Tryz.t492, d492)) T.leaf))))
noncomputable def ty_rlrrr : T (Option (TypeInfo × TypeDesc)) := (T.node (T.node (T.node (T.node T.leaf (some (Tryz.t284, d284)) T.leaf) (some (Tryz.t156, d156)) (T.node T.leaf (some (Tryz.t412, d412)) T.leaf)) (some (Tryz.t92, d92)) (T.node (T.node T.leaf (some (Tryz.t348, d348)) T.leaf) (some (Tryz.t220, d220)) (T.node T.leaf (some (Tryz.t476, d476)) T.leaf))) (some (Tryz.t60, d60)) (T.node (T.node (T.node T.leaf (some (Tryz.t316, d316)) T.leaf) (some (Tryz.t188, d188)) (T.node T.leaf (some (Tryz.t444, d444)) T.leaf)) (some (Tryz.t124, d124)) (T.node (T.node T.leaf (some (Tryz.t380, d380)) T.leaf) (some (Tryz.t252, d252)) (T.node T.leaf (some (Tryz.t508, d508)) T.leaf))))
noncomputable def ty_rrllll : T (Option (TypeInfo × TypeDesc)) := (T.node (T.node (T.node (T.node T.leaf (some (Tryz.t514, d514)) T.leaf) (some (Tryz.t258, d258)) T.leaf) (some (Tryz.t130, d130)) (T.node T.leaf (some (Tryz.t386, d386)) T.leaf)) (some (Tryz.t66, d66)) (T.node (T.node T.leaf (some (Tryz.t322, d322)) T.leaf) (some (Tryz.t194, d194)) (T.node T.leaf (some (Tryz.t450, d450)) T.leaf)))
noncomputable def ty_rrlll : T (Option (TypeInfo × TypeDesc)) := (T.node ty_rrllll (some (Tryz.t34, d34)) (T.node (T.node (T.node T.leaf (some (Tryz.t290, d290)) T.leaf) (some (Tryz.t162, d162)) (T.node T.leaf (some (Tryz.t418, d418)) T.leaf)) (some (Tryz.t98, d98)) (T.node (T.node T.leaf (some (Tryz.t354, d354)) T.leaf) (some (Tryz.t226, d226)) (T.node T.leaf (some (Tryz.t482, d482)) T.leaf))))
noncomputable def ty_rrllr : T (Option (TypeInfo × TypeDesc)) := (T.node (T.node (T.node (T.node T.leaf (some (Tryz.t274, d274)) T.leaf) (some (Tryz.t146, d146)) (T.node T.leaf (some (Tryz.t402, d402)) T.leaf)) (some (Tryz.t82, d82)) (T.node (T.node T.leaf (some (Tryz.t338, d338)) T.leaf) (some (Tryz.t210, d210)) (T.node T.leaf (some (Tryz.t466, d466)) T.leaf))) (some (Tryz.t50, d50)) (T.node (T.node (T.node T.leaf (some (Tryz.t306, d306)) T.leaf) (some (Tryz.t178, d178)) (T.node T.leaf (some (Tryz.t434, d434)) T.leaf)) (some (Tryz.t114, d114)) (T.node (T.node T.leaf (some (Tryz.t370, d370)) T.leaf) (some (Tryz.t242, d242)) (T.node T.leaf (some (Tryz.t498, d498)) T.leaf))))
noncomputable def ty_rrlrll : T (Option (TypeInfo × TypeDesc)) := (T.node (T.node (T.node (T.node T.leaf (some (Tryz.t522, d522)) T.leaf) (some (Tryz.t266, d266)) T.leaf) (some (Tryz.t138, d138)) (T.node T.leaf (some (Tryz.t394, d394)) T.leaf)) (some (Tryz.t74, d74)) (T.node (T.node T.leaf (some (Tryz.t330, d330)) T.leaf) (some (Tryz.t202, d202)) (T.node T.leaf (some (Tryz.t458, d458)) T.leaf)))
noncomputable def ty_rrlrl : T (Option (TypeInfo × TypeDesc)) := (T.node ty_rrlrll (some (Tryz.t42, d42)) (T.node (T.node (T.node T.leaf (some (Tryz.t298, d298)) T.leaf) (some (Tryz.t170, d170)) (T.node T.leaf (some (Tryz.t426, d426)) T.leaf)) (some (Tryz.t106, d106)) (T.node (T.node T.leaf (some (Tryz.t362, d362)) T.leaf) (some (Tryz.t234, d234)) (T.node T.leaf (some (Tryz.t490, d490)) T.leaf))))
noncomputable def ty_rrlrr : T (Option (TypeInfo × TypeDesc)) := (T.node (T.node (T.node (T.node T.leaf (some (Tryz.t282, d282)) T.leaf) (some (Tryz.t154, d154)) (T.node T.leaf (some (Tryz.t410, d410)) T.leaf)) (some (Tryz.t90, d90)) (T.node (T.node T.leaf (some (Tryz.t346, d346)) T.leaf) (some (Tryz.t218, d218)) (T.node T.leaf (some (Tryz.t474, d474)) T.leaf))) (some (Tryz.t58, d58)) (T.node (T.node (T.node T.leaf (some (Tryz.t314, d314)) T.leaf) (some (Tryz.t186, d186)) (T.node T.leaf (some (Tryz.t442, d442)) T.leaf)) (some (Tryz.t122, d122)) (T.node (T.node T.leaf (some (Tryz.t378, d378)) T.leaf) (some (Tryz.t250, d250)) (T.node T.leaf (some (Tryz.t506, d506)) T.leaf))))
noncomputable def ty_rrrlll : T (Option (TypeInfo × TypeDesc)) := (T.node (T.node (T.node (T.node T.leaf (some (Tryz.t518, d518)) T.leaf) (some (Tryz.t262, d262)) T.leaf) (some (Tryz.t134, d134)) (T.node T.leaf (some (Tryz.t390, d390)) T.leaf)) (some (Tryz.t70, d70)) (T.node (T.node T.leaf (some (Tryz.t326, d326)) T.leaf) (some (Tryz.t198, d198)) (T.node T.leaf (some (Tryz.t454, d454)) T.leaf)))
noncomputable def ty_rrrll : T (Option (TypeInfo × TypeDesc)) := (T.node ty_rrrlll (some (Tryz.t38, d38)) (T.node (T.node (T.node T.leaf (some (Tryz.t294, d294)) T.leaf) (some (Tryz.t166, d166)) (T.node T.leaf (some (Tryz.t422, d422)) T.leaf)) (some (Tryz.t102, d102)) (T.node (T.node T.leaf (some (Tryz.t358, d358)) T.leaf) (some (Tryz.t230, d230)) (T.node T.leaf (some (Tryz.t486, d486)) T.leaf))))
noncomputable def ty_rrrlr : T (Option (TypeInfo × TypeDesc)) := (T.node (T.node (T.node (T.node T.leaf (some (Tryz.t278, d278)) T.leaf) (some (Tryz.t150, d150)) (T.node T.leaf (some (Tryz.t406, d406)) T.leaf)) (some (Tryz.t86, d86)) (T.node (T.node T.leaf (some (Tryz.t342, d342)) T.leaf) (some (Tryz.t214, d214)) (T.node T.leaf (some (Tryz.t470, d470)) T.leaf))) (some (Tryz.t54, d54)) (T.node (T.node (T.node T.leaf (some (Tryz.t310, d310)) T.leaf) (some (Tryz.t182, d182)) (T.node T.leaf (some (Tryz.t438, d438)) T.leaf)) (some (Tryz.t118, d118)) (T.node (T.node T.leaf (some (Tryz.t374, d374)) T.leaf) (some (Tryz.t246, d246)) (T.node T.leaf (some (Tryz.t502, d502)) T.leaf))))
noncomputable def ty_rrrrll : T (Option (TypeInfo × TypeDesc)) := (T.node (T.node (T.node (T.node T.leaf (some (Tryz.t526, d526)) T.leaf) (some (Tryz.t270, d270)) T.leaf) (some (Tryz.t142, d142)) (T.node T.leaf (some (Tryz.t398, d398)) T.leaf)) (some (Tryz.t78, d78)) (T.node (T.node T.leaf (some (Tryz.t334, d334)) T.leaf) (some (Tryz.t206, d206)) (T.node T.leaf (some (Tryz.t462, d462)) T.leaf)))
noncomputable def ty_rrrrl : T (Option (TypeInfo × TypeDesc)) := (T.node ty_rrrrll (some (Tryz.t46, d46)) (T.node (T.node (T.node T.leaf (some (Tryz.t302, d302)) T.leaf) (some (Tryz.t174, d174)) (T.node T.leaf (some (Tryz.t430, d430)) T.leaf)) (some (Tryz.t110, d110)) (T.node (T.node T.leaf (some (Tryz.t366, d366)) T.leaf) (some (Tryz.t238, d238)) (T.node T.leaf (some (Tryz.t494, d494)) T.leaf))))
noncomputable def ty_rrrrr : T (Option (TypeInfo × TypeDesc)) := (T.node (T.node (T.node (T.node T.leaf (some (Tryz.t286, d286)) T.leaf) (some (Tryz.t158, d158)) (T.node T.leaf (some (Tryz.t414, d414)) T.leaf)) (some (Tryz.t94, d94)) (T.node (T.node T.leaf (some (Tryz.t350, d350)) T.leaf) (some (Tryz.t222, d222)) (T.node T.leaf (some (Tryz.t478, d478)) T.leaf))) (some (Tryz.t62, d62)) (T.node (T.node (T.node T.leaf (some (Tryz.t318, d318)) T.leaf) (some (Tryz.t190, d190)) (T.node T.leaf (some (Tryz.t446, d446)) T.leaf)) (some (Tryz.t126, d126)) (T.node (T.node T.leaf (some (Tryz.t382, d382)) T.leaf) (some (Tryz.t254, d254)) (T.node T.leaf (some (Tryz.t510, d510)) T.leaf))))
set_option maxRecDepth 20000 in
noncomputable def tyT : T (Option (TypeInfo × TypeDesc)) :=
  (T.node (T.node (T.node (T.node (T.node ty_lllll (some (Tryz.t15, d15)) ty_llllr) (some (Tryz.t7, d7)) (T.node ty_lllrl (some (Tryz.t23, d23)) ty_lllrr)) (some (Tryz.t3, d3)) (T.node (T.node ty_llrll (some (Tryz.t19, d19)) ty_llrlr) (some (Tryz.t11, d11)) (T.node ty_llrrl (some (Tryz.t27, d27)) ty_llrrr))) (some (Tryz.t1, d1)) (T.node (T.node (T.node ty_lrlll (some (Tryz.t17, d17)) ty_lrllr) (some (Tryz.t9, d9)) (T.node ty_lrlrl (some (Tryz.t25, d25)) ty_lrlrr)) (some (Tryz.t5, d5)) (T.node (T.node ty_lrrll (some (Tryz.t21, d21)) ty_lrrlr) (some (Tryz.t13, d13)) (T.node ty_lrrrl (some (Tryz.t29, d29)) ty_lrrrr)))) (some (Tryz.t0, d0)) (T.node (T.node (T.node (T.node ty_rllll (some (Tryz.t16, d16)) ty_rlllr) (some (Tryz.t8, d8)) (T.node ty_rllrl (some (Tryz.t24, d24)) ty_rllrr)) (some (Tryz.t4, d4)) (T.node (T.node ty_rlrll (some (Tryz.t20, d20)) ty_rlrlr) (some (Tryz.t12, d12)) (T.node ty_rlrrl (some (Tryz.t28, d28)) ty_rlrrr))) (some (Tryz.t2, d2)) (T.node (T.node (T.node ty_rrlll (some (Tryz.t18, d18)) ty_rrllr) (some (Tryz.t10, d10)) (T.node ty_rrlrl (some (Tryz.t26, d26)) ty_rrlrr)) (some (Tryz.t6, d6)) (T.node (T.node ty_rrrll (some (Tryz.t22, d22)) ty_rrrlr) (some (Tryz.t14, d14)) (T.node ty_rrrrl (some (Tryz.t30, d30)) ty_rrrrr)))))
set_option maxRecDepth 20000 in
set_option maxHeartbeats 4000000 in
theorem tyT_ok : AllT TyOK tyT :=
  (AllT.mk (tyOK 0 Tryz.t0 d0 rfl Tryz.type0 (u0)) (AllT.mk (tyOK 1 Tryz.t1 d1 rfl Tryz.type1 (u1)) (AllT.mk (tyOK 3 Tryz.t3 d3 rfl Tryz.type3 (u3)) (AllT.mk (tyOK 7 Tryz.t7 d7 rfl Tryz.type7 (u7)) (AllT.mk (tyOK 15 Tryz.t15 d15 rfl Tryz.type15 (u15)) (AllT.mk (tyOK 31 Tryz.t31 d31 rfl Tryz.type31 (u31)) (AllT.mk (tyOK 63 Tryz.t63 d63 rfl Tryz.type63 (u63)) (AllT.mk (tyOK 127 Tryz.t127 d127 rfl Tryz.type127 (u127)) (AllT.mk (tyOK 255 Tryz.t255 d255 rfl Tryz.type255 (u255)) (AllT.mk (tyOK 511 Tryz.t511 d511 rfl Tryz.type511 (u511)) AllT.lf AllT.lf) AllT.lf) (AllT.mk (tyOK 383 Tryz.t383 d383 rfl Tryz.type383 (u383)) AllT.lf AllT.lf)) (AllT.mk (tyOK 191 Tryz.t191 d191 rfl Tryz.type191 (u191)) (AllT.mk (tyOK 319 Tryz.t319 d319 rfl Tryz.type319 (u319)) AllT.lf AllT.lf) (AllT.mk (tyOK 447 Tryz.t447 d447 rfl Tryz.type447 (u447)) AllT.lf AllT.lf))) (AllT.mk (tyOK 95 Tryz.t95 d95 rfl Tryz.type95 (u95)) (AllT.mk (tyOK 159 Tryz.t159 d159 rfl Tryz.type159 (u159)) (AllT.mk (tyOK 287 Tryz.t287 d287 rfl Tryz.type287 (u287)) AllT.lf AllT.lf) (AllT.mk (tyOK 415 Tryz.t415 d415 rfl Tryz.type415 (u415)) AllT.lf AllT.lf)) (AllT.mk (tyOK 223 Tryz.t223 d223 rfl Tryz.type223 (u223)) (AllT.mk (tyOK 351 Tryz.t351 d351 rfl Tryz.type351 (u351)) AllT.lf AllT.lf) (AllT.mk (tyOK 479 Tryz.t479 d479 rfl Tryz.type479 (u479)) AllT.lf AllT.lf)))) (AllT.mk (tyOK 47 Tryz.t47 d47 rfl Tryz.type47 (u47)) (AllT.mk (tyOK 79 Tryz.t79 d79 rfl Tryz.type79 (u79)) (AllT.mk (tyOK 143 Tryz.t143 d143 rfl Tryz.type143 (u143)) (AllT.mk (tyOK 271 Tryz.t271 d271 rfl Tryz.type271 (u271)) (AllT.mk (tyOK 527 Tryz.t527 d527 rfl Tryz.type527 (u527)) AllT.lf AllT.lf) AllT.lf) (AllT.mk (tyOK 399 Tryz.t399 d399 rfl Tryz.type399 (u399)) AllT.lf AllT.lf)) (AllT.mk (tyOK 207 Tryz.t207 d207 rfl Tryz.type207 (u207)) (AllT.mk (tyOK 335 Tryz.t335 d335 rfl Tryz.type335 (u335)) AllT.lf AllT.lf) (AllT.mk (tyOK 463 Tryz.t463 d463 rfl Tryz.type463 (u463)) AllT.lf AllT.lf))) (AllT.mk (tyOK 111 Tryz.t111 d111 rfl Tryz.type111 (u111)) (AllT.mk (tyOK 175 Tryz.t175 d175 rfl Tryz.type175 (u175)) (AllT.mk (tyOK 303 Tryz.t303 d303 rfl Tryz.type303 (u303)) AllT.lf AllT.lf) (AllT.mk (tyOK 431 Tryz.t431 d431 rfl Tryz.type431 (u431)) AllT.lf AllT.lf)) (AllT.mk (tyOK 239 Tryz.t239 d239 rfl Tryz.type239 (u239)) (AllT.mk (tyOK 367 Tryz.t367 d367 rfl Tryz.type367 (u367)) AllT.lf AllT.lf) (AllT.mk (tyOK 495 Tryz.t495 d495 rfl Tryz.type495 (u495)) AllT.lf AllT.lf))))) (AllT.mk (tyOK 23 Tryz.t23 d23 rfl Tryz.type23 (u23)) (AllT.mk (tyOK 39 Tryz.t39 d39 rfl Tryz.type39 (u39)) (AllT.mk (tyOK 71 Tryz.t71 d71 rfl Tryz.type71 (u71)) (AllT.mk (tyOK 135 Tryz.t135 d135 rfl Tryz.type135 (u135)) (AllT.mk (tyOK 263 Tryz.t263 d263 rfl Tryz.type263 (u263)) (AllT.mk (tyOK 519 Tryz.t519 d519 rfl Tryz.type519 (u519)) AllT.lf AllT.lf) AllT.lf) (AllT.mk (tyOK 391 Tryz.t391 d391 rfl Tryz.type391 (u391)) AllT.lf AllT.lf)) (AllT.mk (tyOK 199 Tryz.t199 d199 rfl Tryz.type199 (u199)) (AllT.mk (tyOK 327 Tryz.t327 d327 rfl Tryz.type327 (u327)) AllT.lf AllT.lf) (AllT.mk (tyOK 455 Tryz.t455 d455 rfl Tryz.type455 (u455)) AllT.lf AllT.lf))) (AllT.mk (tyOK 103 Tryz.t103 d103 rfl Tryz.type103 (u103)) (AllT.mk (tyOK 167 Tryz.t167 d167 rfl Tryz.type167 (u167)) (AllT.mk (tyOK 295 Tryz.t295 d295 rfl Tryz.type295 (u295)) AllT.lf AllT.lf) (AllT.mk (tyOK 423 Tryz.t423 d423 rfl Tryz.type423 (u423)) AllT.lf AllT.lf)) (AllT.mk (tyOK 231 Tryz.t231 d231 rfl Tryz.type231 (u231)) (AllT.mk (tyOK 359 Tryz.t359 d359 rfl Tryz.type359 (u359)) AllT.lf AllT.lf) (AllT.mk (tyOK 487 Tryz.t487 d487 rfl Tryz.type487 (u487)) AllT.lf AllT.lf)))) (AllT.mk (tyOK 55 Tryz.t55 d55 rfl Tryz.type55 (u55)) (AllT.mk (tyOK 87 Tryz.t87 d87 rfl Tryz.type87 (u87)) (AllT.mk (tyOK 151 Tryz.t151 d151 rfl Tryz.type151 (u151)) (AllT.mk (tyOK 279 Tryz.t279 d279 rfl Tryz.type279 (u279)) AllT.lf AllT.lf) (AllT.mk (tyOK 407 Tryz.t407 d407 rfl Tryz.type407 (u407)) AllT.lf AllT.lf)) (AllT.mk (tyOK 215 Tryz.t215 d215 rfl Tryz.type215 (u215)) (AllT.mk (tyOK 343 Tryz.t343 d343 rfl Tryz.type343 (u343)) AllT.lf AllT.lf) (AllT.mk (tyOK 471 Tryz.t471 d471 rfl Tryz.type471 (u471)) AllT.lf AllT.lf))) (AllT.mk (tyOK 119 Tryz.t119 d119 rfl Tryz.type119 (u119)) (AllT.mk (tyOK 183 Tryz.t183 d183 rfl Tryz.type183 (u183)) (AllT.mk (tyOK 311 Tryz.t311 d311 rfl Tryz.type311 (u311)) AllT.lf AllT.lf) (AllT.mk (tyOK 439 Tryz.t439 d439 rfl Tryz.type439 (u439)) AllT.lf AllT.lf)) (AllT.mk (tyOK 247 Tryz.t247 d247 rfl Tryz.type247 (u247)) (AllT.mk (tyOK 375 Tryz.t375 d375 rfl Tryz.type375 (u375)) AllT.lf AllT.lf) (AllT.mk (tyOK 503 Tryz.t503 d503 rfl Tryz.type503 (u503)) AllT.lf AllT.lf)))))) (AllT.mk (tyOK 11 Tryz.t11 d11 rfl Tryz.type11 (u11)) (AllT.mk (tyOK 19 Tryz.t19 d19 rfl Tryz.type19 (u19)) (AllT.mk (tyOK 35 Tryz.t35 d35 rfl Tryz.type35 (u35)) (AllT.mk (tyOK 67 Tryz.t67 d67 rfl Tryz.type67 (u67)) (AllT.mk (tyOK 131 Tryz.t131 d131 rfl Tryz.type131 (u131)) (AllT.mk (tyOK 259 Tryz.t259 d259 rfl Tryz.type259 (u259)) (AllT.mk (tyOK 515 Tryz.t515 d515 rfl Tryz.type515 (u515)) AllT.lf AllT.lf) AllT.lf) (AllT.mk (tyOK 387 Tryz.t387 d387 rfl Tryz.type387 (u387)) AllT.lf AllT.lf)) (AllT.mk (tyOK 195 Tryz.t195 d195 rfl Tryz.type195 (u195)) (AllT.mk (tyOK 323 Tryz.t323 d323 rfl Tryz.type323 (u323)) AllT.lf AllT.lf) (AllT.mk (tyOK 451 Tryz.t451 d451 rfl Tryz.type451 (u451)) AllT.lf AllT.lf))) (AllT.mk (tyOK 99 Tryz.t99 d99 rfl Tryz.type99 (u99)) (AllT.mk (tyOK 163 Tryz.t163 d163 rfl Tryz.type163 (u163)) (AllT.mk (tyOK 291 Tryz.t291 d291 rfl Tryz.type291 (u291)) AllT.lf AllT.lf) (AllT.mk (tyOK 419 Tryz.t419 d419 rfl Tryz.type419 (u419)) AllT.lf AllT.lf)) (AllT.mk (tyOK 227 Tryz.t227 d227 rfl Tryz.type227 (u227)) (AllT.mk (tyOK 355 Tryz.t355 d355 rfl Tryz.type355 (u355)) AllT.lf AllT.lf) (AllT.mk (tyOK 483 Tryz.t483 d483 rfl Tryz.type483 (u483)) AllT.lf AllT.lf)))) (AllT.mk (tyOK 51 Tryz.t51 d51 rfl Tryz.type51 (u51)) (AllT.mk (tyOK 83 Tryz.t83 d83 rfl Tryz.type83 (u83)) (AllT.mk (tyOK 147 Tryz.t147 d147 rfl Tryz.type147 (u147)) (AllT.mk (tyOK 275 Tryz.t275 d275 rfl Tryz.type275 (u275)) AllT.lf AllT.lf) (AllT.mk (tyOK 403 Tryz.t403 d403 rfl Tryz.type403 (u403)) AllT.lf AllT.lf)) (AllT.mk (tyOK 211 Tryz.t211 d211 rfl Tryz.type211 (u211)) (AllT.mk (tyOK 339 Tryz.t339 d339 rfl Tryz.type339 (u339)) AllT.lf AllT.lf) (AllT.mk (tyOK 467 Tryz.t467 d467 rfl Tryz.type467 (u467)) AllT.lf AllT.lf))) (AllT.mk (tyOK 115 Tryz.t115 d115 rfl Tryz.type115 (u115)) (AllT.mk (tyOK 179 Tryz.t179 d179 rfl Tryz.type179 (u179)) (AllT.mk (tyOK 307 Tryz.t307 d307 rfl Tryz.type307 (u307)) AllT.lf AllT.lf) (AllT.mk (tyOK 435 Tryz.t435 d435 rfl Tryz.type435 (u435)) AllT.lf AllT.lf)) (AllT.mk (tyOK 243 Tryz.t243 d243 rfl Tryz.type243 (u243)) (AllT.mk (tyOK 371 Tryz.t371 d371 rfl Tryz.type371 (u371)) AllT.lf AllT.lf) (AllT.mk (tyOK 499 Tryz.t499 d499 rfl Tryz.type499 (u499)) AllT.lf AllT.lf))))) (AllT.mk (tyOK 27 Tryz.t27 d27 rfl Tryz.type27 (u27)) (AllT.mk (tyOK 43 Tryz.t43 d43 rfl Tryz.type43 (u43)) (AllT.mk (tyOK 75 Tryz.t75 d75 rfl Tryz.type75 (u75)) (AllT.mk (tyOK 139 Tryz.t139 d139 rfl Tryz.type139 (u139)) (AllT.mk (tyOK 267 Tryz.t267 d267 rfl Tryz.type267 (u267)) (AllT.mk (tyOK 523 Tryz.t523 d523 rfl Tryz.type523 (u523)) AllT.lf AllT.lf) AllT.lf) (AllT.mk (tyOK 395 Tryz.t395 d395 rfl Tryz.type395 (u395)) AllT.lf AllT.lf)) (AllT.mk (tyOK 203 Tryz.t203 d203 rfl Tryz.type203 (u203)) (AllT.mk (tyOK 331 Tryz.t331 d331 rfl Tryz.type331 (u331)) AllT.lf AllT.lf) (AllT.mk (tyOK 459 Tryz.t459 d459 rfl Tryz.type459 (u459)) AllT.lf AllT.lf))) (AllT.mk (tyOK 107 Tryz.t107 d107 rfl Tryz.type107 (u107)) (AllT.mk (tyOK 171 Tryz.t171 d171 rfl Tryz.type171 (u171)) (AllT.mk (tyOK 299 Tryz.t299 d299 rfl Tryz.type299 (u299)) AllT.lf AllT.lf) (AllT.mk (tyOK 427 Tryz.t427 d427 rfl Tryz.type427 (u427)) AllT.lf AllT.lf)) (AllT.mk (tyOK 235 Tryz.t235 d235 rfl Tryz.type235 (u235)) (AllT.mk (tyOK 363 Tryz.t363 d363 rfl Tryz.type363 (u363)) AllT.lf AllT.lf) (AllT.mk (tyOK 491 Tryz.t491 d491 rfl Tryz.type491 (u491)) AllT.lf AllT.lf)))) (AllT.mk (tyOK 59 Tryz.t59 d59 rfl Tryz.type59 (u59)) (AllT.mk (tyOK 91 Tryz.t91 d91 rfl Tryz.type91 (u91)) (AllT.mk (tyOK 155 Tryz.t155 d155 rfl Tryz.type155 (u155)) (AllT.mk (tyOK 283 Tryz.t283 d283 rfl Tryz.type283 (u283)) AllT.lf AllT.lf) (AllT.mk (tyOK 411 Tryz.t411 d411 rfl Tryz.type411 (u411)) AllT.lf AllT.lf)) (AllT.mk (tyOK 219 Tryz.t219 d219 rfl Tryz.type219 (u219)) (AllT.mk (tyOK 347 Tryz.t347 d347 rfl Tryz.type347 (u347)) AllT.lf AllT.lf) (AllT.mk (tyOK 475 Tryz.t475 d475 rfl Tryz.type475 (u475)) AllT.lf AllT.lf))) (AllT.mk (tyOK 123 Tryz.t123 d123 rfl Tryz.type123 (u123)) (AllT.mk (tyOK 187 Tryz.t187 d187 rfl Tryz.type187 (u187)) (AllT.mk (tyOK 315 Tryz.t315 d315 rfl Tryz.type315 (u315)) AllT.lf AllT.lf) (AllT.mk (tyOK 443 Tryz.t443 d443 rfl Tryz.type443 (u443)) AllT.lf AllT.lf)) (AllT.mk (tyOK 251 Tryz.t251 d251 rfl Tryz.type251 (u251)) (AllT.mk (tyOK 379 Tryz.t379 d379 rfl Tryz.type379 (u379)) AllT.lf AllT.lf) (AllT.mk (tyOK 507 Tryz.t507 d507 rfl Tryz.type507 (u507)) AllT.lf AllT.lf))))))) (AllT.mk (tyOK 5 Tryz.t5 d5 rfl Tryz.type5 (u5)) (AllT.mk (tyOK 9 Tryz.t9 d9 rfl Tryz.type9 (u9)) (AllT.mk (tyOK 17 Tryz.t17 d17 rfl Tryz.type17 (u17)) (AllT.mk (tyOK 33 Tryz.t33 d33 rfl Tryz.type33 (u33)) (AllT.mk (tyOK 65 Tryz.t65 d65 rfl Tryz.type65 (u65)) (AllT.mk (tyOK 129 Tryz.t129 d129 rfl Tryz.type129 (u129)) (AllT.mk (tyOK 257 Tryz.t257 d257 rfl Tryz.type257 (u257)) (AllT.mk (tyOK 513 Tryz.t513 d513 rfl Tryz.type513 (u513)) AllT.lf AllT.lf) AllT.lf) (AllT.mk (tyOK 385 Tryz.t385 d385 rfl Tryz.type385 (u385)) AllT.lf AllT.lf)) (AllT.mk (tyOK 193 Tryz.t193 d193 rfl Tryz.type193 (u193)) (AllT.mk (tyOK 321 Tryz.t321 d321 rfl Tryz.type321 (u321)) AllT.lf AllT.lf) (AllT.mk (tyOK 449 Tryz.t449 d449 rfl Tryz.type449 (u449)) AllT.lf AllT.lf))) (AllT.mk (tyOK 97 Tryz.t97 d97 rfl Tryz.type97 (u97)) (AllT.mk (tyOK 161 Tryz.t161 d161 rfl Tryz.type161 (u161)) (AllT.mk (tyOK 289 Tryz.t289 d289 rfl Tryz.type289 (u289)) AllT.lf AllT.lf) (AllT.mk (tyOK 417 Tryz.t417 d417 rfl Tryz.type417 (u417)) AllT.lf AllT.lf)) (AllT.mk (tyOK 225 Tryz.t225 d225 rfl Tryz.type225 (u225)) (AllT.mk (tyOK 353 Tryz.t353 d353 rfl Tryz.type353 (u353)) AllT.lf AllT.lf) (AllT.mk (tyOK 481 Tryz.t481 d481 rfl Tryz.type481 (u481)) AllT.lf AllT.lf)))) (AllT.mk (tyOK 49 Tryz.t49 d49 rfl Tryz.type49 (u49)) (AllT.mk (tyOK 81 Tryz.t81 d81 rfl Tryz.type81 (u81)) (AllT.mk (tyOK 145 Tryz.t145 d145 rfl Tryz.type145 (u145)) (AllT.mk (tyOK 273 Tryz.t273 d273 rfl Tryz.type273 (u273)) AllT.lf AllT.lf) (AllT.mk (tyOK 401 Tryz.t401 d401 rfl Tryz.type401 (u401)) AllT.lf AllT.lf)) (AllT.mk (tyOK 209 Tryz.t209 d209 rfl Tryz.type209 (u209)) (AllT.mk (tyOK 337 Tryz.t337 d337 rfl Tryz.type337 (u337)) AllT.lf AllT.lf) (AllT.mk (tyOK 465 Tryz.t465 d465 rfl Tryz.type465 (u465)) AllT.lf AllT.lf))) (AllT.mk (tyOK 113 Tryz.t113 d113 rfl Tryz.type113 (u113)) (AllT.mk (tyOK 177 Tryz.t177 d177 rfl Tryz.type177 (u177)) (AllT.mk (tyOK 305 Tryz.t305 d305 rfl Tryz.type305 (u305)) AllT.lf AllT.lf) (AllT.mk (tyOK 433 Tryz.t433 d433 rfl Tryz.type433 (u433)) AllT.lf AllT.lf)) (AllT.mk (tyOK 241 Tryz.t241 d241 rfl Tryz.type241 (u241)) (AllT.mk (tyOK 369 Tryz.t369 d369 rfl Tryz.type369 (u369)) AllT.lf AllT.lf) (AllT.mk (tyOK 497 Tryz.t497 d497 rfl Tryz.type497 (u497)) AllT.lf AllT.lf))))) (AllT.mk (tyOK 25 Tryz.t25 d25 rfl Tryz.type25 (u25)) (AllT.mk (tyOK 41 Tryz.t41 d41 rfl Tryz.type41 (u41)) (AllT.mk (tyOK 73 Tryz.t73 d73 rfl Tryz.type73 (u73)) (AllT.mk (tyOK 137 Tryz.t137 d137 rfl Tryz.type137 (u137)) (AllT.mk (tyOK 265 Tryz.t265 d265 rfl Tryz.type265 (u265)) (AllT.mk (tyOK 521 Tryz.t521 d521 rfl Tryz.type521 (u521)) AllT.lf AllT.lf) AllT.lf) (AllT.mk (tyOK 393 Tryz.t393 d393 rfl Tryz.type393 (u393)) AllT.lf AllT.lf)) (AllT.mk (tyOK 201 Tryz.t201 d201 rfl Tryz.type201 (u201)) (AllT.mk (tyOK 329 Tryz.t329 d329 rfl Tryz.type329 (u329)) AllT.lf AllT.lf) (AllT.mk (tyOK 457 Tryz.t457 d457 rfl Tryz.type457 (u457)) AllT.lf AllT.lf))) (AllT.mk (tyOK 105 Tryz.t105 d105 rfl Tryz.type105 (u105)) (AllT.mk (tyOK 169 Tryz.t169 d169 rfl Tryz.type169 (u169)) (AllT.mk (tyOK 297 Tryz.t297 d297 rfl Tryz.type297 (u297)) AllT.lf AllT.lf) (AllT.mk (tyOK 425 Tryz.t425 d425 rfl Tryz.type425 (u425)) AllT.lf AllT.lf)) (AllT.mk (tyOK 233 Tryz.t233 d233 rfl Tryz.type233 (u233)) (AllT.mk (tyOK 361 Tryz.t361 d361 rfl Tryz.type361 (u361)) AllT.lf AllT.lf) (AllT.mk (tyOK 489 Tryz.t489 d489 rfl Tryz.type489 (u489)) AllT.lf AllT.lf)))) (AllT.mk (tyOK 57 Tryz.t57 d57 rfl Tryz.type57 (u57)) (AllT.mk (tyOK 89 Tryz.t89 d89 rfl Tryz.type89 (u89)) (AllT.mk (tyOK 153 Tryz.t153 d153 rfl Tryz.type153 (u153)) (AllT.mk (tyOK 281 Tryz.t281 d281 rfl Tryz.type281 (u281)) AllT.lf AllT.lf) (AllT.mk (tyOK 409 Tryz.t409 d409 rfl Tryz.type409 (u409)) AllT.lf AllT.lf)) (AllT.mk (tyOK 217 Tryz.t217 d217 rfl Tryz.type217 (u217)) (AllT.mk (tyOK 345 Tryz.t345 d345 rfl Tryz.type345 (u345)) AllT.lf AllT.lf) (AllT.mk (tyOK 473 Tryz.t473 d473 rfl Tryz.type473 (u473)) AllT.lf AllT.lf))) (AllT.mk (tyOK 121 Tryz.t121 d121 rfl Tryz.type121 (u121)) (AllT.mk (tyOK 185 Tryz.t185 d185 rfl Tryz.type185 (u185)) (AllT.mk (tyOK 313 Tryz.t313 d313 rfl Tryz.type313 (u313)) AllT.lf AllT.lf) (AllT.mk (tyOK 441 Tryz.t441 d441 rfl Tryz.type441 (u441)) AllT.lf AllT.lf)) (AllT.mk (tyOK 249 Tryz.t249 d249 rfl Tryz.type249 (u249)) (AllT.mk (tyOK 377 Tryz.t377 d377 rfl Tryz.type377 (u377)) AllT.lf AllT.lf) (AllT.mk (tyOK 505 Tryz.t505 d505 rfl Tryz.type505 (u505)) AllT.lf AllT.lf)))))) (AllT.mk (tyOK 13 Tryz.t13 d13 rfl Tryz.type13 (u13)) (AllT.mk (tyOK 21 Tryz.t21 d21 rfl Tryz.type21 (u21)) (AllT.mk (tyOK 37 Tryz.t37 d37 rfl Tryz.type37 (u37)) (AllT.mk (tyOK 69 Tryz.t69 d69 rfl Tryz.type69 (u69)) (AllT.mk (tyOK 133 Tryz.t133 d133 rfl Tryz.type133 (u133)) (AllT.mk (tyOK 261 Tryz.t261 d261 rfl Tryz.type261 (u261)) (AllT.mk (tyOK 517 Tryz.t517 d517 rfl Tryz.type517 (u517)) AllT.lf AllT.lf) AllT.lf) (AllT.mk (tyOK 389 Tryz.t389 d389 rfl Tryz.type389 (u389)) AllT.lf AllT.lf)) (AllT.mk (tyOK 197 Tryz.t197 d197 rfl Tryz.type197 (u197)) (AllT.mk (tyOK 325 Tryz.t325 d325 rfl Tryz.type325 (u325)) AllT.lf AllT.lf) (AllT.mk (tyOK 453 Tryz.t453 d453 rfl Tryz.type453 (u453)) AllT.lf AllT.lf))) (AllT.mk (tyOK 101 Tryz.t101 d101 rfl Tryz.type101 (u101)) (AllT.mk (tyOK 165 Tryz.t165 d165 rfl Tryz.type165 (u165)) (AllT.mk (tyOK 293 Tryz.t293 d293 rfl Tryz.type293 (u293)) AllT.lf AllT.lf) (AllT.mk (tyOK 421 Tryz.t421 d421 rfl Tryz.type421 (u421)) AllT.lf AllT.lf)) (AllT.mk (tyOK 229 Tryz.t229 d229 rfl Tryz.type229 (u229)) (AllT.mk (tyOK 357 Tryz.t357 d357 rfl Tryz.type357 (u357)) AllT.lf AllT.lf) (AllT.mk (tyOK 485 Tryz.t485 d485 rfl Tryz.type485 (u485)) AllT.lf AllT.lf)))) (AllT.mk (tyOK 53 Tryz.t53 d53 rfl Tryz.type53 (u53)) (AllT.mk (tyOK 85 Tryz.t85 d85 rfl Tryz.type85 (u85)) (AllT.mk (tyOK 149 Tryz.t149 d149 rfl Tryz.type149 (u149)) (AllT.mk (tyOK 277 Tryz.t277 d277 rfl Tryz.type277 (u277)) AllT.lf AllT.lf) (AllT.mk (tyOK 405 Tryz.t405 d405 rfl Tryz.type405 (u405)) AllT.lf AllT.lf)) (AllT.mk (tyOK 213 Tryz.t213 d213 rfl Tryz.type213 (u213)) (AllT.mk (tyOK 341 Tryz.t341 d341 rfl Tryz.type341 (u341)) AllT.lf AllT.lf) (AllT.mk (tyOK 469 Tryz.t469 d469 rfl Tryz.type469 (u469)) AllT.lf AllT.lf))) (AllT.mk (tyOK 117 Tryz.t117 d117 rfl Tryz.type117 (u117)) (AllT.mk (tyOK 181 Tryz.t181 d181 rfl Tryz.type181 (u181)) (AllT.mk (tyOK 309 Tryz.t309 d309 rfl Tryz.type309 (u309)) AllT.lf AllT.lf) (AllT.mk (tyOK 437 Tryz.t437 d437 rfl Tryz.type437 (u437)) AllT.lf AllT.lf)) (AllT.mk (tyOK 245 Tryz.t245 d245 rfl Tryz.type245 (u245)) (AllT.mk (tyOK 373 Tryz.t373 d373 rfl Tryz.type373 (u373)) AllT.lf AllT.lf) (AllT.mk (tyOK 501 Tryz.t501 d501 rfl Tryz.type501 (u501)) AllT.lf AllT.lf))))) (AllT.mk (tyOK 29 Tryz.t29 d29 rfl Tryz.type29 (u29)) (AllT.mk (tyOK 45 Tryz.t45 d45 rfl Tryz.type45 (u45)) (AllT.mk (tyOK 77 Tryz.t77 d77 rfl Tryz.type77 (u77)) (AllT.mk (tyOK 141 Tryz.t141 d141 rfl Tryz.type141 (u141)) (AllT.mk (tyOK 269 Tryz.t269 d269 rfl Tryz.type269 (u269)) (AllT.mk (tyOK 525 Tryz.t525 d525 rfl Tryz.type525 (u525)) AllT.lf AllT.lf) AllT.lf) (AllT.mk (tyOK 397 Tryz.t397 d397 rfl Tryz.type397 (u397)) AllT.lf AllT.lf)) (AllT.mk (tyOK 205 Tryz.t205 d205 rfl Tryz.type205 (u205)) (AllT.mk (tyOK 333 Tryz.t333 d333 rfl Tryz.type333 (u333)) AllT.lf AllT.lf) (AllT.mk (tyOK 461 Tryz.t461 d461 rfl Tryz.type461 (u461)) AllT.lf AllT.lf))) (AllT.mk (tyOK 109 Tryz.t109 d109 rfl Tryz.type109 (u109)) (AllT.mk (tyOK 173 Tryz.t173 d173 rfl Tryz.type173 (u173)) (AllT.mk (tyOK 301 Tryz.t301 d301 rfl Tryz.type301 (u301)) AllT.lf AllT.lf) (AllT.mk (tyOK 429 Tryz.t429 d429 rfl Tryz.type429 (u429)) AllT.lf AllT.lf)) (AllT.mk (tyOK 237 Tryz.t237 d237 rfl Tryz.type237 (u237)) (AllT.mk (tyOK 365 Tryz.t365 d365 rfl Tryz.type365 (u365)) AllT.lf AllT.lf) (AllT.mk (tyOK 493 Tryz.t493 d493 rfl Tryz.type493 (u493)) AllT.lf AllT.lf)))) (AllT.mk (tyOK 61 Tryz.t61 d61 rfl Tryz.type61 (u61)) (AllT.mk (tyOK 93 Tryz.t93 d93 rfl Tryz.type93 (u93)) (AllT.mk (tyOK 157 Tryz.t157 d157 rfl Tryz.type157 (u157)) (AllT.mk (tyOK 285 Tryz.t285 d285 rfl Tryz.type285 (u285)) AllT.lf AllT.lf) (AllT.mk (tyOK 413 Tryz.t413 d413 rfl Tryz.type413 (u413)) AllT.lf AllT.lf)) (AllT.mk (tyOK 221 Tryz.t221 d221 rfl Tryz.type221 (u221)) (AllT.mk (tyOK 349 Tryz.t349 d349 rfl Tryz.type349 (u349)) AllT.lf AllT.lf) (AllT.mk (tyOK 477 Tryz.t477 d477 rfl Tryz.type477 (u477)) AllT.lf AllT.lf))) (AllT.mk (tyOK 125 Tryz.t125 d125 rfl Tryz.type125 (u125)) (AllT.mk (tyOK 189 Tryz.t189 d189 rfl Tryz.type189 (u189)) (AllT.mk (tyOK 317 Tryz.t317 d317 rfl Tryz.type317 (u317)) AllT.lf AllT.lf) (AllT.mk (tyOK 445 Tryz.t445 d445 rfl Tryz.type445 (u445)) AllT.lf AllT.lf)) (AllT.mk (tyOK 253 Tryz.t253 d253 rfl Tryz.type253 (u253)) (AllT.mk (tyOK 381 Tryz.t381 d381 rfl Tryz.type381 (u381)) AllT.lf AllT.lf) (AllT.mk (tyOK 509 Tryz.t509 d509 rfl Tryz.type509 (u509)) AllT.lf AllT.lf)))))))) (AllT.mk (tyOK 2 Tryz.t2 d2 rfl Tryz.type2 (u2)) (AllT.mk (tyOK 4 Tryz.t4 d4 rfl Tryz.type4 (u4)) (AllT.mk (tyOK 8 Tryz.t8 d8 rfl Tryz.type8 (u8)) (AllT.mk (tyOK 16 Tryz.t16 d16 rfl Tryz.type16 (u16)) (AllT.mk (tyOK 32 Tryz.t32 d32 rfl Tryz.type32 (u32)) (AllT.mk (tyOK 64 Tryz.t64 d64 rfl Tryz.type64 (u64)) (AllT.mk (tyOK 128 Tryz.t128 d128 rfl Tryz.type128 (u128)) (AllT.mk (tyOK 256 Tryz.t256 d256 rfl Tryz.type256 (u256)) (AllT.mk (tyOK 512 Tryz.t512 d512 rfl Tryz.type512 (u512)) AllT.lf AllT.lf) AllT.lf) (AllT.mk (tyOK 384 Tryz.t384 d384 rfl Tryz.type384 (u384)) AllT.lf AllT.lf)) (AllT.mk (tyOK 192 Tryz.t192 d192 rfl Tryz.type192 (u192)) (AllT.mk (tyOK 320 Tryz.t320 d320 rfl Tryz.type320 (u320)) AllT.lf AllT.lf) (AllT.mk (tyOK 448 Tryz.t448 d448 rfl Tryz.type448 (u448)) AllT.lf AllT.lf))) (AllT.mk (tyOK 96 Tryz.t96 d96 rfl Tryz.type96 (u96)) (AllT.mk (tyOK 160 Tryz.t160 d160 rfl Tryz.type160 (u160)) (AllT.mk (tyOK 288 Tryz.t288 d288 rfl Tryz.type288 (u288)) AllT.lf AllT.lf) (AllT.mk (tyOK 416 Tryz.t416 d416 rfl Tryz.type416 (u416)) AllT.lf AllT.lf)) (AllT.mk (tyOK 224 Tryz.t224 d224 rfl Tryz.type224 (u224)) (AllT.mk (tyOK 352 Tryz.t352 d352 rfl Tryz.type352 (u352)) AllT.lf AllT.lf) (AllT.mk (tyOK 480 Tryz.t480 d480 rfl Tryz.type480 (u480)) AllT.lf AllT.lf)))) (AllT.mk (tyOK 48 Tryz.t48 d48 rfl Tryz.type48 (u48)) (AllT.mk (tyOK 80 Tryz.t80 d80 rfl Tryz.type80 (u80)) (AllT.mk (tyOK 144 Tryz.t144 d144 rfl Tryz.type144 (u144)) (AllT.mk (tyOK 272 Tryz.t272 d272 rfl Tryz.type272 (u272)) (AllT.mk (tyOK 528 Tryz.t528 d528 rfl Tryz.type528 (u528)) AllT.lf AllT.lf) AllT.lf) (AllT.mk (tyOK 400 Tryz.t400 d400 rfl Tryz.type400 (u400)) AllT.lf AllT.lf)) (AllT.mk (tyOK 208 Tryz.t208 d208 rfl Tryz.type208 (u208)) (AllT.mk (tyOK 336 Tryz.t336 d336 rfl Tryz.type336 (u336)) AllT.lf AllT.lf) (AllT.mk (tyOK 464 Tryz.t464 d464 rfl Tryz.type464 (u464)) AllT.lf AllT.lf))) (AllT.mk (tyOK 112 Tryz.t112 d112 rfl Tryz.type112 (u112)) (AllT.mk (tyOK 176 Tryz.t176 d176 rfl Tryz.type176 (u176)) (AllT.mk (tyOK 304 Tryz.t304 d304 rfl Tryz.type304 (u304)) AllT.lf AllT.lf) (AllT.mk (tyOK 432 Tryz.t432 d432 rfl Tryz.type432 (u432)) AllT.lf AllT.lf)) (AllT.mk (tyOK 240 Tryz.t240 d240 rfl Tryz.type240 (u240)) (AllT.mk (tyOK 368 Tryz.t368 d368 rfl Tryz.type368 (u368)) AllT.lf AllT.lf) (AllT.mk (tyOK 496 Tryz.t496 d496 rfl Tryz.type496 (u496)) AllT.lf AllT.lf))))) (AllT.mk (tyOK 24 Tryz.t24 d24 rfl Tryz.type24 (u24)) (AllT.mk (tyOK 40 Tryz.t40 d40 rfl Tryz.type40 (u40)) (AllT.mk (tyOK 72 Tryz.t72 d72 rfl Tryz.type72 (u72)) (AllT.mk (tyOK 136 Tryz.t136 d136 rfl Tryz.type136 (u136)) (AllT.mk (tyOK 264 Tryz.t264 d264 rfl Tryz.type264 (u264)) (AllT.mk (tyOK 520 Tryz.t520 d520 rfl Tryz.type520 (u520)) AllT.lf AllT.lf) AllT.lf) (AllT.mk (tyOK 392 Tryz.t392 d392 rfl Tryz.type392 (u392)) AllT.lf AllT.lf)) (AllT.mk (tyOK 200 Tryz.t200 d200 rfl Tryz.type200 (u200)) (AllT.mk (tyOK 328 Tryz.t328 d328 rfl Tryz.type328 (u328)) AllT.lf AllT.lf) (AllT.mk (tyOK 456 Tryz.t456 d456 rfl Tryz.type456 (u456)) AllT.lf AllT.lf))) (AllT.mk (tyOK 104 Tryz.t104 d104 rfl Tryz.type104 (u104)) (AllT.mk (tyOK 168 Tryz.t168 d168 rfl Tryz.type168 (u168)) (AllT.mk (tyOK 296 Tryz.t296 d296 rfl Tryz.type296 (u296)) AllT.lf AllT.lf) (AllT.mk (tyOK 424 Tryz.t424 d424 rfl Tryz.type424 (u424)) AllT.lf AllT.lf)) (AllT.mk (tyOK 232 Tryz.t232 d232 rfl Tryz.type232 (u232)) (AllT.mk (tyOK 360 Tryz.t360 d360 rfl Tryz.type360 (u360)) AllT.lf AllT.lf) (AllT.mk (tyOK 488 Tryz.t488 d488 rfl Tryz.type488 (u488)) AllT.lf AllT.lf)))) (AllT.mk (tyOK 56 Tryz.t56 d56 rfl Tryz.type56 (u56)) (AllT.mk (tyOK 88 Tryz.t88 d88 rfl Tryz.type88 (u88)) (AllT.mk (tyOK 152 Tryz.t152 d152 rfl Tryz.type152 (u152)) (AllT.mk (tyOK 280 Tryz.t280 d280 rfl Tryz.type280 (u280)) AllT.lf AllT.lf) (AllT.mk (tyOK 408 Tryz.t408 d408 rfl Tryz.type408 (u408)) AllT.lf AllT.lf)) (AllT.mk (tyOK 216 Tryz.t216 d216 rfl Tryz.type216 (u216)) (AllT.mk (tyOK 344 Tryz.t344 d344 rfl Tryz.type344 (u344)) AllT.lf AllT.lf) (AllT.mk (tyOK 472 Tryz.t472 d472 rfl Tryz.type472 (u472)) AllT.lf AllT.lf))) (AllT.mk (tyOK 120 Tryz.t120 d120 rfl Tryz.type120 (u120)) (AllT.mk (tyOK 184 Tryz.t184 d184 rfl Tryz.type184 (u184)) (AllT.mk (tyOK 312 Tryz.t312 d312 rfl Tryz.type312 (u312)) AllT.lf AllT.lf) (AllT.mk (tyOK 440 Tryz.t440 d440 rfl Tryz.type440 (u440)) AllT.lf AllT.lf)) (AllT.mk (tyOK 248 Tryz.t248 d248 rfl Tryz.type248 (u248)) (AllT.mk (tyOK 376 Tryz.t376 d376 rfl Tryz.type376 (u376)) AllT.lf AllT.lf) (AllT.mk (tyOK 504 Tryz.t504 d504 rfl Tryz.type504 (u504)) AllT.lf AllT.lf)))))) (AllT.mk (tyOK 12 Tryz.t12 d12 rfl Tryz.type12 (u12)) (AllT.mk (tyOK 20 Tryz.t20 d20 rfl Tryz.type20 (u20)) (AllT.mk (tyOK 36 Tryz.t36 d36 rfl Tryz.type36 (u36)) (AllT.mk (tyOK 68 Tryz.t68 d68 rfl Tryz.type68 (u68)) (AllT.mk (tyOK 132 Tryz.t132 d132 rfl Tryz.type132 (u132)) (AllT.mk (tyOK 260 Tryz.t260 d260 rfl Tryz.type260 (u260)) (AllT.mk (tyOK 516 Tryz.t516 d516 rfl Tryz.type516 (u516)) AllT.lf AllT.lf) AllT.lf) (AllT.mk (tyOK 388 Tryz.t388 d388 rfl Tryz.type388 (u388)) AllT.lf AllT.lf)) (AllT.mk (tyOK 196 Tryz.t196 d196 rfl Tryz.type196 (u196)) (AllT.mk (tyOK 324 Tryz.t324 d324 rfl Tryz.type324 (u324)) AllT.lf AllT.lf) (AllT.mk (tyOK 452 Tryz.t452 d452 rfl Tryz.type452 (u452)) AllT.lf AllT.lf))) (AllT.mk (tyOK 100 Tryz.t100 d100 rfl Tryz.type100 (u100)) (AllT.mk (tyOK 164 Tryz.t164 d164 rfl Tryz.type164 (u164)) (AllT.mk (tyOK 292 Tryz.t292 d292 rfl Tryz.type292 (u292)) AllT.lf AllT.lf) (AllT.mk (tyOK 420 Tryz.t420 d420 rfl Tryz.type420 (u420)) AllT.lf AllT.lf)) (AllT.mk (tyOK 228 Tryz.t228 d228 rfl Tryz.type228 (u228)) (AllT.mk (tyOK 356 Tryz.t356 d356 rfl Tryz.type356 (u356)) AllT.lf AllT.lf) (AllT.mk (tyOK 484 Tryz.t484 d484 rfl Tryz.type484 (u484)) AllT.lf AllT.lf)))) (AllT.mk (tyOK 52 Tryz.t52 d52 rfl Tryz.type52 (u52)) (AllT.mk (tyOK 84 Tryz.t84 d84 rfl Tryz.type84 (u84)) (AllT.mk (tyOK 148 Tryz.t148 d148 rfl Tryz.type148 (u148)) (AllT.mk (tyOK 276 Tryz.t276 d276 rfl Tryz.type276 (u276)) AllT.lf AllT.lf) (AllT.mk (tyOK 404 Tryz.t404 d404 rfl Tryz.type404 (u404)) AllT.lf AllT.lf)) (AllT.mk (tyOK 212 Tryz.t212 d212 rfl Tryz.type212 (u212)) (AllT.mk (tyOK 340 Tryz.t340 d340 rfl Tryz.type340 (u340)) AllT.lf AllT.lf) (AllT.mk (tyOK 468 Tryz.t468 d468 rfl Tryz.type468 (u468)) AllT.lf AllT.lf))) (AllT.mk (tyOK 116 Tryz.t116 d116 rfl Tryz.type116 (u116)) (AllT.mk (tyOK 180 Tryz.t180 d180 rfl Tryz.type180 (u180)) (AllT.mk (tyOK 308 Tryz.t308 d308 rfl Tryz.type308 (u308)) AllT.lf AllT.lf) (AllT.mk (tyOK 436 Tryz.t436 d436 rfl Tryz.type436 (u436)) AllT.lf AllT.lf)) (AllT.mk (tyOK 244 Tryz.t244 d244 rfl Tryz.type244 (u244)) (AllT.mk (tyOK 372 Tryz.t372 d372 rfl Tryz.type372 (u372)) AllT.lf AllT.lf) (AllT.mk (tyOK 500 Tryz.t500 d500 rfl Tryz.type500 (u500)) AllT.lf AllT.lf))))) (AllT.mk (tyOK 28 Tryz.t28 d28 rfl Tryz.type28 (u28)) (AllT.mk (tyOK 44 Tryz.t44 d44 rfl Tryz.type44 (u44)) (AllT.mk (tyOK 76 Tryz.t76 d76 rfl Tryz.type76 (u76)) (AllT.mk (tyOK 140 Tryz.t140 d140 rfl Tryz.type140 (u140)) (AllT.mk (tyOK 268 Tryz.t268 d268 rfl Tryz.type268 (u268)) (AllT.mk (tyOK 524 Tryz.t524 d524 rfl Tryz.type524 (u524)) AllT.lf AllT.lf) AllT.lf) (AllT.mk (tyOK 396 Tryz.t396 d396 rfl Tryz.type396 (u396)) AllT.lf AllT.lf)) (AllT.mk (tyOK 204 Tryz.t204 d204 rfl Tryz.type204 (u204)) (AllT.mk (tyOK 332 Tryz.t332 d332 rfl Tryz.type332 (u332)) AllT.lf AllT.lf) (AllT.mk (tyOK 460 Tryz.t460 d460 rfl Tryz.type460 (u460)) AllT.lf AllT.lf))) (AllT.mk (tyOK 108 Tryz.t108 d108 rfl Tryz.type108 (u108)) (AllT.mk (tyOK 172 Tryz.t172 d172 rfl Tryz.type172 (u172)) (AllT.mk (tyOK 300 Tryz.t300 d300 rfl Tryz.type300 (u300)) AllT.lf AllT.lf) (AllT.mk (tyOK 428 Tryz.t428 d428 rfl Tryz.type428 (u428)) AllT.lf AllT.lf)) (AllT.mk (tyOK 236 Tryz.t236 d236 rfl Tryz.type236 (u236)) (AllT.mk (tyOK 364 Tryz.t364 d364 rfl Tryz.type364 (u364)) AllT.lf AllT.lf) (AllT.mk (tyOK 492 Tryz.t492 d492 rfl Tryz.type492 (u492)) AllT.lf AllT.lf)))) (AllT.mk (tyOK 60 Tryz.t60 d60 rfl Tryz.type60 (u60)) (AllT.mk (tyOK 92 Tryz.t92 d92 rfl Tryz.type92 (u92)) (AllT.mk (tyOK 156 Tryz.t156 d156 rfl Tryz.type156 (u156)) (AllT.mk (tyOK 284 Tryz.t284 d284 rfl Tryz.type284 (u284)) AllT.lf AllT.lf) (AllT.mk (tyOK 412 Tryz.t412 d412 rfl Tryz.type412 (u412)) AllT.lf AllT.lf)) (AllT.mk (tyOK 220 Tryz.t220 d220 rfl Tryz.type220 (u220)) (AllT.mk (tyOK 348 Tryz.t348 d348 rfl Tryz.type348 (u348)) AllT.lf AllT.lf) (AllT.mk (tyOK 476 Tryz.t476 d476 rfl Tryz.type476 (u476)) AllT.lf AllT.lf))) (AllT.mk (tyOK 124 Tryz.t124 d124 rfl Tryz.type124 (u124)) (AllT.mk (tyOK 188 Tryz.t188 d188 rfl Tryz.type188 (u188)) (AllT.mk (tyOK 316 Tryz.t316 d316 rfl Tryz.type316 (u316)) AllT.lf AllT.lf) (AllT.mk (tyOK 444 Tryz.t444 d444 rfl Tryz.type444 (u444)) AllT.lf AllT.lf)) (AllT.mk (tyOK 252 Tryz.t252 d252 rfl Tryz.type252 (u252)) (AllT.mk (tyOK 380 Tryz.t380 d380 rfl Tryz.type380 (u380)) AllT.lf AllT.lf) (AllT.mk (tyOK 508 Tryz.t508 d508 rfl Tryz.type508 (u508)) AllT.lf AllT.lf))))))) (AllT.mk (tyOK 6 Tryz.t6 d6 rfl Tryz.type6 (u6)) (AllT.mk (tyOK 10 Tryz.t10 d10 rfl Tryz.type10 (u10)) (AllT.mk (tyOK 18 Tryz.t18 d18 rfl Tryz.type18 (u18)) (AllT.mk (tyOK 34 Tryz.t34 d34 rfl Tryz.type34 (u34)) (AllT.mk (tyOK 66 Tryz.t66 d66 rfl Tryz.type66 (u66)) (AllT.mk (tyOK 130 Tryz.t130 d130 rfl Tryz.type130 (u130)) (AllT.mk (tyOK 258 Tryz.t258 d258 rfl Tryz.type258 (u258)) (AllT.mk (tyOK 514 Tryz.t514 d514 rfl Tryz.type514 (u514)) AllT.lf AllT.lf) AllT.lf) (AllT.mk (tyOK 386 Tryz.t386 d386 rfl Tryz.type386 (u386)) AllT.lf AllT.lf)) (AllT.mk (tyOK 194 Tryz.t194 d194 rfl Tryz.type194 (u194)) (AllT.mk (tyOK 322 Tryz.t322 d322 rfl Tryz.type322 (u322)) AllT.lf AllT.lf) (AllT.mk (tyOK 450 Tryz.t450 d450 rfl Tryz.type450 (u450)) AllT.lf AllT.lf))) (AllT.mk (tyOK 98 Tryz.t98 d98 rfl Tryz.type98 (u98)) (AllT.mk (tyOK 162 Tryz.t162 d162 rfl Tryz.type162 (u162)) (AllT.mk (tyOK 290 Tryz.t290 d290 rfl Tryz.type290 (u290)) AllT.lf AllT.lf) (AllT.mk (tyOK 418 Tryz.t418 d418 rfl Tryz.type418 (u418)) AllT.lf AllT.lf)) (AllT.mk (tyOK 226 Tryz.t226 d226 rfl Tryz.type226 (u226)) (AllT.mk (tyOK 354 Tryz.t354 d354 rfl Tryz.type354 (u354)) AllT.lf AllT.lf) (AllT.mk (tyOK 482 Tryz.t482 d482 rfl Tryz.type482 (u482)) AllT.lf AllT.lf)))) (AllT.mk (tyOK 50 Tryz.t50 d50 rfl Tryz.type50 (u50)) (AllT.mk (tyOK 82 Tryz.t82 d82 rfl Tryz.type82 (u82)) (AllT.mk (tyOK 146 Tryz.t146 d146 rfl Tryz.type146 (u146)) (AllT.mk (tyOK 274 Tryz.t274 d274 rfl Tryz.type274 (u274)) AllT.lf AllT.lf) (AllT.mk (tyOK 402 Tryz.t402 d402 rfl Tryz.type402 (u402)) AllT.lf AllT.lf)) (AllT.mk (tyOK 210 Tryz.t210 d210 rfl Tryz.type210 (u210)) (AllT.mk (tyOK 338 Tryz.t338 d338 rfl Tryz.type338 (u338)) AllT.lf AllT.lf) (AllT.mk (tyOK 466 Tryz.t466 d466 rfl Tryz.type466 (u466)) AllT.lf AllT.lf))) (AllT.mk (tyOK 114 Tryz.t114 d114 rfl Tryz.type114 (u114)) (AllT.mk (tyOK 178 Tryz.t178 d178 rfl Tryz.type178 (u178)) (AllT.mk (tyOK 306 Tryz.t306 d306 rfl Tryz.type306 (u306)) AllT.lf AllT.lf) (AllT.mk (tyOK 434 Tryz.t434 d434 rfl Tryz.type434 (u434)) AllT.lf AllT.lf)) (AllT.mk (tyOK 242 Tryz.t242 d242 rfl Tryz.type242 (u242)) (AllT.mk (tyOK 370 Tryz.t370 d370 rfl Tryz.type370 (u370)) AllT.lf AllT.lf) (AllT.mk (tyOK 498 Tryz.t498 d498 rfl Tryz.type498 (u498)) AllT.lf AllT.lf))))) (AllT.mk (tyOK 26 Tryz.t26 d26 rfl Tryz.type26 (u26)) (AllT.mk (tyOK 42 Tryz.t42 d42 rfl Tryz.type42 (u42)) (AllT.mk (tyOK 74 Tryz.t74 d74 rfl Tryz.type74 (u74)) (AllT.mk (tyOK 138 Tryz.t138 d138 rfl Tryz.type138 (u138)) (AllT.mk (tyOK 266 Tryz.t266 d266 rfl Tryz.type266 (u266)) (AllT.mk (tyOK 522 Tryz.t522 d522 rfl Tryz.type522 (u522)) AllT.lf AllT.lf) AllT.lf) (AllT.mk (tyOK 394 Tryz.t394 d394 rfl Tryz.type394 (u394)) AllT.lf AllT.lf)) (AllT.mk (tyOK 202 Tryz.t202 d202 rfl Tryz.type202 (u202)) (AllT.mk (tyOK 330 Tryz.t330 d330 rfl Tryz.type330 (u330)) AllT.lf AllT.lf) (AllT.mk (tyOK 458 Tryz.t458 d458 rfl Tryz.type458 (u458)) AllT.lf AllT.lf))) (AllT.mk (tyOK 106 Tryz.t106 d106 rfl Tryz.type106 (u106)) (AllT.mk (tyOK 170 Tryz.t170 d170 rfl Tryz.type170 (u170)) (AllT.mk (tyOK 298 Tryz.t298 d298 rfl Tryz.type298 (u298)) AllT.lf AllT.lf) (AllT.mk (tyOK 426 Tryz.t426 d426 rfl Tryz.type426 (u426)) AllT.lf AllT.lf)) (AllT.mk (tyOK 234 Tryz.t234 d234 rfl Tryz.type234 (u234)) (AllT.mk (tyOK 362 Tryz.t362 d362 rfl Tryz.type362 (u362)) AllT.lf AllT.lf) (AllT.mk (tyOK 490 Tryz.t490 d490 rfl Tryz.type490 (u490)) AllT.lf AllT.lf)))) (AllT.mk (tyOK 58 Tryz.t58 d58 rfl Tryz.type58 (u58)) (AllT.mk (tyOK 90 Tryz.t90 d90 rfl Tryz.type90 (u90)) (AllT.mk (tyOK 154 Tryz.t154 d154 rfl Tryz.type154 (u154)) (AllT.mk (tyOK 282 Tryz.t282 d282 rfl Tryz.type282 (u282)) AllT.lf AllT.lf) (AllT.mk (tyOK 410 Tryz.t410 d410 rfl Tryz.type410 (u410)) AllT.lf AllT.lf)) (AllT.mk (tyOK 218 Tryz.t218 d218 rfl Tryz.type218 (u218)) (AllT.mk (tyOK 346 Tryz.t346 d346 rfl Tryz.type346 (u346)) AllT.lf AllT.lf) (AllT.mk (tyOK 474 Tryz.t474 d474 rfl Tryz.type474 (u474)) AllT.lf AllT.lf))) (AllT.mk (tyOK 122 Tryz.t122 d122 rfl Tryz.type122 (u122)) (AllT.mk (tyOK 186 Tryz.t186 d186 rfl Tryz.type186 (u186)) (AllT.mk (tyOK 314 Tryz.t314 d314 rfl Tryz.type314 (u314)) AllT.lf AllT.lf) (AllT.mk (tyOK 442 Tryz.t442 d442 rfl Tryz.type442 (u442)) AllT.lf AllT.lf)) (AllT.mk (tyOK 250 Tryz.t250 d250 rfl Tryz.type250 (u250)) (AllT.mk (tyOK 378 Tryz.t378 d378 rfl Tryz.type378 (u378)) AllT.lf AllT.lf) (AllT.mk (tyOK 506 Tryz.t506 d506 rfl Tryz.type506 (u506)) AllT.lf AllT.lf)))))) (AllT.mk (tyOK 14 Tryz.t14 d14 rfl Tryz.type14 (u14)) (AllT.mk (tyOK 22 Tryz.t22 d22 rfl Tryz.type22 (u22)) (AllT.mk (tyOK 38 Tryz.t38 d38 rfl Tryz.type38 (u38)) (AllT.mk (tyOK 70 Tryz.t70 d70 rfl Tryz.type70 (u70)) (AllT.mk (tyOK 134 Tryz.t134 d134 rfl Tryz.type134 (u134)) (AllT.mk (tyOK 262 Tryz.t262 d262 rfl Tryz.type262 (u262)) (AllT.mk (tyOK 518 Tryz.t518 d518 rfl Tryz.type518 (u518)) AllT.lf AllT.lf) AllT.lf) (AllT.mk (tyOK 390 Tryz.t390 d390 rfl Tryz.type390 (u390)) AllT.lf AllT.lf)) (AllT.mk (tyOK 198 Tryz.t198 d198 rfl Tryz.type198 (u198)) (AllT.mk (tyOK 326 Tryz.t326 d326 rfl Tryz.type326 (u326)) AllT.lf AllT.lf) (AllT.mk (tyOK 454 Tryz.t454 d454 rfl Tryz.type454 (u454)) AllT.lf AllT.lf))) (AllT.mk (tyOK 102 Tryz.t102 d102 rfl Tryz.type102 (u102)) (AllT.mk (tyOK 166 Tryz.t166 d166 rfl Tryz.type166 (u166)) (AllT.mk (tyOK 294 Tryz.t294 d294 rfl Tryz.type294 (u294)) AllT.lf AllT.lf) (AllT.mk (tyOK 422 Tryz.t422 d422 rfl Tryz.type422 (u422)) AllT.lf AllT.lf)) (AllT.mk (tyOK 230 Tryz.t230 d230 rfl Tryz.type230 (u230)) (AllT.mk (tyOK 358 Tryz.t358 d358 rfl Tryz.type358 (u358)) AllT.lf AllT.lf) (AllT.mk (tyOK 486 Tryz.t486 d486 rfl Tryz.type486 (u486)) AllT.lf AllT.lf)))) (AllT.mk (tyOK 54 Tryz.t54 d54 rfl Tryz.type54 (u54)) (AllT.mk (tyOK 86 Tryz.t86 d86 rfl Tryz.type86 (u86)) (AllT.mk (tyOK 150 Tryz.t150 d150 rfl Tryz.type150 (u150)) (AllT.mk (tyOK 278 Tryz.t278 d278 rfl Tryz.type278 (u278)) AllT.lf AllT.lf) (AllT.mk (tyOK 406 Tryz.t406 d406 rfl Tryz.type406 (u406)) AllT.lf AllT.lf)) (AllT.mk (tyOK 214 Tryz.t214 d214 rfl Tryz.type214 (u214)) (AllT.mk (tyOK 342 Tryz.t342 d342 rfl Tryz.type342 (u342)) AllT.lf AllT.lf) (AllT.mk (tyOK 470 Tryz.t470 d470 rfl Tryz.type470 (u470)) AllT.lf AllT.lf))) (AllT.mk (tyOK 118 Tryz.t118 d118 rfl Tryz.type118 (u118)) (AllT.mk (tyOK 182 Tryz.t182 d182 rfl Tryz.type182 (u182)) (AllT.mk (tyOK 310 Tryz.t310 d310 rfl Tryz.type310 (u310)) AllT.lf AllT.lf) (AllT.mk (tyOK 438 Tryz.t438 d438 rfl Tryz.type438 (u438)) AllT.lf AllT.lf)) (AllT.mk (tyOK 246 Tryz.t246 d246 rfl Tryz.type246 (u246)) (AllT.mk (tyOK 374 Tryz.t374 d374 rfl Tryz.type374 (u374)) AllT.lf AllT.lf) (AllT.mk (tyOK 502 Tryz.t502 d502 rfl Tryz.type502 (u502)) AllT.lf AllT.lf))))) (AllT.mk (tyOK 30 Tryz.t30 d30 rfl Tryz.type30 (u30)) (AllT.mk (tyOK 46 Tryz.t46 d46 rfl Tryz.type46 (u46)) (AllT.mk (tyOK 78 Tryz.t78 d78 rfl Tryz.type78 (u78)) (AllT.mk (tyOK 142 Tryz.t142 d142 rfl Tryz.type142 (u142)) (AllT.mk (tyOK 270 Tryz.t270 d270 rfl Tryz.type270 (u270)) (AllT.mk (tyOK 526 Tryz.t526 d526 rfl Tryz.type526 (u526)) AllT.lf AllT.lf) AllT.lf) (AllT.mk (tyOK 398 Tryz.t398 d398 rfl Tryz.type398 (u398)) AllT.lf AllT.lf)) (AllT.mk (tyOK 206 Tryz.t206 d206 rfl Tryz.type206 (u206)) (AllT.mk (tyOK 334 Tryz.t334 d334 rfl Tryz.type334 (u334)) AllT.lf AllT.lf) (AllT.mk (tyOK 462 Tryz.t462 d462 rfl Tryz.type462 (u462)) AllT.lf AllT.lf))) (AllT.mk (tyOK 110 Tryz.t110 d110 rfl Tryz.type110 (u110)) (AllT.mk (tyOK 174 Tryz.t174 d174 rfl Tryz.type174 (u174)) (AllT.mk (tyOK 302 Tryz.t302 d302 rfl Tryz.type302 (u302)) AllT.lf AllT.lf) (AllT.mk (tyOK 430 Tryz.t430 d430 rfl Tryz.type430 (u430)) AllT.lf AllT.lf)) (AllT.mk (tyOK 238 Tryz.t238 d238 rfl Tryz.type238 (u238)) (AllT.mk (tyOK 366 Tryz.t366 d366 rfl Tryz.type366 (u366)) AllT.lf AllT.lf) (AllT.mk (tyOK 494 Tryz.t494 d494 rfl Tryz.type494 (u494)) AllT.lf AllT.lf)))) (AllT.mk (tyOK 62 Tryz.t62 d62 rfl Tryz.type62 (u62)) (AllT.mk (tyOK 94 Tryz.t94 d94 rfl Tryz.type94 (u94)) (AllT.mk (tyOK 158 Tryz.t158 d158 rfl Tryz.type158 (u158)) (AllT.mk (tyOK 286 Tryz.t286 d286 rfl Tryz.type286 (u286)) AllT.lf AllT.lf) (AllT.mk (tyOK 414 Tryz.t414 d414 rfl Tryz.type414 (u414)) AllT.lf AllT.lf)) (AllT.mk (tyOK 222 Tryz.t222 d222 rfl Tryz.type222 (u222)) (AllT.mk (tyOK 350 Tryz.t350 d350 rfl Tryz.type350 (u350)) AllT.lf AllT.lf) (AllT.mk (tyOK 478 Tryz.t478 d478 rfl Tryz.type478 (u478)) AllT.lf AllT.lf))) (AllT.mk (tyOK 126 Tryz.t126 d126 rfl Tryz.type126 (u126)) (AllT.mk (tyOK 190 Tryz.t190 d190 rfl Tryz.type190 (u190)) (AllT.mk (tyOK 318 Tryz.t318 d318 rfl Tryz.type318 (u318)) AllT.lf AllT.lf) (AllT.mk (tyOK 446 Tryz.t446 d446 rfl Tryz.type446 (u446)) AllT.lf AllT.lf)) (AllT.mk (tyOK 254 Tryz.t254 d254 rfl Tryz.type254 (u254)) (AllT.mk (tyOK 382 Tryz.t382 d382 rfl Tryz.type382 (u382)) AllT.lf AllT.lf) (AllT.mk (tyOK 510 Tryz.t510 d510 rfl Tryz.type510 (u510)) AllT.lf AllT.lf)))))))))
noncomputable def fn_lllll : T (Option Func) := (T.node (T.node (T.node (T.node T.leaf (some Tryz.f255) T.leaf) (some Tryz.f127) (T.node T.leaf (some Tryz.f383) T.leaf)) (some Tryz.f63) (T.node (T.node T.leaf (some Tryz.f319) T.leaf) (some Tryz.f191) T.leaf)) (some Tryz.f31) (T.node (T.node (T.node T.leaf (some Tryz.f287) T.leaf) (some Tryz.f159) (T.node T.leaf (some Tryz.f415) T.leaf)) (some Tryz.f95) (T.node (T.node T.leaf (some Tryz.f351) T.leaf) (some Tryz.f223) T.leaf)))
noncomputable def fn_llllr : T (Option Func) := (T.node (T.node (T.node (T.node T.leaf (some Tryz.f271) T.leaf) (some Tryz.f143) (T.node T.leaf (some Tryz.f399) T.leaf)) (some Tryz.f79) (T.node (T.node T.leaf (some Tryz.f335) T.leaf) (some Tryz.f207) T.leaf)) (some Tryz.f47) (T.node (T.node (T.node T.leaf (some Tryz.f303) T.leaf) (some Tryz.f175) (T.node T.leaf (some Tryz.f431) T.leaf)) (some Tryz.f111) (T.node (T.node T.leaf (some Tryz.f367) T.leaf) (some Tryz.f239) T.leaf)))
noncomputable def fn_lllrl : T (Option Func) := (T.node (T.node (T.node (T.node T.leaf (some Tryz.f263) T.leaf) (some Tryz.f135) (T.node T.leaf (some Tryz.f391) T.leaf)) (some Tryz.f71) (T.node (T.node T.leaf (some Tryz.f327) T.leaf) (some Tryz.f199) T.leaf)) (some Tryz.f39) (T.node (T.node (T.node T.leaf (some Tryz.f295) T.leaf) (some Tryz.f167) (T.node T.leaf (some Tryz.f423) T.leaf)) (some Tryz.f103) (T.node (T.node T.leaf (some Tryz.f359) T.leaf) (some Tryz.f231) T.leaf)))
noncomputable def fn_lllrr : T (Option Func) := (T.node (T.node (T.node (T.node T.leaf (some Tryz.f279) T.leaf) (some Tryz.f151) (T.node T.leaf (some Tryz.f407) T.leaf)) (some Tryz.f87) (T.node (T.node T.leaf (some Tryz.f343) T.leaf) (some Tryz.f215) T.leaf)) (some Tryz.f55) (T.node (T.node (T.node T.leaf (some Tryz.f311) T.leaf) (some Tryz.f183) T.leaf) (some Tryz.f119) (T.node (T.node T.leaf (some Tryz.f375) T.leaf) (some Tryz.f247) T.leaf)))
noncomputable def fn_llrll : T (Option Func) := (T.node (T.node (T.node (T.node T.leaf (some Tryz.f259) T.leaf) (some Tryz.f131) (T.node T.leaf (some Tryz.f387) T.leaf)) (some Tryz.f67) (T.node (T.node T.leaf (some Tryz.f323) T.leaf) (some Tryz.f195) T.leaf)) (some Tryz.f35) (T.node (T.node (T.node T.leaf (some Tryz.f291) T.leaf) (some Tryz.f163) (T.node T.leaf (some Tryz.f419) T.leaf)) (some Tryz.f99) (T.node (T.node T.leaf (some Tryz.f355) T.leaf) (some Tryz.f227) T.leaf)))
noncomputable def fn_llrlr : T (Option Func) := (T.node (T.node (T.node (T.node T.leaf (some Tryz.f275) T.leaf) (some Tryz.f147) (T.node T.leaf (some Tryz.f403) T.leaf)) (some Tryz.f83) (T.node (T.node T.leaf (some Tryz.f339) T.leaf) (some Tryz.f211) T.leaf)) (some Tryz.f51) (T.node (T.node (T.node T.leaf (some Tryz.f307) T.leaf) (some Tryz.f179) T.leaf) (some Tryz.f115) (T.node (T.node T.leaf (some Tryz.f371) T.leaf) (some Tryz.f243) T.leaf)))
noncomputable def fn_llrrl : T (Option Func) := (T.node (T.node (T.node (T.node T.leaf (some Tryz.f267) T.leaf) (some Tryz.f139) (T.node T.leaf (some Tryz.f395) T.leaf)) (some Tryz.f75) (T.node (T.node T.leaf (some Tryz.f331) T.leaf) (some Tryz.f203) T.leaf)) (some Tryz.f43) (T.node (T.node (T.node T.leaf (some Tryz.f299) T.leaf) (some Tryz.f171) (T.node T.leaf (some Tryz.f427) T.leaf)) (some Tryz.f107) (T.node (T.node T.leaf (some Tryz.f363) T.leaf) (some Tryz.f235) T.leaf)))
noncomputable def fn_llrrr : T (Option Func) := (T.node (T.node (T.node (T.node T.leaf (some Tryz.f283) T.leaf) (some Tryz.f155) (T.node T.leaf (some Tryz.f411) T.leaf)) (some Tryz.f91) (T.node (T.node T.leaf (some Tryz.f347) T.leaf) (some Tryz.f219) T.leaf)) (some Tryz.f59) (T.node (T.node (T.node T.leaf (some Tryz.f315) T.leaf) (some Tryz.f187) T.leaf) (some Tryz.f123) (T.node (T.node T.leaf (some Tryz.f379) T.leaf) (some Tryz.f251) T.leaf)))
noncomputable def fn_lrlll : T (Option Func) := (T.node (T.node (T.node (T.node T.leaf (some Tryz.f257) T.leaf) (some Tryz.f129) (T.node T.leaf (some Tryz.f385) T.leaf)) (some Tryz.f65) (T.node (T.node T.leaf (some Tryz.f321) T.leaf) (some Tryz.f193) T.leaf)) (some Tryz.f33) (T.node (T.node (T.node T.leaf (some Tryz.f289) T.leaf) (some Tryz.f161) (T.node T.leaf (some Tryz.f417) T.leaf)) (some Tryz.f97) (T.node (T.node T.leaf (some Tryz.f353) T.leaf) (some Tryz.f225) T.leaf)))
noncomputable def fn_lrllr : T (Option Func) := (T.node (T.node (T.node (T.node T.leaf (some Tryz.f273) T.leaf) (some Tryz.f145) (T.node T.leaf (some Tryz.f401) T.leaf)) (some Tryz.f81) (T.node (T.node T.leaf (some Tryz.f337) T.leaf) (some Tryz.f209) T.leaf)) (some Tryz.f49) (T.node (T.node (T.node T.leaf (some Tryz.f305) T.leaf) (some Tryz.f177) (T.node T.leaf (some Tryz.f433) T.leaf)) (some Tryz.f113) (T.node (T.node T.leaf (some Tryz.f369) T.leaf) (some Tryz.f241) T.leaf)))
noncomputable def fn_lrlrl : T (Option Func) := (T.node (T.node (T.node (T.node T.leaf (some Tryz.f265) T.leaf) (some Tryz.f137) (T.node T.leaf (some Tryz.f393) T.leaf)) (some Tryz.f73) (T.node (T.node T.leaf (some Tryz.f329) T.leaf) (some Tryz.f201) T.leaf)) (some Tryz.f41) (T.node (T.node (T.node T.leaf (some Tryz.f297) T.leaf) (some Tryz.f169) (T.node T.leaf (some Tryz.f425) T.leaf)) (some Tryz.f105) (T.node (T.node T.leaf (some Tryz.f361) T.leaf) (some Tryz.f233) T.leaf)))
noncomputable def fn_lrlrr : T (Option Func) := (T.node (T.node (T.node (T.node T.leaf (some Tryz.f281) T.leaf) (some Tryz.f153) (T.node T.leaf (some Tryz.f409) T.leaf)) (some Tryz.f89) (T.node (T.node T.leaf (some Tryz.f345) T.leaf) (some Tryz.f217) T.leaf)) (some Tryz.f57) (T.node (T.node (T.node T.leaf (some Tryz.f313) T.leaf) (some Tryz.f185) T.leaf) (some Tryz.f121) (T.node (T.node T.leaf (some Tryz.f377) T.leaf) (some Tryz.f249) T.leaf)))
noncomputable def fn_lrrll : T (Option Func) := (T.node (T.node (T.node (T.node T.leaf (some Tryz.f261) T.leaf) (some Tryz.f133) (T.node T.leaf (some Tryz.f389) T.leaf)) (some Tryz.f69) (T.node (T.node T.leaf (some Tryz.f325) T.leaf) (some Tryz.f197) T.leaf)) (some Tryz.f37) (T.node (T.node (T.node T.leaf (some Tryz.f293) T.leaf) (some Tryz.f165) (T.node T.leaf (some Tryz.f421) T.leaf)) (some Tryz.f101) (T.node (T.node T.leaf (some Tryz.f357) T.leaf) (some Tryz.f229) T.leaf)))
noncomputable def fn_lrrlr : T (Option Func) := (T.node (T.node (T.node (T.node T.leaf (some Tryz.f277) T.leaf) (some Tryz.f149) (T.node T.leaf (some Tryz.f405) T.leaf)) (some Tryz.f85) (T.node (T.node T.leaf (some Tryz.f341) T.leaf) (some Tryz.f213) T.leaf)) (some Tryz.f53) (T.node (T.node (T.node T.leaf (some Tryz.f309) T.leaf) (some Tryz.f181) T.leaf) (some Tryz.f117) (T.node (T.node T.leaf (some Tryz.f373) T.leaf) (some Tryz.f245) T.leaf)))
noncomputable def fn_lrrrl : T (Option Func) := (T.node (T.node (T.node (T.node T.leaf (some Tryz.f269) T.leaf) (some Tryz.f141) (T.node T.leaf (some Tryz.f397) T.leaf)) (some Tryz.f77) (T.node (T.node T.leaf (some Tryz.f333) T.leaf) (some Tryz.f205) T.leaf)) (some Tryz.f45) (T.node (T.node (T.node T.leaf (some Tryz.f301) T.leaf) (some Tryz.f173) (T.node T.leaf (some Tryz.f429) T.leaf)) (some Tryz.f109) (T.node (T.node T.leaf (some Tryz.f365) T.leaf) (some Tryz.f237) T.leaf)))
noncomputable def fn_lrrrr : T (Option Func) := (T.node (T.node (T.node (T.node T.leaf (some Tryz.f285) T.leaf) (some Tryz.f157) (T.node T.leaf (some Tryz.f413) T.leaf)) (some Tryz.f93) (T.node (T.node T.leaf (some Tryz.f349) T.leaf) (some Tryz.f221) T.leaf)) (some Tryz.f61) (T.node (T.node (T.node T.leaf (some Tryz.f317) T.leaf) (some Tryz.f189) T.leaf) (some Tryz.f125) (T.node (T.node T.leaf (some Tryz.f381) T.leaf) (some Tryz.f253) T.leaf)))
noncomputable def fn_rllll : T (Option Func) := (T.node (T.node (T.node (T.node T.leaf (some Tryz.f256) T.leaf) (some Tryz.f128) (T.node T.leaf (some Tryz.f384) T.leaf)) (some Tryz.f64) (T.node (T.node T.leaf (some Tryz.f320) T.leaf) (some Tryz.f192) T.leaf)) (some Tryz.f32) (T.node (T.node (T.node T.leaf (some Tryz.f288) T.leaf) (some Tryz.f160) (T.node T.leaf (some Tryz.f416) T.leaf)) (some Tryz.f96) (T.node (T.node T.leaf (some Tryz.f352) T.leaf) (some Tryz.f224) T.leaf)))
noncomputable def fn_rlllr : T (Option Func) := (T.node (T.node (T.node (T.node T.leaf (some Tryz.f272) T.leaf) (some Tryz.f144) (T.node T.leaf (some Tryz.f400) T.leaf)) (some Tryz.f80) (T.node (T.node T.leaf (some Tryz.f336) T.leaf) (some Tryz.f208) T.leaf)) (some Tryz.f48) (T.node (T.node (T.node T.leaf (some Tryz.f304) T.leaf) (some Tryz.f176) (T.node T.leaf (some Tryz.f432) T.leaf)) (some Tryz.f112) (T.node (T.node T.leaf (some Tryz.f368) T.leaf) (some Tryz.f240) T.leaf)))
noncomputable def fn_rllrl : T (Option Func) := (T.node (T.node (T.node (T.node T.leaf (some Tryz.f264) T.leaf) (some Tryz.f136) (T.node T.leaf (some Tryz.f392) T.leaf)) (some Tryz.f72) (T.node (T.node T.leaf (some Tryz.f328) T.leaf) (some Tryz.f200) T.leaf)) (some Tryz.f40) (T.node (T.node (T.node T.leaf (some Tryz.f296) T.leaf) (some Tryz.f168) (T.node T.leaf (some Tryz.f424) T.leaf)) (some Tryz.f104) (T.node (T.node T.leaf (some Tryz.f360) T.leaf) (some Tryz.f232) T.leaf)))
noncomputable def fn_rllrr : T (Option Func) := (T.node (T.node (T.node (T.node T.leaf (some Tryz.f280) T.leaf) (some Tryz.f152) (T.node T.leaf (some Tryz.f408) T.leaf)) (some Tryz.f88) (T.node (T.node T.leaf (some Tryz.f344) T.leaf) (some Tryz.f216) T.leaf)) (some Tryz.f56) (T.node (T.node (T.node T.leaf (some Tryz.f312) T.leaf) (some Tryz.f184) T.leaf) (some Tryz.f120) (T.node (T.node T.leaf (some Tryz.f376) T.leaf) (some Tryz.f248) T.leaf)))
noncomputable def fn_rlrll : T (Option Func) := (T.node (T.node (T.node (T.node T.leaf (some Tryz.f260) T.leaf) (some Tryz.f132) (T.node T.leaf (some Tryz.f388) T.leaf)) (some Tryz.f68) (T.node (T.node T.leaf (some Tryz.f324) T.leaf) (some Tryz.f196) T.leaf)) (some Tryz.f36) (T.node (T.node (T.node T.leaf (some Tryz.f292) T.leaf) (some Tryz.f164) (T.node T.leaf (some Tryz.f420) T.leaf)) (some Tryz.f100) (T.node (T.node T.leaf (some Tryz.f356) T.leaf) (some Tryz.f228) T.leaf)))
noncomputable def fn_rlrlr : T (Option Func) := (T.node (T.node (T.node (T.node T.leaf (some Tryz.f276) T.leaf) (some Tryz.f148) (T.node T.leaf (some Tryz.f404) T.leaf)) (some Tryz.f84) (T.node (T.node T.leaf (some Tryz.f340) T.leaf) (some Tryz.f212) T.leaf)) (some Tryz.f52) (T.node (T.node (T.node T.leaf (some Tryz.f308) T.leaf) (some Tryz.f180) T.leaf) (some Tryz.f116) (T.node (T.node T.leaf (some Tryz.f372) T.leaf) (some Tryz.f244) T.leaf)))
noncomputable def fn_rlrrl : T (Option Func) := (T.node (T.node (T.node (T.node T.leaf (some Tryz.f268) T.leaf) (some Tryz.f140) (T.node T.leaf (some Tryz.f396) T.leaf)) (some Tryz.f76) (T.node (T.node T.leaf (some Tryz.f332) T.leaf) (some Tryz.f204) T.leaf)) (some Tryz.f44) (T.node (T.node (T.node T.leaf (some Tryz.f300) T.leaf) (some Tryz.f172) (T.node T.leaf (some Tryz.f428) T.leaf)) (some Tryz.f108) (T.node (T.node T.leaf (some Tryz.f364) T.leaf) (some Tryz.f236) T.leaf)))
noncomputable def fn_rlrrr : T (Option Func) := (T.node (T.node (T.node (T.node T.leaf (some Tryz.f284) T.leaf) (some Tryz.f156) (T.node T.leaf (some Tryz.f412) T.leaf)) (some Tryz.f92) (T.node (T.node T.leaf (some Tryz.f348) T.leaf) (some Tryz.f220) T.leaf)) (some Tryz.f60) (T.node (T.node (T.node T.leaf (some Tryz.f316) T.leaf) (some Tryz.f188) T.leaf) (some Tryz.f124) (T.node (T.node T.leaf (some Tryz.f380) T.leaf) (some Tryz.f252) T.leaf)))
noncomputable def fn_rrlll : T (Option Func) := (T.node (T.node (T.node (T.node T.leaf (some Tryz.f258) T.leaf) (some Tryz.f130) (T.node T.leaf (some Tryz.f386) T.leaf)) (some Tryz.f66) (T.node (T.node T.leaf (some Tryz.f322) T.leaf) (some Tryz.f194) T.leaf)) (some Tryz.f34) (T.node (T.node (T.node T.leaf (some Tryz.f290) T.leaf) (some Tryz.f162) (T.node T.leaf (some Tryz.f418) T.leaf)) (some Tryz.f98) (T.node (T.node T.leaf (some Tryz.f354) T.leaf) (some Tryz.f226) T.leaf)))
noncomputable def fn_rrllr : T (Option Func) := (T.node (T.node (T.node (T.node T.leaf (some Tryz.f274) T.leaf) (some Tryz.f146) (T.node T.leaf (some Tryz.f402) T.leaf)) (some Tryz.f82) (T.node (T.node T.leaf (some Tryz.f338) T.leaf) (some Tryz.f210) T.leaf)) (some Tryz.f50) (T.node (T.node (T.node T.leaf (some Tryz.f306) T.leaf) (some Tryz.f178) (T.node T.leaf (some Tryz.f434) T.leaf)) (some Tryz.f114) (T.node (T.node T.leaf (some Tryz.f370) T.leaf) (some Tryz.f242) T.leaf)))
noncomputable def fn_rrlrl : T (Option Func) := (T.node (T.node (T.node (T.node T.leaf (some Tryz.f266) T.leaf) (some Tryz.f138) (T.node T.leaf (some Tryz.f394) T.leaf)) (some Tryz.f74) (T.node (T.node T.leaf (some Tryz.f330) T.leaf) (some Tryz.f202) T.leaf)) (some Tryz.f42) (T.node (T.node (T.node T.leaf (some Tryz.f298) T.leaf) (some Tryz.f170) (T.node T.leaf (some Tryz.f426) T.leaf)) (some Tryz.f106) (T.node (T.node T.leaf (some Tryz.f362) T.leaf) (some Tryz.f234) T.leaf)))
noncomputable def fn_rrlrr : T (Option Func) := (T.node (T.node (T.node (T.node T.leaf (some Tryz.f282) T.leaf) (some Tryz.f154) (T.node T.leaf (some Tryz.f410) T.leaf)) (some Tryz.f90) (T.node (T.node T.leaf (some Tryz.f346) T.leaf) (some Tryz.f218) T.leaf)) (some Tryz.f58) (T.node (T.node (T.node T.leaf (some Tryz.f314) T.leaf) (some Tryz.f186) T.leaf) (some Tryz.f122) (T.node (T.node T.leaf (some Tryz.f378) T.leaf) (some Tryz.f250) T.leaf)))
noncomputable def fn_rrrll : T (Option Func) := (T.node (T.node (T.node (T.node T.leaf (some Tryz.f262) T.leaf) (some Tryz.f134) (T.node T.leaf (some Tryz.f390) T.leaf)) (some Tryz.f70) (T.node (T.node T.leaf (some Tryz.f326) T.leaf) (some Tryz.f198) T.leaf)) (some Tryz.f38) (T.node (T.node (T.node T.leaf (some Tryz.f294) T.leaf) (some Tryz.f166) (T.node T.leaf (some Tryz.f422) T.leaf)) (some Tryz.f102) (T.node (T.node T.leaf (some Tryz.f358) T.leaf) (some Tryz.f230) T.leaf)))
noncomputable def fn_rrrlr : T (Option Func) := (T.node (T.node (T.node (T.node T.leaf (some Tryz.f278) T.leaf) (some Tryz.f150) (T.node T.leaf (some Tryz.f406) T.leaf)) (some Tryz.f86) (T.node (T.node T.leaf (some Tryz.f342) T.leaf) (some Tryz.f214) T.leaf)) (some Tryz.f54) (T.node (T.node (T.node T.leaf (some Tryz.f310) T.leaf) (some Tryz.f182) T.leaf) (some Tryz.f118) (T.node (T.node T.leaf (some Tryz.f374) T.leaf) (some Tryz.f246) T.leaf)))
noncomputable def fn_rrrrl : T (Option Func) := (T.node (T.node (T.node (T.node T.leaf (some Tryz.f270) T.leaf) (some Tryz.f142) (T.node T.leaf (some Tryz.f398) T.leaf)) (some Tryz.f78) (T.node (T.node T.leaf (some Tryz.f334) T.leaf) (some Tryz.f206) T.leaf)) (some Tryz.f46) (T.node (T.node (T.node T.leaf (some Tryz.f302) T.leaf) (some Tryz.f174) (T.node T.leaf (some Tryz.f430) T.leaf)) (some Tryz.f110) (T.node (T.node T.leaf (some Tryz.f366) T.leaf) (some Tryz.f238) T.leaf)))
noncomputable def fn_rrrrr : T (Option Func) := (T.node (T.node (T.node (T.node T.leaf (some Tryz.f286) T.leaf) (some Tryz.f158) (T.node T.leaf (some Tryz.f414) T.leaf)) (some Tryz.f94) (T.node (T.node T.leaf (some Tryz.f350) T.leaf) (some Tryz.f222) T.leaf)) (some Tryz.f62) (T.node (T.node (T.node T.leaf (some Tryz.f318) T.leaf) (some Tryz.f190) T.leaf) (some Tryz.f126) (T.node (T.node T.leaf (some Tryz.f382) T.leaf) (some Tryz.f254) T.leaf)))
set_option maxRecDepth 20000 in
noncomputable def fnT : T (Option Func) :=
  (T.node (T.node (T.node (T.node (T.node fn_lllll (some Tryz.f15) fn_llllr) (some Tryz.f7) (T.node fn_lllrl (some Tryz.f23) fn_lllrr)) (some Tryz.f3) (T.node (T.node fn_llrll (some Tryz.f19) fn_llrlr) (some Tryz.f11) (T.node fn_llrrl (some Tryz.f27) fn_llrrr))) (some Tryz.f1) (T.node (T.node (T.node fn_lrlll (some Tryz.f17) fn_lrllr) (some Tryz.f9) (T.node fn_lrlrl (some Tryz.f25) fn_lrlrr)) (some Tryz.f5) (T.node (T.node fn_lrrll (some Tryz.f21) fn_lrrlr) (some Tryz.f13) (T.node fn_lrrrl (some Tryz.f29) fn_lrrrr)))) (some Tryz.f0) (T.node (T.node (T.node (T.node fn_rllll (some Tryz.f16) fn_rlllr) (some Tryz.f8) (T.node fn_rllrl (some Tryz.f24) fn_rllrr)) (some Tryz.f4) (T.node (T.node fn_rlrll (some Tryz.f20) fn_rlrlr) (some Tryz.f12) (T.node fn_rlrrl (some Tryz.f28) fn_rlrrr))) (some Tryz.f2) (T.node (T.node (T.node fn_rrlll (some Tryz.f18) fn_rrllr) (some Tryz.f10) (T.node fn_rrlrl (some Tryz.f26) fn_rrlrr)) (some Tryz.f6) (T.node (T.node fn_rrrll (some Tryz.f22) fn_rrrlr) (some Tryz.f14) (T.node fn_rrrrl (some Tryz.f30) fn_rrrrr)))))
set_option maxRecDepth 20000 in
set_option maxHeartbeats 4000000 in
theorem fnT_ok : AllT FnOK fnT :=
  (AllT.mk (fnOK 0 Tryz.f0 rfl Tryz.func0 n0) (AllT.mk (fnOK 1 Tryz.f1 rfl Tryz.func1 n1) (AllT.mk (fnOK 3 Tryz.f3 rfl Tryz.func3 n3) (AllT.mk (fnOK 7 Tryz.f7 rfl Tryz.func7 n7) (AllT.mk (fnOK 15 Tryz.f15 rfl Tryz.func15 n15) (AllT.mk (fnOK 31 Tryz.f31 rfl Tryz.func31 n31) (AllT.mk (fnOK 63 Tryz.f63 rfl Tryz.func63 n63) (AllT.mk (fnOK 127 Tryz.f127 rfl Tryz.func127 n127) (AllT.mk (fnOK 255 Tryz.f255 rfl Tryz.func255 n255) AllT.lf AllT.lf) (AllT.mk (fnOK 383 Tryz.f383 rfl Tryz.func383 n383) AllT.lf AllT.lf)) (AllT.mk (fnOK 191 Tryz.f191 rfl Tryz.func191 n191) (AllT.mk (fnOK 319 Tryz.f319 rfl Tryz.func319 n319) AllT.lf AllT.lf) AllT.lf)) (AllT.mk (fnOK 95 Tryz.f95 rfl Tryz.func95 n95) (AllT.mk (fnOK 159 Tryz.f159 rfl Tryz.func159 n159) (AllT.mk (fnOK 287 Tryz.f287 rfl Tryz.func287 n287) AllT.lf AllT.lf) (AllT.mk (fnOK 415 Tryz.f415 rfl Tryz.func415 n415) AllT.lf AllT.lf)) (AllT.mk (fnOK 223 Tryz.f223 rfl Tryz.func223 n223) (AllT.mk (fnOK 351 Tryz.f351 rfl Tryz.func351 n351) AllT.lf AllT.lf) AllT.lf))) (AllT.mk (fnOK 47 Tryz.f47 rfl Tryz.func47 n47) (AllT.mk (fnOK 79 Tryz.f79 rfl Tryz.func79 n79) (AllT.mk (fnOK 143 Tryz.f143 rfl Tryz.func143 n143) (AllT.mk (fnOK 271 Tryz.f271 rfl Tryz.func271 n271) AllT.lf AllT.lf) (AllT.mk (fnOK 399 Tryz.f399 rfl Tryz.func399 n399) AllT.lf AllT.lf)) (AllT.mk (fnOK 207 Tryz.f207 rfl Tryz.func207 n207) (AllT.mk (fnOK 335 Tryz.f335 rfl Tryz.func335 n335) AllT.lf AllT.lf) AllT.lf)) (AllT.mk (fnOK 111 Tryz.f111 rfl Tryz.func111 n111) (AllT.mk (fnOK 175 Tryz.f175 rfl Tryz.func175 n175) (AllT.mk (fnOK 303 Tryz.f303 rfl Tryz.func303 n303) AllT.lf AllT.lf) (AllT.mk (fnOK 431 Tryz.f431 rfl Tryz.func431 n431) AllT.lf AllT.lf)) (AllT.mk (fnOK 239 Tryz.f239 rfl Tryz.func239 n239) (AllT.mk (fnOK 367 Tryz.f367 rfl Tryz.func367 n367) AllT.lf AllT.lf) AllT.lf)))) (AllT.mk (fnOK 23 Tryz.f23 rfl Tryz.func23 n23) (AllT.mk (fnOK 39 Tryz.f39 rfl Tryz.func39 n39) (AllT.mk (fnOK 71 Tryz.f71 rfl Tryz.func71 n71) (AllT.mk (fnOK 135 Tryz.f135 rfl Tryz.func135 n135) (AllT.mk (fnOK 263 Tryz.f263 rfl Tryz.func263 n263) AllT.lf AllT.lf) (AllT.mk (fnOK 391 Tryz.f391 rfl Tryz.func391 n391) AllT.lf AllT.lf)) (AllT.mk (fnOK 199 Tryz.f199 rfl Tryz.func199 n199) (AllT.mk (fnOK 327 Tryz.f327 rfl Tryz.func327 n327) AllT.lf AllT.lf) AllT.lf)) (AllT.mk (fnOK 103 Tryz.f103 rfl Tryz.func103 n103) (AllT.mk (fnOK 167 Tryz.f167 rfl Tryz.func167 n167) (AllT.mk (fnOK 295 Tryz.f295 rfl Tryz.func295 n295) AllT.lf AllT.lf) (AllT.mk (fnOK 423 Tryz.f423 rfl Tryz.func423 n423) AllT.lf AllT.lf)) (AllT.mk (fnOK 231 Tryz.f231 rfl Tryz.func231 n231) (AllT.mk (fnOK 359 Tryz.f359 rfl Tryz.func359 n359) AllT.lf AllT.lf) AllT.lf))) (AllT.mk (fnOK 55 Tryz.f55 rfl Tryz.func55 n55) (AllT.mk (fnOK 87 Tryz.f87 rfl Tryz.func87 n87) (AllT.mk (fnOK 151 Tryz.f151 rfl Tryz.func151 n151) (AllT.mk (fnOK 279 Tryz.f279 rfl Tryz.func279 n279) AllT.lf AllT.lf) (AllT.mk (fnOK 407 Tryz.f407 rfl Tryz.func407 n407) AllT.lf AllT.lf)) (AllT.mk (fnOK 215 Tryz.f215 rfl Tryz.func215 n215) (AllT.mk (fnOK 343 Tryz.f343 rfl Tryz.func343 n343) AllT.lf AllT.lf) AllT.lf)) (AllT.mk (fnOK 119 Tryz.f119 rfl Tryz.func119 n119) (AllT.mk (fnOK 183 Tryz.f183 rfl Tryz.func183 n183) (AllT.mk (fnOK 311 Tryz.f311 rfl Tryz.func311 n311) AllT.lf AllT.lf) AllT.lf) (AllT.mk (fnOK 247 Tryz.f247 rfl Tryz.func247 n247) (AllT.mk (fnOK 375 Tryz.f375 rfl Tryz.func375 n375) AllT.lf AllT.lf) AllT.lf))))) (AllT.mk (fnOK 11 Tryz.f11 rfl Tryz.func11 n11) (AllT.mk (fnOK 19 Tryz.f19 rfl Tryz.func19 n19) (AllT.mk (fnOK 35 Tryz.f35 rfl Tryz.func35 n35) (AllT.mk (fnOK 67 Tryz.f67 rfl Tryz.func67 n67) (AllT.mk (fnOK 131 Tryz.f131 rfl Tryz.func131 n131) (AllT.mk (fnOK 259 Tryz.f259 rfl Tryz.func259 n259) AllT.lf AllT.lf) (AllT.mk (fnOK 387 Tryz.f387 rfl Tryz.func387 n387) AllT.lf AllT.lf)) (AllT.mk (fnOK 195 Tryz.f195 rfl Tryz.func195 n195) (AllT.mk (fnOK 323 Tryz.f323 rfl Tryz.func323 n323) AllT.lf AllT.lf) AllT.lf)) (AllT.mk (fnOK 99 Tryz.f99 rfl Tryz.func99 n99) (AllT.mk (fnOK 163 Tryz.f163 rfl Tryz.func163 n163) (AllT.mk (fnOK 291 Tryz.f291 rfl Tryz.func291 n291) AllT.lf AllT.lf) (AllT.mk (fnOK 419 Tryz.f419 rfl Tryz.func419 n419) AllT.lf AllT.lf)) (AllT.mk (fnOK 227 Tryz.f227 rfl Tryz.func227 n227) (AllT.mk (fnOK 355 Tryz.f355 rfl Tryz.func355 n355) AllT.lf AllT.lf) AllT.lf))) (AllT.mk (fnOK 51 Tryz.f51 rfl Tryz.func51 n51) (AllT.mk (fnOK 83 Tryz.f83 rfl Tryz.func83 n83) (AllT.mk (fnOK 147 Tryz.f147 rfl Tryz.func147 n147) (AllT.mk (fnOK 275 Tryz.f275 rfl Tryz.func275 n275) AllT.lf AllT.lf) (AllT.mk (fnOK 403 Tryz.f403 rfl Tryz.func403 n403) AllT.lf AllT.lf)) (AllT.mk (fnOK 211 Tryz.f211 rfl Tryz.func211 n211) (AllT.mk (fnOK 339 Tryz.f339 rfl Tryz.func339 n339) AllT.lf AllT.lf) AllT.lf)) (AllT.mk (fnOK 115 Tryz.f115 rfl Tryz.func115 n115) (AllT.mk (fnOK 179 Tryz.f179 rfl Tryz.func179 n179) (AllT.mk (fnOK 307 Tryz.f307 rfl Tryz.func307 n307) AllT.lf AllT.lf) AllT.lf) (AllT.mk (fnOK 243 Tryz.f243 rfl Tryz.func243 n243) (AllT.mk (fnOK 371 Tryz.f371 rfl Tryz.func371 n371) AllT.lf AllT.lf) AllT.lf)))) (AllT.mk (fnOK 27 Tryz.f27 rfl Tryz.func27 n27) (AllT.mk (fnOK 43 Tryz.f43 rfl Tryz.func43 n43) (AllT.mk (fnOK 75 Tryz.f75 rfl Tryz.func75 n75) (AllT.mk (fnOK 139 Tryz.f139 rfl Tryz.func139 n139) (AllT.mk (fnOK 267 Tryz.f267 rfl Tryz.func267 n267) AllT.lf AllT.lf) (AllT.mk (fnOK 395 Tryz.f395 rfl Tryz.func395 n395) AllT.lf AllT.lf)) (AllT.mk (fnOK 203 Tryz.f203 rfl Tryz.func203 n203) (AllT.mk (fnOK 331 Tryz.f331 rfl Tryz.func331 n331) AllT.lf AllT.lf) AllT.lf)) (AllT.mk (fnOK 107 Tryz.f107 rfl Tryz.func107 n107) (AllT.mk (fnOK 171 Tryz.f171 rfl Tryz.func171 n171) (AllT.mk (fnOK 299 Tryz.f299 rfl Tryz.func299 n299) AllT.lf AllT.lf) (AllT.mk (fnOK 427 Tryz.f427 rfl Tryz.func427 n427) AllT.lf AllT.lf)) (AllT.mk (fnOK 235 Tryz.f235 rfl Tryz.func235 n235) (AllT.mk (fnOK 363 Tryz.f363 rfl Tryz.func363 n363) AllT.lf AllT.lf) AllT.lf))) (AllT.mk (fnOK 59 Tryz.f59 rfl Tryz.func59 n59) (AllT.mk (fnOK 91 Tryz.f91 rfl Tryz.func91 n91) (AllT.mk (fnOK 155 Tryz.f155 rfl Tryz.func155 n155) (AllT.mk (fnOK 283 Tryz.f283 rfl Tryz.func283 n283) AllT.lf AllT.lf) (AllT.mk (fnOK 411 Tryz.f411 rfl Tryz.func411 n411) AllT.lf AllT.lf)) (AllT.mk (fnOK 219 Tryz.f219 rfl Tryz.func219 n219) (AllT.mk (fnOK 347 Tryz.f347 rfl Tryz.func347 n347) AllT.lf AllT.lf) AllT.lf)) (AllT.mk (fnOK 123 Tryz.f123 rfl Tryz.func123 n123) (AllT.mk (fnOK 187 Tryz.f187 rfl Tryz.func187 n187) (AllT.mk (fnOK 315 Tryz.f315 rfl Tryz.func315 n315) AllT.lf AllT.lf) AllT.lf) (AllT.mk (fnOK 251 Tryz.f251 rfl Tryz.func251 n251) (AllT.mk (fnOK 379 Tryz.f379 rfl Tryz.func379 n379) AllT.lf AllT.lf) AllT.lf)))))) (AllT.mk (fnOK 5 Tryz.f5 rfl Tryz.func5 n5) (AllT.mk (fnOK 9 Tryz.f9 rfl Tryz.func9 n9) (AllT.mk (fnOK 17 Tryz.f17 rfl Tryz.func17 n17) (AllT.mk (fnOK 33 Tryz.f33 rfl Tryz.func33 n33) (AllT.mk (fnOK 65 Tryz.f65 rfl Tryz.func65 n65) (AllT.mk (fnOK 129 Tryz.f129 rfl Tryz.func129 n129) (AllT.mk (fnOK 257 Tryz.f257 rfl Tryz.func257 n257) AllT.lf AllT.lf) (AllT.mk (fnOK 385 Tryz.f385 rfl Tryz.func385 n385) AllT.lf AllT.lf)) (AllT.mk (fnOK 193 Tryz.f193 rfl Tryz.func193 n193) (AllT.mk (fnOK 321 Tryz.f321 rfl Tryz.func321 n321) AllT.lf AllT.lf) AllT.lf)) (AllT.mk (fnOK 97 Tryz.f97 rfl Tryz.func97 n97) (AllT.mk (fnOK 161 Tryz.f161 rfl Tryz.func161 n161) (AllT.mk (fnOK 289 Tryz.f289 rfl Tryz.func289 n289) AllT.lf AllT.lf) (AllT.mk (fnOK 417 Tryz.f417 rfl Tryz.func417 n417) AllT.lf AllT.lf)) (AllT.mk (fnOK 225 Tryz.f225 rfl Tryz.func225 n225) (AllT.mk (fnOK 353 Tryz.f353 rfl Tryz.func353 n353) AllT.lf AllT.lf) AllT.lf))) (AllT.mk (fnOK 49 Tryz.f49 rfl Tryz.func49 n49) (AllT.mk (fnOK 81 Tryz.f81 rfl Tryz.func81 n81) (AllT.mk (fnOK 145 Tryz.f145 rfl Tryz.func145 n145) (AllT.mk (fnOK 273 Tryz.f273 rfl Tryz.func273 n273) AllT.lf AllT.lf) (AllT.mk (fnOK 401 Tryz.f401 rfl Tryz.func401 n401) AllT.lf AllT.lf)) (AllT.mk (fnOK 209 Tryz.f209 rfl Tryz.func209 n209) (AllT.mk (fnOK 337 Tryz.f337 rfl Tryz.func337 n337) AllT.lf AllT.lf) AllT.lf)) (AllT.mk (fnOK 113 Tryz.f113 rfl Tryz.func113 n113) (AllT.mk (fnOK 177 Tryz.f177 rfl Tryz.func177 n177) (AllT.mk (fnOK 305 Tryz.f305 rfl Tryz.func305 n305) AllT.lf AllT.lf) (AllT.mk (fnOK 433 Tryz.f433 rfl Tryz.func433 n433) AllT.lf AllT.lf)) (AllT.mk (fnOK 241 Tryz.f241 rfl Tryz.func241 n241) (AllT.mk (fnOK 369 Tryz.f369 rfl Tryz.func369 n369) AllT.lf AllT.lf) AllT.lf)))) (AllT.mk (fnOK 25 Tryz.f25 rfl Tryz.func25 n25) (AllT.mk (fnOK 41 Tryz.f41 rfl Tryz.func41 n41) (AllT.mk (fnOK 73 Tryz.f73 rfl Tryz.func73 n73) (AllT.mk (fnOK 137 Tryz.f137 rfl Tryz.func137 n137) (AllT.mk (fnOK 265 Tryz.f265 rfl Tryz.func265 n265) AllT.lf AllT.lf) (AllT.mk (fnOK 393 Tryz.f393 rfl Tryz.func393 n393) AllT.lf AllT.lf)) (AllT.mk (fnOK 201 Tryz.f201 rfl Tryz.func201 n201) (AllT.mk (fnOK 329 Tryz.f329 rfl Tryz.func329 n329) AllT.lf AllT.lf) AllT.lf)) (AllT.mk (fnOK 105 Tryz.f105 rfl Tryz.func105 n105) (AllT.mk (fnOK 169 Tryz.f169 rfl Tryz.func169 n169) (AllT.mk (fnOK 297 Tryz.f297 rfl Tryz.func297 n297) AllT.lf AllT.lf) (AllT.mk (fnOK 425 Tryz.f425 rfl Tryz.func425 n425) AllT.lf AllT.lf)) (AllT.mk (fnOK 233 Tryz.f233 rfl Tryz.func233 n233) (AllT.mk (fnOK 361 Tryz.f361 rfl Tryz.func361 n361) AllT.lf AllT.lf) AllT.lf))) (AllT.mk (fnOK 57 Tryz.f57 rfl Tryz.func57 n57) (AllT.mk (fnOK 89 Tryz.f89 rfl Tryz.func89 n89) (AllT.mk (fnOK 153 Tryz.f153 rfl Tryz.func153 n153) (AllT.mk (fnOK 281 Tryz.f281 rfl Tryz.func281 n281) AllT.lf AllT.lf) (AllT.mk (fnOK 409 Tryz.f409 rfl Tryz.func409 n409) AllT.lf AllT.lf)) (AllT.mk (fnOK 217 Tryz.f217 rfl Tryz.func217 n217) (AllT.mk (fnOK 345 Tryz.f345 rfl Tryz.func345 n345) AllT.lf AllT.lf) AllT.lf)) (AllT.mk (fnOK 121 Tryz.f121 rfl Tryz.func121 n121) (AllT.mk (fnOK 185 Tryz.f185 rfl Tryz.func185 n185) (AllT.mk (fnOK 313 Tryz.f313 rfl Tryz.func313 n313) AllT.lf AllT.lf) AllT.lf) (AllT.mk (fnOK 249 Tryz.f249 rfl Tryz.func249 n249) (AllT.mk (fnOK 377 Tryz.f377 rfl Tryz.func377 n377) AllT.lf AllT.lf) AllT.lf))))) (AllT.mk (fnOK 13 Tryz.f13 rfl Tryz.func13 n13) (AllT.mk (fnOK 21 Tryz.f21 rfl Tryz.func21 n21) (AllT.mk (fnOK 37 Tryz.f37 rfl Tryz.func37 n37) (AllT.mk (fnOK 69 Tryz.f69 rfl Tryz.func69 n69) (AllT.mk (fnOK 133 Tryz.f133 rfl Tryz.func133 n133) (AllT.mk (fnOK 261 Tryz.f261 rfl Tryz.func261 n261) AllT.lf AllT.lf) (AllT.mk (fnOK 389 Tryz.f389 rfl Tryz.func389 n389) AllT.lf AllT.lf)) (AllT.mk (fnOK 197 Tryz.f197 rfl Tryz.func197 n197) (AllT.mk (fnOK 325 Tryz.f325 rfl Tryz.func325 n325) AllT.lf AllT.lf) AllT.lf)) (AllT.mk (fnOK 101 Tryz.f101 rfl Tryz.func101 n101) (AllT.mk (fnOK 165 Tryz.f165 rfl Tryz.func165 n165) (AllT.mk (fnOK 293 Tryz.f293 rfl Tryz.func293 n293) AllT.lf AllT.lf) (AllT.mk (fnOK 421 Tryz.f421 rfl Tryz.func421 n421) AllT.lf AllT.lf)) (AllT.mk (fnOK 229 Tryz.f229 rfl Tryz.func229 n229) (AllT.mk (fnOK 357 Tryz.f357 rfl Tryz.func357 n357) AllT.lf AllT.lf) AllT.lf))) (AllT.mk (fnOK 53 Tryz.f53 rfl Tryz.func53 n53) (AllT.mk (fnOK 85 Tryz.f85 rfl Tryz.func85 n85) (AllT.mk (fnOK 149 Tryz.f149 rfl Tryz.func149 n149) (AllT.mk (fnOK 277 Tryz.f277 rfl Tryz.func277 n277) AllT.lf AllT.lf) (AllT.mk (fnOK 405 Tryz.f405 rfl Tryz.func405 n405) AllT.lf AllT.lf)) (AllT.mk (fnOK 213 Tryz.f213 rfl Tryz.func213 n213) (AllT.mk (fnOK 341 Tryz.f341 rfl Tryz.func341 n341) AllT.lf AllT.lf) AllT.lf)) (AllT.mk (fnOK 117 Tryz.f117 rfl Tryz.func117 n117) (AllT.mk (fnOK 181 Tryz.f181 rfl Tryz.func181 n181) (AllT.mk (fnOK 309 Tryz.f309 rfl Tryz.func309 n309) AllT.lf AllT.lf) AllT.lf) (AllT.mk (fnOK 245 Tryz.f245 rfl Tryz.func245 n245) (AllT.mk (fnOK 373 Tryz.f373 rfl Tryz.func373 n373) AllT.lf AllT.lf) AllT.lf)))) (AllT.mk (fnOK 29 Tryz.f29 rfl Tryz.func29 n29) (AllT.mk (fnOK 45 Tryz.f45 rfl Tryz.func45 n45) (AllT.mk (fnOK 77 Tryz.f77 rfl Tryz.func77 n77) (AllT.mk (fnOK 141 Tryz.f141 rfl Tryz.func141 n141) (AllT.mk (fnOK 269 Tryz.f269 rfl Tryz.func269 n269) AllT.lf AllT.lf) (AllT.mk (fnOK 397 Tryz.f397 rfl Tryz.func397 n397) AllT.lf AllT.lf)) (AllT.mk (fnOK 205 Tryz.f205 rfl Tryz.func205 n205) (AllT.mk (fnOK 333 Tryz.f333 rfl Tryz.func333 n333) AllT.lf AllT.lf) AllT.lf)) (AllT.mk (fnOK 109 Tryz.f109 rfl Tryz.func109 n109) (AllT.mk (fnOK 173 Tryz.f173 rfl Tryz.func173 n173) (AllT.mk (fnOK 301 Tryz.f301 rfl Tryz.func301 n301) AllT.lf AllT.lf) (AllT.mk (fnOK 429 Tryz.f429 rfl Tryz.func429 n429) AllT.lf AllT.lf)) (AllT.mk (fnOK 237 Tryz.f237 rfl Tryz.func237 n237) (AllT.mk (fnOK 365 Tryz.f365 rfl Tryz.func365 n365) AllT.lf AllT.lf) AllT.lf))) (AllT.mk (fnOK 61 Tryz.f61 rfl Tryz.func61 n61) (AllT.mk (fnOK 93 Tryz.f93 rfl Tryz.func93 n93) (AllT.mk (fnOK 157 Tryz.f157 rfl Tryz.func157 n157) (AllT.mk (fnOK 285 Tryz.f285 rfl Tryz.func285 n285) AllT.lf AllT.lf) (AllT.mk (fnOK 413 Tryz.f413 rfl Tryz.func413 n413) AllT.lf AllT.lf)) (AllT.mk (fnOK 221 Tryz.f221 rfl Tryz.func221 n221) (AllT.mk (fnOK 349 Tryz.f349 rfl Tryz.func349 n349) AllT.lf AllT.lf) AllT.lf)) (AllT.mk (fnOK 125 Tryz.f125 rfl Tryz.func125 n125) (AllT.mk (fnOK 189 Tryz.f189 rfl Tryz.func189 n189) (AllT.mk (fnOK 317 Tryz.f317 rfl Tryz.func317 n317) AllT.lf AllT.lf) AllT.lf) (AllT.mk (fnOK 253 Tryz.f253 rfl Tryz.func253 n253) (AllT.mk (fnOK 381 Tryz.f381 rfl Tryz.func381 n381) AllT.lf AllT.lf) AllT.lf))))))) (AllT.mk (fnOK 2 Tryz.f2 rfl Tryz.func2 n2) (AllT.mk (fnOK 4 Tryz.f4 rfl Tryz.func4 n4) (AllT.mk (fnOK 8 Tryz.f8 rfl Tryz.func8 n8) (AllT.mk (fnOK 16 Tryz.f16 rfl Tryz.func16 n16) (AllT.mk (fnOK 32 Tryz.f32 rfl Tryz.func32 n32) (AllT.mk (fnOK 64 Tryz.f64 rfl Tryz.func64 n64) (AllT.mk (fnOK 128 Tryz.f128 rfl Tryz.func128 n128) (AllT.mk (fnOK 256 Tryz.f256 rfl Tryz.func256 n256) AllT.lf AllT.lf) (AllT.mk (fnOK 384 Tryz.f384 rfl Tryz.func384 n384) AllT.lf AllT.lf)) (AllT.mk (fnOK 192 Tryz.f192 rfl Tryz.func192 n192) (AllT.mk (fnOK 320 Tryz.f320 rfl Tryz.func320 n320) AllT.lf AllT.lf) AllT.lf)) (AllT.mk (fnOK 96 Tryz.f96 rfl Tryz.func96 n96) (AllT.mk (fnOK 160 Tryz.f160 rfl Tryz.func160 n160) (AllT.mk (fnOK 288 Tryz.f288 rfl Tryz.func288 n288) AllT.lf AllT.lf) (AllT.mk (fnOK 416 Tryz.f416 rfl Tryz.func416 n416) AllT.lf AllT.lf)) (AllT.mk (fnOK 224 Tryz.f224 rfl Tryz.func224 n224) (AllT.mk (fnOK 352 Tryz.f352 rfl Tryz.func352 n352) AllT.lf AllT.lf) AllT.lf))) (AllT.mk (fnOK 48 Tryz.f48 rfl Tryz.func48 n48) (AllT.mk (fnOK 80 Tryz.f80 rfl Tryz.func80 n80) (AllT.mk (fnOK 144 Tryz.f144 rfl Tryz.func144 n144) (AllT.mk (fnOK 272 Tryz.f272 rfl Tryz.func272 n272) AllT.lf AllT.lf) (AllT.mk (fnOK 400 Tryz.f400 rfl Tryz.func400 n400) AllT.lf AllT.lf)) (AllT.mk (fnOK 208 Tryz.f208 rfl Tryz.func208 n208) (AllT.mk (fnOK 336 Tryz.f336 rfl Tryz.func336 n336) AllT.lf AllT.lf) AllT.lf)) (AllT.mk (fnOK 112 Tryz.f112 rfl Tryz.func112 n112) (AllT.mk (fnOK 176 Tryz.f176 rfl Tryz.func176 n176) (AllT.mk (fnOK 304 Tryz.f304 rfl Tryz.func304 n304) AllT.lf AllT.lf) (AllT.mk (fnOK 432 Tryz.f432 rfl Tryz.func432 n432) AllT.lf AllT.lf)) (AllT.mk (fnOK 240 Tryz.f240 rfl Tryz.func240 n240) (AllT.mk (fnOK 368 Tryz.f368 rfl Tryz.func368 n368) AllT.lf AllT.lf) AllT.lf)))) (AllT.mk (fnOK 24 Tryz.f24 rfl Tryz.func24 n24) (AllT.mk (fnOK 40 Tryz.f40 rfl Tryz.func40 n40) (AllT.mk (fnOK 72 Tryz.f72 rfl Tryz.func72 n72) (AllT.mk (fnOK 136 Tryz.f136 rfl Tryz.func136 n136) (AllT.mk (fnOK 264 Tryz.f264 rfl Tryz.func264 n264) AllT.lf AllT.lf) (AllT.mk (fnOK 392 Tryz.f392 rfl Tryz.func392 n392) AllT.lf AllT.lf)) (AllT.mk (fnOK 200 Tryz.f200 rfl Tryz.func200 n200) (AllT.mk (fnOK 328 Tryz.f328 rfl Tryz.func328 n328) AllT.lf AllT.lf) AllT.lf)) (AllT.mk (fnOK 104 Tryz.f104 rfl Tryz.func104 n104) (AllT.mk (fnOK 168 Tryz.f168 rfl Tryz.func168 n168) (AllT.mk (fnOK 296 Tryz.f296 rfl Tryz.func296 n296) AllT.lf AllT.lf) (AllT.mk (fnOK 424 Tryz.f424 rfl Tryz.func424 n424) AllT.lf AllT.lf)) (AllT.mk (fnOK 232 Tryz.f232 rfl Tryz.func232 n232) (AllT.mk (fnOK 360 Tryz.f360 rfl Tryz.func360 n360) AllT.lf AllT.lf) AllT.lf))) (AllT.mk (fnOK 56 Tryz.f56 rfl Tryz.func56 n56) (AllT.mk (fnOK 88 Tryz.f88 rfl Tryz.func88 n88) (AllT.mk (fnOK 152 Tryz.f152 rfl Tryz.func152 n152) (AllT.mk (fnOK 280 Tryz.f280 rfl Tryz.func280 n280) AllT.lf AllT.lf) (AllT.mk (fnOK 408 Tryz.f408 rfl Tryz.func408 n408) AllT.lf AllT.lf)) (AllT.mk (fnOK 216 Tryz.f216 rfl Tryz.func216 n216) (AllT.mk (fnOK 344 Tryz.f344 rfl Tryz.func344 n344) AllT.lf AllT.lf) AllT.lf)) (AllT.mk (fnOK 120 Tryz.f120 rfl Tryz.func120 n120) (AllT.mk (fnOK 184 Tryz.f184 rfl Tryz.func184 n184) (AllT.mk (fnOK 312 Tryz.f312 rfl Tryz.func312 n312) AllT.lf AllT.lf) AllT.lf) (AllT.mk (fnOK 248 Tryz.f248 rfl Tryz.func248 n248) (AllT.mk (fnOK 376 Tryz.f376 rfl Tryz.func376 n376) AllT.lf AllT.lf) AllT.lf))))) (AllT.mk (fnOK 12 Tryz.f12 rfl Tryz.func12 n12) (AllT.mk (fnOK 20 Tryz.f20 rfl Tryz.func20 n20) (AllT.mk (fnOK 36 Tryz.f36 rfl Tryz.func36 n36) (AllT.mk (fnOK 68 Tryz.f68 rfl Tryz.func68 n68) (AllT.mk (fnOK 132 Tryz.f132 rfl Tryz.func132 n132) (AllT.mk (fnOK 260 Tryz.f260 rfl Tryz.func260 n260) AllT.lf AllT.lf) (AllT.mk (fnOK 388 Tryz.f388 rfl Tryz.func388 n388) AllT.lf AllT.lf)) (AllT.mk (fnOK 196 Tryz.f196 rfl Tryz.func196 n196) (AllT.mk (fnOK 324 Tryz.f324 rfl Tryz.func324 n324) AllT.lf AllT.lf) AllT.lf)) (AllT.mk (fnOK 100 Tryz.f100 rfl Tryz.func100 n100) (AllT.mk (fnOK 164 Tryz.f164 rfl Tryz.func164 n164) (AllT.mk (fnOK 292 Tryz.f292 rfl Tryz.func292 n292) AllT.lf AllT.lf) (AllT.mk (fnOK 420 Tryz.f420 rfl Tryz.func420 n420) AllT.lf AllT.lf)) (AllT.mk (fnOK 228 Tryz.f228 rfl Tryz.func228 n228) (AllT.mk (fnOK 356 Tryz.f356 rfl Tryz.func356 n356) AllT.lf AllT.lf) AllT.lf))) (AllT.mk (fnOK 52 Tryz.f52 rfl Tryz.func52 n52) (AllT.mk (fnOK 84 Tryz.f84 rfl Tryz.func84 n84) (AllT.mk (fnOK 148 Tryz.f148 rfl Tryz.func148 n148) (AllT.mk (fnOK 276 Tryz.f276 rfl Tryz.func276 n276) AllT.lf AllT.lf) (AllT.mk (fnOK 404 Tryz.f404 rfl Tryz.func404 n404) AllT.lf AllT.lf)) (AllT.mk (fnOK 212 Tryz.f212 rfl Tryz.func212 n212) (AllT.mk (fnOK 340 Tryz.f340 rfl Tryz.func340 n340) AllT.lf AllT.lf) AllT.lf)) (AllT.mk (fnOK 116 Tryz.f116 rfl Tryz.func116 n116) (AllT.mk (fnOK 180 Tryz.f180 rfl Tryz.func180 n180) (AllT.mk (fnOK 308 Tryz.f308 rfl Tryz.func308 n308) AllT.lf AllT.lf) AllT.lf) (AllT.mk (fnOK 244 Tryz.f244 rfl Tryz.func244 n244) (AllT.mk (fnOK 372 Tryz.f372 rfl Tryz.func372 n372) AllT.lf AllT.lf) AllT.lf)))) (AllT.mk (fnOK 28 Tryz.f28 rfl Tryz.func28 n28) (AllT.mk (fnOK 44 Tryz.f44 rfl Tryz.func44 n44) (AllT.mk (fnOK 76 Tryz.f76 rfl Tryz.func76 n76) (AllT.mk (fnOK 140 Tryz.f140 rfl Tryz.func140 n140) (AllT.mk (fnOK 268 Tryz.f268 rfl Tryz.func268 n268) AllT.lf AllT.lf) (AllT.mk (fnOK 396 Tryz.f396 rfl Tryz.func396 n396) AllT.lf AllT.lf)) (AllT.mk (fnOK 204 Tryz.f204 rfl Tryz.func204 n204) (AllT.mk (fnOK 332 Tryz.f332 rfl Tryz.func332 n332) AllT.lf AllT.lf) AllT.lf)) (AllT.mk (fnOK 108 Tryz.f108 rfl Tryz.func108 n108) (AllT.mk (fnOK 172 Tryz.f172 rfl Tryz.func172 n172) (AllT.mk (fnOK 300 Tryz.f300 rfl Tryz.func300 n300) AllT.lf AllT.lf) (AllT.mk (fnOK 428 Tryz.f428 rfl Tryz.func428 n428) AllT.lf AllT.lf)) (AllT.mk (fnOK 236 Tryz.f236 rfl Tryz.func236 n236) (AllT.mk (fnOK 364 Tryz.f364 rfl Tryz.func364 n364) AllT.lf AllT.lf) AllT.lf))) (AllT.mk (fnOK 60 Tryz.f60 rfl Tryz.func60 n60) (AllT.mk (fnOK 92 Tryz.f92 rfl Tryz.func92 n92) (AllT.mk (fnOK 156 Tryz.f156 rfl Tryz.func156 n156) (AllT.mk (fnOK 284 Tryz.f284 rfl Tryz.func284 n284) AllT.lf AllT.lf) (AllT.mk (fnOK 412 Tryz.f412 rfl Tryz.func412 n412) AllT.lf AllT.lf)) (AllT.mk (fnOK 220 Tryz.f220 rfl Tryz.func220 n220) (AllT.mk (fnOK 348 Tryz.f348 rfl Tryz.func348 n348) AllT.lf AllT.lf) AllT.lf)) (AllT.mk (fnOK 124 Tryz.f124 rfl Tryz.func124 n124) (AllT.mk (fnOK 188 Tryz.f188 rfl Tryz.func188 n188) (AllT.mk (fnOK 316 Tryz.f316 rfl Tryz.func316 n316) AllT.lf AllT.lf) AllT.lf) (AllT.mk (fnOK 252 Tryz.f252 rfl Tryz.func252 n252) (AllT.mk (fnOK 380 Tryz.f380 rfl Tryz.func380 n380) AllT.lf AllT.lf) AllT.lf)))))) (AllT.mk (fnOK 6 Tryz.f6 rfl Tryz.func6 n6) (AllT.mk (fnOK 10 Tryz.f10 rfl Tryz.func10 n10) (AllT.mk (fnOK 18 Tryz.f18 rfl Tryz.func18 n18) (AllT.mk (fnOK 34 Tryz.f34 rfl Tryz.func34 n34) (AllT.mk (fnOK 66 Tryz.f66 rfl Tryz.func66 n66) (AllT.mk (fnOK 130 Tryz.f130 rfl Tryz.func130 n130) (AllT.mk (fnOK 258 Tryz.f258 rfl Tryz.func258 n258) AllT.lf AllT.lf) (AllT.mk (fnOK 386 Tryz.f386 rfl Tryz.func386 n386) AllT.lf AllT.lf)) (AllT.mk (fnOK 194 Tryz.f194 rfl Tryz.func194 n194) (AllT.mk (fnOK 322 Tryz.f322 rfl Tryz.func322 n322) AllT.lf AllT.lf) AllT.lf)) (AllT.mk (fnOK 98 Tryz.f98 rfl Tryz.func98 n98) (AllT.mk (fnOK 162 Tryz.f162 rfl Tryz.func162 n162) (AllT.mk (fnOK 290 Tryz.f290 rfl Tryz.func290 n290) AllT.lf AllT.lf) (AllT.mk (fnOK 418 Tryz.f418 rfl Tryz.func418 n418) AllT.lf AllT.lf)) (AllT.mk (fnOK 226 Tryz.f226 rfl Tryz.func226 n226) (AllT.mk (fnOK 354 Tryz.f354 rfl Tryz.func354 n354) AllT.lf AllT.lf) AllT.lf))) (AllT.mk (fnOK 50 Tryz.f50 rfl Tryz.func50 n50) (AllT.mk (fnOK 82 Tryz.f82 rfl Tryz.func82 n82) (AllT.mk (fnOK 146 Tryz.f146 rfl Tryz.func146 n146) (AllT.mk (fnOK 274 Tryz.f274 rfl Tryz.func274 n274) AllT.lf AllT.lf) (AllT.mk (fnOK 402 Tryz.f402 rfl Tryz.func402 n402) AllT.lf AllT.lf)) (AllT.mk (fnOK 210 Tryz.f210 rfl Tryz.func210 n210) (AllT.mk (fnOK 338 Tryz.f338 rfl Tryz.func338 n338) AllT.lf AllT.lf) AllT.lf)) (AllT.mk (fnOK 114 Tryz.f114 rfl Tryz.func114 n114) (AllT.mk (fnOK 178 Tryz.f178 rfl Tryz.func178 n178) (AllT.mk (fnOK 306 Tryz.f306 rfl Tryz.func306 n306) AllT.lf AllT.lf) (AllT.mk (fnOK 434 Tryz.f434 rfl Tryz.func434 n434) AllT.lf AllT.lf)) (AllT.mk (fnOK 242 Tryz.f242 rfl Tryz.func242 n242) (AllT.mk (fnOK 370 Tryz.f370 rfl Tryz.func370 n370) AllT.lf AllT.lf) AllT.lf)))) (AllT.mk (fnOK 26 Tryz.f26 rfl Tryz.func26 n26) (AllT.mk (fnOK 42 Tryz.f42 rfl Tryz.func42 n42) (AllT.mk (fnOK 74 Tryz.f74 rfl Tryz.func74 n74) (AllT.mk (fnOK 138 Tryz.f138 rfl Tryz.func138 n138) (AllT.mk (fnOK 266 Tryz.f266 rfl Tryz.func266 n266) AllT.lf AllT.lf) (AllT.mk (fnOK 394 Tryz.f394 rfl Tryz.func394 n394) AllT.lf AllT.lf)) (AllT.mk (fnOK 202 Tryz.f202 rfl Tryz.func202 n202) (AllT.mk (fnOK 330 Tryz.f330 rfl Tryz.func330 n330) AllT.lf AllT.lf) AllT.lf)) (AllT.mk (fnOK 106 Tryz.f106 rfl Tryz.func106 n106) (AllT.mk (fnOK 170 Tryz.f170 rfl Tryz.func170 n170) (AllT.mk (fnOK 298 Tryz.f298 rfl Tryz.func298 n298) AllT.lf AllT.lf) (AllT.mk (fnOK 426 Tryz.f426 rfl Tryz.func426 n426) AllT.lf AllT.lf)) (AllT.mk (fnOK 234 Tryz.f234 rfl Tryz.func234 n234) (AllT.mk (fnOK 362 Tryz.f362 rfl Tryz.func362 n362) AllT.lf AllT.lf) AllT.lf))) (AllT.mk (fnOK 58 Tryz.f58 rfl Tryz.func58 n58) (AllT.mk (fnOK 90 Tryz.f90 rfl Tryz.func90 n90) (AllT.mk (fnOK 154 Tryz.f154 rfl Tryz.func154 n154) (AllT.mk (fnOK 282 Tryz.f282 rfl Tryz.func282 n282) AllT.lf AllT.lf) (AllT.mk (fnOK 410 Tryz.f410 rfl Tryz.func410 n410) AllT.lf AllT.lf)) (AllT.mk (fnOK 218 Tryz.f218 rfl Tryz.func218 n218) (AllT.mk (fnOK 346 Tryz.f346 rfl Tryz.func346 n346) AllT.lf AllT.lf) AllT.lf)) (AllT.mk (fnOK 122 Tryz.f122 rfl Tryz.func122 n122) (AllT.mk (fnOK 186 Tryz.f186 rfl Tryz.func186 n186) (AllT.mk (fnOK 314 Tryz.f314 rfl Tryz.func314 n314) AllT.lf AllT.lf) AllT.lf) (AllT.mk (fnOK 250 Tryz.f250 rfl Tryz.func250 n250) (AllT.mk (fnOK 378 Tryz.f378 rfl Tryz.func378 n378) AllT.lf AllT.lf) AllT.lf))))) (AllT.mk (fnOK 14 Tryz.f14 rfl Tryz.func14 n14) (AllT.mk (fnOK 22 Tryz.f22 rfl Tryz.func22 n22) (AllT.mk (fnOK 38 Tryz.f38 rfl Tryz.func38 n38) (AllT.mk (fnOK 70 Tryz.f70 rfl Tryz.func70 n70) (AllT.mk (fnOK 134 Tryz.f134 rfl Tryz.func134 n134) (AllT.mk (fnOK 262 Tryz.f262 rfl Tryz.func262 n262) AllT.lf AllT.lf) (AllT.mk (fnOK 390 Tryz.f390 rfl Tryz.func390 n390) AllT.lf AllT.lf)) (AllT.mk (fnOK 198 Tryz.f198 rfl Tryz.func198 n198) (AllT.mk (fnOK 326 Tryz.f326 rfl Tryz.func326 n326) AllT.lf AllT.lf) AllT.lf)) (AllT.mk (fnOK 102 Tryz.f102 rfl Tryz.func102 n102) (AllT.mk (fnOK 166 Tryz.f166 rfl Tryz.func166 n166) (AllT.mk (fnOK 294 Tryz.f294 rfl Tryz.func294 n294) AllT.lf AllT.lf) (AllT.mk (fnOK 422 Tryz.f422 rfl Tryz.func422 n422) AllT.lf AllT.lf)) (AllT.mk (fnOK 230 Tryz.f230 rfl Tryz.func230 n230) (AllT.mk (fnOK 358 Tryz.f358 rfl Tryz.func358 n358) AllT.lf AllT.lf) AllT.lf))) (AllT.mk (fnOK 54 Tryz.f54 rfl Tryz.func54 n54) (AllT.mk (fnOK 86 Tryz.f86 rfl Tryz.func86 n86) (AllT.mk (fnOK 150 Tryz.f150 rfl Tryz.func150 n150) (AllT.mk (fnOK 278 Tryz.f278 rfl Tryz.func278 n278) AllT.lf AllT.lf) (AllT.mk (fnOK 406 Tryz.f406 rfl Tryz.func406 n406) AllT.lf AllT.lf)) (AllT.mk (fnOK 214 Tryz.f214 rfl Tryz.func214 n214) (AllT.mk (fnOK 342 Tryz.f342 rfl Tryz.func342 n342) AllT.lf AllT.lf) AllT.lf)) (AllT.mk (fnOK 118 Tryz.f118 rfl Tryz.func118 n118) (AllT.mk (fnOK 182 Tryz.f182 rfl Tryz.func182 n182) (AllT.mk (fnOK 310 Tryz.f310 rfl Tryz.func310 n310) AllT.lf AllT.lf) AllT.lf) (AllT.mk (fnOK 246 Tryz.f246 rfl Tryz.func246 n246) (AllT.mk (fnOK 374 Tryz.f374 rfl Tryz.func374 n374) AllT.lf AllT.lf) AllT.lf)))) (AllT.mk (fnOK 30 Tryz.f30 rfl Tryz.func30 n30) (AllT.mk (fnOK 46 Tryz.f46 rfl Tryz.func46 n46) (AllT.mk (fnOK 78 Tryz.f78 rfl Tryz.func78 n78) (AllT.mk (fnOK 142 Tryz.f142 rfl Tryz.func142 n142) (AllT.mk (fnOK 270 Tryz.f270 rfl Tryz.func270 n270) AllT.lf AllT.lf) (AllT.mk (fnOK 398 Tryz.f398 rfl Tryz.func398 n398) AllT.lf AllT.lf)) (AllT.mk (fnOK 206 Tryz.f206 rfl Tryz.func206 n206) (AllT.mk (fnOK 334 Tryz.f334 rfl Tryz.func334 n334) AllT.lf AllT.lf) AllT.lf)) (AllT.mk (fnOK 110 Tryz.f110 rfl Tryz.func110 n110) (AllT.mk (fnOK 174 Tryz.f174 rfl Tryz.func174 n174) (AllT.mk (fnOK 302 Tryz.f302 rfl Tryz.func302 n302) AllT.lf AllT.lf) (AllT.mk (fnOK 430 Tryz.f430 rfl Tryz.func430 n430) AllT.lf AllT.lf)) (AllT.mk (fnOK 238 Tryz.f238 rfl Tryz.func238 n238) (AllT.mk (fnOK 366 Tryz.f366 rfl Tryz.func366 n366) AllT.lf AllT.lf) AllT.lf))) (AllT.mk (fnOK 62 Tryz.f62 rfl Tryz.func62 n62) (AllT.mk (fnOK 94 Tryz.f94 rfl Tryz.func94 n94) (AllT.mk (fnOK 158 Tryz.f158 rfl Tryz.func158 n158) (AllT.mk (fnOK 286 Tryz.f286 rfl Tryz.func286 n286) AllT.lf AllT.lf) (AllT.mk (fnOK 414 Tryz.f414 rfl Tryz.func414 n414) AllT.lf AllT.lf)) (AllT.mk (fnOK 222 Tryz.f222 rfl Tryz.func222 n222) (AllT.mk (fnOK 350 Tryz.f350 rfl Tryz.func350 n350) AllT.lf AllT.lf) AllT.lf)) (AllT.mk (fnOK 126 Tryz.f126 rfl Tryz.func126 n126) (AllT.mk (fnOK 190 Tryz.f190 rfl Tryz.func190 n190) (AllT.mk (fnOK 318 Tryz.f318 rfl Tryz.func318 n318) AllT.lf AllT.lf) AllT.lf) (AllT.mk (fnOK 254 Tryz.f254 rfl Tryz.func254 n254) (AllT.mk (fnOK 382 Tryz.f382 rfl Tryz.func382 n382) AllT.lf AllT.lf) AllT.lf))))))))

/-- Structs that may be compared. -/
def cmpT : TypeId → Bool
  | 183 => true
  | 43 => true
  | 65 => true
  | 41 => true
  | _ => false
theorem cmpT_ok (t : TypeId) (h : cmpT t = true) : Tryz.prog.stoodInHeld t = false ∧ Tryz.prog.eqGuardType Tryz.prog.depth t = false ∧ ∀ fs, Tryz.prog.underlying t = some (.struct fs) → ∀ f ∈ fs.toList, f.name ≠ "_" := by
  unfold cmpT at h
  split at h
  · refine ⟨Tryz.stoodInHeld183, Tryz.eqGuardType183, fun fs hf => ?_⟩
    rw [Tryz.underlying183] at hf
    cases hf
    simp
  · refine ⟨Tryz.stoodInHeld43, Tryz.eqGuardType43, fun fs hf => ?_⟩
    rw [Tryz.underlying43] at hf
    cases hf
    simp
  · refine ⟨Tryz.stoodInHeld65, Tryz.eqGuardType65, fun fs hf => ?_⟩
    rw [Tryz.underlying65] at hf
    cases hf
    simp
  · refine ⟨Tryz.stoodInHeld41, Tryz.eqGuardType41, fun fs hf => ?_⟩
    rw [Tryz.underlying41] at hf
    cases hf
    simp
  · cases h

/-- The program, with no variable of a package, and nothing that is named alone. -/
noncomputable def E0 : Env := { P := Tryz.prog, tt := fun t => T.get none tyT t, ft := fun f => T.get none fnT f, ng := 0, bd := fun _ => none, hl := cmpT }
theorem tt_ok (t : TypeId) (i : TypeInfo) (d : TypeDesc) (h : T.get none tyT t = some (i, d)) : Tryz.prog.info? t = some i ∧ Tryz.prog.underlying t = some d :=
  AllT.get (d := none) tyT_ok (fun _ _ h => by cases h) t _ h
theorem ft_ok (f : FuncId) (fn : Func) (h : T.get none fnT f = some fn) : Tryz.prog.funcs[f]? = some fn ∧ (fn.name == "runtime.NumGoroutine") = false :=
  AllT.get (d := none) fnT_ok (fun _ _ h => by cases h) f _ h
theorem mixed_ok : Tryz.prog.follows .mixedOrders = true := rfl
theorem E0_ok : E0.OK := ⟨tt_ok, ft_ok, mixed_ok, cmpT_ok, fun _ _ _ _ _ h => (by cases h), fun _ _ _ _ _ h => (by cases h)⟩

end Go.Ev
