/- Chains, part Bb: strings.Builder's copyCheck and String, at our own numbers. -/
import Derived.Lib.Walk
import Derived.Lib.Builder
import Derived.Lib.UnsafeStr
import Derived.WalkKit
import Derived.Laws.Externs
import Derived.Shelf.Strings.Builder1
import Derived.Test.YtlbagpdnlldjnaaGreatDoorA11
import Derived.Shelf.SlGeneric
import Derived.Shelf.SlIterI.Nil
import Derived.Shelf.SlIter.Nil
import Derived.Shelf.SortM.Plain
import Derived.Shelf.SortM.SortNone
import Derived.Ground.GgzProg
import Derived.Ground.SlgmProg
import Derived.Shelf.SlSortCmp.WholeK
import Derived.Ground.SlsfProg
import Derived.Test.YtlbagpdnlldjnaaGreatDoorProg
import Derived.Test.YtlbagpdnlldjnaaGreatDoorA01
import Derived.Test.YtlbagpdnlldjnaaGreatDoorA10
import Derived.LaidEql
import Derived.Stop.Asserts
import Derived.RowKitTokens
set_option linter.all false
namespace Go.Proofs
open Go.Shelf Go.RowKit
theorem info135 : ∃ j, Tryz.prog.info? 162 = some j ∧ j.size = 2 := ⟨_, (Go.Ev.E0_ok.ty 162 _ _ rfl).1, rfl⟩
set_option maxHeartbeats 1000000 in
set_option maxRecDepth 100000 in
theorem Tryz.copy_used (b : Nat) (w : World) (h0 : w.cell? ⟨b, 0, none⟩ = some (.pointer (some ⟨b, 0, none⟩))) :
  Calls Tryz.prog 127 #[.pointer (some ⟨b, 0, none⟩)] w fun e w' => e = .returned (.tuple #[]) ∧ w' = w := by
 obtain ⟨j, hj, _⟩ := info135
 go_enter Tryz.func127, Tryz.ntmps127
 go_wp2
 rw [Lib.run_neq_ptr_same w _ Tryz.underlying159 hj]
 go_wp2
 go_end0
 exact ⟨rfl, rfl⟩
theorem lies135 : liesAt Tryz.prog Tryz.prog.depth 162 (2 / Tryz.prog.cellsOf 162) 0 162 1 = true := by decide +kernel
set_option maxHeartbeats 1000000 in
set_option maxRecDepth 100000 in
theorem Tryz.copy_fresh (b : Nat) (w : World) (h0 : w.cell? ⟨b, 0, none⟩ = some (.pointer none)) (hsh : w.shape? b = some (162, 2)) (hfz : w.frozen? ⟨b, 0, none⟩ = false) :
  Calls Tryz.prog 127 #[.pointer (some ⟨b, 0, none⟩)] w fun e w' => e = .returned (.tuple #[]) ∧ w' = w.setCell ⟨b, 0, none⟩ (.pointer (some ⟨b, 0, none⟩)) := by
 obtain ⟨j, hj, hjs⟩ := info135
 go_enter Tryz.func127, Tryz.ntmps127
 go_wp2
 rw [Lib.run_to_unsafe w ⟨b, 0, none⟩ Tryz.underlying159 Tryz.underlying284 hj (by rw [hjs]; decide) hsh (Nat.zero_lt_succ 1)]
 simp only [Result.andThen]
 rw [Oper.upon_value]
 go_wp2
 rw [run_callFunc_extern Tryz.func254 (by kernel_rfl) (by kernel_rfl) (by kernel_rfl) (e := Extern.AbiNoEscape.same) (by kernel_rfl)]
 rw [Lib.run_noEscape]
 simp only [Result.andThen]
 rw [Oper.upon_value]
 go_wp2
 rw [Lib.run_from_unsafe w ⟨b, 0, none⟩ Tryz.underlying284 Tryz.underlying159 hj hsh lies135]
 simp only [Result.andThen]
 rw [Oper.upon_value]
 go_wp2
 go_end0
 exact ⟨rfl, rfl⟩
set_option maxHeartbeats 1000000 in
set_option maxRecDepth 100000 in
theorem Tryz.bstr {b g cap : Nat} {p : Value} {cur : Array Value} {l : List UInt8} (w : World) (hbk : w.heap[b]? = some (.cells #[p, .slice (some ⟨g, 0, none⟩) l.length cap] 162 (0, 0))) (hg : w.heap[g]? = some (.cells cur 5 (0, 0))) (htake : cur.toList.take l.length = Lib.byteCells l) (h0 : l ≠ []) (hn : l.length ≤ cur.size) (hcap : l.length ≤ cap) (h63 : l.length ≤ 1000000) :
  Calls Tryz.prog 58 #[.pointer (some ⟨b, 0, none⟩)] w fun e w' => e = .returned (.string ⟨l.toArray⟩) ∧ w' = w.drew.freeze ⟨g, 0, none⟩ l.length := by
 have hl0 : l.length ≠ 0 := by simpa using h0
 have c1 : w.drew.cell? ⟨b, 1, none⟩ = some (.slice (some ⟨g, 0, none⟩) l.length cap) := by
  have : w.drew.heap[b]? = some (.cells #[p, .slice (some ⟨g, 0, none⟩) l.length cap] 162 (0, 0)) := hbk
  rw [Lib.cell_of_heap this]; rfl
 have hSD : (Builtin.unsafeSliceData_ #[160] 278 #[.slice (some ⟨g, 0, none⟩) l.length cap]).run Tryz.prog w.drew = .ok (.pointer (some ⟨g, 0, none⟩)) w.drew :=
  Lib.run_unsafeSliceData_row _ _ _ _ _ _ (by omega)
 have hUS : (Builtin.unsafeString_ #[278, 3] 9 #[.pointer (some ⟨g, 0, none⟩), .int .i64 l.length]).run Tryz.prog w.drew = .ok (.string ⟨l.toArray⟩) (w.drew.freeze ⟨g, 0, none⟩ l.length) := by
  refine Lib.run_unsafeString_row w.drew 278 3 9 5 Tryz.underlying278 (by decide +kernel) g cur.size (by have hg' : w.drew.heap[g]? = some (.cells cur 5 (0, 0)) := hg; simp [World.shape?, hg']) l h0 hn (by omega) ?_
  intro j x hx
  have hj : j < l.length := (List.getElem?_eq_some_iff.1 hx).1
  have ea : Addr.add ⟨g, 0, none⟩ j = ⟨g, j, none⟩ := by
   unfold Addr.add
   by_cases h0 : j = 0
   ·subst h0; simp
   ·simp [h0]
  rw [ea]
  have hg' : w.drew.heap[g]? = some (.cells cur 5 (0, 0)) := hg
  rw [Lib.cell_of_heap hg']
  have : (cur.toList.take l.length)[j]? = (Lib.byteCells l)[j]? := by rw [htake]
  rw [List.getElem?_take_of_lt hj] at this
  simpa [Lib.byteCells, hx] using this
 have mixed : Tryz.prog.follows .mixedOrders = true := Go.Ev.E0_ok.mixed
 go_enter Tryz.func58, Tryz.ntmps58
 go_wp2
 go_region_o
 all_goals (go_wp2; go_ret; exact ⟨rfl, rfl⟩)
set_option maxHeartbeats 1000000 in
set_option maxRecDepth 100000 in
theorem Tryz.bstr_nil {b cap : Nat} {p : Value} (w : World) (hbk : w.heap[b]? = some (.cells #[p, .slice none 0 cap] 162 (0, 0))) :
  Calls Tryz.prog 58 #[.pointer (some ⟨b, 0, none⟩)] w fun e w' => e = .returned (.string ⟨#[]⟩) ∧ w' = w.drew := by
 have hUS : (Builtin.unsafeString_ #[278, 3] 9 #[.pointer none, .int .i64 0]).run Tryz.prog w.drew = .ok (.string .empty) w.drew := Lib.run_unsafeString_none w.drew _ _ _ none
 have c1 : w.drew.cell? ⟨b, 1, none⟩ = some (.slice none 0 cap) := by
  have : w.drew.heap[b]? = some (.cells #[p, .slice none 0 cap] 162 (0, 0)) := hbk
  rw [Lib.cell_of_heap this]; rfl
 have hSD : (Builtin.unsafeSliceData_ #[160] 278 #[.slice none 0 cap]).run Tryz.prog w.drew = .ok (.pointer none) w.drew := Lib.run_unsafeSliceData_nil _ _ _ _ _
 have mixed : Tryz.prog.follows .mixedOrders = true := Go.Ev.E0_ok.mixed
 go_enter Tryz.func58, Tryz.ntmps58
 go_wp2
 go_region_o
 all_goals (go_wp2; go_ret; exact ⟨rfl, rfl⟩)
end Go.Proofs
namespace Go.Proofs
open Go.Shelf
def Tryz.keys130_ren : Go.Shelf.Ren := ⟨fun | 7 => 171 | 10 => 303 | n => n, fun | 23 => 338 | 26 => 3 | 3 => 65 | 28 => 346 | 0 => 0 | 27 => 345 | 33 => 225 | 4 => 4 | n => n, fun | n => n⟩
theorem Tryz.keys130 : Go.Proofs.SlLaysZI.n7 Tryz.prog Tryz.keys130_ren := {
 mixed := by kernel_rfl
 f7 := ⟨Tryz.f171.name, by decide, Tryz.func171.trans (congrArg some (by kernel_rfl))⟩
 f10 := ⟨Tryz.f303.name, by decide, Tryz.func303.trans (congrArg some (by kernel_rfl))⟩
 t0 := Tryz.underlying0
 a0 := Tryz.isAgg0
 z0 := Tryz.sizeOf0
 v0 := Tryz.zeroValue0
 t4 := Tryz.underlying4
 a4 := Tryz.isAgg4
 z4 := Tryz.sizeOf4
 v4 := Tryz.zeroValue4
 t23 := Tryz.underlying338
 a23 := Tryz.isAgg338
 z23 := Tryz.sizeOf338
 v23 := Tryz.zeroValue338
 t26 := Tryz.underlying3
 a26 := Tryz.isAgg3
 z26 := Tryz.sizeOf3
 v26 := Tryz.zeroValue3
 t27 := Tryz.underlying345
 a27 := Tryz.isAgg345
 z27 := Tryz.sizeOf345
 v27 := Tryz.zeroValue345
 t28 := Tryz.underlying346
 a28 := Tryz.isAgg346
 z28 := Tryz.sizeOf346
 v28 := Tryz.zeroValue346
 t33 := Tryz.underlying225
 a33 := Tryz.isAgg225
 z33 := Tryz.sizeOf225
 v33 := Tryz.zeroValue225 }
def Tryz.keys273_ren : Go.Shelf.Ren := ⟨fun | 7 => 321 | 10 => 427 | n => n, fun | 23 => 131 | 26 => 3 | 3 => 4 | 28 => 346 | 0 => 0 | 27 => 345 | 33 => 225 | 4 => 4 | n => n, fun | n => n⟩
theorem Tryz.keys273 : Go.Proofs.SlLaysZI.n7 Tryz.prog Tryz.keys273_ren := {
 mixed := by kernel_rfl
 f7 := ⟨Tryz.f321.name, by decide, Tryz.func321.trans (congrArg some (by kernel_rfl))⟩
 f10 := ⟨Tryz.f427.name, by decide, Tryz.func427.trans (congrArg some (by kernel_rfl))⟩
 t0 := Tryz.underlying0
 a0 := Tryz.isAgg0
 z0 := Tryz.sizeOf0
 v0 := Tryz.zeroValue0
 t4 := Tryz.underlying4
 a4 := Tryz.isAgg4
 z4 := Tryz.sizeOf4
 v4 := Tryz.zeroValue4
 t23 := Tryz.underlying131
 a23 := Tryz.isAgg131
 z23 := Tryz.sizeOf131
 v23 := Tryz.zeroValue131
 t26 := Tryz.underlying3
 a26 := Tryz.isAgg3
 z26 := Tryz.sizeOf3
 v26 := Tryz.zeroValue3
 t27 := Tryz.underlying345
 a27 := Tryz.isAgg345
 z27 := Tryz.sizeOf345
 v27 := Tryz.zeroValue345
 t28 := Tryz.underlying346
 a28 := Tryz.isAgg346
 z28 := Tryz.sizeOf346
 v28 := Tryz.zeroValue346
 t33 := Tryz.underlying225
 a33 := Tryz.isAgg225
 z33 := Tryz.sizeOf225
 v33 := Tryz.zeroValue225 }
def Tryz.sorted129_ren : Go.Shelf.Ren := ⟨fun | 6 => 170 | 8 => 302 | 9 => 210 | 11 => 407 | 13 => 218 | 12 => 326 | 23 => 339 | 24 => 340 | 14 => 430 | 15 => 431 | 16 => 432 | 17 => 433 | 18 => 434 | 19 => 435 | 20 => 436 | 21 => 437 | 22 => 438 | 25 => 524 | 26 => 441 | 27 => 442 | 28 => 525 | 29 => 526 | 30 => 219 | 31 => 583 | n => n, fun | 26 => 3 | 28 => 346 | 24 => 101 | 0 => 0 | 3 => 3 | 37 => 266 | 48 => 535 | 50 => 537 | 4 => 4 | 40 => 529 | 39 => 528 | 45 => 153 | 5 => 5 | 9 => 9 | 51 => 615 | 55 => 619 | 57 => 726 | 58 => 320 | 33 => 225 | n => n, fun | n => n⟩
theorem Tryz.sorted129 : Go.Proofs.SlLaysZI.n6 Tryz.prog Tryz.sorted129_ren := {
 mixed := by kernel_rfl
 f6 := ⟨Tryz.f170.name, by decide, Tryz.func170.trans (congrArg some (by kernel_rfl))⟩
 f8 := ⟨Tryz.f302.name, by decide, Tryz.func302.trans (congrArg some (by kernel_rfl))⟩
 f11 := ⟨Tryz.f407.name, by decide, Tryz.func407.trans (congrArg some (by kernel_rfl))⟩
 t0 := Tryz.underlying0
 a0 := Tryz.isAgg0
 z0 := Tryz.sizeOf0
 v0 := Tryz.zeroValue0
 t24 := Tryz.underlying101
 a24 := Tryz.isAgg101
 z24 := Tryz.sizeOf101
 v24 := Tryz.zeroValue101
 t26 := Tryz.underlying3
 a26 := Tryz.isAgg3
 z26 := Tryz.sizeOf3
 v26 := Tryz.zeroValue3
 t28 := Tryz.underlying346
 a28 := Tryz.isAgg346
 z28 := Tryz.sizeOf346
 v28 := Tryz.zeroValue346
 i26 := by kernel_rfl }
def Tryz.sort172_ren : Go.Shelf.Ren := ⟨fun | 5 => 210 | 8 => 218 | 7 => 326 | 19 => 339 | 20 => 340 | 10 => 430 | 11 => 431 | 12 => 432 | 13 => 433 | 14 => 434 | 15 => 435 | 16 => 436 | 17 => 437 | 18 => 438 | 30 => 524 | 31 => 441 | 32 => 442 | 33 => 525 | 34 => 526 | 35 => 219 | 40 => 583 | n => n, fun | 23 => 101 | 25 => 3 | 3 => 3 | 32 => 266 | 22 => 101 | 0 => 0 | 44 => 535 | 46 => 537 | 4 => 4 | 36 => 529 | 35 => 528 | 41 => 153 | 5 => 5 | 9 => 9 | 53 => 615 | 57 => 619 | 63 => 726 | 64 => 320 | n => n, fun | n => n⟩
theorem Tryz.sort172 : Go.Proofs.SlLaysM.n5 Tryz.prog Tryz.sort172_ren := {
 mixed := by kernel_rfl
 f5 := ⟨Tryz.f210.name, by decide, Tryz.func210.trans (congrArg some (by kernel_rfl))⟩
 f7 := ⟨Tryz.f326.name, by decide, Tryz.func326.trans (congrArg some (by kernel_rfl))⟩
 f8 := Tryz.func218.trans (congrArg some (by kernel_rfl))
 f10 := ⟨Tryz.f430.name, by decide, Tryz.func430.trans (congrArg some (by kernel_rfl))⟩
 f11 := ⟨Tryz.f431.name, by decide, Tryz.func431.trans (congrArg some (by kernel_rfl))⟩
 f12 := ⟨Tryz.f432.name, by decide, Tryz.func432.trans (congrArg some (by kernel_rfl))⟩
 f13 := ⟨Tryz.f433.name, by decide, Tryz.func433.trans (congrArg some (by kernel_rfl))⟩
 f14 := ⟨Tryz.f434.name, by decide, Tryz.func434.trans (congrArg some (by kernel_rfl))⟩
 f15 := ⟨Tryz.f435.name, by decide, Tryz.func435.trans (congrArg some (by kernel_rfl))⟩
 f16 := ⟨Tryz.f436.name, by decide, Tryz.func436.trans (congrArg some (by kernel_rfl))⟩
 f17 := ⟨Tryz.f437.name, by decide, Tryz.func437.trans (congrArg some (by kernel_rfl))⟩
 f18 := ⟨Tryz.f438.name, by decide, Tryz.func438.trans (congrArg some (by kernel_rfl))⟩
 f19 := Tryz.func339.trans (congrArg some (by kernel_rfl))
 f20 := Tryz.func340.trans (congrArg some (by kernel_rfl))
 f30 := ⟨Tryz.f524.name, by decide, Tryz.func524.trans (congrArg some (by kernel_rfl))⟩
 f31 := Tryz.func441.trans (congrArg some (by kernel_rfl))
 f32 := Tryz.func442.trans (congrArg some (by kernel_rfl))
 f33 := ⟨Tryz.f525.name, by decide, Tryz.func525.trans (congrArg some (by kernel_rfl))⟩
 f34 := ⟨Tryz.f526.name, by decide, Tryz.func526.trans (congrArg some (by kernel_rfl))⟩
 f35 := ⟨Tryz.f219.name, by decide, Tryz.func219.trans (congrArg some (by kernel_rfl))⟩
 f40 := ⟨Tryz.f583.name, by decide, Tryz.func583.trans (congrArg some (by kernel_rfl))⟩
 t0 := Tryz.underlying0
 a0 := Tryz.isAgg0
 z0 := Tryz.sizeOf0
 v0 := Tryz.zeroValue0
 t3 := Tryz.underlying3
 a3 := Tryz.isAgg3
 z3 := Tryz.sizeOf3
 v3 := Tryz.zeroValue3
 t4 := Tryz.underlying4
 a4 := Tryz.isAgg4
 z4 := Tryz.sizeOf4
 v4 := Tryz.zeroValue4
 t5 := Tryz.underlying5
 a5 := Tryz.isAgg5
 z5 := Tryz.sizeOf5
 v5 := Tryz.zeroValue5
 t9 := Tryz.underlying9
 a9 := Tryz.isAgg9
 z9 := Tryz.sizeOf9
 v9 := Tryz.zeroValue9
 t22 := Tryz.underlying101
 a22 := Tryz.isAgg101
 z22 := Tryz.sizeOf101
 v22 := Tryz.zeroValue101
 t23 := Tryz.underlying101
 a23 := Tryz.isAgg101
 z23 := Tryz.sizeOf101
 v23 := Tryz.zeroValue101
 t25 := Tryz.underlying3
 a25 := Tryz.isAgg3
 z25 := Tryz.sizeOf3
 v25 := Tryz.zeroValue3
 t32 := Tryz.underlying266
 a32 := Tryz.isAgg266
 z32 := Tryz.sizeOf266
 v32 := Tryz.zeroValue266
 t35 := Tryz.underlying528
 a35 := Tryz.isAgg528
 z35 := Tryz.sizeOf528
 v35 := Tryz.zeroValue528
 t36 := Tryz.underlying529
 a36 := Tryz.isAgg529
 z36 := Tryz.sizeOf529
 v36 := Tryz.zeroValue529
 t41 := Tryz.underlying153
 a41 := Tryz.isAgg153
 z41 := Tryz.sizeOf153
 v41 := Tryz.zeroValue153
 t44 := Tryz.underlying535
 a44 := Tryz.isAgg535
 z44 := Tryz.sizeOf535
 v44 := Tryz.zeroValue535
 t46 := Tryz.underlying537
 a46 := Tryz.isAgg537
 z46 := Tryz.sizeOf537
 v46 := Tryz.zeroValue537
 t53 := Tryz.underlying615
 a53 := Tryz.isAgg615
 z53 := Tryz.sizeOf615
 v53 := Tryz.zeroValue615
 t57 := Tryz.underlying619
 a57 := Tryz.isAgg619
 z57 := Tryz.sizeOf619
 v57 := Tryz.zeroValue619
 t63 := Tryz.underlying726
 a63 := Tryz.isAgg726
 z63 := Tryz.sizeOf726
 v63 := Tryz.zeroValue726
 t64 := Tryz.underlying320
 a64 := Tryz.isAgg320
 z64 := Tryz.sizeOf320
 v64 := Tryz.zeroValue320 }
def Tryz.keys133_ren : Go.Shelf.Ren := ⟨fun | 7 => 174 | 10 => 307 | n => n, fun | 23 => 342 | 26 => 9 | 3 => 3 | 28 => 351 | 0 => 0 | 27 => 350 | 33 => 361 | 4 => 4 | n => n, fun | n => n⟩
theorem Tryz.keys133 : Go.Proofs.SlLaysZ.n7 Tryz.prog Tryz.keys133_ren := {
 mixed := by kernel_rfl
 f7 := ⟨Tryz.f174.name, by decide, Tryz.func174.trans (congrArg some (by kernel_rfl))⟩
 f10 := ⟨Tryz.f307.name, by decide, Tryz.func307.trans (congrArg some (by kernel_rfl))⟩
 t0 := Tryz.underlying0
 a0 := Tryz.isAgg0
 z0 := Tryz.sizeOf0
 v0 := Tryz.zeroValue0
 t4 := Tryz.underlying4
 a4 := Tryz.isAgg4
 z4 := Tryz.sizeOf4
 v4 := Tryz.zeroValue4
 t23 := Tryz.underlying342
 a23 := Tryz.isAgg342
 z23 := Tryz.sizeOf342
 v23 := Tryz.zeroValue342
 t26 := Tryz.underlying9
 a26 := Tryz.isAgg9
 z26 := Tryz.sizeOf9
 v26 := Tryz.zeroValue9
 t27 := Tryz.underlying350
 a27 := Tryz.isAgg350
 z27 := Tryz.sizeOf350
 v27 := Tryz.zeroValue350
 t28 := Tryz.underlying351
 a28 := Tryz.isAgg351
 z28 := Tryz.sizeOf351
 v28 := Tryz.zeroValue351
 t33 := Tryz.underlying361
 a33 := Tryz.isAgg361
 z33 := Tryz.sizeOf361
 v33 := Tryz.zeroValue361 }
def Tryz.keys391_ren : Go.Shelf.Ren := ⟨fun | 7 => 451 | 10 => 546 | n => n, fun | 23 => 551 | 26 => 9 | 3 => 4 | 28 => 351 | 0 => 0 | 27 => 350 | 33 => 361 | 4 => 4 | n => n, fun | n => n⟩
theorem Tryz.keys391 : Go.Proofs.SlLaysZ.n7 Tryz.prog Tryz.keys391_ren := {
 mixed := by kernel_rfl
 f7 := ⟨Tryz.f451.name, by decide, Tryz.func451.trans (congrArg some (by kernel_rfl))⟩
 f10 := ⟨Tryz.f546.name, by decide, Tryz.func546.trans (congrArg some (by kernel_rfl))⟩
 t0 := Tryz.underlying0
 a0 := Tryz.isAgg0
 z0 := Tryz.sizeOf0
 v0 := Tryz.zeroValue0
 t4 := Tryz.underlying4
 a4 := Tryz.isAgg4
 z4 := Tryz.sizeOf4
 v4 := Tryz.zeroValue4
 t23 := Tryz.underlying551
 a23 := Tryz.isAgg551
 z23 := Tryz.sizeOf551
 v23 := Tryz.zeroValue551
 t26 := Tryz.underlying9
 a26 := Tryz.isAgg9
 z26 := Tryz.sizeOf9
 v26 := Tryz.zeroValue9
 t27 := Tryz.underlying350
 a27 := Tryz.isAgg350
 z27 := Tryz.sizeOf350
 v27 := Tryz.zeroValue350
 t28 := Tryz.underlying351
 a28 := Tryz.isAgg351
 z28 := Tryz.sizeOf351
 v28 := Tryz.zeroValue351
 t33 := Tryz.underlying361
 a33 := Tryz.isAgg361
 z33 := Tryz.sizeOf361
 v33 := Tryz.zeroValue361 }
def Tryz.sorted132_ren : Go.Shelf.Ren := ⟨fun | 6 => 173 | 8 => 305 | 9 => 306 | 11 => 410 | 13 => 218 | 12 => 411 | 23 => 339 | 24 => 340 | 14 => 509 | 15 => 510 | 16 => 511 | 17 => 512 | 18 => 513 | 19 => 514 | 20 => 515 | 21 => 516 | 22 => 517 | 25 => 579 | 26 => 441 | 27 => 442 | 28 => 580 | 29 => 581 | 30 => 309 | 31 => 654 | n => n, fun | 26 => 9 | 28 => 351 | 24 => 94 | 0 => 0 | 3 => 3 | 37 => 266 | 48 => 535 | 50 => 537 | 4 => 4 | 40 => 529 | 39 => 528 | 45 => 153 | 5 => 5 | 9 => 9 | 51 => 615 | 55 => 619 | 57 => 726 | 58 => 320 | 33 => 361 | n => n, fun | n => n⟩
theorem Tryz.sorted132 : Go.Proofs.SlLaysZ.n6 Tryz.prog Tryz.sorted132_ren := {
 mixed := by kernel_rfl
 f6 := ⟨Tryz.f173.name, by decide, Tryz.func173.trans (congrArg some (by kernel_rfl))⟩
 f8 := ⟨Tryz.f305.name, by decide, Tryz.func305.trans (congrArg some (by kernel_rfl))⟩
 f11 := ⟨Tryz.f410.name, by decide, Tryz.func410.trans (congrArg some (by kernel_rfl))⟩
 t0 := Tryz.underlying0
 a0 := Tryz.isAgg0
 z0 := Tryz.sizeOf0
 v0 := Tryz.zeroValue0
 t24 := Tryz.underlying94
 a24 := Tryz.isAgg94
 z24 := Tryz.sizeOf94
 v24 := Tryz.zeroValue94
 t26 := Tryz.underlying9
 a26 := Tryz.isAgg9
 z26 := Tryz.sizeOf9
 v26 := Tryz.zeroValue9
 t28 := Tryz.underlying351
 a28 := Tryz.isAgg351
 z28 := Tryz.sizeOf351
 v28 := Tryz.zeroValue351
 i26 := by kernel_rfl }
def Tryz.sort243_ren : Go.Shelf.Ren := ⟨fun | 6 => 306 | 8 => 218 | 9 => 411 | 19 => 339 | 20 => 340 | 21 => 509 | 22 => 510 | 23 => 511 | 24 => 512 | 25 => 513 | 26 => 514 | 27 => 515 | 28 => 516 | 29 => 517 | 36 => 579 | 31 => 441 | 32 => 442 | 37 => 580 | 38 => 581 | 39 => 309 | 41 => 654 | n => n, fun | 27 => 94 | 29 => 9 | 3 => 3 | 32 => 266 | 26 => 94 | 0 => 0 | 44 => 535 | 46 => 537 | 4 => 4 | 36 => 529 | 35 => 528 | 41 => 153 | 5 => 5 | 9 => 9 | 53 => 615 | 57 => 619 | 63 => 726 | 64 => 320 | n => n, fun | n => n⟩
theorem Tryz.sort243 : Go.Proofs.SlLaysM.n6 Tryz.prog Tryz.sort243_ren := {
 mixed := by kernel_rfl
 f6 := ⟨Tryz.f306.name, by decide, Tryz.func306.trans (congrArg some (by kernel_rfl))⟩
 f8 := Tryz.func218.trans (congrArg some (by kernel_rfl))
 f9 := ⟨Tryz.f411.name, by decide, Tryz.func411.trans (congrArg some (by kernel_rfl))⟩
 f19 := Tryz.func339.trans (congrArg some (by kernel_rfl))
 f20 := Tryz.func340.trans (congrArg some (by kernel_rfl))
 f21 := ⟨Tryz.f509.name, by decide, Tryz.func509.trans (congrArg some (by kernel_rfl))⟩
 f22 := ⟨Tryz.f510.name, by decide, Tryz.func510.trans (congrArg some (by kernel_rfl))⟩
 f23 := ⟨Tryz.f511.name, by decide, Tryz.func511.trans (congrArg some (by kernel_rfl))⟩
 f24 := ⟨Tryz.f512.name, by decide, Tryz.func512.trans (congrArg some (by kernel_rfl))⟩
 f25 := ⟨Tryz.f513.name, by decide, Tryz.func513.trans (congrArg some (by kernel_rfl))⟩
 f26 := ⟨Tryz.f514.name, by decide, Tryz.func514.trans (congrArg some (by kernel_rfl))⟩
 f27 := ⟨Tryz.f515.name, by decide, Tryz.func515.trans (congrArg some (by kernel_rfl))⟩
 f28 := ⟨Tryz.f516.name, by decide, Tryz.func516.trans (congrArg some (by kernel_rfl))⟩
 f29 := ⟨Tryz.f517.name, by decide, Tryz.func517.trans (congrArg some (by kernel_rfl))⟩
 f31 := Tryz.func441.trans (congrArg some (by kernel_rfl))
 f32 := Tryz.func442.trans (congrArg some (by kernel_rfl))
 f36 := ⟨Tryz.f579.name, by decide, Tryz.func579.trans (congrArg some (by kernel_rfl))⟩
 f37 := ⟨Tryz.f580.name, by decide, Tryz.func580.trans (congrArg some (by kernel_rfl))⟩
 f38 := ⟨Tryz.f581.name, by decide, Tryz.func581.trans (congrArg some (by kernel_rfl))⟩
 f39 := ⟨Tryz.f309.name, by decide, Tryz.func309.trans (congrArg some (by kernel_rfl))⟩
 f41 := ⟨Tryz.f654.name, by decide, Tryz.func654.trans (congrArg some (by kernel_rfl))⟩
 t0 := Tryz.underlying0
 a0 := Tryz.isAgg0
 z0 := Tryz.sizeOf0
 v0 := Tryz.zeroValue0
 t3 := Tryz.underlying3
 a3 := Tryz.isAgg3
 z3 := Tryz.sizeOf3
 v3 := Tryz.zeroValue3
 t4 := Tryz.underlying4
 a4 := Tryz.isAgg4
 z4 := Tryz.sizeOf4
 v4 := Tryz.zeroValue4
 t5 := Tryz.underlying5
 a5 := Tryz.isAgg5
 z5 := Tryz.sizeOf5
 v5 := Tryz.zeroValue5
 t9 := Tryz.underlying9
 a9 := Tryz.isAgg9
 z9 := Tryz.sizeOf9
 v9 := Tryz.zeroValue9
 t26 := Tryz.underlying94
 a26 := Tryz.isAgg94
 z26 := Tryz.sizeOf94
 v26 := Tryz.zeroValue94
 t27 := Tryz.underlying94
 a27 := Tryz.isAgg94
 z27 := Tryz.sizeOf94
 v27 := Tryz.zeroValue94
 t29 := Tryz.underlying9
 a29 := Tryz.isAgg9
 z29 := Tryz.sizeOf9
 v29 := Tryz.zeroValue9
 t32 := Tryz.underlying266
 a32 := Tryz.isAgg266
 z32 := Tryz.sizeOf266
 v32 := Tryz.zeroValue266
 t35 := Tryz.underlying528
 a35 := Tryz.isAgg528
 z35 := Tryz.sizeOf528
 v35 := Tryz.zeroValue528
 t36 := Tryz.underlying529
 a36 := Tryz.isAgg529
 z36 := Tryz.sizeOf529
 v36 := Tryz.zeroValue529
 t41 := Tryz.underlying153
 a41 := Tryz.isAgg153
 z41 := Tryz.sizeOf153
 v41 := Tryz.zeroValue153
 t44 := Tryz.underlying535
 a44 := Tryz.isAgg535
 z44 := Tryz.sizeOf535
 v44 := Tryz.zeroValue535
 t46 := Tryz.underlying537
 a46 := Tryz.isAgg537
 z46 := Tryz.sizeOf537
 v46 := Tryz.zeroValue537
 t53 := Tryz.underlying615
 a53 := Tryz.isAgg615
 z53 := Tryz.sizeOf615
 v53 := Tryz.zeroValue615
 t57 := Tryz.underlying619
 a57 := Tryz.isAgg619
 z57 := Tryz.sizeOf619
 v57 := Tryz.zeroValue619
 t63 := Tryz.underlying726
 a63 := Tryz.isAgg726
 z63 := Tryz.sizeOf726
 v63 := Tryz.zeroValue726
 t64 := Tryz.underlying320
 a64 := Tryz.isAgg320
 z64 := Tryz.sizeOf320
 v64 := Tryz.zeroValue320 }
def Tryz.sort84_ren : Go.Shelf.Ren := ⟨fun | 6 => 106 | 15 => 218 | 14 => 217 | 28 => 339 | 29 => 340 | 20 => 331 | 21 => 332 | 22 => 333 | 23 => 334 | 24 => 335 | 25 => 336 | 26 => 337 | 27 => 338 | 46 => 440 | 47 => 441 | 48 => 442 | 49 => 443 | 50 => 444 | 57 => 527 | n => n, fun | 22 => 83 | 24 => 109 | 25 => 155 | 3 => 3 | 39 => 266 | 0 => 0 | 53 => 535 | 55 => 537 | 4 => 4 | 46 => 529 | 45 => 528 | 50 => 153 | 5 => 5 | 9 => 9 | 66 => 615 | 70 => 619 | 76 => 726 | 77 => 320 | n => n, fun | n => n⟩
theorem Tryz.sort84 : Go.Proofs.SlLaysF0.n6 Tryz.prog Tryz.sort84_ren := {
 mixed := by kernel_rfl
 f6 := ⟨Tryz.f106.name, by decide, Tryz.func106.trans (congrArg some (by kernel_rfl))⟩
 f14 := ⟨Tryz.f217.name, by decide, Tryz.func217.trans (congrArg some (by kernel_rfl))⟩
 f15 := Tryz.func218.trans (congrArg some (by kernel_rfl))
 f20 := ⟨Tryz.f331.name, by decide, Tryz.func331.trans (congrArg some (by kernel_rfl))⟩
 f21 := ⟨Tryz.f332.name, by decide, Tryz.func332.trans (congrArg some (by kernel_rfl))⟩
 f22 := ⟨Tryz.f333.name, by decide, Tryz.func333.trans (congrArg some (by kernel_rfl))⟩
 f23 := ⟨Tryz.f334.name, by decide, Tryz.func334.trans (congrArg some (by kernel_rfl))⟩
 f24 := ⟨Tryz.f335.name, by decide, Tryz.func335.trans (congrArg some (by kernel_rfl))⟩
 f25 := ⟨Tryz.f336.name, by decide, Tryz.func336.trans (congrArg some (by kernel_rfl))⟩
 f26 := ⟨Tryz.f337.name, by decide, Tryz.func337.trans (congrArg some (by kernel_rfl))⟩
 f27 := ⟨Tryz.f338.name, by decide, Tryz.func338.trans (congrArg some (by kernel_rfl))⟩
 f28 := Tryz.func339.trans (congrArg some (by kernel_rfl))
 f29 := Tryz.func340.trans (congrArg some (by kernel_rfl))
 f46 := ⟨Tryz.f440.name, by decide, Tryz.func440.trans (congrArg some (by kernel_rfl))⟩
 f47 := Tryz.func441.trans (congrArg some (by kernel_rfl))
 f48 := Tryz.func442.trans (congrArg some (by kernel_rfl))
 f49 := ⟨Tryz.f443.name, by decide, Tryz.func443.trans (congrArg some (by kernel_rfl))⟩
 f50 := ⟨Tryz.f444.name, by decide, Tryz.func444.trans (congrArg some (by kernel_rfl))⟩
 f57 := ⟨Tryz.f527.name, by decide, Tryz.func527.trans (congrArg some (by kernel_rfl))⟩
 t0 := Tryz.underlying0
 a0 := Tryz.isAgg0
 z0 := Tryz.sizeOf0
 v0 := Tryz.zeroValue0
 t3 := Tryz.underlying3
 a3 := Tryz.isAgg3
 z3 := Tryz.sizeOf3
 v3 := Tryz.zeroValue3
 t4 := Tryz.underlying4
 a4 := Tryz.isAgg4
 z4 := Tryz.sizeOf4
 v4 := Tryz.zeroValue4
 t5 := Tryz.underlying5
 a5 := Tryz.isAgg5
 z5 := Tryz.sizeOf5
 v5 := Tryz.zeroValue5
 t9 := Tryz.underlying9
 a9 := Tryz.isAgg9
 z9 := Tryz.sizeOf9
 v9 := Tryz.zeroValue9
 t22 := Tryz.underlying83
 a22 := Tryz.isAgg83
 z22 := Tryz.sizeOf83
 v22 := Tryz.zeroValue83
 t25 := Tryz.underlying155
 a25 := Tryz.isAgg155
 z25 := Tryz.sizeOf155
 v25 := Tryz.zeroValue155
 t39 := Tryz.underlying266
 a39 := Tryz.isAgg266
 z39 := Tryz.sizeOf266
 v39 := Tryz.zeroValue266
 t45 := Tryz.underlying528
 a45 := Tryz.isAgg528
 z45 := Tryz.sizeOf528
 v45 := Tryz.zeroValue528
 t46 := Tryz.underlying529
 a46 := Tryz.isAgg529
 z46 := Tryz.sizeOf529
 v46 := Tryz.zeroValue529
 t50 := Tryz.underlying153
 a50 := Tryz.isAgg153
 z50 := Tryz.sizeOf153
 v50 := Tryz.zeroValue153
 t53 := Tryz.underlying535
 a53 := Tryz.isAgg535
 z53 := Tryz.sizeOf535
 v53 := Tryz.zeroValue535
 t55 := Tryz.underlying537
 a55 := Tryz.isAgg537
 z55 := Tryz.sizeOf537
 v55 := Tryz.zeroValue537
 t66 := Tryz.underlying615
 a66 := Tryz.isAgg615
 z66 := Tryz.sizeOf615
 v66 := Tryz.zeroValue615
 t70 := Tryz.underlying619
 a70 := Tryz.isAgg619
 z70 := Tryz.sizeOf619
 v70 := Tryz.zeroValue619
 t76 := Tryz.underlying726
 a76 := Tryz.isAgg726
 z76 := Tryz.sizeOf726
 v76 := Tryz.zeroValue726
 t77 := Tryz.underlying320
 a77 := Tryz.isAgg320
 z77 := Tryz.sizeOf320
 v77 := Tryz.zeroValue320 }
def Tryz.sort399_ren : Go.Shelf.Ren := ⟨fun | 6 => 459 | 15 => 218 | 14 => 550 | 28 => 339 | 29 => 340 | 20 => 599 | 21 => 600 | 22 => 601 | 23 => 602 | 24 => 603 | 25 => 604 | 26 => 605 | 27 => 606 | 46 => 665 | 47 => 441 | 48 => 442 | 49 => 666 | 50 => 667 | 57 => 695 | n => n, fun | 22 => 58 | 24 => 65 | 25 => 647 | 3 => 3 | 39 => 266 | 0 => 0 | 53 => 535 | 55 => 537 | 4 => 4 | 46 => 529 | 45 => 528 | 50 => 153 | 5 => 5 | 9 => 9 | 66 => 615 | 70 => 619 | 76 => 726 | 77 => 320 | n => n, fun | n => n⟩
theorem Tryz.sort399 : Go.Proofs.SlLaysF0.n6 Tryz.prog Tryz.sort399_ren := {
 mixed := by kernel_rfl
 f6 := ⟨Tryz.f459.name, by decide, Tryz.func459.trans (congrArg some (by kernel_rfl))⟩
 f14 := ⟨Tryz.f550.name, by decide, Tryz.func550.trans (congrArg some (by kernel_rfl))⟩
 f15 := Tryz.func218.trans (congrArg some (by kernel_rfl))
 f20 := ⟨Tryz.f599.name, by decide, Tryz.func599.trans (congrArg some (by kernel_rfl))⟩
 f21 := ⟨Tryz.f600.name, by decide, Tryz.func600.trans (congrArg some (by kernel_rfl))⟩
 f22 := ⟨Tryz.f601.name, by decide, Tryz.func601.trans (congrArg some (by kernel_rfl))⟩
 f23 := ⟨Tryz.f602.name, by decide, Tryz.func602.trans (congrArg some (by kernel_rfl))⟩
 f24 := ⟨Tryz.f603.name, by decide, Tryz.func603.trans (congrArg some (by kernel_rfl))⟩
 f25 := ⟨Tryz.f604.name, by decide, Tryz.func604.trans (congrArg some (by kernel_rfl))⟩
 f26 := ⟨Tryz.f605.name, by decide, Tryz.func605.trans (congrArg some (by kernel_rfl))⟩
 f27 := ⟨Tryz.f606.name, by decide, Tryz.func606.trans (congrArg some (by kernel_rfl))⟩
 f28 := Tryz.func339.trans (congrArg some (by kernel_rfl))
 f29 := Tryz.func340.trans (congrArg some (by kernel_rfl))
 f46 := ⟨Tryz.f665.name, by decide, Tryz.func665.trans (congrArg some (by kernel_rfl))⟩
 f47 := Tryz.func441.trans (congrArg some (by kernel_rfl))
 f48 := Tryz.func442.trans (congrArg some (by kernel_rfl))
 f49 := ⟨Tryz.f666.name, by decide, Tryz.func666.trans (congrArg some (by kernel_rfl))⟩
 f50 := ⟨Tryz.f667.name, by decide, Tryz.func667.trans (congrArg some (by kernel_rfl))⟩
 f57 := ⟨Tryz.f695.name, by decide, Tryz.func695.trans (congrArg some (by kernel_rfl))⟩
 t0 := Tryz.underlying0
 a0 := Tryz.isAgg0
 z0 := Tryz.sizeOf0
 v0 := Tryz.zeroValue0
 t3 := Tryz.underlying3
 a3 := Tryz.isAgg3
 z3 := Tryz.sizeOf3
 v3 := Tryz.zeroValue3
 t4 := Tryz.underlying4
 a4 := Tryz.isAgg4
 z4 := Tryz.sizeOf4
 v4 := Tryz.zeroValue4
 t5 := Tryz.underlying5
 a5 := Tryz.isAgg5
 z5 := Tryz.sizeOf5
 v5 := Tryz.zeroValue5
 t9 := Tryz.underlying9
 a9 := Tryz.isAgg9
 z9 := Tryz.sizeOf9
 v9 := Tryz.zeroValue9
 t22 := Tryz.underlying58
 a22 := Tryz.isAgg58
 z22 := Tryz.sizeOf58
 v22 := Tryz.zeroValue58
 t25 := Tryz.underlying647
 a25 := Tryz.isAgg647
 z25 := Tryz.sizeOf647
 v25 := Tryz.zeroValue647
 t39 := Tryz.underlying266
 a39 := Tryz.isAgg266
 z39 := Tryz.sizeOf266
 v39 := Tryz.zeroValue266
 t45 := Tryz.underlying528
 a45 := Tryz.isAgg528
 z45 := Tryz.sizeOf528
 v45 := Tryz.zeroValue528
 t46 := Tryz.underlying529
 a46 := Tryz.isAgg529
 z46 := Tryz.sizeOf529
 v46 := Tryz.zeroValue529
 t50 := Tryz.underlying153
 a50 := Tryz.isAgg153
 z50 := Tryz.sizeOf153
 v50 := Tryz.zeroValue153
 t53 := Tryz.underlying535
 a53 := Tryz.isAgg535
 z53 := Tryz.sizeOf535
 v53 := Tryz.zeroValue535
 t55 := Tryz.underlying537
 a55 := Tryz.isAgg537
 z55 := Tryz.sizeOf537
 v55 := Tryz.zeroValue537
 t66 := Tryz.underlying615
 a66 := Tryz.isAgg615
 z66 := Tryz.sizeOf615
 v66 := Tryz.zeroValue615
 t70 := Tryz.underlying619
 a70 := Tryz.isAgg619
 z70 := Tryz.sizeOf619
 v70 := Tryz.zeroValue619
 t76 := Tryz.underlying726
 a76 := Tryz.isAgg726
 z76 := Tryz.sizeOf726
 v76 := Tryz.zeroValue726
 t77 := Tryz.underlying320
 a77 := Tryz.isAgg320
 z77 := Tryz.sizeOf320
 v77 := Tryz.zeroValue320 }
def Tryz.sort401_ren : Go.Shelf.Ren := ⟨fun | 6 => 461 | 15 => 218 | 14 => 551 | 28 => 339 | 29 => 340 | 20 => 607 | 21 => 608 | 22 => 609 | 23 => 610 | 24 => 611 | 25 => 612 | 26 => 613 | 27 => 614 | 46 => 668 | 47 => 441 | 48 => 442 | 49 => 669 | 50 => 670 | 57 => 696 | n => n, fun | 22 => 59 | 24 => 144 | 25 => 649 | 3 => 3 | 39 => 266 | 0 => 0 | 53 => 535 | 55 => 537 | 4 => 4 | 46 => 529 | 45 => 528 | 50 => 153 | 5 => 5 | 9 => 9 | 66 => 615 | 70 => 619 | 76 => 726 | 77 => 320 | n => n, fun | n => n⟩
theorem Tryz.sort401 : Go.Proofs.SlLaysF0.n6 Tryz.prog Tryz.sort401_ren := {
 mixed := by kernel_rfl
 f6 := ⟨Tryz.f461.name, by decide, Tryz.func461.trans (congrArg some (by kernel_rfl))⟩
 f14 := ⟨Tryz.f551.name, by decide, Tryz.func551.trans (congrArg some (by kernel_rfl))⟩
 f15 := Tryz.func218.trans (congrArg some (by kernel_rfl))
 f20 := ⟨Tryz.f607.name, by decide, Tryz.func607.trans (congrArg some (by kernel_rfl))⟩
 f21 := ⟨Tryz.f608.name, by decide, Tryz.func608.trans (congrArg some (by kernel_rfl))⟩
 f22 := ⟨Tryz.f609.name, by decide, Tryz.func609.trans (congrArg some (by kernel_rfl))⟩
 f23 := ⟨Tryz.f610.name, by decide, Tryz.func610.trans (congrArg some (by kernel_rfl))⟩
 f24 := ⟨Tryz.f611.name, by decide, Tryz.func611.trans (congrArg some (by kernel_rfl))⟩
 f25 := ⟨Tryz.f612.name, by decide, Tryz.func612.trans (congrArg some (by kernel_rfl))⟩
 f26 := ⟨Tryz.f613.name, by decide, Tryz.func613.trans (congrArg some (by kernel_rfl))⟩
 f27 := ⟨Tryz.f614.name, by decide, Tryz.func614.trans (congrArg some (by kernel_rfl))⟩
 f28 := Tryz.func339.trans (congrArg some (by kernel_rfl))
 f29 := Tryz.func340.trans (congrArg some (by kernel_rfl))
 f46 := ⟨Tryz.f668.name, by decide, Tryz.func668.trans (congrArg some (by kernel_rfl))⟩
 f47 := Tryz.func441.trans (congrArg some (by kernel_rfl))
 f48 := Tryz.func442.trans (congrArg some (by kernel_rfl))
 f49 := ⟨Tryz.f669.name, by decide, Tryz.func669.trans (congrArg some (by kernel_rfl))⟩
 f50 := ⟨Tryz.f670.name, by decide, Tryz.func670.trans (congrArg some (by kernel_rfl))⟩
 f57 := ⟨Tryz.f696.name, by decide, Tryz.func696.trans (congrArg some (by kernel_rfl))⟩
 t0 := Tryz.underlying0
 a0 := Tryz.isAgg0
 z0 := Tryz.sizeOf0
 v0 := Tryz.zeroValue0
 t3 := Tryz.underlying3
 a3 := Tryz.isAgg3
 z3 := Tryz.sizeOf3
 v3 := Tryz.zeroValue3
 t4 := Tryz.underlying4
 a4 := Tryz.isAgg4
 z4 := Tryz.sizeOf4
 v4 := Tryz.zeroValue4
 t5 := Tryz.underlying5
 a5 := Tryz.isAgg5
 z5 := Tryz.sizeOf5
 v5 := Tryz.zeroValue5
 t9 := Tryz.underlying9
 a9 := Tryz.isAgg9
 z9 := Tryz.sizeOf9
 v9 := Tryz.zeroValue9
 t22 := Tryz.underlying59
 a22 := Tryz.isAgg59
 z22 := Tryz.sizeOf59
 v22 := Tryz.zeroValue59
 t25 := Tryz.underlying649
 a25 := Tryz.isAgg649
 z25 := Tryz.sizeOf649
 v25 := Tryz.zeroValue649
 t39 := Tryz.underlying266
 a39 := Tryz.isAgg266
 z39 := Tryz.sizeOf266
 v39 := Tryz.zeroValue266
 t45 := Tryz.underlying528
 a45 := Tryz.isAgg528
 z45 := Tryz.sizeOf528
 v45 := Tryz.zeroValue528
 t46 := Tryz.underlying529
 a46 := Tryz.isAgg529
 z46 := Tryz.sizeOf529
 v46 := Tryz.zeroValue529
 t50 := Tryz.underlying153
 a50 := Tryz.isAgg153
 z50 := Tryz.sizeOf153
 v50 := Tryz.zeroValue153
 t53 := Tryz.underlying535
 a53 := Tryz.isAgg535
 z53 := Tryz.sizeOf535
 v53 := Tryz.zeroValue535
 t55 := Tryz.underlying537
 a55 := Tryz.isAgg537
 z55 := Tryz.sizeOf537
 v55 := Tryz.zeroValue537
 t66 := Tryz.underlying615
 a66 := Tryz.isAgg615
 z66 := Tryz.sizeOf615
 v66 := Tryz.zeroValue615
 t70 := Tryz.underlying619
 a70 := Tryz.isAgg619
 z70 := Tryz.sizeOf619
 v70 := Tryz.zeroValue619
 t76 := Tryz.underlying726
 a76 := Tryz.isAgg726
 z76 := Tryz.sizeOf726
 v76 := Tryz.zeroValue726
 t77 := Tryz.underlying320
 a77 := Tryz.isAgg320
 z77 := Tryz.sizeOf320
 v77 := Tryz.zeroValue320 }
def Tryz.sort472_ren : Go.Shelf.Ren := ⟨fun | 6 => 543 | 15 => 218 | 14 => 598 | 28 => 339 | 29 => 340 | 20 => 657 | 21 => 658 | 22 => 659 | 23 => 660 | 24 => 661 | 25 => 662 | 26 => 663 | 27 => 664 | 46 => 692 | 47 => 441 | 48 => 442 | 49 => 693 | 50 => 694 | 57 => 735 | n => n, fun | 22 => 95 | 24 => 105 | 25 => 258 | 3 => 3 | 39 => 266 | 0 => 0 | 53 => 535 | 55 => 537 | 4 => 4 | 46 => 529 | 45 => 528 | 50 => 153 | 5 => 5 | 9 => 9 | 66 => 615 | 70 => 619 | 76 => 726 | 77 => 320 | n => n, fun | n => n⟩
theorem Tryz.sort472 : Go.Proofs.SlLaysF0.n6 Tryz.prog Tryz.sort472_ren := {
 mixed := by kernel_rfl
 f6 := ⟨Tryz.f543.name, by decide, Tryz.func543.trans (congrArg some (by kernel_rfl))⟩
 f14 := ⟨Tryz.f598.name, by decide, Tryz.func598.trans (congrArg some (by kernel_rfl))⟩
 f15 := Tryz.func218.trans (congrArg some (by kernel_rfl))
 f20 := ⟨Tryz.f657.name, by decide, Tryz.func657.trans (congrArg some (by kernel_rfl))⟩
 f21 := ⟨Tryz.f658.name, by decide, Tryz.func658.trans (congrArg some (by kernel_rfl))⟩
 f22 := ⟨Tryz.f659.name, by decide, Tryz.func659.trans (congrArg some (by kernel_rfl))⟩
 f23 := ⟨Tryz.f660.name, by decide, Tryz.func660.trans (congrArg some (by kernel_rfl))⟩
 f24 := ⟨Tryz.f661.name, by decide, Tryz.func661.trans (congrArg some (by kernel_rfl))⟩
 f25 := ⟨Tryz.f662.name, by decide, Tryz.func662.trans (congrArg some (by kernel_rfl))⟩
 f26 := ⟨Tryz.f663.name, by decide, Tryz.func663.trans (congrArg some (by kernel_rfl))⟩
 f27 := ⟨Tryz.f664.name, by decide, Tryz.func664.trans (congrArg some (by kernel_rfl))⟩
 f28 := Tryz.func339.trans (congrArg some (by kernel_rfl))
 f29 := Tryz.func340.trans (congrArg some (by kernel_rfl))
 f46 := ⟨Tryz.f692.name, by decide, Tryz.func692.trans (congrArg some (by kernel_rfl))⟩
 f47 := Tryz.func441.trans (congrArg some (by kernel_rfl))
 f48 := Tryz.func442.trans (congrArg some (by kernel_rfl))
 f49 := ⟨Tryz.f693.name, by decide, Tryz.func693.trans (congrArg some (by kernel_rfl))⟩
 f50 := ⟨Tryz.f694.name, by decide, Tryz.func694.trans (congrArg some (by kernel_rfl))⟩
 f57 := ⟨Tryz.f735.name, by decide, Tryz.func735.trans (congrArg some (by kernel_rfl))⟩
 t0 := Tryz.underlying0
 a0 := Tryz.isAgg0
 z0 := Tryz.sizeOf0
 v0 := Tryz.zeroValue0
 t3 := Tryz.underlying3
 a3 := Tryz.isAgg3
 z3 := Tryz.sizeOf3
 v3 := Tryz.zeroValue3
 t4 := Tryz.underlying4
 a4 := Tryz.isAgg4
 z4 := Tryz.sizeOf4
 v4 := Tryz.zeroValue4
 t5 := Tryz.underlying5
 a5 := Tryz.isAgg5
 z5 := Tryz.sizeOf5
 v5 := Tryz.zeroValue5
 t9 := Tryz.underlying9
 a9 := Tryz.isAgg9
 z9 := Tryz.sizeOf9
 v9 := Tryz.zeroValue9
 t22 := Tryz.underlying95
 a22 := Tryz.isAgg95
 z22 := Tryz.sizeOf95
 v22 := Tryz.zeroValue95
 t25 := Tryz.underlying258
 a25 := Tryz.isAgg258
 z25 := Tryz.sizeOf258
 v25 := Tryz.zeroValue258
 t39 := Tryz.underlying266
 a39 := Tryz.isAgg266
 z39 := Tryz.sizeOf266
 v39 := Tryz.zeroValue266
 t45 := Tryz.underlying528
 a45 := Tryz.isAgg528
 z45 := Tryz.sizeOf528
 v45 := Tryz.zeroValue528
 t46 := Tryz.underlying529
 a46 := Tryz.isAgg529
 z46 := Tryz.sizeOf529
 v46 := Tryz.zeroValue529
 t50 := Tryz.underlying153
 a50 := Tryz.isAgg153
 z50 := Tryz.sizeOf153
 v50 := Tryz.zeroValue153
 t53 := Tryz.underlying535
 a53 := Tryz.isAgg535
 z53 := Tryz.sizeOf535
 v53 := Tryz.zeroValue535
 t55 := Tryz.underlying537
 a55 := Tryz.isAgg537
 z55 := Tryz.sizeOf537
 v55 := Tryz.zeroValue537
 t66 := Tryz.underlying615
 a66 := Tryz.isAgg615
 z66 := Tryz.sizeOf615
 v66 := Tryz.zeroValue615
 t70 := Tryz.underlying619
 a70 := Tryz.isAgg619
 z70 := Tryz.sizeOf619
 v70 := Tryz.zeroValue619
 t76 := Tryz.underlying726
 a76 := Tryz.isAgg726
 z76 := Tryz.sizeOf726
 v76 := Tryz.zeroValue726
 t77 := Tryz.underlying320
 a77 := Tryz.isAgg320
 z77 := Tryz.sizeOf320
 v77 := Tryz.zeroValue320 }
def Tryz.sort148_ren : Go.Shelf.Ren := ⟨fun | 6 => 175 | 15 => 218 | 14 => 308 | 28 => 339 | 29 => 340 | 20 => 412 | 21 => 413 | 22 => 414 | 23 => 415 | 24 => 416 | 25 => 417 | 26 => 418 | 27 => 419 | 46 => 518 | 47 => 441 | 48 => 442 | 49 => 519 | 50 => 520 | 57 => 582 | n => n, fun | 22 => 212 | 24 => 216 | 25 => 356 | 3 => 3 | 39 => 266 | 0 => 0 | 53 => 535 | 55 => 537 | 4 => 4 | 46 => 529 | 45 => 528 | 50 => 153 | 5 => 5 | 9 => 9 | 66 => 615 | 70 => 619 | 76 => 726 | 77 => 320 | n => n, fun | n => n⟩
theorem Tryz.sort148 : Go.Proofs.SlLaysF0.n6 Tryz.prog Tryz.sort148_ren := {
 mixed := by kernel_rfl
 f6 := ⟨Tryz.f175.name, by decide, Tryz.func175.trans (congrArg some (by kernel_rfl))⟩
 f14 := ⟨Tryz.f308.name, by decide, Tryz.func308.trans (congrArg some (by kernel_rfl))⟩
 f15 := Tryz.func218.trans (congrArg some (by kernel_rfl))
 f20 := ⟨Tryz.f412.name, by decide, Tryz.func412.trans (congrArg some (by kernel_rfl))⟩
 f21 := ⟨Tryz.f413.name, by decide, Tryz.func413.trans (congrArg some (by kernel_rfl))⟩
 f22 := ⟨Tryz.f414.name, by decide, Tryz.func414.trans (congrArg some (by kernel_rfl))⟩
 f23 := ⟨Tryz.f415.name, by decide, Tryz.func415.trans (congrArg some (by kernel_rfl))⟩
 f24 := ⟨Tryz.f416.name, by decide, Tryz.func416.trans (congrArg some (by kernel_rfl))⟩
 f25 := ⟨Tryz.f417.name, by decide, Tryz.func417.trans (congrArg some (by kernel_rfl))⟩
 f26 := ⟨Tryz.f418.name, by decide, Tryz.func418.trans (congrArg some (by kernel_rfl))⟩
 f27 := ⟨Tryz.f419.name, by decide, Tryz.func419.trans (congrArg some (by kernel_rfl))⟩
 f28 := Tryz.func339.trans (congrArg some (by kernel_rfl))
 f29 := Tryz.func340.trans (congrArg some (by kernel_rfl))
 f46 := ⟨Tryz.f518.name, by decide, Tryz.func518.trans (congrArg some (by kernel_rfl))⟩
 f47 := Tryz.func441.trans (congrArg some (by kernel_rfl))
 f48 := Tryz.func442.trans (congrArg some (by kernel_rfl))
 f49 := ⟨Tryz.f519.name, by decide, Tryz.func519.trans (congrArg some (by kernel_rfl))⟩
 f50 := ⟨Tryz.f520.name, by decide, Tryz.func520.trans (congrArg some (by kernel_rfl))⟩
 f57 := ⟨Tryz.f582.name, by decide, Tryz.func582.trans (congrArg some (by kernel_rfl))⟩
 t0 := Tryz.underlying0
 a0 := Tryz.isAgg0
 z0 := Tryz.sizeOf0
 v0 := Tryz.zeroValue0
 t3 := Tryz.underlying3
 a3 := Tryz.isAgg3
 z3 := Tryz.sizeOf3
 v3 := Tryz.zeroValue3
 t4 := Tryz.underlying4
 a4 := Tryz.isAgg4
 z4 := Tryz.sizeOf4
 v4 := Tryz.zeroValue4
 t5 := Tryz.underlying5
 a5 := Tryz.isAgg5
 z5 := Tryz.sizeOf5
 v5 := Tryz.zeroValue5
 t9 := Tryz.underlying9
 a9 := Tryz.isAgg9
 z9 := Tryz.sizeOf9
 v9 := Tryz.zeroValue9
 t22 := Tryz.underlying212
 a22 := Tryz.isAgg212
 z22 := Tryz.sizeOf212
 v22 := Tryz.zeroValue212
 t25 := Tryz.underlying356
 a25 := Tryz.isAgg356
 z25 := Tryz.sizeOf356
 v25 := Tryz.zeroValue356
 t39 := Tryz.underlying266
 a39 := Tryz.isAgg266
 z39 := Tryz.sizeOf266
 v39 := Tryz.zeroValue266
 t45 := Tryz.underlying528
 a45 := Tryz.isAgg528
 z45 := Tryz.sizeOf528
 v45 := Tryz.zeroValue528
 t46 := Tryz.underlying529
 a46 := Tryz.isAgg529
 z46 := Tryz.sizeOf529
 v46 := Tryz.zeroValue529
 t50 := Tryz.underlying153
 a50 := Tryz.isAgg153
 z50 := Tryz.sizeOf153
 v50 := Tryz.zeroValue153
 t53 := Tryz.underlying535
 a53 := Tryz.isAgg535
 z53 := Tryz.sizeOf535
 v53 := Tryz.zeroValue535
 t55 := Tryz.underlying537
 a55 := Tryz.isAgg537
 z55 := Tryz.sizeOf537
 v55 := Tryz.zeroValue537
 t66 := Tryz.underlying615
 a66 := Tryz.isAgg615
 z66 := Tryz.sizeOf615
 v66 := Tryz.zeroValue615
 t70 := Tryz.underlying619
 a70 := Tryz.isAgg619
 z70 := Tryz.sizeOf619
 v70 := Tryz.zeroValue619
 t76 := Tryz.underlying726
 a76 := Tryz.isAgg726
 z76 := Tryz.sizeOf726
 v76 := Tryz.zeroValue726
 t77 := Tryz.underlying320
 a77 := Tryz.isAgg320
 z77 := Tryz.sizeOf320
 v77 := Tryz.zeroValue320 }
end Go.Proofs
namespace Go.Ev
open Go.Proofs Go.RowKit Go.Maps Go.Sort Go.Shelf
open Go.WideElems (Fit rd rg rd_mk rg_of)
def anyR : Value → Option (DataW Unit × List MemPlace) := fun _ => some (.nil, [])
theorem rg_any {P : Program} {k : TypeId} {x : MapEntry} {l : Lit} (h : keyOf P k x.key = some l) : rd P k anyR x = some (l, .nil) ∧ rg P k anyR x = (l, .nil) := by
 have e : rd P k anyR x = some (l, .nil) := by
  obtain ⟨key, val, born⟩ := x
  exact rd_mk (yv := (.nil, [])) h rfl
 exact ⟨e, rg_of e⟩
theorem own_any {P : Program} {k : TypeId} {w : World} {b clk : Nat} {es : Array MapEntry} (hb : w.heap[b]? = some (.map es clk)) (hs : Borns es.toList clk) (hnd : (es.toList.map (·.key)).Nodup) (hz : es.size ≤ 1000000) (f : MapEntry → Lit) (hk : ∀ x ∈ es.toList, keyOf P k x.key = some (f x)) :
  ∃ D : DataW Unit, w.ownsMap P k anyR b es.size D ∧ Maps.size D = es.size ∧ ∃ l : List (Lit × DataW Unit), D = .map l ∧ l.Perm (es.toList.map fun x => (f x, .nil)) := by
 have hm : es.toList.map (rg P k anyR) = es.toList.map fun x => (f x, (.nil : DataW Unit)) := List.map_congr_left fun x hx => (rg_any (hk x hx)).2
 refine ⟨_, ⟨es, clk, hb, ⟨?_, ?_, fun x hx => ⟨_, (rg_any (hk x hx)).1⟩⟩, Nat.le_refl _, rfl⟩, ?_, _, rfl, ?_⟩
 ·exact Nat.le_trans hz (by decide)
 ·exact ⟨hs.1, List.pairwise_map.2 hs.2, hnd⟩
 ·show List.length _ = _
  rw [length_sorted]; simp
 ·rw [hm]; exact Go.WideShapes.sorted_perm _
theorem nodup_keys_i {ks s : List Int} (hp : s.Perm ks) (hs : s.Pairwise (· < ·)) : (ks.map (Value.int .i64)).Nodup := by
 have h1 : s.Nodup := hs.imp fun {a b} h => by omega
 exact List.pairwise_map.2 ((hp.nodup_iff.1 h1).imp fun {a b} h e => h (by simpa using e))
theorem nodup_keys_s {ks s : List (List UInt8)} (hp : s.Perm ks) (hs : s.Pairwise (· < ·)) : (ks.map fun l => Value.string ⟨l.toArray⟩).Nodup := by
 have h1 : s.Nodup := hs.imp fun {a b} h e => by rw [e] at h; exact List.lt_irrefl b h
 exact List.pairwise_map.2 ((hp.nodup_iff.1 h1).imp fun {a b} h e => h (by simpa using e))
theorem merged_i {ss s ks : List Int} (h1 : ss.Perm ks) (h2 : s.Perm ks) (h3 : s.Pairwise (· < ·)) : ss.mergeSort (fun x y => decide (x ≤ y)) = s := by
 rw [mergeSort_of_perm_i (h1.trans h2.symm)]
 exact List.mergeSort_of_pairwise (h3.imp fun {a b} h => by simp; omega)
theorem merged_s {ss s ks : List (List UInt8)} (h1 : ss.Perm ks) (h2 : s.Perm ks) (h3 : s.Pairwise (· < ·)) : ss.mergeSort (fun x y => decide (x ≤ y)) = s := by
 rw [mergeSort_of_perm (h1.trans h2.symm)]
 exact List.mergeSort_of_pairwise (h3.imp fun {a b} h => by simpa using List.le_of_lt h)
theorem end_row {w w' : World} {e : TypeId} {v : Value} {n : Nat} {xs us : List Value} (hx : xs = us) (hn : n = us.length) (hrow : w'.ownsRow w.heap.size e 1 v n xs) (hnil : v = .slice none 0 0 ↔ n = 0) (hb : Below w.heap.size w w') :
  w.heap.size ≤ w'.heap.size ∧ (∀ i, i < w.heap.size → w'.heap[i]? = w.heap[i]?) ∧ w'.os = w.os ∧ w'.tape = w.tape ∧ w'.output = w.output ∧
   ((us = [] ∧ v = .slice none 0 0) ∨ (us ≠ [] ∧ ∃ gb cap cur, v = .slice (some ⟨gb, 0, none⟩) us.length cap ∧ w.heap.size ≤ gb ∧ w'.heap[gb]? = some (.cells cur e (0, 0)) ∧ us.length ≤ cap ∧ cur.size = cap ∧ cur.toList.take us.length = us)) := by
 refine ⟨hb.size, hb.block, hb.os, hb.tape, hb.output, ?_⟩
 subst hx
 rcases hrow.2 with ⟨h1, h2⟩ | ⟨g, cap, cur, h1, h2, h3, h4, h5, h6, h7⟩
 ·left
  exact ⟨List.eq_nil_of_length_eq_zero (by rw [← hn]; exact h2), h1⟩
 ·right
  refine ⟨fun h0 => ?_, g, cap, cur, by rw [h1, hn], h2, h3, by rw [← hn]; exact h4, by simpa using h6, by rw [hn, Nat.mul_one] at h7; exact h7⟩
  have : v = .slice none 0 0 := hnil.2 (by rw [hn, h0]; rfl)
  rw [h1] at this; cases this
theorem kl_int {P : Program} {ρk ρs : Go.Shelf.Ren} (Lk : SlLaysZI.n10 P ρk) (Ls : SlLaysZI.n6 P ρs) (hs : ∀ m, AnyZI.SortsIn P ρs Fence.wide m) (e9 : ∀ args w, (callFunc (ρs.f 9) args).run P w = .ok (.enter (ρs.f 9) args) w)
  (eg : ∀ args w, (callFunc (ρk.f 10) args).run P w = .ok (.enter (ρk.f 10) args) w) (hk : P.underlying (ρk.t 26) = some (.int .i64)) : KeysLaw P (ρs.f 6) (ρk.f 10) (ρs.t 26) true := by
 refine ⟨fun w bm b clk es us hbm hcell hmap hbo hsz hsk => ?_, fun w bm hbm hcell => ?_⟩
 ·obtain ⟨ks, s, g1, rfl, g3, g4, g5⟩ := hsk
  have hkey : ∀ x ∈ es.toList, ∃ n, x.key = .int .i64 n ∧ -9223372036854775808 ≤ n ∧ n < 9223372036854775808 := fun x hx => by
   have : x.key ∈ ks.map (Value.int .i64) := by rw [← g1]; exact List.mem_map.2 ⟨x, hx, rfl⟩
   obtain ⟨n, hn, e⟩ := List.mem_map.1 this
   exact ⟨n, e.symm, g5 n hn⟩
  let f : MapEntry → Lit := fun x => match x.key with | .int _ n => .int .i64 n | _ => .bool false
  obtain ⟨D, hown, hD1, l, rfl, hD2⟩ := own_any (P := P) (k := ρk.t 26) hmap hbo (by rw [g1]; exact nodup_keys_i g3 g4) hsz f (fun x hx => by
   obtain ⟨n, e, h1, h2⟩ := hkey x hx
   show keyOf P (ρk.t 26) x.key = some (match x.key with | .int _ n => .int .i64 n | _ => .bool false)
   rw [e]
   exact keyOf_int_mk hk (by simp [Lit.wf, IntKind.min, IntKind.max, IntKind.bits, IntKind.signed]; omega))
  have hkp : (intKeys (DataW.map l)).Perm ks := by
   show (l.map fun p => intOf p.1).Perm ks
   refine (hD2.map _).trans ?_
   rw [List.map_map]
   have : es.toList.map ((fun p : Lit × DataW Unit => intOf p.1) ∘ fun x => (f x, .nil)) = ks := by
    have h2 : (es.toList.map (·.key)).map (fun v => match v with | .int _ n => n | _ => 0) = ks := by
     rw [g1, List.map_map]
     conv => rhs; rw [← List.map_id ks]
     rfl
    rw [← h2, List.map_map]
    apply List.map_congr_left
    intro x hx
    obtain ⟨n, e, _⟩ := hkey x hx
    simp [f, e, intOf]
   rw [this]
  have hseq := AnyZI.keys_gives (ρ := ρk) Lk Fence.wide 2 trivial rfl (by omega) bm b es.size _ w hbm hcell hown
  have h := AnyZI.sorted_in Ls Fence.wide 5 trivial trivial trivial trivial rfl (by omega) (hs _) e9 (ρk.f 10) #[.pointer (some ⟨bm, 0, none⟩)] trivial eg _ _ (by rw [hD1]; exact Nat.le_trans hsz (by decide)) (by rw [hD1]; omega) w hseq
  refine (callsIn_wide.1 h).mono ?_
  rintro r w' ⟨v, ss, rfl, hp, hrow, hnil, hb⟩
  have hm := merged_i (hp.trans hkp) g3 g4
  have hl : ss.length = (s.map (Value.int .i64)).length := by rw [List.length_map]; exact ((hp.trans hkp).trans g3.symm).length_eq
  exact ⟨v, rfl, end_row (by rw [hm]) hl hrow (hnil.trans ⟨fun h => by rw [h]; rfl, fun h => List.eq_nil_of_length_eq_zero h⟩) hb⟩
 ·have hseq := AnyZI.keys_gives_nil (ρ := ρk) Lk Fence.wide 2 trivial rfl bm w hbm hcell
  have h := AnyZI.sorted_in Ls Fence.wide 5 trivial trivial trivial trivial rfl (by omega) (hs _) e9 (ρk.f 10) #[.pointer (some ⟨bm, 0, none⟩)] trivial eg _ _ (by decide) (by decide) w hseq
  refine (callsIn_wide.1 h).mono ?_
  rintro r w' ⟨v, ss, rfl, rfl, hrow, hnil, hb⟩
  exact ⟨by rw [hnil.2 rfl], hb.size, hb.block, hb.os, hb.tape, hb.output⟩
theorem kl_str {P : Program} {ρk ρs : Go.Shelf.Ren} (Lk : SlLaysZ.n10 P ρk) (Ls : SlLaysZ.n6 P ρs) (hs : ∀ m, AnyZ.SortsIn P ρs Fence.wide m) (e9 : ∀ args w, (callFunc (ρs.f 9) args).run P w = .ok (.enter (ρs.f 9) args) w)
  (eg : ∀ args w, (callFunc (ρk.f 10) args).run P w = .ok (.enter (ρk.f 10) args) w) (hk : P.underlying (ρk.t 26) = some .string) : KeysLaw P (ρs.f 6) (ρk.f 10) (ρs.t 26) false := by
 refine ⟨fun w bm b clk es us hbm hcell hmap hbo hsz hsk => ?_, fun w bm hbm hcell => ?_⟩
 ·obtain ⟨ks, s, g1, rfl, g3, g4, g5⟩ := hsk
  have hkey : ∀ x ∈ es.toList, ∃ n : List UInt8, x.key = .string ⟨n.toArray⟩ ∧ n.length ≤ 1000000 := fun x hx => by
   have : x.key ∈ ks.map (fun l => Value.string ⟨l.toArray⟩) := by rw [← g1]; exact List.mem_map.2 ⟨x, hx, rfl⟩
   obtain ⟨n, hn, e⟩ := List.mem_map.1 this
   exact ⟨n, e.symm, g5 n hn⟩
  let f : MapEntry → Lit := fun x => match x.key with | .string s => .string s.data.toList | _ => .bool false
  obtain ⟨D, hown, hD1, l, rfl, hD2⟩ := own_any (P := P) (k := ρk.t 26) hmap hbo (by rw [g1]; exact nodup_keys_s g3 g4) hsz f (fun x hx => by
   obtain ⟨n, e, h1⟩ := hkey x hx
   show keyOf P (ρk.t 26) x.key = some (match x.key with | .string s => .string s.data.toList | _ => .bool false)
   rw [e]
   have hle : n.length ≤ maxLen := Nat.le_trans h1 (by decide)
   simp [keyOf, hk, mapKey, ByteArray.size, hle])
  have hkp : (strKeys (DataW.map l)).Perm ks := by
   show (l.map fun p => strOf p.1).Perm ks
   refine (hD2.map _).trans ?_
   rw [List.map_map]
   have : es.toList.map ((fun p : Lit × DataW Unit => strOf p.1) ∘ fun x => (f x, .nil)) = ks := by
    have h2 : (es.toList.map (·.key)).map (fun v => match v with | .string s => s.data.toList | _ => []) = ks := by
     rw [g1, List.map_map]
     conv => rhs; rw [← List.map_id ks]
     apply List.map_congr_left
     intro x _
     simp
    rw [← h2, List.map_map]
    apply List.map_congr_left
    intro x hx
    obtain ⟨n, e, _⟩ := hkey x hx
    simp [f, e, strOf]
   rw [this]
  have hseq := AnyZ.keys_gives (ρ := ρk) Lk Fence.wide 2 trivial rfl (by omega) bm b es.size _ w hbm hcell hown
  have h := AnyZ.sorted_in Ls Fence.wide 5 trivial trivial trivial trivial rfl (by omega) (hs _) e9 (ρk.f 10) #[.pointer (some ⟨bm, 0, none⟩)] trivial eg _ _ (by rw [hD1]; exact Nat.le_trans hsz (by decide)) (by rw [hD1]; omega) w hseq
  refine (callsIn_wide.1 h).mono ?_
  rintro r w' ⟨v, ss, rfl, hp, hrow, hnil, hb⟩
  have hm := merged_s (hp.trans hkp) g3 g4
  have hl : ss.length = (s.map fun l => Value.string ⟨l.toArray⟩).length := by rw [List.length_map]; exact ((hp.trans hkp).trans g3.symm).length_eq
  exact ⟨v, rfl, end_row (by rw [hm]) hl hrow (hnil.trans ⟨fun h => by rw [h]; rfl, fun h => List.eq_nil_of_length_eq_zero h⟩) hb⟩
 ·have hseq := AnyZ.keys_gives_nil (ρ := ρk) Lk Fence.wide 2 trivial rfl bm w hbm hcell
  have h := AnyZ.sorted_in Ls Fence.wide 5 trivial trivial trivial trivial rfl (by omega) (hs _) e9 (ρk.f 10) #[.pointer (some ⟨bm, 0, none⟩)] trivial eg _ _ (by decide) (by decide) w hseq
  refine (callsIn_wide.1 h).mono ?_
  rintro r w' ⟨v, ss, rfl, rfl, hrow, hnil, hb⟩
  exact ⟨by rw [hnil.2 rfl], hb.size, hb.block, hb.os, hb.tape, hb.output⟩
end Go.Ev
namespace Go.Ev
open Go.Proofs Go.Sort
def KitSort (P : Program) (f k : Nat) : Prop :=
 ∀ {α : Type} [Inhabited α] (enc : α → List Value), (∀ x, (enc x).length = k) → (∀ x, ∀ v ∈ enc x, v.oneCell' = true) → ∀ (cf : α → α → Int), SWO (ltOf cf) → ∀ (g : Nat) (cb : Array Value) (blk off cap : Nat) (d : Array α) (w : World),
  (∀ args w, (callFunc g args).run P w = .ok (.enter g args) w) → CmpLays P g cb enc k cf blk off d.size w → HoldsK enc k w blk off d → blk < w.heap.size → d.size < 4611686018427387904 →
  Calls P f #[.slice (some ⟨blk, off, none⟩) d.size cap, .func (.func g) #[] cb] w fun e w' =>
   e = .returned (.tuple #[]) ∧ ∃ d' n os, PermIn 0 d.size d d' ∧ SortedIn (ltOf cf) 0 d.size d' ∧ w' = sortWorldK enc k w blk off n d' os
theorem sortLaw {P : Program} {ρ : Go.Shelf.Ren} (L : SlLaysF0.n6 P ρ) {k : Nat} (aE : ∀ w, (isAgg (ρ.t 24)).run P w = .ok true w) (zE : ∀ w, (Go.sizeOf (ρ.t 24)).run P w = .ok k w)   : KitSort P (ρ.f 6) k :=
 fun enc hk h1 cf hO g cb blk off cap d w eg hcmp hH hblk hsz => AnyQ.slices_SortFunc L k aE zE enc hk h1 cf hO g cb blk off cap d w eg hcmp hH hblk hsz
theorem sorted_one {α : Type} {rk : α → Nat} (inj : ∀ x y, rk x = rk y → x = y) : ∀ {l m : List α}, l.Perm m → l.Pairwise (fun a b => ¬ rk b < rk a) → m.Pairwise (fun a b => rk a < rk b) → l = m
 | [], m, hp, _, _ => (List.nil_perm.1 hp).symm
 | x :: l, [], hp, _, _ => by have := hp.length_eq; simp at this
 | x :: l, y :: m, hp, hl, hm => by
  obtain ⟨l1, l2⟩ := List.pairwise_cons.1 hl
  obtain ⟨m1, m2⟩ := List.pairwise_cons.1 hm
  have hxy : x = y := by
   have h1 : x ∈ y :: m := hp.mem_iff.1 List.mem_cons_self
   have h2 : y ∈ x :: l := hp.mem_iff.2 List.mem_cons_self
   rcases List.mem_cons.1 h1 with h | h
   ·exact h
   ·rcases List.mem_cons.1 h2 with h' | h'
    ·exact h'.symm
    ·exact absurd (m1 x h) (l1 y h')
  subst hxy
  rw [sorted_one inj (List.Perm.cons_inv hp) l2 m2]
theorem swo_rk {α : Type} {cf : α → α → Int} {rk : α → Nat} (h : ∀ x y, cf x y < 0 ↔ rk x < rk y) : SWO (ltOf cf) := by
 have e : ∀ x y, ltOf cf x y = decide (rk x < rk y) := fun x y => by
  unfold ltOf
  simp only [h x y]
 refine ⟨fun x => by rw [e]; simp, fun x y z h1 h2 => ?_, fun x y z h1 h2 => ?_⟩
 ·rw [e] at *
  simp only [decide_eq_true_eq] at *
  omega
 ·rw [e] at *
  simp only [decide_eq_false_iff_not] at *
  omega
end Go.Ev
namespace Go.Ev
open Go.Proofs Go.Sort
theorem flatMap_len {α : Type} {k : Nat} {f : α → List Value} (hf : ∀ x, (f x).length = k) : ∀ l : List α, (l.flatMap f).length = l.length * k
 | [] => by simp
 | x :: xs => by simp [hf, flatMap_len hf xs, Nat.add_mul]; omega
theorem flatMap_at {α : Type} {k : Nat} {f : α → List Value} (hf : ∀ x, (f x).length = k) : ∀ (l : List α) (i : Nat) (x : α), l[i]? = some x → ((l.flatMap f).drop (i * k)).take k = f x
 | [], i, x, h => by simp at h
 | y :: ys, 0, x, h => by
  simp at h; subst h
  simp [← hf y]
 | y :: ys, i + 1, x, h => by
  simp at h
  have ih := flatMap_at hf ys i x h
  have e : (i + 1) * k = (f y).length + i * k := by rw [hf, Nat.add_mul]; omega
  rw [List.flatMap_cons, e, List.drop_length_add_append]
  exact ih
structure Turned (w w' : World) (r : Nat) : Prop where
 size : w.heap.size ≤ w'.heap.size
 same : ∀ i, i < w.heap.size → i ≠ r → w'.heap[i]? = w.heap[i]?
 os : w'.os = w.os
 tape : w'.tape = w.tape
 output : w'.output = w.output
theorem flatK_list {α : Type} [Inhabited α] {enc : α → List Value} {k : Nat} (hk : ∀ x, (enc x).length = k) (d : Array α) : (flatK enc k d).toList = d.toList.flatMap enc := by
 apply List.ext_getElem?
 intro t
 rcases Nat.lt_or_ge t (d.size * k) with h | h
 ·have k0 : 0 < k := by
   rcases Nat.eq_zero_or_pos k with h0 | h0
   ·subst h0; simp at h
   ·exact h0
  have hd : t / k < d.size := (Nat.div_lt_iff_lt_mul k0).2 h
  have hx : d.toList[t / k]? = some d[t / k]! := by
   rw [getElem!_pos d _ hd]; simp [hd]
  have h2 := flatMap_at hk d.toList (t / k) _ hx
  have h3 : t = t / k * k + t % k := by have := Nat.div_add_mod t k; rw [Nat.mul_comm] at this; omega
  have h4 : (d.toList.flatMap enc)[t]? = (enc d[t / k]!)[t % k]? := by
   rw [← h2, List.getElem?_take_of_lt (Nat.mod_lt t k0), List.getElem?_drop, ← h3]
  rw [h4]
  have hm : t % k < (enc d[t / k]!).length := by rw [hk]; exact Nat.mod_lt t k0
  have h5 : (flatK enc k d)[t]? = some (flatK enc k d)[t]! := by
   rw [getElem!_pos _ t (by simpa using h)]; simp [h]
  rw [Array.getElem?_toList, h5, get_flatK _ _ _ _ h, getElem!_pos (enc d[t / k]!) (t % k) hm, List.getElem?_eq_getElem hm]
 ·rw [List.getElem?_eq_none (by simpa using h), List.getElem?_eq_none (by rw [flatMap_len hk]; simpa using h)]
theorem take_put (F c : Array Value) (h : F.size ≤ c.size) : (putCells id 0 F c).toList.take F.size = F.toList := by
 apply List.ext_getElem?
 intro i
 rw [List.getElem?_take]
 split
 ·rename_i hi
  have hc : i < c.size := by omega
  simp [putCells, Array.getElem?_mapIdx, hi, hc]
 ·rename_i hi
  rw [List.getElem?_eq_none (by simpa using hi)]
theorem sortW_at {α : Type} [Inhabited α] (enc : α → List Value) (k : Nat) (w : World) (r m : Nat) (d : Array α) (os : Array Obj) {c : Array Value} {T : TypeId} (hw : w.heap[r]? = some (.cells c T (0, 0))) :
  (sortWorldK enc k w r 0 m d os).heap[r]? = some (.cells (putCells id 0 (flatK enc k d) c) T (0, 0)) ∧ Turned w (sortWorldK enc k w r 0 m d os) r := by
 have hlt : r < w.heap.size := (Array.getElem?_eq_some_iff.1 hw).1
 have hg : ∀ i, i < w.heap.size → (sortWorldK enc k w r 0 m d os).heap[i]? = (w.heap.modify r (onCells (putCells id 0 (flatK enc k d))))[i]? := fun i hi => by
  show (_ ++ os)[i]? = _
  rw [Array.getElem?_append_left (by simpa [putRowK, putRow, mapBlock, Go.Sort.ahead] using hi)]
  rfl
 refine ⟨?_, ⟨?_, fun i hi hne => ?_, rfl, rfl, rfl⟩⟩
 ·rw [hg r hlt, Array.getElem?_modify, if_pos rfl, hw]; rfl
 ·show _ ≤ (_ ++ os).size
  rw [Array.size_append]
  have : (putRowK enc k (Go.Sort.ahead w m) r 0 d).heap.size = w.heap.size := by simp [putRowK, putRow, mapBlock, Go.Sort.ahead]
  omega
 ·rw [hg i hi, Array.getElem?_modify, if_neg (fun e => hne e.symm)]
theorem sort_own {P : Program} {f k : Nat} (h : KitSort P f k) : SortLaw P f k := by
 intro α _ enc rk cf hk h1 inj hcf g l m w r cap c T hfn hlm hm hll hw hcs hfl hcl
 obtain ⟨fn, cd, hf1, hf2, hf3⟩ := hfn
 have hf3' : ¬ fn.name = "runtime.NumGoroutine" := by simpa using hf3
 have eg : ∀ args w, (callFunc g args).run P w = .ok (.enter g args) w := fun args w => by simp [callFunc, hf1, hf2, hf3']
 have hlen : (l.flatMap enc).length = l.length * k := flatMap_len hk l
 have hlt : r < w.heap.size := (Array.getElem?_eq_some_iff.1 hw).1
 have hH : HoldsK enc k w r 0 l.toArray := by
  intro j hj
  rw [size_flatK] at hj
  have hj' : j < l.length * k := by simpa using hj
  have e1 : (flatK enc k l.toArray).toList = c.toList.take (l.length * k) := by
   rw [flatK_list hk, hfl]
  have e2 : c[j]? = some (flatK enc k l.toArray)[j]! := by
   have e3 : (flatK enc k l.toArray)[j]? = some (flatK enc k l.toArray)[j]! := by
    rw [getElem!_pos _ j (by simpa using hj')]; simp [hj']
   rw [← e3, ← Array.getElem?_toList, ← Array.getElem?_toList, e1, List.getElem?_take_of_lt hj']
  refine ⟨?_, ?_⟩
  ·simp [World.cell?, hw, e2]
  ·simp [World.frozen?, hw]
 have hcmp : CmpLays P g #[] enc k cf r 0 l.toArray.size w := fun m2 os dk _ x y => by
  obtain ⟨_, g2⟩ := sortW_at enc k w r m2 dk os hw
  refine (hcl (sortWorldK enc k w r 0 m2 dk os) g2.size x y).mono ?_
  rintro e w' ⟨rfl, G⟩
  generalize sortWorldK enc k w r 0 m2 dk os = W1 at G
  refine ⟨rfl, w'.drawn - W1.drawn, w'.heap.extract W1.heap.size w'.heap.size, ?_⟩
  have hh : w'.heap = W1.heap ++ w'.heap.extract W1.heap.size w'.heap.size := by
   apply Array.ext_getElem?
   intro i
   rw [Array.getElem?_append]
   split
   ·rename_i hi; exact G.same i hi
   ·rename_i hi
    rw [Array.getElem?_extract]
    have hge : W1.heap.size ≤ i := by omega
    split
    ·rw [show W1.heap.size + (i - W1.heap.size) = i by omega]
    ·rename_i h2
     rw [Array.getElem?_eq_none]
     have := G.size
     omega
  have hd : W1.drawn + (w'.drawn - W1.drawn) = w'.drawn := by have := G.dr; omega
  obtain ⟨a1, a2, a3, a4, a5⟩ := w'
  obtain ⟨b1, b2, b3, b4, b5⟩ := W1
  have e1 := G.os; have e2 := G.tape; have e3 := G.output
  simp only at e1 e2 e3 hh hd
  subst e1; subst e2; subst e3
  simp only [grow, World.drewN]
  rw [← hh, hd]
 have h2 := h enc hk h1 cf (swo_rk hcf) g #[] r 0 cap l.toArray w eg hcmp hH hlt (by simpa using hll)
 have hsz : l.toArray.size = l.length := by simp
 rw [hsz] at h2
 refine h2.mono ?_
 rintro e w' ⟨rfl, d', m2, os, hp, hs, rfl⟩
 obtain ⟨g1, g2⟩ := sortW_at enc k w r m2 d' os hw
 have hds : d'.size = l.length := by simpa using hp.1
 have hperm : d'.toList.Perm l := by
  have := hp.2.2
  rw [Array.extract_eq_self_of_le (by simp [hds]), Array.extract_eq_self_of_le (by simp)] at this
  simpa using this
 have hpw : d'.toList.Pairwise (fun a b => ¬ rk b < rk a) := by
  rw [List.pairwise_iff_getElem]
  intro i j hi hj hij
  have hi' : i < d'.size := by simpa using hi
  have hj' : j < d'.size := by simpa using hj
  have := hs i j (Nat.zero_le _) hij (by simpa [hds] using hj')
  rw [getElem!_pos d' i hi', getElem!_pos d' j hj'] at this
  unfold ltOf at this
  simp only [decide_eq_false_iff_not, hcf] at this
  simpa using this
 have hone : d'.toList = m := sorted_one inj (hperm.trans hlm) hpw hm
 have hf : (flatK enc k d').size = l.length * k := by rw [size_flatK, hds]
 have hput := take_put (flatK enc k d') c (by rw [hf]; exact hcs)
 rw [hf] at hput
 refine ⟨rfl, _, g1, by simp [putCells], ?_, g2.size, g2.same, g2.os, g2.tape, g2.output, ?_⟩
 ·rw [hput, flatK_list hk, hone]
 ·show w.drawn ≤ w.drawn + m2
  omega
end Go.Ev
namespace Go.Ev
open Go.Proofs Go.Sort Go.Shelf
theorem sf84 : SortLaw Tryz.prog 106 20 := sort_own (sortLaw Tryz.sort84 (fun w => run_isAgg Tryz.underlying109 w) (fun w => run_sizeOf (E0_ok.ty 109 _ _ rfl).1 w))
theorem sf399 : SortLaw Tryz.prog 459 4 := sort_own (sortLaw Tryz.sort399 (fun w => run_isAgg Tryz.underlying65 w) (fun w => run_sizeOf (E0_ok.ty 65 _ _ rfl).1 w))
theorem sf401 : SortLaw Tryz.prog 461 2 := sort_own (sortLaw Tryz.sort401 (fun w => run_isAgg Tryz.underlying144 w) (fun w => run_sizeOf (E0_ok.ty 144 _ _ rfl).1 w))
theorem sf472 : SortLaw Tryz.prog 543 18 := sort_own (sortLaw Tryz.sort472 (fun w => run_isAgg Tryz.underlying105 w) (fun w => run_sizeOf (E0_ok.ty 105 _ _ rfl).1 w))
theorem sf148 : SortLaw Tryz.prog 175 2 := sort_own (sortLaw Tryz.sort148 (fun w => run_isAgg Tryz.underlying216 w) (fun w => run_sizeOf (E0_ok.ty 216 _ _ rfl).1 w))
theorem sorts129 (m : Nat) : AnyZI.SortsIn Tryz.prog Tryz.sorted129_ren Fence.wide m :=
 ⟨fun blk off cap ss W hH hblk hsz => callsIn_wide.2 (AnyM.slices_Sort_int Tryz.sort172 blk off cap ss W hH hblk hsz), fun p cap W => callsIn_wide.2 (AnyM.slices_Sort_int_none Tryz.sort172 p cap W)⟩
theorem sorts132 (m : Nat) : AnyZ.SortsIn Tryz.prog Tryz.sorted132_ren Fence.wide m :=
 ⟨fun blk off cap ss W hH hblk hsz => callsIn_wide.2 (AnyM.slices_Sort_string Tryz.sort243 blk off cap ss W hH hblk hsz), fun p cap W => callsIn_wide.2 (AnyM.slices_Sort_string_none Tryz.sort243 p cap W)⟩
theorem kf240 : KeysLaw Tryz.prog 170 303 3 true :=
 kl_int (ρk := Tryz.keys130_ren) (ρs := Tryz.sorted129_ren) { Tryz.keys130 with } Tryz.sorted129 sorts129 (enters_of Tryz.func210 (by kernel_rfl) rfl) (enters_of Tryz.func303 (by kernel_rfl) rfl) Tryz.underlying3
theorem kf366 : KeysLaw Tryz.prog 170 427 3 true :=
 kl_int (ρk := Tryz.keys273_ren) (ρs := Tryz.sorted129_ren) { Tryz.keys273 with } Tryz.sorted129 sorts129 (enters_of Tryz.func210 (by kernel_rfl) rfl) (enters_of Tryz.func427 (by kernel_rfl) rfl) Tryz.underlying3
theorem kf244 : KeysLaw Tryz.prog 173 307 9 false :=
 kl_str (ρk := Tryz.keys133_ren) (ρs := Tryz.sorted132_ren) { Tryz.keys133 with } Tryz.sorted132 sorts132 (enters_of Tryz.func306 (by kernel_rfl) rfl) (enters_of Tryz.func307 (by kernel_rfl) rfl) Tryz.underlying9
theorem kf475 : KeysLaw Tryz.prog 173 546 9 false :=
 kl_str (ρk := Tryz.keys391_ren) (ρs := Tryz.sorted132_ren) { Tryz.keys391 with } Tryz.sorted132 sorts132 (enters_of Tryz.func306 (by kernel_rfl) rfl) (enters_of Tryz.func546 (by kernel_rfl) rfl) Tryz.underlying9
end Go.Ev
namespace Go.Ev
open Go.Proofs
noncomputable def ehCC (h : H) : List V → Option (V × H)
 | [.p (some (b, o))] =>
  match h.get b with
  | .cells [x, y] e g =>
   cond (Nat.beq o 0 && Nat.beq e 162 && !g)
    (match x with
     | .p none => some (.t [], h.set b (.cells [.p (some (b, 0)), y] 162 false))
     | .p (some (b', o')) => cond (Nat.beq b' b && Nat.beq o' 0) (some (.t [], h)) none
     | _ => none) none
  | _ => none
 | _ => none
noncomputable def ehStr (h : H) : List V → Option (V × H)
 | [.p (some (b, o))] =>
  match h.get b with
  | .cells [_, .sl none n _] e g => cond (Nat.beq o 0 && Nat.beq e 162 && !g && Nat.beq n 0) (some (.s [], h)) none
  | .cells [_, .sl (some (b2, o2)) n _] e g =>
   match h.get b2 with
   | .cells l e2 _ =>
    cond (Nat.beq o 0 && Nat.beq e 162 && !g && Nat.beq o2 0 && Nat.beq e2 5 && Nat.ble n l.length && Nat.blt 0 n && Nat.ble n 1000000)
     (match nats8 (l.take n) with
      | some ns => some (.s ns, h.set b2 .gone)
      | none => none) none
   | _ => none
  | _ => none
 | _ => none
noncomputable def eh2 (f : FuncId) (args : List V) (h : H) : Option (V × H) :=
 cond (Nat.beq f 127) (ehCC h args) (cond (Nat.beq f 58) (ehStr h args) none)
theorem ehCC_ok {φ : Ren} {h : H} {w : World} (hr : HR φ h w) {args : List V} {v : V} {h' : H} (e : ehCC h args = some (v, h')) {args' : List Value} (ha : VRs φ args args') (n : Nat) :
  CallsIn (W none) n Tryz.prog 127 args'.toArray w fun e w' => ∃ φ' u, e = .returned u ∧ Ext φ w φ' w' ∧ VR φ' v u ∧ HR φ' h' w' := by
 unfold ehCC at e
 split at e
 ·rename_i b o
  split at e
  ·rename_i x y te g hl
   cases hq : Nat.beq o 0 && Nat.beq te 162 && !g with
   | false => rw [hq] at e; cases e
   | true =>
    rw [hq] at e
    simp only [cond] at e
    simp only [Bool.and_eq_true, Bool.not_eq_true'] at hq
    obtain ⟨⟨q1, q2⟩, q3⟩ := hq
    have q1 := Nat.eq_of_beq_eq_true q1
    have q2 := Nat.eq_of_beq_eq_true q2
    subst q1; subst q2; subst q3
    simp only [VRs, VR] at ha
    obtain ⟨_, _, rfl, ⟨r, hb, rfl⟩, rfl⟩ := ha
    obtain ⟨ob, o1, o2⟩ := hr.blk b r hb (by rw [hl]; trivial)
    rw [hl] at o2
    obtain ⟨c, rfl, v1, l1, z1, _⟩ := o2
    replace z1 := z1 rfl
    rw [List.take_of_length_le (by rw [Array.length_toList, z1]; exact Nat.le_refl _)] at v1
    clear z1 l1
    simp only [VRs] at v1
    obtain ⟨ux, _, ec, hux, uy, _, rfl, huy, rfl⟩ := v1
    have hc : c = #[ux, uy] := Array.toList_inj.1 ec
    subst hc
    have hcell : w.cell? ⟨r, 0, none⟩ = some ux := by simp [World.cell?, o1]
    cases x with
    | p a =>
     cases a with
     | none =>
      cases e
      simp only [VR] at hux
      subst hux
      refine CallsIn.mono (callsIn_wide.2 (Tryz.copy_fresh r w hcell (by simp [World.shape?, o1]) (by simp [World.frozen?, o1])) : CallsIn (W none) n _ _ _ _ _) ?_
      rintro e w' ⟨rfl, rfl⟩
      obtain ⟨g1, g2⟩ := hr.setCell hb hl (o := 0) (x := .p (some (b, 0))) (v := .pointer (some ⟨r, 0, none⟩)) (by simp only [VR]; exact ⟨r, hb, rfl⟩)
      exact ⟨φ, _, rfl, g2, by simp only [VR]; exact ⟨#[], rfl, by simp [VRs]⟩, g1⟩
     | some bo =>
      obtain ⟨b', o'⟩ := bo
      simp only at e
      cases hq2 : Nat.beq b' b && Nat.beq o' 0 with
      | false => rw [hq2] at e; cases e
      | true =>
       rw [hq2] at e
       cases e
       simp only [Bool.and_eq_true] at hq2
       have e1 := Nat.eq_of_beq_eq_true hq2.1
       have e2 := Nat.eq_of_beq_eq_true hq2.2
       subst e1; subst e2
       simp only [VR] at hux
       obtain ⟨r', hr', rfl⟩ := hux
       rw [hb] at hr'; cases hr'
       refine CallsIn.mono (callsIn_wide.2 (Tryz.copy_used r w hcell) : CallsIn (W none) n _ _ _ _ _) ?_
       rintro e w' ⟨rfl, rfl⟩
       exact ⟨φ, _, rfl, Ext.refl φ _, by simp only [VR]; exact ⟨#[], rfl, by simp [VRs]⟩, hr⟩
    | _ => cases e
  ·cases e
 ·cases e
theorem ehStr_ok {φ : Ren} {h : H} {w : World} (hr : HR φ h w) {args : List V} {v : V} {h' : H} (e : ehStr h args = some (v, h')) {args' : List Value} (ha : VRs φ args args') (n : Nat) :
  CallsIn (W none) n Tryz.prog 58 args'.toArray w fun e w' => ∃ φ' u, e = .returned u ∧ Ext φ w φ' w' ∧ VR φ' v u ∧ HR φ' h' w' := by
 unfold ehStr at e
 split at e
 ·rename_i b o
  split at e
  ·rename_i x n c te g hl
   cases hq : Nat.beq o 0 && Nat.beq te 162 && !g && Nat.beq n 0 with
   | false => rw [hq] at e; cases e
   | true =>
    rw [hq] at e
    cases e
    simp only [Bool.and_eq_true, Bool.not_eq_true'] at hq
    obtain ⟨⟨⟨q1, q2⟩, q3⟩, q4⟩ := hq
    have q1 := Nat.eq_of_beq_eq_true q1
    have q2 := Nat.eq_of_beq_eq_true q2
    have q4 := Nat.eq_of_beq_eq_true q4
    subst q1; subst q2; subst q3; subst q4
    simp only [VRs, VR] at ha
    obtain ⟨_, _, rfl, ⟨r, hb, rfl⟩, rfl⟩ := ha
    obtain ⟨ob, o1, o2⟩ := hr.blk b r hb (by rw [hl]; trivial)
    rw [hl] at o2
    obtain ⟨c1, rfl, v1, l1, z1, _⟩ := o2
    have z1 := z1 rfl
    rw [List.take_of_length_le (by rw [Array.length_toList, z1]; exact Nat.le_refl _)] at v1
    simp only [VRs] at v1
    obtain ⟨ux, _, ec, _, uy, _, rfl, huy, rfl⟩ := v1
    have hc : c1 = #[ux, uy] := Array.toList_inj.1 ec
    subst hc
    simp only [VR] at huy
    obtain ⟨_, rfl⟩ := huy
    refine CallsIn.mono (callsIn_wide.2 (Tryz.bstr_nil w o1) : CallsIn (W none) n _ _ _ _ _) ?_
    rintro e w' ⟨rfl, rfl⟩
    exact ⟨φ, _, rfl, ⟨Le.refl φ, Nat.le_refl _, fun _ _ e => .inl e, fun _ => Nat.le_succ _, Nat.le_refl _, rfl, rfl, rfl, fun _ _ _ => rfl⟩, by simp only [VR]; exact ⟨rfl, by simp⟩, hr.drew _⟩
  ·rename_i x b2 o2 m c te g hl
   split at e
   ·rename_i l e2 g2 hl2
    cases hq : Nat.beq o 0 && Nat.beq te 162 && !g && Nat.beq o2 0 && Nat.beq e2 5 && Nat.ble m l.length && Nat.blt 0 m && Nat.ble m 1000000 with
    | false => rw [hq] at e; cases e
    | true =>
     rw [hq] at e
     simp only [cond] at e
     simp only [Bool.and_eq_true, Bool.not_eq_true'] at hq
     obtain ⟨⟨⟨⟨⟨⟨⟨q1, q2⟩, q3⟩, q4⟩, q5⟩, q6⟩, q7⟩, q8⟩ := hq
     have q1 := Nat.eq_of_beq_eq_true q1
     have q2 := Nat.eq_of_beq_eq_true q2
     have q4 := Nat.eq_of_beq_eq_true q4
     have q5 := Nat.eq_of_beq_eq_true q5
     have q6 := Nat.le_of_ble_eq_true q6
     have q8 := Nat.le_of_ble_eq_true q8
     have q7 : 1 ≤ m := by simpa [Nat.blt] using q7
     subst q1; subst q2; subst q3; subst q4; subst q5
     split at e
     ·rename_i ns hns
      cases e
      simp only [VRs, VR] at ha
      obtain ⟨_, _, rfl, ⟨r, hb, rfl⟩, rfl⟩ := ha
      obtain ⟨ob, o1, o2⟩ := hr.blk b r hb (by rw [hl]; trivial)
      rw [hl] at o2
      obtain ⟨c1, rfl, v1, l1, z1, _⟩ := o2
      have z1 := z1 rfl
      rw [List.take_of_length_le (by rw [Array.length_toList, z1]; exact Nat.le_refl _)] at v1
      simp only [VRs] at v1
      obtain ⟨ux, _, ec, _, uy, _, rfl, huy, rfl⟩ := v1
      have hc : c1 = #[ux, uy] := Array.toList_inj.1 ec
      subst hc
      obtain ⟨r2, cap, hb2, hcap, rfl⟩ : ∃ r2 cap, φ b2 = some r2 ∧ m ≤ cap ∧ uy = .slice (some ⟨r2, 0, none⟩) m cap := by
       cases c with
       | kn c => simp only [VR] at huy; obtain ⟨r2, h4, h5, rfl⟩ := huy; exact ⟨r2, _, h4, h5, rfl⟩
       | un sz => simp only [VR] at huy; obtain ⟨r2, cap, h4, h5, _, rfl⟩ := huy; exact ⟨r2, _, h4, h5, rfl⟩
      obtain ⟨ob2, p1, p2⟩ := hr.blk b2 r2 hb2 (by rw [hl2]; trivial)
      rw [hl2] at p2
      obtain ⟨cur, rfl, v2, l2, _, _⟩ := p2
      have v3 := v2.take m
      rw [List.take_take, Nat.min_eq_left q6] at v3
      obtain ⟨j1, j2⟩ := nats8_ok hns v3
      have hlen : (ns.map UInt8.ofNat).length = m := by
       have := congrArg List.length j1
       simp at this
       rw [List.length_map]; omega
      have hby : Lib.byteCells (ns.map UInt8.ofNat) = ns.map (fun m : Nat => Value.int .u8 m) := by
       unfold Lib.byteCells
       rw [List.map_map]
       apply List.map_congr_left
       intro x hx
       have := j2 x hx
       simp [UInt8.toNat_ofNat', Nat.mod_eq_of_lt this]
      have hcall := Tryz.bstr (b := r) (g := r2) (cap := cap) (p := ux) (cur := cur) (l := ns.map UInt8.ofNat) w (by rw [hlen]; exact o1) p1 (by rw [hlen, hby, j1]) (by intro h0; rw [h0] at hlen; simp at hlen; omega) (by rw [hlen]; omega) (by rw [hlen]; exact hcap) (by rw [hlen]; exact q8)
      refine CallsIn.mono (callsIn_wide.2 hcall : CallsIn (W none) n _ _ _ _ _) ?_
      rintro e w' ⟨rfl, rfl⟩
      have hne : (ns.map UInt8.ofNat).length ≠ 0 := by rw [hlen]; omega
      have hlt2 : r2 < w.heap.size := (hr.dom b2 r2 hb2).2
      obtain ⟨ob3, hob3⟩ : ∃ ob3, (w.drew.freeze ⟨r2, 0, none⟩ (ns.map UInt8.ofNat).length).heap[r2]? = some ob3 := by
       refine ⟨_, Array.getElem?_eq_getElem ?_⟩
       unfold World.freeze
       split
       ·exact hlt2
       ·simpa using hlt2
      obtain ⟨g1, g2'⟩ := hr.turn (b := b2) (r := r2) (w' := w.drew.freeze ⟨r2, 0, none⟩ (ns.map UInt8.ofNat).length) .gone ob3 hb2 (by rw [hl2]; trivial) trivial
       (by
         unfold World.freeze; split
         ·rfl
         ·show (w.heap.modify _ _).size = _
          rw [Array.size_modify]) hob3
       (fun s hs => by
        unfold World.freeze; split
        ·rfl
        ·simp only [Array.getElem?_modify]
         rw [if_neg (fun e => hs e.symm)]; rfl)
       (by unfold World.freeze; split <;> rfl) (by unfold World.freeze; split <;> rfl) (by unfold World.freeze; split <;> rfl) (by unfold World.freeze; split <;> exact Nat.le_succ _)
      exact ⟨φ, _, rfl, g2', by simp only [VR]; exact ⟨rfl, j2⟩, g1⟩
     ·cases e
   ·cases e
  ·cases e
 ·cases e
theorem eh2_ok {f : FuncId} {args : List V} {h : H} {v : V} {h' : H} (e : eh2 f args h = some (v, h')) {φ : Ren} {w : World} {args' : List Value} (ha : VRs φ args args') (hr : HR φ h w) :
  (∃ fn c, Tryz.prog.funcs[f]? = some fn ∧ fn.body = some c ∧ (fn.name == "runtime.NumGoroutine") = false) ∧
  ∀ n, CallsIn (W none) n Tryz.prog f args'.toArray w fun e w' => ∃ φ' u, e = .returned u ∧ Ext φ w φ' w' ∧ VR φ' v u ∧ HR φ' h' w' := by
 unfold eh2 at e
 cases h1 : Nat.beq f 127 with
 | true =>
  rw [h1] at e
  have := Nat.eq_of_beq_eq_true h1
  subst this
  exact ⟨⟨_, _, Tryz.func127, rfl, rfl⟩, fun n => ehCC_ok hr e ha n⟩
 | false =>
  rw [h1] at e
  cases h2 : Nat.beq f 58 with
  | true =>
   rw [h2] at e
   have := Nat.eq_of_beq_eq_true h2
   subst this
   exact ⟨⟨_, _, Tryz.func58, rfl, rfl⟩, fun n => ehStr_ok hr e ha n⟩
  | false => rw [h2] at e; cases e
end Go.Ev
namespace Go.Ev
open Go.Proofs
theorem idle81 : Idle Tryz.prog 103 4 := by
 refine ⟨⟨_, _, Tryz.func103, rfl, rfl⟩, fun args ha n w => ?_⟩
 obtain ⟨l⟩ := args
 obtain ⟨p, q, r, s, rfl⟩ : ∃ p q r s, l = [p, q, r, s] := by
  match l, ha with
  | [p, q, r, s], _ => exact ⟨p, q, r, s, rfl⟩
 refine callsDIn_of_wpSIn Tryz.func103 rfl trivial fun c₀ cs hu => ?_
 apply wpSIn_seq
 apply wpSIn_region
 simp [wpOpsSIn, go_sem, recoverD, hu, Tryz.ntmps103, Exit.thenS]
 refine wpSIn_cond (t := false) (by simp [Act.eval, Array.replicate]) ?_
 simp only [Bool.false_eq_true, if_false]
 refine wpSIn_of_wpIn rfl (wpIn_skip ?_)
 cases c₀
 simp_all [bodyPostS, results, Tryz.results103]
theorem idle282 : Idle Tryz.prog 329 2 := by
 refine ⟨⟨_, _, Tryz.func329, rfl, rfl⟩, fun args ha n w => ?_⟩
 obtain ⟨l⟩ := args
 obtain ⟨p, q, rfl⟩ : ∃ p q, l = [p, q] := by
  match l, ha with
  | [p, q], _ => exact ⟨p, q, rfl⟩
 refine callsDIn_of_wpSIn Tryz.func329 rfl trivial fun c₀ cs hu => ?_
 apply wpSIn_seq
 apply wpSIn_region
 simp [wpOpsSIn, go_sem, recoverD, hu, Tryz.ntmps329, Exit.thenS]
 apply wpSIn_seq
 apply wpSIn_seq
 apply wpSIn_region
 simp [wpOpsSIn, go_sem, Tryz.ntmps329, Exit.thenS]
 refine wpSIn_cond (t := true) (by simp [Act.eval, Array.replicate]) ?_
 simp only [if_true]
 refine wpSIn_of_wpIn rfl (wpIn_ret ?_)
 cases c₀
 simp_all [bodyPostS, results, Tryz.results329, Exit.thenS]
theorem idle385 : Idle Tryz.prog 445 4 := by
 refine ⟨⟨_, _, Tryz.func445, rfl, rfl⟩, fun args ha n w => ?_⟩
 obtain ⟨l⟩ := args
 obtain ⟨p, q, r, s, rfl⟩ : ∃ p q r s, l = [p, q, r, s] := by
  match l, ha with
  | [p, q, r, s], _ => exact ⟨p, q, r, s, rfl⟩
 refine callsDIn_of_wpSIn Tryz.func445 rfl trivial fun c₀ cs hu => ?_
 apply wpSIn_seq
 apply wpSIn_region
 simp [wpOpsSIn, go_sem, recoverD, hu, Tryz.ntmps445, Exit.thenS]
 apply wpSIn_seq
 apply wpSIn_region
 simp [wpOpsSIn, go_sem, Tryz.ntmps445, Exit.thenS]
 refine wpSIn_cond (t := false) (by simp [Act.eval, Array.replicate]) ?_
 simp only [Bool.false_eq_true, if_false]
 refine wpSIn_of_wpIn rfl (wpIn_skip ?_)
 cases c₀
 simp_all [bodyPostS, results, Tryz.results445]
theorem idle621 : Idle Tryz.prog 701 3 := by
 refine ⟨⟨_, _, Tryz.func701, rfl, rfl⟩, fun args ha n w => ?_⟩
 obtain ⟨l⟩ := args
 obtain ⟨p, q, r, rfl⟩ : ∃ p q r, l = [p, q, r] := by
  match l, ha with
  | [p, q, r], _ => exact ⟨p, q, r, rfl⟩
 refine callsDIn_of_wpSIn Tryz.func701 rfl trivial fun c₀ cs hu => ?_
 apply wpSIn_seq
 apply wpSIn_region
 simp [wpOpsSIn, go_sem, recoverD, hu, Tryz.ntmps701, Exit.thenS]
 apply wpSIn_seq
 apply wpSIn_region
 simp [wpOpsSIn, go_sem, Tryz.ntmps701, Exit.thenS]
 refine wpSIn_cond (t := false) (by simp [Act.eval, Array.replicate]) ?_
 simp only [Bool.false_eq_true, if_false]
 refine wpSIn_of_wpIn rfl (wpIn_skip ?_)
 cases c₀
 simp_all [bodyPostS, results, Tryz.results701]
theorem idleParse : Idle Tryz.prog 147 2 := by
 refine ⟨⟨_, _, Tryz.func147, rfl, rfl⟩, fun args ha n w => ?_⟩
 obtain ⟨l⟩ := args
 obtain ⟨p, q, rfl⟩ : ∃ p q, l = [p, q] := by
  match l, ha with
  | [p, q], _ => exact ⟨p, q, rfl⟩
 refine callsDIn_of_wpSIn Tryz.func147 rfl trivial fun c₀ cs hu => ?_
 apply wpSIn_seq
 apply wpSIn_region
 simp [wpOpsSIn, go_sem, recoverD, hu, Tryz.ntmps147, Exit.thenS]
 refine wpSIn_cond (t := false) (by simp [Act.eval, Array.replicate]) ?_
 simp only [Bool.false_eq_true, if_false]
 refine wpSIn_of_wpIn rfl (wpIn_skip ?_)
 cases c₀
 simp_all [bodyPostS, results, Tryz.results147]
end Go.Ev
namespace Go.Ev
open Go.Proofs Go.RowKit Go.Extern.Stop Go.Stop Go.Extern
theorem rlm (z : Sem Value) (f : TypeId → Addr → Nat → Nat → Sem Value) (v : Value) :
  ReflectliteValue.method z f #[v] = (do match ← ReflectliteValue.parts v with | none => z | some (t, a, fl) => f t a fl (fl % 32)) := rfl
theorem rls (v x : Value) : ∃ (z1 : Sem Value) (z2 : Sem Unit) (z3 : TypeId → TypeId → Addr → Value → Sem Value), ReflectliteValue.set #[v, x] = (do
  let (some (dst, a, fl), some (src, b, _)) := (← ReflectliteValue.parts v, ← ReflectliteValue.parts x) | z1
  if fl / ReflectliteValue.flagAddr % 2 == 0 then z2
  let y ← loadVar src b
  if ← Rtype.directlyAssignable dst src then do
   storeVar dst a y
   pure (.tuple #[])
  else z3 dst src a y) := ⟨_, _, _, rfl⟩
theorem AsF.valueOf27 (t : Addr) (w : World) : (ReflectliteValue.unpack (.iface 177 (.pointer (some t)))).run Tryz.prog w
  = .ok (.agg #[.pointer (some ⟨11, 177, none⟩), .pointer (some ⟨w.heap.size, 0, none⟩), .int .u64 150]) (w.alloc (.cells #[.pointer (some t)] 177)) := by kernel_rfl
theorem AsF.type27 (a : Addr) (w : World) : (ReflectliteValue.methodAny (ReflectliteValue.valueError "reflectlite.Value.Type" 0) (fun t _ _ _ => ReflectliteType.toType t) #[.agg #[.pointer (some ⟨11, 177, none⟩), .pointer (some a), .int .u64 150]]).run Tryz.prog w
  = .ok (.iface 442 (.agg #[.pointer (some ⟨11, 177, none⟩)])) w := by kernel_rfl
theorem AsF.methodKind (h : Value) (w : World) : (Go.method 1062 442 (.agg #[h]) "Kind").run Tryz.prog w = .ok (784, h) w := by kernel_rfl
theorem AsF.kind27 (w : World) : ((ReflectliteType.abiMethod fun t => Functor.map (fun a : Nat => Value.int IntKind.u8 (a : Int)) (Rtype.kind t)) #[.pointer (some ⟨11, 177, none⟩)]).run Tryz.prog w = .ok (.int .u8 22) w := by kernel_rfl
theorem AsF.kind25 (w : World) : ((ReflectliteType.abiMethod fun t => Functor.map (fun a : Nat => Value.int IntKind.u8 (a : Int)) (Rtype.kind t)) #[.pointer (some ⟨11, 176, none⟩)]).run Tryz.prog w = .ok (.int .u8 22) w := by kernel_rfl
theorem AsF.parts27 (a : Addr) (w : World) : (ReflectliteValue.parts (.agg #[.pointer (some ⟨11, 177, none⟩), .pointer (some a), .int .u64 150])).run Tryz.prog w = .ok (some (177, a, 150)) w := by kernel_rfl
theorem AsF.isNil27 (a p : Addr) (W : World) (ha : W.cell? a = some (.pointer (some p))) :
  (ReflectliteValue.method (ReflectliteValue.valueError "reflectlite.Value.IsNil" 0) ReflectliteValue.isNil #[.agg #[.pointer (some ⟨11, 177, none⟩), .pointer (some a), .int .u64 150]]).run Tryz.prog W = .ok (.bool false) W := by
 rw [rlm]
 simp only [Sem.run_bind, AsF.parts27, Result.andThen]
 simp [ReflectliteValue.isNil, loadVar, isAgg, underlying, Tryz.underlying177, ha, Result.andThen]
theorem AsF.methodElem (h : Value) (w : World) : (Go.method 1062 442 (.agg #[h]) "Elem").run Tryz.prog w = .ok (807, .agg #[h]) w := by kernel_rfl
theorem AsF.methodImplements (h : Value) (w : World) : (Go.method 1062 442 (.agg #[h]) "Implements").run Tryz.prog w = .ok (808, .agg #[h]) w := by kernel_rfl
theorem AsF.methodAssignableTo (h : Value) (w : World) : (Go.method 1062 442 (.agg #[h]) "AssignableTo").run Tryz.prog w = .ok (805, .agg #[h]) w := by kernel_rfl
theorem AsF.elem27 (w : World) : (ReflectliteType.method ReflectliteType.elem #[.agg #[.pointer (some ⟨11, 177, none⟩)]]).run Tryz.prog w = .ok (.iface 442 (.agg #[.pointer (some ⟨11, 176, none⟩)])) w := by kernel_rfl
theorem AsF.implements25 (w : World) : (ReflectliteType.relation "Implements" ReflectliteType.implements_ #[.agg #[.pointer (some ⟨11, 176, none⟩)], .iface 442 (.agg #[.pointer (some ⟨11, 113, none⟩)])]).run Tryz.prog w = .ok (.bool true) w := by kernel_rfl
theorem AsF.typeOf25 (v : Value) (w : World) : (ReflectliteType.typeOf #[.iface 176 v]).run Tryz.prog w = .ok (.iface 442 (.agg #[.pointer (some ⟨11, 176, none⟩)])) w := by kernel_rfl
theorem AsF.assignable25 (w : World) : (ReflectliteType.relation "AssignableTo" ReflectliteType.assignableTo #[.agg #[.pointer (some ⟨11, 176, none⟩)], .iface 442 (.agg #[.pointer (some ⟨11, 176, none⟩)])]).run Tryz.prog w = .ok (.bool true) w := by kernel_rfl
theorem AsF.valueOf25 (e : Addr) (w : World) : (ReflectliteValue.unpack (.iface 176 (.pointer (some e)))).run Tryz.prog w
  = .ok (.agg #[.pointer (some ⟨11, 176, none⟩), .pointer (some ⟨w.heap.size, 0, none⟩), .int .u64 150]) (w.alloc (.cells #[.pointer (some e)] 176)) := by kernel_rfl
theorem AsF.elemOf27 (w : World) : (Rtype.elem? 177).run Tryz.prog w = .ok (some 176) w := by kernel_rfl
theorem AsF.mk25 (p : Addr) (w : World) : (ReflectliteValue.mk 176 p ReflectliteValue.flagAddr).run Tryz.prog w = .ok (.agg #[.pointer (some ⟨11, 176, none⟩), .pointer (some p), .int .u64 406]) w := by kernel_rfl
theorem AsF.elemV27 (a p : Addr) (W : World) (ha : W.cell? a = some (.pointer (some p))) :
  (ReflectliteValue.method (ReflectliteValue.valueError "reflectlite.Value.Elem" 0) ReflectliteValue.elem #[.agg #[.pointer (some ⟨11, 177, none⟩), .pointer (some a), .int .u64 150]]).run Tryz.prog W
   = .ok (.agg #[.pointer (some ⟨11, 176, none⟩), .pointer (some p), .int .u64 406]) W := by
 rw [rlm]
 simp only [Sem.run_bind, AsF.parts27, Result.andThen]
 simp [ReflectliteValue.elem, loadVar, isAgg, underlying, Tryz.underlying177, ha, Result.andThen, AsF.elemOf27, AsF.mk25]
theorem AsF.parts25a (a : Addr) (w : World) : (ReflectliteValue.parts (.agg #[.pointer (some ⟨11, 176, none⟩), .pointer (some a), .int .u64 406])).run Tryz.prog w = .ok (some (176, a, 406)) w := by kernel_rfl
theorem AsF.parts25 (a : Addr) (w : World) : (ReflectliteValue.parts (.agg #[.pointer (some ⟨11, 176, none⟩), .pointer (some a), .int .u64 150])).run Tryz.prog w = .ok (some (176, a, 150)) w := by kernel_rfl
theorem AsF.direct25 (w : World) : (Rtype.directlyAssignable 176 176).run Tryz.prog w = .ok true w := by kernel_rfl
theorem AsF.size25 (w : World) : (sizeOf 176).run Tryz.prog w = .ok 1 w := by kernel_rfl
theorem AsF.set25 (ta b e : Addr) (old : Value) (W : World) (hb : W.cell? b = some (.pointer (some e))) (ht : W.cell? ta = some old) (hf : W.frozen? ta = false) :
  (ReflectliteValue.set #[.agg #[.pointer (some ⟨11, 176, none⟩), .pointer (some ta), .int .u64 406], .agg #[.pointer (some ⟨11, 176, none⟩), .pointer (some b), .int .u64 150]]).run Tryz.prog W
   = .ok (.tuple #[]) (W.setCell ta (.pointer (some e))) := by
 obtain ⟨z1, z2, z3, hz⟩ := rls (.agg #[.pointer (some ⟨11, 176, none⟩), .pointer (some ta), .int .u64 406]) (.agg #[.pointer (some ⟨11, 176, none⟩), .pointer (some b), .int .u64 150])
 rw [hz]
 simp only [Sem.run_bind, AsF.parts25a, AsF.parts25, Result.andThen]
 simp [ReflectliteValue.flagAddr, loadVar, isAgg, underlying, Tryz.underlying176, hb, Result.andThen, AsF.direct25, storeVar, Value.cells, storeCells, Addr.add]
 rw [run_store Tryz.prog W ta _ _ (by rfl)]
 simp [ht, hf]
set_option maxHeartbeats 4000000 in
theorem as_hit (e t : Addr) (old : Value) (w : World) (hg : w.cell? ⟨0, 0, none⟩ = some (.iface 442 (.agg #[.pointer (some ⟨11, 113, none⟩)]))) (ht0 : w.cell? t = some old) (hf0 : w.frozen? t = false) :
  Calls Tryz.prog 63 #[.iface 176 (.pointer (some e)), .iface 177 (.pointer (some t))] w fun ev w' => ev = .returned (.bool true) ∧ w' = ((((w.alloc (.cells #[.pointer (some t)] 177)).alloc (.cells #[.pointer (some ⟨11, 177, none⟩), .pointer (some ⟨w.heap.size, 0, none⟩), .int .u64 150] 287)).alloc (.cells #[.pointer (some ⟨11, 177, none⟩), .pointer (some ⟨w.heap.size, 0, none⟩), .int .u64 150] 287)).alloc (.cells #[.pointer (some e)] 176)).setCell t (.pointer (some e)) := by
 have h6 := @run_callFunc_extern Tryz.prog 136 _ (fun args => ReflectliteValue.unpack (args.getD 0 (.tuple #[]))) Tryz.func136 (by kernel_rfl) (by kernel_rfl) (by kernel_rfl) (by kernel_rfl)
 have h7 := @run_callFunc_extern Tryz.prog 137 _ (ReflectliteValue.methodAny (ReflectliteValue.valueError "reflectlite.Value.Type" 0) (fun t _ _ _ => ReflectliteType.toType t)) Tryz.func137 (by kernel_rfl) (by kernel_rfl) (by kernel_rfl) (by kernel_rfl)
 have h8 := @run_callFunc_extern Tryz.prog 138 _ (ReflectliteValue.method (ReflectliteValue.valueError "reflectlite.Value.IsNil" 0) ReflectliteValue.isNil) Tryz.func138 (by kernel_rfl) (by kernel_rfl) (by kernel_rfl) (by kernel_rfl)
 have h27 := @run_callFunc_extern Tryz.prog 784 _ (ReflectliteType.abiMethod fun t => do pure (.int .u8 (← Rtype.kind t))) Tryz.func784 (by kernel_rfl) (by kernel_rfl) (by kernel_rfl) (by kernel_rfl)
 have h37 := @run_callFunc_extern Tryz.prog 807 _ (ReflectliteType.method ReflectliteType.elem) Tryz.func807 (by kernel_rfl) (by kernel_rfl) (by kernel_rfl) (by kernel_rfl)
 have h38 := @run_callFunc_extern Tryz.prog 808 _ (ReflectliteType.relation "Implements" ReflectliteType.implements_) Tryz.func808 (by kernel_rfl) (by kernel_rfl) (by kernel_rfl) (by kernel_rfl)
 have h10 := @run_callFunc_extern Tryz.prog 262 _ ReflectliteType.typeOf Tryz.func262 (by kernel_rfl) (by kernel_rfl) (by kernel_rfl) (by kernel_rfl)
 have h35 := @run_callFunc_extern Tryz.prog 805 _ (ReflectliteType.relation "AssignableTo" ReflectliteType.assignableTo) Tryz.func805 (by kernel_rfl) (by kernel_rfl) (by kernel_rfl) (by kernel_rfl)
 have h11 := @run_callFunc_extern Tryz.prog 263 _ (ReflectliteValue.method (ReflectliteValue.valueError "reflectlite.Value.Elem" 0) ReflectliteValue.elem) Tryz.func263 (by kernel_rfl) (by kernel_rfl) (by kernel_rfl) (by kernel_rfl)
 have h12 := @run_callFunc_extern Tryz.prog 264 _ ReflectliteValue.set Tryz.func264 (by kernel_rfl) (by kernel_rfl) (by kernel_rfl) (by kernel_rfl)
 have tO := AsF.typeOf25
 have mA := AsF.methodAssignableTo
 have a25 := AsF.assignable25
 have v25 := AsF.valueOf25
 have f6 := AsF.valueOf27
 have f7 := AsF.type27
 have mK := AsF.methodKind
 have mE := AsF.methodElem
 have mI := AsF.methodImplements
 have k27 := AsF.kind27
 have k25 := AsF.kind25
 have e27 := AsF.elem27
 have i25 := AsF.implements25
 have n8 := AsF.isNil27 ⟨w.heap.size, 0, none⟩ t ((w.alloc (.cells #[.pointer (some t)] 177)).alloc (.cells #[.pointer (some ⟨11, 177, none⟩), .pointer (some ⟨w.heap.size, 0, none⟩), .int .u64 150] 287)) (by simp)
 have hlt : 0 < w.heap.size := by
  rcases Nat.eq_zero_or_pos w.heap.size with h0 | h
  ·simp [World.cell?, h0] at hg
  ·exact h
 have hg2 : ((w.alloc (.cells #[.pointer (some t)] 177)).alloc (.cells #[.pointer (some ⟨11, 177, none⟩), .pointer (some ⟨w.heap.size, 0, none⟩), .int .u64 150] 287)).cell? ⟨0, 0, none⟩ = some (.iface 442 (.agg #[.pointer (some ⟨11, 113, none⟩)])) := by
  rw [World.cell?_alloc_lt _ _ ⟨0, 0, none⟩ (by simp), World.cell?_alloc_lt _ _ ⟨0, 0, none⟩ hlt]; exact hg
 have htl : t.block < w.heap.size := by
  rcases Nat.lt_or_ge t.block w.heap.size with h | h
  ·exact h
  ·simp [World.cell?, Array.getElem?_eq_none h] at ht0
 have el := AsF.elemV27 ⟨w.heap.size, 0, none⟩ t (((w.alloc (.cells #[.pointer (some t)] 177)).alloc (.cells #[.pointer (some ⟨11, 177, none⟩), .pointer (some ⟨w.heap.size, 0, none⟩), .int .u64 150] 287)).alloc (.cells #[.pointer (some ⟨11, 177, none⟩), .pointer (some ⟨w.heap.size, 0, none⟩), .int .u64 150] 287)) (by rw [World.cell?_alloc_lt _ _ ⟨w.heap.size, 0, none⟩ (by simp; omega)]; simp)
 have st := AsF.set25 t ⟨w.heap.size + 1 + 1 + 1, 0, none⟩ e old ((((w.alloc (.cells #[.pointer (some t)] 177)).alloc (.cells #[.pointer (some ⟨11, 177, none⟩), .pointer (some ⟨w.heap.size, 0, none⟩), .int .u64 150] 287)).alloc (.cells #[.pointer (some ⟨11, 177, none⟩), .pointer (some ⟨w.heap.size, 0, none⟩), .int .u64 150] 287)).alloc (.cells #[.pointer (some e)] 176))
  (by rw [World.cell?_alloc_at _ _ _ _ (by simp)]; rfl)
  (by rw [World.cell?_alloc_lt _ _ t (by simp; omega), World.cell?_alloc_lt _ _ t (by simp; omega), World.cell?_alloc_lt _ _ t (by simp; omega), World.cell?_alloc_lt _ _ t htl]; exact ht0)
  (by rw [World.frozen?_alloc_old _ _ t (by simp; omega), World.frozen?_alloc_old _ _ t (by simp; omega), World.frozen?_alloc_old _ _ t (by simp; omega), World.frozen?_alloc_old _ _ t (Nat.ne_of_lt htl)]; exact hf0)
 go_enter Tryz.func63, Tryz.ntmps63
 go_wp2
 refine wp_loop_rounds 1 ?_
 rw [rounds_succ]
 go_wp2
 go_ret
 exact ⟨rfl, rfl⟩
end Go.Ev
namespace Go.Ev
open Go.Proofs Go.RowKit Go.Extern.Stop Go.Stop Go.Extern
theorem AsB.valueOf27 (t : Addr) (w : World) : (ReflectliteValue.unpack (.iface 175 (.pointer (some t)))).run Tryz.prog w
  = .ok (.agg #[.pointer (some ⟨11, 175, none⟩), .pointer (some ⟨w.heap.size, 0, none⟩), .int .u64 150]) (w.alloc (.cells #[.pointer (some t)] 175)) := by kernel_rfl
theorem AsB.type27 (a : Addr) (w : World) : (ReflectliteValue.methodAny (ReflectliteValue.valueError "reflectlite.Value.Type" 0) (fun t _ _ _ => ReflectliteType.toType t) #[.agg #[.pointer (some ⟨11, 175, none⟩), .pointer (some a), .int .u64 150]]).run Tryz.prog w
  = .ok (.iface 442 (.agg #[.pointer (some ⟨11, 175, none⟩)])) w := by kernel_rfl
theorem AsB.methodKind (h : Value) (w : World) : (Go.method 1062 442 (.agg #[h]) "Kind").run Tryz.prog w = .ok (784, h) w := by kernel_rfl
theorem AsB.kind27 (w : World) : ((ReflectliteType.abiMethod fun t => Functor.map (fun a : Nat => Value.int IntKind.u8 (a : Int)) (Rtype.kind t)) #[.pointer (some ⟨11, 175, none⟩)]).run Tryz.prog w = .ok (.int .u8 22) w := by kernel_rfl
theorem AsB.kind25 (w : World) : ((ReflectliteType.abiMethod fun t => Functor.map (fun a : Nat => Value.int IntKind.u8 (a : Int)) (Rtype.kind t)) #[.pointer (some ⟨11, 169, none⟩)]).run Tryz.prog w = .ok (.int .u8 22) w := by kernel_rfl
theorem AsB.parts27 (a : Addr) (w : World) : (ReflectliteValue.parts (.agg #[.pointer (some ⟨11, 175, none⟩), .pointer (some a), .int .u64 150])).run Tryz.prog w = .ok (some (175, a, 150)) w := by kernel_rfl
theorem AsB.isNil27 (a p : Addr) (W : World) (ha : W.cell? a = some (.pointer (some p))) :
  (ReflectliteValue.method (ReflectliteValue.valueError "reflectlite.Value.IsNil" 0) ReflectliteValue.isNil #[.agg #[.pointer (some ⟨11, 175, none⟩), .pointer (some a), .int .u64 150]]).run Tryz.prog W = .ok (.bool false) W := by
 rw [rlm]
 simp only [Sem.run_bind, AsB.parts27, Result.andThen]
 simp [ReflectliteValue.isNil, loadVar, isAgg, underlying, Tryz.underlying175, ha, Result.andThen]
theorem AsB.methodElem (h : Value) (w : World) : (Go.method 1062 442 (.agg #[h]) "Elem").run Tryz.prog w = .ok (807, .agg #[h]) w := by kernel_rfl
theorem AsB.methodImplements (h : Value) (w : World) : (Go.method 1062 442 (.agg #[h]) "Implements").run Tryz.prog w = .ok (808, .agg #[h]) w := by kernel_rfl
theorem AsB.methodAssignableTo (h : Value) (w : World) : (Go.method 1062 442 (.agg #[h]) "AssignableTo").run Tryz.prog w = .ok (805, .agg #[h]) w := by kernel_rfl
theorem AsB.elem27 (w : World) : (ReflectliteType.method ReflectliteType.elem #[.agg #[.pointer (some ⟨11, 175, none⟩)]]).run Tryz.prog w = .ok (.iface 442 (.agg #[.pointer (some ⟨11, 169, none⟩)])) w := by kernel_rfl
theorem AsB.implements25 (w : World) : (ReflectliteType.relation "Implements" ReflectliteType.implements_ #[.agg #[.pointer (some ⟨11, 169, none⟩)], .iface 442 (.agg #[.pointer (some ⟨11, 113, none⟩)])]).run Tryz.prog w = .ok (.bool true) w := by kernel_rfl
theorem AsB.typeOf (v : Value) (w : World) : (ReflectliteType.typeOf #[.iface 176 v]).run Tryz.prog w = .ok (.iface 442 (.agg #[.pointer (some ⟨11, 176, none⟩)])) w := by kernel_rfl
theorem AsB.assign (w : World) : (ReflectliteType.relation "AssignableTo" ReflectliteType.assignableTo #[.agg #[.pointer (some ⟨11, 176, none⟩)], .iface 442 (.agg #[.pointer (some ⟨11, 169, none⟩)])]).run Tryz.prog w = .ok (.bool false) w := by kernel_rfl
theorem AsB.noAs (v : Value) (w : World) : (Instr.typeAssert (.iface 176 v) 113 447 true).run Tryz.prog w = .ok (.tuple #[.nilIface, .bool false]) w := run_typeAssert_lacksB Tryz.underlying447 (by kernel_rfl) (by kernel_rfl) v 113 w
theorem AsB.noU1 (v : Value) (w : World) : (Instr.typeAssert (.iface 176 v) 113 450 true).run Tryz.prog w = .ok (.tuple #[.nilIface, .bool false]) w := run_typeAssert_lacksB Tryz.underlying450 (by kernel_rfl) (by kernel_rfl) v 113 w
theorem AsB.noU2 (v : Value) (w : World) : (Instr.typeAssert (.iface 176 v) 113 452 true).run Tryz.prog w = .ok (.tuple #[.nilIface, .bool false]) w := run_typeAssert_lacksB Tryz.underlying452 (by kernel_rfl) (by kernel_rfl) v 113 w
set_option maxHeartbeats 4000000 in
theorem as_miss (e t : Addr) (w : World) (hg : w.cell? ⟨0, 0, none⟩ = some (.iface 442 (.agg #[.pointer (some ⟨11, 113, none⟩)]))) :
  Calls Tryz.prog 63 #[.iface 176 (.pointer (some e)), .iface 175 (.pointer (some t))] w fun ev w' => ev = .returned (.bool false) ∧ w' = ((w.alloc (.cells #[.pointer (some t)] 175)).alloc (.cells #[.pointer (some ⟨11, 175, none⟩), .pointer (some ⟨w.heap.size, 0, none⟩), .int .u64 150] 287)).alloc (.cells #[.pointer (some ⟨11, 175, none⟩), .pointer (some ⟨w.heap.size, 0, none⟩), .int .u64 150] 287) := by
 have h6 := @run_callFunc_extern Tryz.prog 136 _ (fun args => ReflectliteValue.unpack (args.getD 0 (.tuple #[]))) Tryz.func136 (by kernel_rfl) (by kernel_rfl) (by kernel_rfl) (by kernel_rfl)
 have h7 := @run_callFunc_extern Tryz.prog 137 _ (ReflectliteValue.methodAny (ReflectliteValue.valueError "reflectlite.Value.Type" 0) (fun t _ _ _ => ReflectliteType.toType t)) Tryz.func137 (by kernel_rfl) (by kernel_rfl) (by kernel_rfl) (by kernel_rfl)
 have h8 := @run_callFunc_extern Tryz.prog 138 _ (ReflectliteValue.method (ReflectliteValue.valueError "reflectlite.Value.IsNil" 0) ReflectliteValue.isNil) Tryz.func138 (by kernel_rfl) (by kernel_rfl) (by kernel_rfl) (by kernel_rfl)
 have h27 := @run_callFunc_extern Tryz.prog 784 _ (ReflectliteType.abiMethod fun t => do pure (.int .u8 (← Rtype.kind t))) Tryz.func784 (by kernel_rfl) (by kernel_rfl) (by kernel_rfl) (by kernel_rfl)
 have h37 := @run_callFunc_extern Tryz.prog 807 _ (ReflectliteType.method ReflectliteType.elem) Tryz.func807 (by kernel_rfl) (by kernel_rfl) (by kernel_rfl) (by kernel_rfl)
 have h38 := @run_callFunc_extern Tryz.prog 808 _ (ReflectliteType.relation "Implements" ReflectliteType.implements_) Tryz.func808 (by kernel_rfl) (by kernel_rfl) (by kernel_rfl) (by kernel_rfl)
 have h10 := @run_callFunc_extern Tryz.prog 262 _ ReflectliteType.typeOf Tryz.func262 (by kernel_rfl) (by kernel_rfl) (by kernel_rfl) (by kernel_rfl)
 have h35 := @run_callFunc_extern Tryz.prog 805 _ (ReflectliteType.relation "AssignableTo" ReflectliteType.assignableTo) Tryz.func805 (by kernel_rfl) (by kernel_rfl) (by kernel_rfl) (by kernel_rfl)
 have h11 := @run_callFunc_extern Tryz.prog 263 _ (ReflectliteValue.method (ReflectliteValue.valueError "reflectlite.Value.Elem" 0) ReflectliteValue.elem) Tryz.func263 (by kernel_rfl) (by kernel_rfl) (by kernel_rfl) (by kernel_rfl)
 have h12 := @run_callFunc_extern Tryz.prog 264 _ ReflectliteValue.set Tryz.func264 (by kernel_rfl) (by kernel_rfl) (by kernel_rfl) (by kernel_rfl)
 have tO := AsB.typeOf
 have mA := AsB.methodAssignableTo
 have a25 := AsB.assign
 have nA := AsB.noAs
 have nB := AsB.noU1
 have nC := AsB.noU2
 have f6 := AsB.valueOf27
 have f7 := AsB.type27
 have mK := AsB.methodKind
 have mE := AsB.methodElem
 have mI := AsB.methodImplements
 have k27 := AsB.kind27
 have k25 := AsB.kind25
 have e27 := AsB.elem27
 have i25 := AsB.implements25
 have n8 := AsB.isNil27 ⟨w.heap.size, 0, none⟩ t ((w.alloc (.cells #[.pointer (some t)] 175)).alloc (.cells #[.pointer (some ⟨11, 175, none⟩), .pointer (some ⟨w.heap.size, 0, none⟩), .int .u64 150] 287)) (by simp)
 have hlt : 0 < w.heap.size := by
  rcases Nat.eq_zero_or_pos w.heap.size with h0 | h
  ·simp [World.cell?, h0] at hg
  ·exact h
 have hg2 : ((w.alloc (.cells #[.pointer (some t)] 175)).alloc (.cells #[.pointer (some ⟨11, 175, none⟩), .pointer (some ⟨w.heap.size, 0, none⟩), .int .u64 150] 287)).cell? ⟨0, 0, none⟩ = some (.iface 442 (.agg #[.pointer (some ⟨11, 113, none⟩)])) := by
  rw [World.cell?_alloc_lt _ _ ⟨0, 0, none⟩ (by simp), World.cell?_alloc_lt _ _ ⟨0, 0, none⟩ hlt]; exact hg
 go_enter Tryz.func63, Tryz.ntmps63
 go_wp2
 refine wp_loop_rounds 1 ?_
 rw [rounds_succ]
 go_wp2
 go_ret
 exact ⟨rfl, rfl⟩
end Go.Ev
namespace Go.Ev
open Go.Proofs
theorem Grown.alloc (w : World) (o : Obj) : Grown w (w.alloc o) :=
 ⟨by simp, fun r h => by show (w.heap.push o)[r]? = _; rw [Array.getElem?_push, if_neg (Nat.ne_of_lt h)], rfl, rfl, rfl, Nat.le_refl _⟩
theorem Grown.trans {a b c : World} (h : Grown a b) (k : Grown b c) : Grown a c :=
 ⟨Nat.le_trans h.size k.size, fun r hr => (k.same r (Nat.lt_of_lt_of_le hr h.size)).trans (h.same r hr), k.os.trans h.os, k.tape.trans h.tape, k.output.trans h.output, Nat.le_trans h.dr k.dr⟩
def errT : Blk → Bool
 | .rc (.ifc 442 (.a [.p (some (11, 113))]) :: _) _ => true
 | _ => false
noncomputable def asPut (x : V) (q c : Nat) (h : H) : Blk → Option (V × H)
 | .cells l e g => cond (Nat.blt q l.length) (some (.b true, h.set c (.cells (l.set q x) e g))) none
 | _ => none
noncomputable def ehAs (h : H) : List V → Option (V × H)
 | [.ifc te (.p (some (b, o))), .ifc tt (.p (some (c, q)))] =>
  cond (errT (h.get 0) && Nat.beq te 176)
   (cond (Nat.beq tt 177) (asPut (.p (some (b, o))) q c h (h.get c))
    (cond (Nat.beq tt 175) (some (.b false, h)) none)) none
 | _ => none
theorem errT_eq {b : Blk} (h : errT b = true) : ∃ l e, b = .rc (.ifc 442 (.a [.p (some (11, 113))]) :: l) e := by
 unfold errT at h
 split at h
 ·exact ⟨_, _, rfl⟩
 ·cases h
theorem errT_cell {φ : Ren} {h : H} {w : World} (hg : GL 12 φ) (hr : HR φ h w) (e : errT (h.get 0) = true) : w.cell? ⟨0, 0, none⟩ = some (.iface 442 (.agg #[.pointer (some ⟨11, 113, none⟩)])) := by
 obtain ⟨l, t, he⟩ := errT_eq e
 obtain ⟨ob, o1, o2⟩ := hr.blk 0 0 (hg 0 (by decide)) (by rw [he]; trivial)
 rw [he] at o2
 obtain ⟨c, rfl, v1, l1, _⟩ := o2
 cases hc : c.toList with
 | nil => rw [← Array.length_toList, hc] at l1; simp at l1
 | cons x xs =>
  rw [hc] at v1
  simp only [List.length_cons, List.take_succ_cons, VRs, VR] at v1
  obtain ⟨_, _, e1, ⟨y, rfl, ⟨a, rfl, _, _, e2, ⟨r, e3, rfl⟩, rfl⟩⟩, _⟩ := v1
  have e3 : φ 11 = some r := e3
  rw [hg 11 (by decide)] at e3
  cases e3
  simp only [List.cons.injEq] at e1
  obtain ⟨rfl, _⟩ := e1
  have h0 : c[0]? = some (.iface 442 (.agg a)) := by
   rw [← Array.getElem?_toList, hc]; rfl
  have ha : a = #[.pointer (some ⟨11, 113, none⟩)] := Array.toList_inj.1 e2
  subst ha
  simp [World.cell?, o1, h0]
theorem asPut_eq {x : V} {q c : Nat} {h : H} {b : Blk} {r : V × H} (e : asPut x q c h b = some r) : ∃ l t g, b = .cells l t g ∧ q < l.length ∧ r = (.b true, h.set c (.cells (l.set q x) t g)) := by
 unfold asPut at e
 split at e
 ·obtain ⟨h1, h2⟩ := cond_some e
  cases h2
  exact ⟨_, _, _, rfl, Nat.le_of_ble_eq_true h1, rfl⟩
 ·cases e
theorem ehAs_ok {φ : Ren} {h : H} {w : World} (hgl : GL 12 φ) (hr : HR φ h w) {args : List V} {v : V} {h' : H} (e : ehAs h args = some (v, h')) {args' : List Value} (ha : VRs φ args args') (n : Nat) :
  CallsIn (W none) n Tryz.prog 63 args'.toArray w fun e w' => ∃ φ' u, e = .returned u ∧ Ext φ w φ' w' ∧ VR φ' v u ∧ HR φ' h' w' := by
 unfold ehAs at e
 split at e
 ·rename_i te b o tt c q
  obtain ⟨h1, h2⟩ := cond_some e
  simp only [Bool.and_eq_true] at h1
  obtain ⟨h0, h1⟩ := h1
  obtain rfl := Nat.eq_of_beq_eq_true h1
  have hcell := errT_cell hgl hr h0
  simp only [VRs, VR] at ha
  obtain ⟨_, _, rfl, ⟨_, rfl, ⟨rb, hb, rfl⟩⟩, _, _, rfl, ⟨_, rfl, ⟨rc, hc, rfl⟩⟩, rfl⟩ := ha
  cases h3 : Nat.beq tt 177 with
  | true =>
   rw [h3] at h2
   obtain rfl := Nat.eq_of_beq_eq_true h3
   obtain ⟨l, t, g, hl, hq, hE⟩ := asPut_eq (show asPut (.p (some (b, o))) q c h (h.get c) = some (v, h') from h2)
   cases hE
   obtain ⟨ob, o1, o2⟩ := hr.blk c rc hc (by rw [hl]; trivial)
   rw [hl] at o2
   obtain ⟨cs, rfl, v1, l1, z1, _⟩ := o2
   have hqs : q < cs.size := by omega
   have ht0 : w.cell? ⟨rc, q, none⟩ = some cs[q] := by simp [World.cell?, o1, hqs]
   have hf0 : w.frozen? ⟨rc, q, none⟩ = false := by simp [World.frozen?, o1]
   refine CallsIn.mono (callsIn_wide.2 (as_hit ⟨rb, o, none⟩ ⟨rc, q, none⟩ _ w hcell ht0 hf0) : CallsIn (W none) n _ _ _ _ _) ?_
   rintro e w' ⟨rfl, rfl⟩
   have gr := (((Grown.alloc w (.cells #[.pointer (some ⟨rc, q, none⟩)] 177)).trans (Grown.alloc _ (.cells #[.pointer (some ⟨11, 177, none⟩), .pointer (some ⟨w.heap.size, 0, none⟩), .int .u64 150] 287))).trans (Grown.alloc _ (.cells #[.pointer (some ⟨11, 177, none⟩), .pointer (some ⟨w.heap.size, 0, none⟩), .int .u64 150] 287))).trans (Grown.alloc _ (.cells #[.pointer (some ⟨rb, o, none⟩)] 176))
   obtain ⟨hr2, hx2⟩ := gr.ok hr
   obtain ⟨g1, g2⟩ := hr2.setCell hc hl (o := q) (x := .p (some (b, o))) (v := .pointer (some ⟨rb, o, none⟩)) (by simp only [VR]; exact ⟨rb, hb, rfl⟩)
   exact ⟨φ, _, rfl, hx2.trans g2, by simp [VR], g1⟩
  | false =>
   rw [h3] at h2
   obtain ⟨h4, h5⟩ := cond_some (show cond (Nat.beq tt 175) (some (V.b false, h)) none = some (v, h') from h2)
   obtain rfl := Nat.eq_of_beq_eq_true h4
   cases h5
   refine CallsIn.mono (callsIn_wide.2 (as_miss ⟨rb, o, none⟩ ⟨rc, q, none⟩ w hcell) : CallsIn (W none) n _ _ _ _ _) ?_
   rintro e w' ⟨rfl, rfl⟩
   have gr := ((Grown.alloc w (.cells #[.pointer (some ⟨rc, q, none⟩)] 175)).trans (Grown.alloc _ (.cells #[.pointer (some ⟨11, 175, none⟩), .pointer (some ⟨w.heap.size, 0, none⟩), .int .u64 150] 287))).trans (Grown.alloc _ (.cells #[.pointer (some ⟨11, 175, none⟩), .pointer (some ⟨w.heap.size, 0, none⟩), .int .u64 150] 287))
   obtain ⟨hr2, hx2⟩ := gr.ok hr
   exact ⟨φ, _, rfl, hx2, by simp [VR], hr2⟩
 ·cases e
end Go.Ev
namespace Go.Ev
open Go.Proofs
def rankI (x : Int) : Int := cond (x == 3) 0 (cond (x == 4) 1 (cond (x == 1) 2 (cond (x == 2) 3 4)))
set_option maxHeartbeats 1000000 in
theorem rank183 (x : Int) (w : World) : Calls Tryz.prog 220 #[.int .i64 x] w fun e w' => e = .returned (.int .i64 (rankI x)) ∧ w' = w := by
 go_enter Tryz.func220, Tryz.ntmps220
 go_wp2
 all_goals go_ret
 all_goals refine ⟨congrArg (fun z => Ending.returned (.int .i64 z)) ?_, rfl⟩
 all_goals (unfold rankI; simp only [*, cond_true, cond_false])
end Go.Ev
