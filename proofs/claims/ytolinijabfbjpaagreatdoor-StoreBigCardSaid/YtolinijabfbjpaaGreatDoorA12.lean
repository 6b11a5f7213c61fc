/- Chains, part Bb: strings.Builder's copyCheck and String, at our own numbers. -/
import Derived.Lib.Walk
import Derived.Lib.Builder
import Derived.Lib.UnsafeStr
import Derived.WalkKit
import Derived.Laws.Externs
import Derived.Shelf.Strings.Builder1
import Derived.Test.YtolinijabfbjpaaGreatDoorA11
import Derived.Shelf.SlGeneric
import Derived.Shelf.SlIterI.Nil
import Derived.Shelf.SlIter.Nil
import Derived.Shelf.SortM.Plain
import Derived.Shelf.SortM.SortNone
import Derived.Ground.GgzProg
import Derived.Ground.SlgmProg
import Derived.Shelf.SlSortCmp.WholeK
import Derived.Ground.SlsfProg
import Derived.Test.YtolinijabfbjpaaGreatDoorProg
import Derived.Test.YtolinijabfbjpaaGreatDoorA01
import Derived.Test.YtolinijabfbjpaaGreatDoorA09
import Derived.Test.YtolinijabfbjpaaGreatDoorA08
import Derived.Test.YtolinijabfbjpaaGreatDoorA10
set_option linter.all false
namespace Go.Proofs
open Go.Shelf Go.RowKit

theorem info135 : ∃ j, Tryz.prog.info? 146 = some j ∧ j.size = 2 := ⟨_, (Go.Ev.E0_ok.ty 146 _ _ rfl).1, rfl⟩
set_option maxHeartbeats 1000000 in
set_option maxRecDepth 100000 in
theorem Tryz.copy_used (b : Nat) (w : World) (h0 : w.cell? ⟨b, 0, none⟩ = some (.pointer (some ⟨b, 0, none⟩))) :
    Calls Tryz.prog 105 #[.pointer (some ⟨b, 0, none⟩)] w fun e w' => e = .returned (.tuple #[]) ∧ w' = w := by
  obtain ⟨j, hj, _⟩ := info135
  go_enter Tryz.func105, Tryz.ntmps105
  go_wp2
  rw [Lib.run_neq_ptr_same w _ Tryz.underlying143 hj]
  go_wp2
  go_end0
  exact ⟨rfl, rfl⟩

theorem lies135 : liesAt Tryz.prog Tryz.prog.depth 146 (2 / Tryz.prog.cellsOf 146) 0 146 1 = true := by decide +kernel

set_option maxHeartbeats 1000000 in
set_option maxRecDepth 100000 in
theorem Tryz.copy_fresh (b : Nat) (w : World) (h0 : w.cell? ⟨b, 0, none⟩ = some (.pointer none)) (hsh : w.shape? b = some (146, 2)) (hfz : w.frozen? ⟨b, 0, none⟩ = false) :
    Calls Tryz.prog 105 #[.pointer (some ⟨b, 0, none⟩)] w fun e w' => e = .returned (.tuple #[]) ∧ w' = w.setCell ⟨b, 0, none⟩ (.pointer (some ⟨b, 0, none⟩)) := by
  obtain ⟨j, hj, hjs⟩ := info135
  go_enter Tryz.func105, Tryz.ntmps105
  go_wp2
  rw [Lib.run_to_unsafe w ⟨b, 0, none⟩ Tryz.underlying143 Tryz.underlying254 hj (by rw [hjs]; decide) hsh (Nat.zero_lt_succ 1)]
  simp only [Result.andThen]
  rw [Oper.upon_value]
  go_wp2
  rw [run_callFunc_extern Tryz.func218 (by kernel_rfl) (by kernel_rfl) (by kernel_rfl) (e := Extern.AbiNoEscape.same) (by kernel_rfl)]
  rw [Lib.run_noEscape]
  simp only [Result.andThen]
  rw [Oper.upon_value]
  go_wp2
  rw [Lib.run_from_unsafe w ⟨b, 0, none⟩ Tryz.underlying254 Tryz.underlying143 hj hsh lies135]
  simp only [Result.andThen]
  rw [Oper.upon_value]
  go_wp2
  go_end0
  exact ⟨rfl, rfl⟩

set_option maxHeartbeats 1000000 in
set_option maxRecDepth 100000 in
theorem Tryz.bstr {b g cap : Nat} {p : Value} {cur : Array Value} {l : List UInt8} (w : World) (hbk : w.heap[b]? = some (.cells #[p, .slice (some ⟨g, 0, none⟩) l.length cap] 146 (0, 0))) (hg : w.heap[g]? = some (.cells cur 5 (0, 0))) (htake : cur.toList.take l.length = Lib.byteCells l) (h0 : l ≠ []) (hn : l.length ≤ cur.size) (hcap : l.length ≤ cap) (h63 : l.length ≤ 1000000) :
    Calls Tryz.prog 49 #[.pointer (some ⟨b, 0, none⟩)] w fun e w' => e = .returned (.string ⟨l.toArray⟩) ∧ w' = w.drew.freeze ⟨g, 0, none⟩ l.length := by
  have hl0 : l.length ≠ 0 := by simpa using h0
  have c1 : w.drew.cell? ⟨b, 1, none⟩ = some (.slice (some ⟨g, 0, none⟩) l.length cap) := by
    have : w.drew.heap[b]? = some (.cells #[p, .slice (some ⟨g, 0, none⟩) l.length cap] 146 (0, 0)) := hbk
    rw [Lib.cell_of_heap this]; rfl
  have hSD : (Builtin.unsafeSliceData_ #[144] 248 #[.slice (some ⟨g, 0, none⟩) l.length cap]).run Tryz.prog w.drew = .ok (.pointer (some ⟨g, 0, none⟩)) w.drew :=
    Lib.run_unsafeSliceData_row _ _ _ _ _ _ (by omega)
  have hUS : (Builtin.unsafeString_ #[248, 3] 9 #[.pointer (some ⟨g, 0, none⟩), .int .i64 l.length]).run Tryz.prog w.drew = .ok (.string ⟨l.toArray⟩) (w.drew.freeze ⟨g, 0, none⟩ l.length) := by
    refine Lib.run_unsafeString_row w.drew 248 3 9 5 Tryz.underlying248 (by decide +kernel) g cur.size (by have hg' : w.drew.heap[g]? = some (.cells cur 5 (0, 0)) := hg; simp [World.shape?, hg']) l h0 hn (by omega) ?_
    intro j x hx
    have hj : j < l.length := (List.getElem?_eq_some_iff.1 hx).1
    have ea : Addr.add ⟨g, 0, none⟩ j = ⟨g, j, none⟩ := by
      unfold Addr.add
      by_cases h0 : j = 0
      · subst h0; simp
      · simp [h0]
    rw [ea]
    have hg' : w.drew.heap[g]? = some (.cells cur 5 (0, 0)) := hg
    rw [Lib.cell_of_heap hg']
    have : (cur.toList.take l.length)[j]? = (Lib.byteCells l)[j]? := by rw [htake]
    rw [List.getElem?_take_of_lt hj] at this
    simpa [Lib.byteCells, hx] using this
  have mixed : Tryz.prog.follows .mixedOrders = true := Go.Ev.E0_ok.mixed
  go_enter Tryz.func49, Tryz.ntmps49
  go_wp2
  go_region_o
  all_goals (go_wp2; go_ret; exact ⟨rfl, rfl⟩)

set_option maxHeartbeats 1000000 in
set_option maxRecDepth 100000 in
theorem Tryz.bstr_nil {b cap : Nat} {p : Value} (w : World) (hbk : w.heap[b]? = some (.cells #[p, .slice none 0 cap] 146 (0, 0))) :
    Calls Tryz.prog 49 #[.pointer (some ⟨b, 0, none⟩)] w fun e w' => e = .returned (.string ⟨#[]⟩) ∧ w' = w.drew := by
  have hUS : (Builtin.unsafeString_ #[248, 3] 9 #[.pointer none, .int .i64 0]).run Tryz.prog w.drew = .ok (.string .empty) w.drew := Lib.run_unsafeString_none w.drew _ _ _ none
  have c1 : w.drew.cell? ⟨b, 1, none⟩ = some (.slice none 0 cap) := by
    have : w.drew.heap[b]? = some (.cells #[p, .slice none 0 cap] 146 (0, 0)) := hbk
    rw [Lib.cell_of_heap this]; rfl
  have hSD : (Builtin.unsafeSliceData_ #[144] 248 #[.slice none 0 cap]).run Tryz.prog w.drew = .ok (.pointer none) w.drew := Lib.run_unsafeSliceData_nil _ _ _ _ _
  have mixed : Tryz.prog.follows .mixedOrders = true := Go.Ev.E0_ok.mixed
  go_enter Tryz.func49, Tryz.ntmps49
  go_wp2
  go_region_o
  all_goals (go_wp2; go_ret; exact ⟨rfl, rfl⟩)

end Go.Proofs

/-
  DERIVED: THE SHELF's CONTRACTS AT THIS DUMP, IN PLAIN WORDS (tools/lay-plain.mjs out of 'SbLay.lean', which tools/lay-shelf.mjs wrote): THE SAME DECLARATIONS UNDER THE SAME NAMES: 'import', 'namespace', 'open', 'def', 'theorem' AND NOTHING ELSE: no command of the shelf's: FOR A HAND-IN. Each laying: the table of numbers ('.._ren') and one theorem, a field a fact of the dump's own or the kernel's comparison; each contract: ONE APPLICATION.
-/
namespace Go.Proofs
open Go.Shelf
def Tryz.keys130_ren : Go.Shelf.Ren := ⟨fun | 7 => 130 | 10 => 240 | n => n, fun | 23 => 278 | 26 => 3 | 3 => 100 | 28 => 288 | 0 => 0 | 27 => 287 | 33 => 63 | 4 => 4 | n => n, fun | n => n⟩
theorem Tryz.keys130 : Go.Proofs.SlLaysZI.n7 Tryz.prog Tryz.keys130_ren := {
  mixed := by kernel_rfl
  f7 := ⟨Tryz.f130.name, by decide, Tryz.func130.trans (congrArg some (by kernel_rfl))⟩
  f10 := ⟨Tryz.f240.name, by decide, Tryz.func240.trans (congrArg some (by kernel_rfl))⟩
  t0 := Tryz.underlying0
  a0 := Tryz.isAgg0
  z0 := Tryz.sizeOf0
  v0 := Tryz.zeroValue0
  t4 := Tryz.underlying4
  a4 := Tryz.isAgg4
  z4 := Tryz.sizeOf4
  v4 := Tryz.zeroValue4
  t23 := Tryz.underlying278
  a23 := Tryz.isAgg278
  z23 := Tryz.sizeOf278
  v23 := Tryz.zeroValue278
  t26 := Tryz.underlying3
  a26 := Tryz.isAgg3
  z26 := Tryz.sizeOf3
  v26 := Tryz.zeroValue3
  t27 := Tryz.underlying287
  a27 := Tryz.isAgg287
  z27 := Tryz.sizeOf287
  v27 := Tryz.zeroValue287
  t28 := Tryz.underlying288
  a28 := Tryz.isAgg288
  z28 := Tryz.sizeOf288
  v28 := Tryz.zeroValue288
  t33 := Tryz.underlying63
  a33 := Tryz.isAgg63
  z33 := Tryz.sizeOf63
  v33 := Tryz.zeroValue63 }
def Tryz.keys273_ren : Go.Shelf.Ren := ⟨fun | 7 => 273 | 10 => 366 | n => n, fun | 23 => 301 | 26 => 3 | 3 => 4 | 28 => 288 | 0 => 0 | 27 => 287 | 33 => 63 | 4 => 4 | n => n, fun | n => n⟩
theorem Tryz.keys273 : Go.Proofs.SlLaysZI.n7 Tryz.prog Tryz.keys273_ren := {
  mixed := by kernel_rfl
  f7 := ⟨Tryz.f273.name, by decide, Tryz.func273.trans (congrArg some (by kernel_rfl))⟩
  f10 := ⟨Tryz.f366.name, by decide, Tryz.func366.trans (congrArg some (by kernel_rfl))⟩
  t0 := Tryz.underlying0
  a0 := Tryz.isAgg0
  z0 := Tryz.sizeOf0
  v0 := Tryz.zeroValue0
  t4 := Tryz.underlying4
  a4 := Tryz.isAgg4
  z4 := Tryz.sizeOf4
  v4 := Tryz.zeroValue4
  t23 := Tryz.underlying301
  a23 := Tryz.isAgg301
  z23 := Tryz.sizeOf301
  v23 := Tryz.zeroValue301
  t26 := Tryz.underlying3
  a26 := Tryz.isAgg3
  z26 := Tryz.sizeOf3
  v26 := Tryz.zeroValue3
  t27 := Tryz.underlying287
  a27 := Tryz.isAgg287
  z27 := Tryz.sizeOf287
  v27 := Tryz.zeroValue287
  t28 := Tryz.underlying288
  a28 := Tryz.isAgg288
  z28 := Tryz.sizeOf288
  v28 := Tryz.zeroValue288
  t33 := Tryz.underlying63
  a33 := Tryz.isAgg63
  z33 := Tryz.sizeOf63
  v33 := Tryz.zeroValue63 }
def Tryz.sorted129_ren : Go.Shelf.Ren := ⟨fun | 6 => 129 | 8 => 239 | 9 => 172 | 11 => 342 | 13 => 181 | 12 => 278 | 23 => 292 | 24 => 293 | 14 => 369 | 15 => 370 | 16 => 371 | 17 => 372 | 18 => 373 | 19 => 374 | 20 => 375 | 21 => 376 | 22 => 377 | 25 => 453 | 26 => 381 | 27 => 382 | 28 => 454 | 29 => 455 | 30 => 182 | 31 => 511 | n => n, fun | 26 => 3 | 28 => 288 | 24 => 96 | 0 => 0 | 3 => 3 | 37 => 236 | 48 => 482 | 50 => 484 | 4 => 4 | 40 => 476 | 39 => 475 | 45 => 60 | 5 => 5 | 9 => 9 | 51 => 555 | 55 => 559 | 57 => 657 | 58 => 307 | 33 => 63 | n => n, fun | n => n⟩
theorem Tryz.sorted129 : Go.Proofs.SlLaysZI.n6 Tryz.prog Tryz.sorted129_ren := {
  mixed := by kernel_rfl
  f6 := ⟨Tryz.f129.name, by decide, Tryz.func129.trans (congrArg some (by kernel_rfl))⟩
  f8 := ⟨Tryz.f239.name, by decide, Tryz.func239.trans (congrArg some (by kernel_rfl))⟩
  f11 := ⟨Tryz.f342.name, by decide, Tryz.func342.trans (congrArg some (by kernel_rfl))⟩
  t0 := Tryz.underlying0
  a0 := Tryz.isAgg0
  z0 := Tryz.sizeOf0
  v0 := Tryz.zeroValue0
  t24 := Tryz.underlying96
  a24 := Tryz.isAgg96
  z24 := Tryz.sizeOf96
  v24 := Tryz.zeroValue96
  t26 := Tryz.underlying3
  a26 := Tryz.isAgg3
  z26 := Tryz.sizeOf3
  v26 := Tryz.zeroValue3
  t28 := Tryz.underlying288
  a28 := Tryz.isAgg288
  z28 := Tryz.sizeOf288
  v28 := Tryz.zeroValue288
  i26 := by kernel_rfl }
def Tryz.sort172_ren : Go.Shelf.Ren := ⟨fun | 5 => 172 | 8 => 181 | 7 => 278 | 19 => 292 | 20 => 293 | 10 => 369 | 11 => 370 | 12 => 371 | 13 => 372 | 14 => 373 | 15 => 374 | 16 => 375 | 17 => 376 | 18 => 377 | 30 => 453 | 31 => 381 | 32 => 382 | 33 => 454 | 34 => 455 | 35 => 182 | 40 => 511 | n => n, fun | 23 => 96 | 25 => 3 | 3 => 3 | 32 => 236 | 22 => 96 | 0 => 0 | 44 => 482 | 46 => 484 | 4 => 4 | 36 => 476 | 35 => 475 | 41 => 60 | 5 => 5 | 9 => 9 | 53 => 555 | 57 => 559 | 63 => 657 | 64 => 307 | n => n, fun | n => n⟩
theorem Tryz.sort172 : Go.Proofs.SlLaysM.n5 Tryz.prog Tryz.sort172_ren := {
  mixed := by kernel_rfl
  f5 := ⟨Tryz.f172.name, by decide, Tryz.func172.trans (congrArg some (by kernel_rfl))⟩
  f7 := ⟨Tryz.f278.name, by decide, Tryz.func278.trans (congrArg some (by kernel_rfl))⟩
  f8 := Tryz.func181.trans (congrArg some (by kernel_rfl))
  f10 := ⟨Tryz.f369.name, by decide, Tryz.func369.trans (congrArg some (by kernel_rfl))⟩
  f11 := ⟨Tryz.f370.name, by decide, Tryz.func370.trans (congrArg some (by kernel_rfl))⟩
  f12 := ⟨Tryz.f371.name, by decide, Tryz.func371.trans (congrArg some (by kernel_rfl))⟩
  f13 := ⟨Tryz.f372.name, by decide, Tryz.func372.trans (congrArg some (by kernel_rfl))⟩
  f14 := ⟨Tryz.f373.name, by decide, Tryz.func373.trans (congrArg some (by kernel_rfl))⟩
  f15 := ⟨Tryz.f374.name, by decide, Tryz.func374.trans (congrArg some (by kernel_rfl))⟩
  f16 := ⟨Tryz.f375.name, by decide, Tryz.func375.trans (congrArg some (by kernel_rfl))⟩
  f17 := ⟨Tryz.f376.name, by decide, Tryz.func376.trans (congrArg some (by kernel_rfl))⟩
  f18 := ⟨Tryz.f377.name, by decide, Tryz.func377.trans (congrArg some (by kernel_rfl))⟩
  f19 := Tryz.func292.trans (congrArg some (by kernel_rfl))
  f20 := Tryz.func293.trans (congrArg some (by kernel_rfl))
  f30 := ⟨Tryz.f453.name, by decide, Tryz.func453.trans (congrArg some (by kernel_rfl))⟩
  f31 := Tryz.func381.trans (congrArg some (by kernel_rfl))
  f32 := Tryz.func382.trans (congrArg some (by kernel_rfl))
  f33 := ⟨Tryz.f454.name, by decide, Tryz.func454.trans (congrArg some (by kernel_rfl))⟩
  f34 := ⟨Tryz.f455.name, by decide, Tryz.func455.trans (congrArg some (by kernel_rfl))⟩
  f35 := ⟨Tryz.f182.name, by decide, Tryz.func182.trans (congrArg some (by kernel_rfl))⟩
  f40 := ⟨Tryz.f511.name, by decide, Tryz.func511.trans (congrArg some (by kernel_rfl))⟩
  t0 := Tryz.underlying0
  a0 := Tryz.isAgg0
  z0 := Tryz.sizeOf0
  v0 := Tryz.zeroValue0
  t3 := Tryz.underlying3
  a3 := Tryz.isAgg3
  z3 := Tryz.sizeOf3
  v3 := Tryz.zeroValue3
  t4 := Tryz.underlying4
  a4 := Tryz.isAgg4
  z4 := Tryz.sizeOf4
  v4 := Tryz.zeroValue4
  t5 := Tryz.underlying5
  a5 := Tryz.isAgg5
  z5 := Tryz.sizeOf5
  v5 := Tryz.zeroValue5
  t9 := Tryz.underlying9
  a9 := Tryz.isAgg9
  z9 := Tryz.sizeOf9
  v9 := Tryz.zeroValue9
  t22 := Tryz.underlying96
  a22 := Tryz.isAgg96
  z22 := Tryz.sizeOf96
  v22 := Tryz.zeroValue96
  t23 := Tryz.underlying96
  a23 := Tryz.isAgg96
  z23 := Tryz.sizeOf96
  v23 := Tryz.zeroValue96
  t25 := Tryz.underlying3
  a25 := Tryz.isAgg3
  z25 := Tryz.sizeOf3
  v25 := Tryz.zeroValue3
  t32 := Tryz.underlying236
  a32 := Tryz.isAgg236
  z32 := Tryz.sizeOf236
  v32 := Tryz.zeroValue236
  t35 := Tryz.underlying475
  a35 := Tryz.isAgg475
  z35 := Tryz.sizeOf475
  v35 := Tryz.zeroValue475
  t36 := Tryz.underlying476
  a36 := Tryz.isAgg476
  z36 := Tryz.sizeOf476
  v36 := Tryz.zeroValue476
  t41 := Tryz.underlying60
  a41 := Tryz.isAgg60
  z41 := Tryz.sizeOf60
  v41 := Tryz.zeroValue60
  t44 := Tryz.underlying482
  a44 := Tryz.isAgg482
  z44 := Tryz.sizeOf482
  v44 := Tryz.zeroValue482
  t46 := Tryz.underlying484
  a46 := Tryz.isAgg484
  z46 := Tryz.sizeOf484
  v46 := Tryz.zeroValue484
  t53 := Tryz.underlying555
  a53 := Tryz.isAgg555
  z53 := Tryz.sizeOf555
  v53 := Tryz.zeroValue555
  t57 := Tryz.underlying559
  a57 := Tryz.isAgg559
  z57 := Tryz.sizeOf559
  v57 := Tryz.zeroValue559
  t63 := Tryz.underlying657
  a63 := Tryz.isAgg657
  z63 := Tryz.sizeOf657
  v63 := Tryz.zeroValue657
  t64 := Tryz.underlying307
  a64 := Tryz.isAgg307
  z64 := Tryz.sizeOf307
  v64 := Tryz.zeroValue307 }
def Tryz.keys133_ren : Go.Shelf.Ren := ⟨fun | 7 => 133 | 10 => 244 | n => n, fun | 23 => 282 | 26 => 9 | 3 => 3 | 28 => 293 | 0 => 0 | 27 => 292 | 33 => 425 | 4 => 4 | n => n, fun | n => n⟩
theorem Tryz.keys133 : Go.Proofs.SlLaysZ.n7 Tryz.prog Tryz.keys133_ren := {
  mixed := by kernel_rfl
  f7 := ⟨Tryz.f133.name, by decide, Tryz.func133.trans (congrArg some (by kernel_rfl))⟩
  f10 := ⟨Tryz.f244.name, by decide, Tryz.func244.trans (congrArg some (by kernel_rfl))⟩
  t0 := Tryz.underlying0
  a0 := Tryz.isAgg0
  z0 := Tryz.sizeOf0
  v0 := Tryz.zeroValue0
  t4 := Tryz.underlying4
  a4 := Tryz.isAgg4
  z4 := Tryz.sizeOf4
  v4 := Tryz.zeroValue4
  t23 := Tryz.underlying282
  a23 := Tryz.isAgg282
  z23 := Tryz.sizeOf282
  v23 := Tryz.zeroValue282
  t26 := Tryz.underlying9
  a26 := Tryz.isAgg9
  z26 := Tryz.sizeOf9
  v26 := Tryz.zeroValue9
  t27 := Tryz.underlying292
  a27 := Tryz.isAgg292
  z27 := Tryz.sizeOf292
  v27 := Tryz.zeroValue292
  t28 := Tryz.underlying293
  a28 := Tryz.isAgg293
  z28 := Tryz.sizeOf293
  v28 := Tryz.zeroValue293
  t33 := Tryz.underlying425
  a33 := Tryz.isAgg425
  z33 := Tryz.sizeOf425
  v33 := Tryz.zeroValue425 }
def Tryz.keys391_ren : Go.Shelf.Ren := ⟨fun | 7 => 391 | 10 => 475 | n => n, fun | 23 => 498 | 26 => 9 | 3 => 4 | 28 => 293 | 0 => 0 | 27 => 292 | 33 => 425 | 4 => 4 | n => n, fun | n => n⟩
theorem Tryz.keys391 : Go.Proofs.SlLaysZ.n7 Tryz.prog Tryz.keys391_ren := {
  mixed := by kernel_rfl
  f7 := ⟨Tryz.f391.name, by decide, Tryz.func391.trans (congrArg some (by kernel_rfl))⟩
  f10 := ⟨Tryz.f475.name, by decide, Tryz.func475.trans (congrArg some (by kernel_rfl))⟩
  t0 := Tryz.underlying0
  a0 := Tryz.isAgg0
  z0 := Tryz.sizeOf0
  v0 := Tryz.zeroValue0
  t4 := Tryz.underlying4
  a4 := Tryz.isAgg4
  z4 := Tryz.sizeOf4
  v4 := Tryz.zeroValue4
  t23 := Tryz.underlying498
  a23 := Tryz.isAgg498
  z23 := Tryz.sizeOf498
  v23 := Tryz.zeroValue498
  t26 := Tryz.underlying9
  a26 := Tryz.isAgg9
  z26 := Tryz.sizeOf9
  v26 := Tryz.zeroValue9
  t27 := Tryz.underlying292
  a27 := Tryz.isAgg292
  z27 := Tryz.sizeOf292
  v27 := Tryz.zeroValue292
  t28 := Tryz.underlying293
  a28 := Tryz.isAgg293
  z28 := Tryz.sizeOf293
  v28 := Tryz.zeroValue293
  t33 := Tryz.underlying425
  a33 := Tryz.isAgg425
  z33 := Tryz.sizeOf425
  v33 := Tryz.zeroValue425 }
def Tryz.sorted132_ren : Go.Shelf.Ren := ⟨fun | 6 => 132 | 8 => 242 | 9 => 243 | 11 => 345 | 13 => 181 | 12 => 346 | 23 => 292 | 24 => 293 | 14 => 431 | 15 => 432 | 16 => 433 | 17 => 434 | 18 => 435 | 19 => 436 | 20 => 437 | 21 => 438 | 22 => 439 | 25 => 504 | 26 => 381 | 27 => 382 | 28 => 505 | 29 => 506 | 30 => 266 | 31 => 577 | n => n, fun | 26 => 9 | 28 => 293 | 24 => 89 | 0 => 0 | 3 => 3 | 37 => 236 | 48 => 482 | 50 => 484 | 4 => 4 | 40 => 476 | 39 => 475 | 45 => 60 | 5 => 5 | 9 => 9 | 51 => 555 | 55 => 559 | 57 => 657 | 58 => 307 | 33 => 425 | n => n, fun | n => n⟩
theorem Tryz.sorted132 : Go.Proofs.SlLaysZ.n6 Tryz.prog Tryz.sorted132_ren := {
  mixed := by kernel_rfl
  f6 := ⟨Tryz.f132.name, by decide, Tryz.func132.trans (congrArg some (by kernel_rfl))⟩
  f8 := ⟨Tryz.f242.name, by decide, Tryz.func242.trans (congrArg some (by kernel_rfl))⟩
  f11 := ⟨Tryz.f345.name, by decide, Tryz.func345.trans (congrArg some (by kernel_rfl))⟩
  t0 := Tryz.underlying0
  a0 := Tryz.isAgg0
  z0 := Tryz.sizeOf0
  v0 := Tryz.zeroValue0
  t24 := Tryz.underlying89
  a24 := Tryz.isAgg89
  z24 := Tryz.sizeOf89
  v24 := Tryz.zeroValue89
  t26 := Tryz.underlying9
  a26 := Tryz.isAgg9
  z26 := Tryz.sizeOf9
  v26 := Tryz.zeroValue9
  t28 := Tryz.underlying293
  a28 := Tryz.isAgg293
  z28 := Tryz.sizeOf293
  v28 := Tryz.zeroValue293
  i26 := by kernel_rfl }
def Tryz.sort243_ren : Go.Shelf.Ren := ⟨fun | 6 => 243 | 8 => 181 | 9 => 346 | 19 => 292 | 20 => 293 | 21 => 431 | 22 => 432 | 23 => 433 | 24 => 434 | 25 => 435 | 26 => 436 | 27 => 437 | 28 => 438 | 29 => 439 | 36 => 504 | 31 => 381 | 32 => 382 | 37 => 505 | 38 => 506 | 39 => 266 | 41 => 577 | n => n, fun | 27 => 89 | 29 => 9 | 3 => 3 | 32 => 236 | 26 => 89 | 0 => 0 | 44 => 482 | 46 => 484 | 4 => 4 | 36 => 476 | 35 => 475 | 41 => 60 | 5 => 5 | 9 => 9 | 53 => 555 | 57 => 559 | 63 => 657 | 64 => 307 | n => n, fun | n => n⟩
theorem Tryz.sort243 : Go.Proofs.SlLaysM.n6 Tryz.prog Tryz.sort243_ren := {
  mixed := by kernel_rfl
  f6 := ⟨Tryz.f243.name, by decide, Tryz.func243.trans (congrArg some (by kernel_rfl))⟩
  f8 := Tryz.func181.trans (congrArg some (by kernel_rfl))
  f9 := ⟨Tryz.f346.name, by decide, Tryz.func346.trans (congrArg some (by kernel_rfl))⟩
  f19 := Tryz.func292.trans (congrArg some (by kernel_rfl))
  f20 := Tryz.func293.trans (congrArg some (by kernel_rfl))
  f21 := ⟨Tryz.f431.name, by decide, Tryz.func431.trans (congrArg some (by kernel_rfl))⟩
  f22 := ⟨Tryz.f432.name, by decide, Tryz.func432.trans (congrArg some (by kernel_rfl))⟩
  f23 := ⟨Tryz.f433.name, by decide, Tryz.func433.trans (congrArg some (by kernel_rfl))⟩
  f24 := ⟨Tryz.f434.name, by decide, Tryz.func434.trans (congrArg some (by kernel_rfl))⟩
  f25 := ⟨Tryz.f435.name, by decide, Tryz.func435.trans (congrArg some (by kernel_rfl))⟩
  f26 := ⟨Tryz.f436.name, by decide, Tryz.func436.trans (congrArg some (by kernel_rfl))⟩
  f27 := ⟨Tryz.f437.name, by decide, Tryz.func437.trans (congrArg some (by kernel_rfl))⟩
  f28 := ⟨Tryz.f438.name, by decide, Tryz.func438.trans (congrArg some (by kernel_rfl))⟩
  f29 := ⟨Tryz.f439.name, by decide, Tryz.func439.trans (congrArg some (by kernel_rfl))⟩
  f31 := Tryz.func381.trans (congrArg some (by kernel_rfl))
  f32 := Tryz.func382.trans (congrArg some (by kernel_rfl))
  f36 := ⟨Tryz.f504.name, by decide, Tryz.func504.trans (congrArg some (by kernel_rfl))⟩
  f37 := ⟨Tryz.f505.name, by decide, Tryz.func505.trans (congrArg some (by kernel_rfl))⟩
  f38 := ⟨Tryz.f506.name, by decide, Tryz.func506.trans (congrArg some (by kernel_rfl))⟩
  f39 := ⟨Tryz.f266.name, by decide, Tryz.func266.trans (congrArg some (by kernel_rfl))⟩
  f41 := ⟨Tryz.f577.name, by decide, Tryz.func577.trans (congrArg some (by kernel_rfl))⟩
  t0 := Tryz.underlying0
  a0 := Tryz.isAgg0
  z0 := Tryz.sizeOf0
  v0 := Tryz.zeroValue0
  t3 := Tryz.underlying3
  a3 := Tryz.isAgg3
  z3 := Tryz.sizeOf3
  v3 := Tryz.zeroValue3
  t4 := Tryz.underlying4
  a4 := Tryz.isAgg4
  z4 := Tryz.sizeOf4
  v4 := Tryz.zeroValue4
  t5 := Tryz.underlying5
  a5 := Tryz.isAgg5
  z5 := Tryz.sizeOf5
  v5 := Tryz.zeroValue5
  t9 := Tryz.underlying9
  a9 := Tryz.isAgg9
  z9 := Tryz.sizeOf9
  v9 := Tryz.zeroValue9
  t26 := Tryz.underlying89
  a26 := Tryz.isAgg89
  z26 := Tryz.sizeOf89
  v26 := Tryz.zeroValue89
  t27 := Tryz.underlying89
  a27 := Tryz.isAgg89
  z27 := Tryz.sizeOf89
  v27 := Tryz.zeroValue89
  t29 := Tryz.underlying9
  a29 := Tryz.isAgg9
  z29 := Tryz.sizeOf9
  v29 := Tryz.zeroValue9
  t32 := Tryz.underlying236
  a32 := Tryz.isAgg236
  z32 := Tryz.sizeOf236
  v32 := Tryz.zeroValue236
  t35 := Tryz.underlying475
  a35 := Tryz.isAgg475
  z35 := Tryz.sizeOf475
  v35 := Tryz.zeroValue475
  t36 := Tryz.underlying476
  a36 := Tryz.isAgg476
  z36 := Tryz.sizeOf476
  v36 := Tryz.zeroValue476
  t41 := Tryz.underlying60
  a41 := Tryz.isAgg60
  z41 := Tryz.sizeOf60
  v41 := Tryz.zeroValue60
  t44 := Tryz.underlying482
  a44 := Tryz.isAgg482
  z44 := Tryz.sizeOf482
  v44 := Tryz.zeroValue482
  t46 := Tryz.underlying484
  a46 := Tryz.isAgg484
  z46 := Tryz.sizeOf484
  v46 := Tryz.zeroValue484
  t53 := Tryz.underlying555
  a53 := Tryz.isAgg555
  z53 := Tryz.sizeOf555
  v53 := Tryz.zeroValue555
  t57 := Tryz.underlying559
  a57 := Tryz.isAgg559
  z57 := Tryz.sizeOf559
  v57 := Tryz.zeroValue559
  t63 := Tryz.underlying657
  a63 := Tryz.isAgg657
  z63 := Tryz.sizeOf657
  v63 := Tryz.zeroValue657
  t64 := Tryz.underlying307
  a64 := Tryz.isAgg307
  z64 := Tryz.sizeOf307
  v64 := Tryz.zeroValue307 }
def Tryz.sort84_ren : Go.Shelf.Ren := ⟨fun | 6 => 84 | 15 => 181 | 14 => 180 | 28 => 292 | 29 => 293 | 20 => 284 | 21 => 285 | 22 => 286 | 23 => 287 | 24 => 288 | 25 => 289 | 26 => 290 | 27 => 291 | 46 => 380 | 47 => 381 | 48 => 382 | 49 => 383 | 50 => 384 | 57 => 456 | n => n, fun | 22 => 78 | 24 => 106 | 25 => 139 | 3 => 3 | 39 => 236 | 0 => 0 | 53 => 482 | 55 => 484 | 4 => 4 | 46 => 476 | 45 => 475 | 50 => 60 | 5 => 5 | 9 => 9 | 66 => 555 | 70 => 559 | 76 => 657 | 77 => 307 | n => n, fun | n => n⟩
theorem Tryz.sort84 : Go.Proofs.SlLaysF0.n6 Tryz.prog Tryz.sort84_ren := {
  mixed := by kernel_rfl
  f6 := ⟨Tryz.f84.name, by decide, Tryz.func84.trans (congrArg some (by kernel_rfl))⟩
  f14 := ⟨Tryz.f180.name, by decide, Tryz.func180.trans (congrArg some (by kernel_rfl))⟩
  f15 := Tryz.func181.trans (congrArg some (by kernel_rfl))
  f20 := ⟨Tryz.f284.name, by decide, Tryz.func284.trans (congrArg some (by kernel_rfl))⟩
  f21 := ⟨Tryz.f285.name, by decide, Tryz.func285.trans (congrArg some (by kernel_rfl))⟩
  f22 := ⟨Tryz.f286.name, by decide, Tryz.func286.trans (congrArg some (by kernel_rfl))⟩
  f23 := ⟨Tryz.f287.name, by decide, Tryz.func287.trans (congrArg some (by kernel_rfl))⟩
  f24 := ⟨Tryz.f288.name, by decide, Tryz.func288.trans (congrArg some (by kernel_rfl))⟩
  f25 := ⟨Tryz.f289.name, by decide, Tryz.func289.trans (congrArg some (by kernel_rfl))⟩
  f26 := ⟨Tryz.f290.name, by decide, Tryz.func290.trans (congrArg some (by kernel_rfl))⟩
  f27 := ⟨Tryz.f291.name, by decide, Tryz.func291.trans (congrArg some (by kernel_rfl))⟩
  f28 := Tryz.func292.trans (congrArg some (by kernel_rfl))
  f29 := Tryz.func293.trans (congrArg some (by kernel_rfl))
  f46 := ⟨Tryz.f380.name, by decide, Tryz.func380.trans (congrArg some (by kernel_rfl))⟩
  f47 := Tryz.func381.trans (congrArg some (by kernel_rfl))
  f48 := Tryz.func382.trans (congrArg some (by kernel_rfl))
  f49 := ⟨Tryz.f383.name, by decide, Tryz.func383.trans (congrArg some (by kernel_rfl))⟩
  f50 := ⟨Tryz.f384.name, by decide, Tryz.func384.trans (congrArg some (by kernel_rfl))⟩
  f57 := ⟨Tryz.f456.name, by decide, Tryz.func456.trans (congrArg some (by kernel_rfl))⟩
  t0 := Tryz.underlying0
  a0 := Tryz.isAgg0
  z0 := Tryz.sizeOf0
  v0 := Tryz.zeroValue0
  t3 := Tryz.underlying3
  a3 := Tryz.isAgg3
  z3 := Tryz.sizeOf3
  v3 := Tryz.zeroValue3
  t4 := Tryz.underlying4
  a4 := Tryz.isAgg4
  z4 := Tryz.sizeOf4
  v4 := Tryz.zeroValue4
  t5 := Tryz.underlying5
  a5 := Tryz.isAgg5
  z5 := Tryz.sizeOf5
  v5 := Tryz.zeroValue5
  t9 := Tryz.underlying9
  a9 := Tryz.isAgg9
  z9 := Tryz.sizeOf9
  v9 := Tryz.zeroValue9
  t22 := Tryz.underlying78
  a22 := Tryz.isAgg78
  z22 := Tryz.sizeOf78
  v22 := Tryz.zeroValue78
  t25 := Tryz.underlying139
  a25 := Tryz.isAgg139
  z25 := Tryz.sizeOf139
  v25 := Tryz.zeroValue139
  t39 := Tryz.underlying236
  a39 := Tryz.isAgg236
  z39 := Tryz.sizeOf236
  v39 := Tryz.zeroValue236
  t45 := Tryz.underlying475
  a45 := Tryz.isAgg475
  z45 := Tryz.sizeOf475
  v45 := Tryz.zeroValue475
  t46 := Tryz.underlying476
  a46 := Tryz.isAgg476
  z46 := Tryz.sizeOf476
  v46 := Tryz.zeroValue476
  t50 := Tryz.underlying60
  a50 := Tryz.isAgg60
  z50 := Tryz.sizeOf60
  v50 := Tryz.zeroValue60
  t53 := Tryz.underlying482
  a53 := Tryz.isAgg482
  z53 := Tryz.sizeOf482
  v53 := Tryz.zeroValue482
  t55 := Tryz.underlying484
  a55 := Tryz.isAgg484
  z55 := Tryz.sizeOf484
  v55 := Tryz.zeroValue484
  t66 := Tryz.underlying555
  a66 := Tryz.isAgg555
  z66 := Tryz.sizeOf555
  v66 := Tryz.zeroValue555
  t70 := Tryz.underlying559
  a70 := Tryz.isAgg559
  z70 := Tryz.sizeOf559
  v70 := Tryz.zeroValue559
  t76 := Tryz.underlying657
  a76 := Tryz.isAgg657
  z76 := Tryz.sizeOf657
  v76 := Tryz.zeroValue657
  t77 := Tryz.underlying307
  a77 := Tryz.isAgg307
  z77 := Tryz.sizeOf307
  v77 := Tryz.zeroValue307 }
def Tryz.sort399_ren : Go.Shelf.Ren := ⟨fun | 6 => 399 | 15 => 181 | 14 => 480 | 28 => 292 | 29 => 293 | 20 => 527 | 21 => 528 | 22 => 529 | 23 => 530 | 24 => 531 | 25 => 532 | 26 => 533 | 27 => 534 | 46 => 589 | 47 => 381 | 48 => 382 | 49 => 590 | 50 => 591 | 57 => 615 | n => n, fun | 22 => 54 | 24 => 100 | 25 => 587 | 3 => 3 | 39 => 236 | 0 => 0 | 53 => 482 | 55 => 484 | 4 => 4 | 46 => 476 | 45 => 475 | 50 => 60 | 5 => 5 | 9 => 9 | 66 => 555 | 70 => 559 | 76 => 657 | 77 => 307 | n => n, fun | n => n⟩
theorem Tryz.sort399 : Go.Proofs.SlLaysF0.n6 Tryz.prog Tryz.sort399_ren := {
  mixed := by kernel_rfl
  f6 := ⟨Tryz.f399.name, by decide, Tryz.func399.trans (congrArg some (by kernel_rfl))⟩
  f14 := ⟨Tryz.f480.name, by decide, Tryz.func480.trans (congrArg some (by kernel_rfl))⟩
  f15 := Tryz.func181.trans (congrArg some (by kernel_rfl))
  f20 := ⟨Tryz.f527.name, by decide, Tryz.func527.trans (congrArg some (by kernel_rfl))⟩
  f21 := ⟨Tryz.f528.name, by decide, Tryz.func528.trans (congrArg some (by kernel_rfl))⟩
  f22 := ⟨Tryz.f529.name, by decide, Tryz.func529.trans (congrArg some (by kernel_rfl))⟩
  f23 := ⟨Tryz.f530.name, by decide, Tryz.func530.trans (congrArg some (by kernel_rfl))⟩
  f24 := ⟨Tryz.f531.name, by decide, Tryz.func531.trans (congrArg some (by kernel_rfl))⟩
  f25 := ⟨Tryz.f532.name, by decide, Tryz.func532.trans (congrArg some (by kernel_rfl))⟩
  f26 := ⟨Tryz.f533.name, by decide, Tryz.func533.trans (congrArg some (by kernel_rfl))⟩
  f27 := ⟨Tryz.f534.name, by decide, Tryz.func534.trans (congrArg some (by kernel_rfl))⟩
  f28 := Tryz.func292.trans (congrArg some (by kernel_rfl))
  f29 := Tryz.func293.trans (congrArg some (by kernel_rfl))
  f46 := ⟨Tryz.f589.name, by decide, Tryz.func589.trans (congrArg some (by kernel_rfl))⟩
  f47 := Tryz.func381.trans (congrArg some (by kernel_rfl))
  f48 := Tryz.func382.trans (congrArg some (by kernel_rfl))
  f49 := ⟨Tryz.f590.name, by decide, Tryz.func590.trans (congrArg some (by kernel_rfl))⟩
  f50 := ⟨Tryz.f591.name, by decide, Tryz.func591.trans (congrArg some (by kernel_rfl))⟩
  f57 := ⟨Tryz.f615.name, by decide, Tryz.func615.trans (congrArg some (by kernel_rfl))⟩
  t0 := Tryz.underlying0
  a0 := Tryz.isAgg0
  z0 := Tryz.sizeOf0
  v0 := Tryz.zeroValue0
  t3 := Tryz.underlying3
  a3 := Tryz.isAgg3
  z3 := Tryz.sizeOf3
  v3 := Tryz.zeroValue3
  t4 := Tryz.underlying4
  a4 := Tryz.isAgg4
  z4 := Tryz.sizeOf4
  v4 := Tryz.zeroValue4
  t5 := Tryz.underlying5
  a5 := Tryz.isAgg5
  z5 := Tryz.sizeOf5
  v5 := Tryz.zeroValue5
  t9 := Tryz.underlying9
  a9 := Tryz.isAgg9
  z9 := Tryz.sizeOf9
  v9 := Tryz.zeroValue9
  t22 := Tryz.underlying54
  a22 := Tryz.isAgg54
  z22 := Tryz.sizeOf54
  v22 := Tryz.zeroValue54
  t25 := Tryz.underlying587
  a25 := Tryz.isAgg587
  z25 := Tryz.sizeOf587
  v25 := Tryz.zeroValue587
  t39 := Tryz.underlying236
  a39 := Tryz.isAgg236
  z39 := Tryz.sizeOf236
  v39 := Tryz.zeroValue236
  t45 := Tryz.underlying475
  a45 := Tryz.isAgg475
  z45 := Tryz.sizeOf475
  v45 := Tryz.zeroValue475
  t46 := Tryz.underlying476
  a46 := Tryz.isAgg476
  z46 := Tryz.sizeOf476
  v46 := Tryz.zeroValue476
  t50 := Tryz.underlying60
  a50 := Tryz.isAgg60
  z50 := Tryz.sizeOf60
  v50 := Tryz.zeroValue60
  t53 := Tryz.underlying482
  a53 := Tryz.isAgg482
  z53 := Tryz.sizeOf482
  v53 := Tryz.zeroValue482
  t55 := Tryz.underlying484
  a55 := Tryz.isAgg484
  z55 := Tryz.sizeOf484
  v55 := Tryz.zeroValue484
  t66 := Tryz.underlying555
  a66 := Tryz.isAgg555
  z66 := Tryz.sizeOf555
  v66 := Tryz.zeroValue555
  t70 := Tryz.underlying559
  a70 := Tryz.isAgg559
  z70 := Tryz.sizeOf559
  v70 := Tryz.zeroValue559
  t76 := Tryz.underlying657
  a76 := Tryz.isAgg657
  z76 := Tryz.sizeOf657
  v76 := Tryz.zeroValue657
  t77 := Tryz.underlying307
  a77 := Tryz.isAgg307
  z77 := Tryz.sizeOf307
  v77 := Tryz.zeroValue307 }
def Tryz.sort401_ren : Go.Shelf.Ren := ⟨fun | 6 => 401 | 15 => 181 | 14 => 481 | 28 => 292 | 29 => 293 | 20 => 535 | 21 => 536 | 22 => 537 | 23 => 538 | 24 => 539 | 25 => 540 | 26 => 541 | 27 => 542 | 46 => 592 | 47 => 381 | 48 => 382 | 49 => 593 | 50 => 594 | 57 => 616 | n => n, fun | 22 => 55 | 24 => 117 | 25 => 589 | 3 => 3 | 39 => 236 | 0 => 0 | 53 => 482 | 55 => 484 | 4 => 4 | 46 => 476 | 45 => 475 | 50 => 60 | 5 => 5 | 9 => 9 | 66 => 555 | 70 => 559 | 76 => 657 | 77 => 307 | n => n, fun | n => n⟩
theorem Tryz.sort401 : Go.Proofs.SlLaysF0.n6 Tryz.prog Tryz.sort401_ren := {
  mixed := by kernel_rfl
  f6 := ⟨Tryz.f401.name, by decide, Tryz.func401.trans (congrArg some (by kernel_rfl))⟩
  f14 := ⟨Tryz.f481.name, by decide, Tryz.func481.trans (congrArg some (by kernel_rfl))⟩
  f15 := Tryz.func181.trans (congrArg some (by kernel_rfl))
  f20 := ⟨Tryz.f535.name, by decide, Tryz.func535.trans (congrArg some (by kernel_rfl))⟩
  f21 := ⟨Tryz.f536.name, by decide, Tryz.func536.trans (congrArg some (by kernel_rfl))⟩
  f22 := ⟨Tryz.f537.name, by decide, Tryz.func537.trans (congrArg some (by kernel_rfl))⟩
  f23 := ⟨Tryz.f538.name, by decide, Tryz.func538.trans (congrArg some (by kernel_rfl))⟩
  f24 := ⟨Tryz.f539.name, by decide, Tryz.func539.trans (congrArg some (by kernel_rfl))⟩
  f25 := ⟨Tryz.f540.name, by decide, Tryz.func540.trans (congrArg some (by kernel_rfl))⟩
  f26 := ⟨Tryz.f541.name, by decide, Tryz.func541.trans (congrArg some (by kernel_rfl))⟩
  f27 := ⟨Tryz.f542.name, by decide, Tryz.func542.trans (congrArg some (by kernel_rfl))⟩
  f28 := Tryz.func292.trans (congrArg some (by kernel_rfl))
  f29 := Tryz.func293.trans (congrArg some (by kernel_rfl))
  f46 := ⟨Tryz.f592.name, by decide, Tryz.func592.trans (congrArg some (by kernel_rfl))⟩
  f47 := Tryz.func381.trans (congrArg some (by kernel_rfl))
  f48 := Tryz.func382.trans (congrArg some (by kernel_rfl))
  f49 := ⟨Tryz.f593.name, by decide, Tryz.func593.trans (congrArg some (by kernel_rfl))⟩
  f50 := ⟨Tryz.f594.name, by decide, Tryz.func594.trans (congrArg some (by kernel_rfl))⟩
  f57 := ⟨Tryz.f616.name, by decide, Tryz.func616.trans (congrArg some (by kernel_rfl))⟩
  t0 := Tryz.underlying0
  a0 := Tryz.isAgg0
  z0 := Tryz.sizeOf0
  v0 := Tryz.zeroValue0
  t3 := Tryz.underlying3
  a3 := Tryz.isAgg3
  z3 := Tryz.sizeOf3
  v3 := Tryz.zeroValue3
  t4 := Tryz.underlying4
  a4 := Tryz.isAgg4
  z4 := Tryz.sizeOf4
  v4 := Tryz.zeroValue4
  t5 := Tryz.underlying5
  a5 := Tryz.isAgg5
  z5 := Tryz.sizeOf5
  v5 := Tryz.zeroValue5
  t9 := Tryz.underlying9
  a9 := Tryz.isAgg9
  z9 := Tryz.sizeOf9
  v9 := Tryz.zeroValue9
  t22 := Tryz.underlying55
  a22 := Tryz.isAgg55
  z22 := Tryz.sizeOf55
  v22 := Tryz.zeroValue55
  t25 := Tryz.underlying589
  a25 := Tryz.isAgg589
  z25 := Tryz.sizeOf589
  v25 := Tryz.zeroValue589
  t39 := Tryz.underlying236
  a39 := Tryz.isAgg236
  z39 := Tryz.sizeOf236
  v39 := Tryz.zeroValue236
  t45 := Tryz.underlying475
  a45 := Tryz.isAgg475
  z45 := Tryz.sizeOf475
  v45 := Tryz.zeroValue475
  t46 := Tryz.underlying476
  a46 := Tryz.isAgg476
  z46 := Tryz.sizeOf476
  v46 := Tryz.zeroValue476
  t50 := Tryz.underlying60
  a50 := Tryz.isAgg60
  z50 := Tryz.sizeOf60
  v50 := Tryz.zeroValue60
  t53 := Tryz.underlying482
  a53 := Tryz.isAgg482
  z53 := Tryz.sizeOf482
  v53 := Tryz.zeroValue482
  t55 := Tryz.underlying484
  a55 := Tryz.isAgg484
  z55 := Tryz.sizeOf484
  v55 := Tryz.zeroValue484
  t66 := Tryz.underlying555
  a66 := Tryz.isAgg555
  z66 := Tryz.sizeOf555
  v66 := Tryz.zeroValue555
  t70 := Tryz.underlying559
  a70 := Tryz.isAgg559
  z70 := Tryz.sizeOf559
  v70 := Tryz.zeroValue559
  t76 := Tryz.underlying657
  a76 := Tryz.isAgg657
  z76 := Tryz.sizeOf657
  v76 := Tryz.zeroValue657
  t77 := Tryz.underlying307
  a77 := Tryz.isAgg307
  z77 := Tryz.sizeOf307
  v77 := Tryz.zeroValue307 }
def Tryz.sort472_ren : Go.Shelf.Ren := ⟨fun | 6 => 472 | 15 => 181 | 14 => 526 | 28 => 292 | 29 => 293 | 20 => 581 | 21 => 582 | 22 => 583 | 23 => 584 | 24 => 585 | 25 => 586 | 26 => 587 | 27 => 588 | 46 => 612 | 47 => 381 | 48 => 382 | 49 => 613 | 50 => 614 | 57 => 651 | n => n, fun | 22 => 90 | 24 => 102 | 25 => 228 | 3 => 3 | 39 => 236 | 0 => 0 | 53 => 482 | 55 => 484 | 4 => 4 | 46 => 476 | 45 => 475 | 50 => 60 | 5 => 5 | 9 => 9 | 66 => 555 | 70 => 559 | 76 => 657 | 77 => 307 | n => n, fun | n => n⟩
theorem Tryz.sort472 : Go.Proofs.SlLaysF0.n6 Tryz.prog Tryz.sort472_ren := {
  mixed := by kernel_rfl
  f6 := ⟨Tryz.f472.name, by decide, Tryz.func472.trans (congrArg some (by kernel_rfl))⟩
  f14 := ⟨Tryz.f526.name, by decide, Tryz.func526.trans (congrArg some (by kernel_rfl))⟩
  f15 := Tryz.func181.trans (congrArg some (by kernel_rfl))
  f20 := ⟨Tryz.f581.name, by decide, Tryz.func581.trans (congrArg some (by kernel_rfl))⟩
  f21 := ⟨Tryz.f582.name, by decide, Tryz.func582.trans (congrArg some (by kernel_rfl))⟩
  f22 := ⟨Tryz.f583.name, by decide, Tryz.func583.trans (congrArg some (by kernel_rfl))⟩
  f23 := ⟨Tryz.f584.name, by decide, Tryz.func584.trans (congrArg some (by kernel_rfl))⟩
  f24 := ⟨Tryz.f585.name, by decide, Tryz.func585.trans (congrArg some (by kernel_rfl))⟩
  f25 := ⟨Tryz.f586.name, by decide, Tryz.func586.trans (congrArg some (by kernel_rfl))⟩
  f26 := ⟨Tryz.f587.name, by decide, Tryz.func587.trans (congrArg some (by kernel_rfl))⟩
  f27 := ⟨Tryz.f588.name, by decide, Tryz.func588.trans (congrArg some (by kernel_rfl))⟩
  f28 := Tryz.func292.trans (congrArg some (by kernel_rfl))
  f29 := Tryz.func293.trans (congrArg some (by kernel_rfl))
  f46 := ⟨Tryz.f612.name, by decide, Tryz.func612.trans (congrArg some (by kernel_rfl))⟩
  f47 := Tryz.func381.trans (congrArg some (by kernel_rfl))
  f48 := Tryz.func382.trans (congrArg some (by kernel_rfl))
  f49 := ⟨Tryz.f613.name, by decide, Tryz.func613.trans (congrArg some (by kernel_rfl))⟩
  f50 := ⟨Tryz.f614.name, by decide, Tryz.func614.trans (congrArg some (by kernel_rfl))⟩
  f57 := ⟨Tryz.f651.name, by decide, Tryz.func651.trans (congrArg some (by kernel_rfl))⟩
  t0 := Tryz.underlying0
  a0 := Tryz.isAgg0
  z0 := Tryz.sizeOf0
  v0 := Tryz.zeroValue0
  t3 := Tryz.underlying3
  a3 := Tryz.isAgg3
  z3 := Tryz.sizeOf3
  v3 := Tryz.zeroValue3
  t4 := Tryz.underlying4
  a4 := Tryz.isAgg4
  z4 := Tryz.sizeOf4
  v4 := Tryz.zeroValue4
  t5 := Tryz.underlying5
  a5 := Tryz.isAgg5
  z5 := Tryz.sizeOf5
  v5 := Tryz.zeroValue5
  t9 := Tryz.underlying9
  a9 := Tryz.isAgg9
  z9 := Tryz.sizeOf9
  v9 := Tryz.zeroValue9
  t22 := Tryz.underlying90
  a22 := Tryz.isAgg90
  z22 := Tryz.sizeOf90
  v22 := Tryz.zeroValue90
  t25 := Tryz.underlying228
  a25 := Tryz.isAgg228
  z25 := Tryz.sizeOf228
  v25 := Tryz.zeroValue228
  t39 := Tryz.underlying236
  a39 := Tryz.isAgg236
  z39 := Tryz.sizeOf236
  v39 := Tryz.zeroValue236
  t45 := Tryz.underlying475
  a45 := Tryz.isAgg475
  z45 := Tryz.sizeOf475
  v45 := Tryz.zeroValue475
  t46 := Tryz.underlying476
  a46 := Tryz.isAgg476
  z46 := Tryz.sizeOf476
  v46 := Tryz.zeroValue476
  t50 := Tryz.underlying60
  a50 := Tryz.isAgg60
  z50 := Tryz.sizeOf60
  v50 := Tryz.zeroValue60
  t53 := Tryz.underlying482
  a53 := Tryz.isAgg482
  z53 := Tryz.sizeOf482
  v53 := Tryz.zeroValue482
  t55 := Tryz.underlying484
  a55 := Tryz.isAgg484
  z55 := Tryz.sizeOf484
  v55 := Tryz.zeroValue484
  t66 := Tryz.underlying555
  a66 := Tryz.isAgg555
  z66 := Tryz.sizeOf555
  v66 := Tryz.zeroValue555
  t70 := Tryz.underlying559
  a70 := Tryz.isAgg559
  z70 := Tryz.sizeOf559
  v70 := Tryz.zeroValue559
  t76 := Tryz.underlying657
  a76 := Tryz.isAgg657
  z76 := Tryz.sizeOf657
  v76 := Tryz.zeroValue657
  t77 := Tryz.underlying307
  a77 := Tryz.isAgg307
  z77 := Tryz.sizeOf307
  v77 := Tryz.zeroValue307 }
def Tryz.sort148_ren : Go.Shelf.Ren := ⟨fun | 6 => 148 | 15 => 181 | 14 => 265 | 28 => 292 | 29 => 293 | 20 => 358 | 21 => 359 | 22 => 360 | 23 => 361 | 24 => 362 | 25 => 363 | 26 => 364 | 27 => 365 | 46 => 449 | 47 => 381 | 48 => 382 | 49 => 450 | 50 => 451 | 57 => 510 | n => n, fun | 22 => 191 | 24 => 195 | 25 => 325 | 3 => 3 | 39 => 236 | 0 => 0 | 53 => 482 | 55 => 484 | 4 => 4 | 46 => 476 | 45 => 475 | 50 => 60 | 5 => 5 | 9 => 9 | 66 => 555 | 70 => 559 | 76 => 657 | 77 => 307 | n => n, fun | n => n⟩
theorem Tryz.sort148 : Go.Proofs.SlLaysF0.n6 Tryz.prog Tryz.sort148_ren := {
  mixed := by kernel_rfl
  f6 := ⟨Tryz.f148.name, by decide, Tryz.func148.trans (congrArg some (by kernel_rfl))⟩
  f14 := ⟨Tryz.f265.name, by decide, Tryz.func265.trans (congrArg some (by kernel_rfl))⟩
  f15 := Tryz.func181.trans (congrArg some (by kernel_rfl))
  f20 := ⟨Tryz.f358.name, by decide, Tryz.func358.trans (congrArg some (by kernel_rfl))⟩
  f21 := ⟨Tryz.f359.name, by decide, Tryz.func359.trans (congrArg some (by kernel_rfl))⟩
  f22 := ⟨Tryz.f360.name, by decide, Tryz.func360.trans (congrArg some (by kernel_rfl))⟩
  f23 := ⟨Tryz.f361.name, by decide, Tryz.func361.trans (congrArg some (by kernel_rfl))⟩
  f24 := ⟨Tryz.f362.name, by decide, Tryz.func362.trans (congrArg some (by kernel_rfl))⟩
  f25 := ⟨Tryz.f363.name, by decide, Tryz.func363.trans (congrArg some (by kernel_rfl))⟩
  f26 := ⟨Tryz.f364.name, by decide, Tryz.func364.trans (congrArg some (by kernel_rfl))⟩
  f27 := ⟨Tryz.f365.name, by decide, Tryz.func365.trans (congrArg some (by kernel_rfl))⟩
  f28 := Tryz.func292.trans (congrArg some (by kernel_rfl))
  f29 := Tryz.func293.trans (congrArg some (by kernel_rfl))
  f46 := ⟨Tryz.f449.name, by decide, Tryz.func449.trans (congrArg some (by kernel_rfl))⟩
  f47 := Tryz.func381.trans (congrArg some (by kernel_rfl))
  f48 := Tryz.func382.trans (congrArg some (by kernel_rfl))
  f49 := ⟨Tryz.f450.name, by decide, Tryz.func450.trans (congrArg some (by kernel_rfl))⟩
  f50 := ⟨Tryz.f451.name, by decide, Tryz.func451.trans (congrArg some (by kernel_rfl))⟩
  f57 := ⟨Tryz.f510.name, by decide, Tryz.func510.trans (congrArg some (by kernel_rfl))⟩
  t0 := Tryz.underlying0
  a0 := Tryz.isAgg0
  z0 := Tryz.sizeOf0
  v0 := Tryz.zeroValue0
  t3 := Tryz.underlying3
  a3 := Tryz.isAgg3
  z3 := Tryz.sizeOf3
  v3 := Tryz.zeroValue3
  t4 := Tryz.underlying4
  a4 := Tryz.isAgg4
  z4 := Tryz.sizeOf4
  v4 := Tryz.zeroValue4
  t5 := Tryz.underlying5
  a5 := Tryz.isAgg5
  z5 := Tryz.sizeOf5
  v5 := Tryz.zeroValue5
  t9 := Tryz.underlying9
  a9 := Tryz.isAgg9
  z9 := Tryz.sizeOf9
  v9 := Tryz.zeroValue9
  t22 := Tryz.underlying191
  a22 := Tryz.isAgg191
  z22 := Tryz.sizeOf191
  v22 := Tryz.zeroValue191
  t25 := Tryz.underlying325
  a25 := Tryz.isAgg325
  z25 := Tryz.sizeOf325
  v25 := Tryz.zeroValue325
  t39 := Tryz.underlying236
  a39 := Tryz.isAgg236
  z39 := Tryz.sizeOf236
  v39 := Tryz.zeroValue236
  t45 := Tryz.underlying475
  a45 := Tryz.isAgg475
  z45 := Tryz.sizeOf475
  v45 := Tryz.zeroValue475
  t46 := Tryz.underlying476
  a46 := Tryz.isAgg476
  z46 := Tryz.sizeOf476
  v46 := Tryz.zeroValue476
  t50 := Tryz.underlying60
  a50 := Tryz.isAgg60
  z50 := Tryz.sizeOf60
  v50 := Tryz.zeroValue60
  t53 := Tryz.underlying482
  a53 := Tryz.isAgg482
  z53 := Tryz.sizeOf482
  v53 := Tryz.zeroValue482
  t55 := Tryz.underlying484
  a55 := Tryz.isAgg484
  z55 := Tryz.sizeOf484
  v55 := Tryz.zeroValue484
  t66 := Tryz.underlying555
  a66 := Tryz.isAgg555
  z66 := Tryz.sizeOf555
  v66 := Tryz.zeroValue555
  t70 := Tryz.underlying559
  a70 := Tryz.isAgg559
  z70 := Tryz.sizeOf559
  v70 := Tryz.zeroValue559
  t76 := Tryz.underlying657
  a76 := Tryz.isAgg657
  z76 := Tryz.sizeOf657
  v76 := Tryz.zeroValue657
  t77 := Tryz.underlying307
  a77 := Tryz.isAgg307
  z77 := Tryz.sizeOf307
  v77 := Tryz.zeroValue307 }
end Go.Proofs

/- The abstract machine, part Kl: the kit's contracts for keys, in the abstract machine's words. -/
namespace Go.Ev
open Go.Proofs Go.RowKit Go.Maps Go.Sort Go.Shelf
open Go.WideElems (Fit rd rg rd_mk rg_of)

def anyR : Value → Option (DataW Unit × List MemPlace) := fun _ => some (.nil, [])
theorem rg_any {P : Program} {k : TypeId} {x : MapEntry} {l : Lit} (h : keyOf P k x.key = some l) : rd P k anyR x = some (l, .nil) ∧ rg P k anyR x = (l, .nil) := by
  have e : rd P k anyR x = some (l, .nil) := by
    obtain ⟨key, val, born⟩ := x
    exact rd_mk (yv := (.nil, [])) h rfl
  exact ⟨e, rg_of e⟩
theorem own_any {P : Program} {k : TypeId} {w : World} {b clk : Nat} {es : Array MapEntry} (hb : w.heap[b]? = some (.map es clk)) (hs : Borns es.toList clk) (hnd : (es.toList.map (·.key)).Nodup) (hz : es.size ≤ 1000000) (f : MapEntry → Lit) (hk : ∀ x ∈ es.toList, keyOf P k x.key = some (f x)) :
    ∃ D : DataW Unit, w.ownsMap P k anyR b es.size D ∧ Maps.size D = es.size ∧ ∃ l : List (Lit × DataW Unit), D = .map l ∧ l.Perm (es.toList.map fun x => (f x, .nil)) := by
  have hm : es.toList.map (rg P k anyR) = es.toList.map fun x => (f x, (.nil : DataW Unit)) := List.map_congr_left fun x hx => (rg_any (hk x hx)).2
  refine ⟨_, ⟨es, clk, hb, ⟨?_, ?_, fun x hx => ⟨_, (rg_any (hk x hx)).1⟩⟩, Nat.le_refl _, rfl⟩, ?_, _, rfl, ?_⟩
  · exact Nat.le_trans hz (by decide)
  · exact ⟨hs.1, List.pairwise_map.2 hs.2, hnd⟩
  · show List.length _ = _
    rw [length_sorted]; simp
  · rw [hm]; exact Go.WideShapes.sorted_perm _

theorem nodup_keys_i {ks s : List Int} (hp : s.Perm ks) (hs : s.Pairwise (· < ·)) : (ks.map (Value.int .i64)).Nodup := by
  have h1 : s.Nodup := hs.imp fun {a b} h => by omega
  exact List.pairwise_map.2 ((hp.nodup_iff.1 h1).imp fun {a b} h e => h (by simpa using e))
theorem nodup_keys_s {ks s : List (List UInt8)} (hp : s.Perm ks) (hs : s.Pairwise (· < ·)) : (ks.map fun l => Value.string ⟨l.toArray⟩).Nodup := by
  have h1 : s.Nodup := hs.imp fun {a b} h e => by rw [e] at h; exact List.lt_irrefl b h
  exact List.pairwise_map.2 ((hp.nodup_iff.1 h1).imp fun {a b} h e => h (by simpa using e))

/-- What came, in order: one list only. -/
theorem merged_i {ss s ks : List Int} (h1 : ss.Perm ks) (h2 : s.Perm ks) (h3 : s.Pairwise (· < ·)) : ss.mergeSort (fun x y => decide (x ≤ y)) = s := by
  rw [mergeSort_of_perm_i (h1.trans h2.symm)]
  exact List.mergeSort_of_pairwise (h3.imp fun {a b} h => by simp; omega)
theorem merged_s {ss s ks : List (List UInt8)} (h1 : ss.Perm ks) (h2 : s.Perm ks) (h3 : s.Pairwise (· < ·)) : ss.mergeSort (fun x y => decide (x ≤ y)) = s := by
  rw [mergeSort_of_perm (h1.trans h2.symm)]
  exact List.mergeSort_of_pairwise (h3.imp fun {a b} h => by simpa using List.le_of_lt h)

theorem end_row {w w' : World} {e : TypeId} {v : Value} {n : Nat} {xs us : List Value} (hx : xs = us) (hn : n = us.length) (hrow : w'.ownsRow w.heap.size e 1 v n xs) (hnil : v = .slice none 0 0 ↔ n = 0) (hb : Below w.heap.size w w') :
    w.heap.size ≤ w'.heap.size ∧ (∀ i, i < w.heap.size → w'.heap[i]? = w.heap[i]?) ∧ w'.os = w.os ∧ w'.tape = w.tape ∧ w'.output = w.output ∧
      ((us = [] ∧ v = .slice none 0 0) ∨ (us ≠ [] ∧ ∃ gb cap cur, v = .slice (some ⟨gb, 0, none⟩) us.length cap ∧ w.heap.size ≤ gb ∧ w'.heap[gb]? = some (.cells cur e (0, 0)) ∧ us.length ≤ cap ∧ cur.size = cap ∧ cur.toList.take us.length = us)) := by
  refine ⟨hb.size, hb.block, hb.os, hb.tape, hb.output, ?_⟩
  subst hx
  rcases hrow.2 with ⟨h1, h2⟩ | ⟨g, cap, cur, h1, h2, h3, h4, h5, h6, h7⟩
  · left
    exact ⟨List.eq_nil_of_length_eq_zero (by rw [← hn]; exact h2), h1⟩
  · right
    refine ⟨fun h0 => ?_, g, cap, cur, by rw [h1, hn], h2, h3, by rw [← hn]; exact h4, by simpa using h6, by rw [hn, Nat.mul_one] at h7; exact h7⟩
    have : v = .slice none 0 0 := hnil.2 (by rw [hn, h0]; rfl)
    rw [h1] at this; cases this

theorem kl_int {P : Program} {ρk ρs : Go.Shelf.Ren} (Lk : SlLaysZI.n10 P ρk) (Ls : SlLaysZI.n6 P ρs) (hs : ∀ m, AnyZI.SortsIn P ρs Fence.wide m) (e9 : ∀ args w, (callFunc (ρs.f 9) args).run P w = .ok (.enter (ρs.f 9) args) w)
    (eg : ∀ args w, (callFunc (ρk.f 10) args).run P w = .ok (.enter (ρk.f 10) args) w) (hk : P.underlying (ρk.t 26) = some (.int .i64)) : KeysLaw P (ρs.f 6) (ρk.f 10) (ρs.t 26) true := by
  refine ⟨fun w bm b clk es us hbm hcell hmap hbo hsz hsk => ?_, fun w bm hbm hcell => ?_⟩
  · obtain ⟨ks, s, g1, rfl, g3, g4, g5⟩ := hsk
    have hkey : ∀ x ∈ es.toList, ∃ n, x.key = .int .i64 n ∧ -9223372036854775808 ≤ n ∧ n < 9223372036854775808 := fun x hx => by
      have : x.key ∈ ks.map (Value.int .i64) := by rw [← g1]; exact List.mem_map.2 ⟨x, hx, rfl⟩
      obtain ⟨n, hn, e⟩ := List.mem_map.1 this
      exact ⟨n, e.symm, g5 n hn⟩
    let f : MapEntry → Lit := fun x => match x.key with | .int _ n => .int .i64 n | _ => .bool false
    obtain ⟨D, hown, hD1, l, rfl, hD2⟩ := own_any (P := P) (k := ρk.t 26) hmap hbo (by rw [g1]; exact nodup_keys_i g3 g4) hsz f (fun x hx => by
      obtain ⟨n, e, h1, h2⟩ := hkey x hx
      show keyOf P (ρk.t 26) x.key = some (match x.key with | .int _ n => .int .i64 n | _ => .bool false)
      rw [e]
      exact keyOf_int_mk hk (by simp [Lit.wf, IntKind.min, IntKind.max, IntKind.bits, IntKind.signed]; omega))
    have hkp : (intKeys (DataW.map l)).Perm ks := by
      show (l.map fun p => intOf p.1).Perm ks
      refine (hD2.map _).trans ?_
      rw [List.map_map]
      have : es.toList.map ((fun p : Lit × DataW Unit => intOf p.1) ∘ fun x => (f x, .nil)) = ks := by
        have h2 : (es.toList.map (·.key)).map (fun v => match v with | .int _ n => n | _ => 0) = ks := by
          rw [g1, List.map_map]
          conv => rhs; rw [← List.map_id ks]
          rfl
        rw [← h2, List.map_map]
        apply List.map_congr_left
        intro x hx
        obtain ⟨n, e, _⟩ := hkey x hx
        simp [f, e, intOf]
      rw [this]
    have hseq := AnyZI.keys_gives (ρ := ρk) Lk Fence.wide 2 trivial rfl (by omega) bm b es.size _ w hbm hcell hown
    have h := AnyZI.sorted_in Ls Fence.wide 5 trivial trivial trivial trivial rfl (by omega) (hs _) e9 (ρk.f 10) #[.pointer (some ⟨bm, 0, none⟩)] trivial eg _ _ (by rw [hD1]; exact Nat.le_trans hsz (by decide)) (by rw [hD1]; omega) w hseq
    refine (callsIn_wide.1 h).mono ?_
    rintro r w' ⟨v, ss, rfl, hp, hrow, hnil, hb⟩
    have hm := merged_i (hp.trans hkp) g3 g4
    have hl : ss.length = (s.map (Value.int .i64)).length := by rw [List.length_map]; exact ((hp.trans hkp).trans g3.symm).length_eq
    exact ⟨v, rfl, end_row (by rw [hm]) hl hrow (hnil.trans ⟨fun h => by rw [h]; rfl, fun h => List.eq_nil_of_length_eq_zero h⟩) hb⟩
  · have hseq := AnyZI.keys_gives_nil (ρ := ρk) Lk Fence.wide 2 trivial rfl bm w hbm hcell
    have h := AnyZI.sorted_in Ls Fence.wide 5 trivial trivial trivial trivial rfl (by omega) (hs _) e9 (ρk.f 10) #[.pointer (some ⟨bm, 0, none⟩)] trivial eg _ _ (by decide) (by decide) w hseq
    refine (callsIn_wide.1 h).mono ?_
    rintro r w' ⟨v, ss, rfl, rfl, hrow, hnil, hb⟩
    exact ⟨by rw [hnil.2 rfl], hb.size, hb.block, hb.os, hb.tape, hb.output⟩

theorem kl_str {P : Program} {ρk ρs : Go.Shelf.Ren} (Lk : SlLaysZ.n10 P ρk) (Ls : SlLaysZ.n6 P ρs) (hs : ∀ m, AnyZ.SortsIn P ρs Fence.wide m) (e9 : ∀ args w, (callFunc (ρs.f 9) args).run P w = .ok (.enter (ρs.f 9) args) w)
    (eg : ∀ args w, (callFunc (ρk.f 10) args).run P w = .ok (.enter (ρk.f 10) args) w) (hk : P.underlying (ρk.t 26) = some .string) : KeysLaw P (ρs.f 6) (ρk.f 10) (ρs.t 26) false := by
  refine ⟨fun w bm b clk es us hbm hcell hmap hbo hsz hsk => ?_, fun w bm hbm hcell => ?_⟩
  · obtain ⟨ks, s, g1, rfl, g3, g4, g5⟩ := hsk
    have hkey : ∀ x ∈ es.toList, ∃ n : List UInt8, x.key = .string ⟨n.toArray⟩ ∧ n.length ≤ 1000000 := fun x hx => by
      have : x.key ∈ ks.map (fun l => Value.string ⟨l.toArray⟩) := by rw [← g1]; exact List.mem_map.2 ⟨x, hx, rfl⟩
      obtain ⟨n, hn, e⟩ := List.mem_map.1 this
      exact ⟨n, e.symm, g5 n hn⟩
    let f : MapEntry → Lit := fun x => match x.key with | .string s => .string s.data.toList | _ => .bool false
    obtain ⟨D, hown, hD1, l, rfl, hD2⟩ := own_any (P := P) (k := ρk.t 26) hmap hbo (by rw [g1]; exact nodup_keys_s g3 g4) hsz f (fun x hx => by
      obtain ⟨n, e, h1⟩ := hkey x hx
      show keyOf P (ρk.t 26) x.key = some (match x.key with | .string s => .string s.data.toList | _ => .bool false)
      rw [e]
      have hle : n.length ≤ maxLen := Nat.le_trans h1 (by decide)
      simp [keyOf, hk, mapKey, ByteArray.size, hle])
    have hkp : (strKeys (DataW.map l)).Perm ks := by
      show (l.map fun p => strOf p.1).Perm ks
      refine (hD2.map _).trans ?_
      rw [List.map_map]
      have : es.toList.map ((fun p : Lit × DataW Unit => strOf p.1) ∘ fun x => (f x, .nil)) = ks := by
        have h2 : (es.toList.map (·.key)).map (fun v => match v with | .string s => s.data.toList | _ => []) = ks := by
          rw [g1, List.map_map]
          conv => rhs; rw [← List.map_id ks]
          apply List.map_congr_left
          intro x _
          simp
        rw [← h2, List.map_map]
        apply List.map_congr_left
        intro x hx
        obtain ⟨n, e, _⟩ := hkey x hx
        simp [f, e, strOf]
      rw [this]
    have hseq := AnyZ.keys_gives (ρ := ρk) Lk Fence.wide 2 trivial rfl (by omega) bm b es.size _ w hbm hcell hown
    have h := AnyZ.sorted_in Ls Fence.wide 5 trivial trivial trivial trivial rfl (by omega) (hs _) e9 (ρk.f 10) #[.pointer (some ⟨bm, 0, none⟩)] trivial eg _ _ (by rw [hD1]; exact Nat.le_trans hsz (by decide)) (by rw [hD1]; omega) w hseq
    refine (callsIn_wide.1 h).mono ?_
    rintro r w' ⟨v, ss, rfl, hp, hrow, hnil, hb⟩
    have hm := merged_s (hp.trans hkp) g3 g4
    have hl : ss.length = (s.map fun l => Value.string ⟨l.toArray⟩).length := by rw [List.length_map]; exact ((hp.trans hkp).trans g3.symm).length_eq
    exact ⟨v, rfl, end_row (by rw [hm]) hl hrow (hnil.trans ⟨fun h => by rw [h]; rfl, fun h => List.eq_nil_of_length_eq_zero h⟩) hb⟩
  · have hseq := AnyZ.keys_gives_nil (ρ := ρk) Lk Fence.wide 2 trivial rfl bm w hbm hcell
    have h := AnyZ.sorted_in Ls Fence.wide 5 trivial trivial trivial trivial rfl (by omega) (hs _) e9 (ρk.f 10) #[.pointer (some ⟨bm, 0, none⟩)] trivial eg _ _ (by decide) (by decide) w hseq
    refine (callsIn_wide.1 h).mono ?_
    rintro r w' ⟨v, ss, rfl, rfl, hrow, hnil, hb⟩
    exact ⟨by rw [hnil.2 rfl], hb.size, hb.block, hb.os, hb.tape, hb.output⟩

end Go.Ev

/- The abstract machine, part Sw: what is asked of a sort by a comparer. -/
namespace Go.Ev
open Go.Proofs Go.Sort

/-- slices.SortFunc of elements of k cells each. -/
def KitSort (P : Program) (f k : Nat) : Prop :=
  ∀ {α : Type} [Inhabited α] (enc : α → List Value), (∀ x, (enc x).length = k) → (∀ x, ∀ v ∈ enc x, v.oneCell' = true) → ∀ (cf : α → α → Int), SWO (ltOf cf) → ∀ (g : Nat) (cb : Array Value) (blk off cap : Nat) (d : Array α) (w : World),
    (∀ args w, (callFunc g args).run P w = .ok (.enter g args) w) → CmpLays P g cb enc k cf blk off d.size w → HoldsK enc k w blk off d → blk < w.heap.size → d.size < 4611686018427387904 →
    Calls P f #[.slice (some ⟨blk, off, none⟩) d.size cap, .func (.func g) #[] cb] w fun e w' =>
      e = .returned (.tuple #[]) ∧ ∃ d' n os, PermIn 0 d.size d d' ∧ SortedIn (ltOf cf) 0 d.size d' ∧ w' = sortWorldK enc k w blk off n d' os

theorem sortLaw {P : Program} {ρ : Go.Shelf.Ren} (L : SlLaysF0.n6 P ρ) {k : Nat} (aE : ∀ w, (isAgg (ρ.t 24)).run P w = .ok true w) (zE : ∀ w, (Go.sizeOf (ρ.t 24)).run P w = .ok k w)   : KitSort P (ρ.f 6) k :=
  fun enc hk h1 cf hO g cb blk off cap d w eg hcmp hH hblk hsz => AnyQ.slices_SortFunc L k aE zE enc hk h1 cf hO g cb blk off cap d w eg hcmp hH hblk hsz

/-! ### One order only -/
theorem sorted_one {α : Type} {rk : α → Nat} (inj : ∀ x y, rk x = rk y → x = y) : ∀ {l m : List α}, l.Perm m → l.Pairwise (fun a b => ¬ rk b < rk a) → m.Pairwise (fun a b => rk a < rk b) → l = m
  | [], m, hp, _, _ => (List.nil_perm.1 hp).symm
  | x :: l, [], hp, _, _ => by have := hp.length_eq; simp at this
  | x :: l, y :: m, hp, hl, hm => by
    obtain ⟨l1, l2⟩ := List.pairwise_cons.1 hl
    obtain ⟨m1, m2⟩ := List.pairwise_cons.1 hm
    have hxy : x = y := by
      have h1 : x ∈ y :: m := hp.mem_iff.1 List.mem_cons_self
      have h2 : y ∈ x :: l := hp.mem_iff.2 List.mem_cons_self
      rcases List.mem_cons.1 h1 with h | h
      · exact h
      · rcases List.mem_cons.1 h2 with h' | h'
        · exact h'.symm
        · exact absurd (m1 x h) (l1 y h')
    subst hxy
    rw [sorted_one inj (List.Perm.cons_inv hp) l2 m2]
theorem swo_rk {α : Type} {cf : α → α → Int} {rk : α → Nat} (h : ∀ x y, cf x y < 0 ↔ rk x < rk y) : SWO (ltOf cf) := by
  have e : ∀ x y, ltOf cf x y = decide (rk x < rk y) := fun x y => by
    unfold ltOf
    simp only [h x y]
  refine ⟨fun x => by rw [e]; simp, fun x y z h1 h2 => ?_, fun x y z h1 h2 => ?_⟩
  · rw [e] at *
    simp only [decide_eq_true_eq] at *
    omega
  · rw [e] at *
    simp only [decide_eq_false_iff_not] at *
    omega
end Go.Ev

/- The abstract machine, part Sz: the kit's sort, in the abstract machine's words. -/
namespace Go.Ev
open Go.Proofs Go.Sort

theorem flatMap_len {α : Type} {k : Nat} {f : α → List Value} (hf : ∀ x, (f x).length = k) : ∀ l : List α, (l.flatMap f).length = l.length * k
  | [] => by simp
  | x :: xs => by simp [hf, flatMap_len hf xs, Nat.add_mul]; omega

theorem flatMap_at {α : Type} {k : Nat} {f : α → List Value} (hf : ∀ x, (f x).length = k) : ∀ (l : List α) (i : Nat) (x : α), l[i]? = some x → ((l.flatMap f).drop (i * k)).take k = f x
  | [], i, x, h => by simp at h
  | y :: ys, 0, x, h => by
    simp at h; subst h
    simp [← hf y]
  | y :: ys, i + 1, x, h => by
    simp at h
    have ih := flatMap_at hf ys i x h
    have e : (i + 1) * k = (f y).length + i * k := by rw [hf, Nat.add_mul]; omega
    rw [List.flatMap_cons, e, List.drop_length_add_append]
    exact ih


/-- One block is turned, all else is as it was. -/
structure Turned (w w' : World) (r : Nat) : Prop where
  size : w.heap.size ≤ w'.heap.size
  same : ∀ i, i < w.heap.size → i ≠ r → w'.heap[i]? = w.heap[i]?
  os : w'.os = w.os
  tape : w'.tape = w.tape
  output : w'.output = w.output

theorem flatK_list {α : Type} [Inhabited α] {enc : α → List Value} {k : Nat} (hk : ∀ x, (enc x).length = k) (d : Array α) : (flatK enc k d).toList = d.toList.flatMap enc := by
  apply List.ext_getElem?
  intro t
  rcases Nat.lt_or_ge t (d.size * k) with h | h
  · have k0 : 0 < k := by
      rcases Nat.eq_zero_or_pos k with h0 | h0
      · subst h0; simp at h
      · exact h0
    have hd : t / k < d.size := (Nat.div_lt_iff_lt_mul k0).2 h
    have hx : d.toList[t / k]? = some d[t / k]! := by
      rw [getElem!_pos d _ hd]; simp [hd]
    have h2 := flatMap_at hk d.toList (t / k) _ hx
    have h3 : t = t / k * k + t % k := by have := Nat.div_add_mod t k; rw [Nat.mul_comm] at this; omega
    have h4 : (d.toList.flatMap enc)[t]? = (enc d[t / k]!)[t % k]? := by
      rw [← h2, List.getElem?_take_of_lt (Nat.mod_lt t k0), List.getElem?_drop, ← h3]
    rw [h4]
    have hm : t % k < (enc d[t / k]!).length := by rw [hk]; exact Nat.mod_lt t k0
    have h5 : (flatK enc k d)[t]? = some (flatK enc k d)[t]! := by
      rw [getElem!_pos _ t (by simpa using h)]; simp [h]
    rw [Array.getElem?_toList, h5, get_flatK _ _ _ _ h, getElem!_pos (enc d[t / k]!) (t % k) hm, List.getElem?_eq_getElem hm]
  · rw [List.getElem?_eq_none (by simpa using h), List.getElem?_eq_none (by rw [flatMap_len hk]; simpa using h)]

theorem take_put (F c : Array Value) (h : F.size ≤ c.size) : (putCells id 0 F c).toList.take F.size = F.toList := by
  apply List.ext_getElem?
  intro i
  rw [List.getElem?_take]
  split
  · rename_i hi
    have hc : i < c.size := by omega
    simp [putCells, Array.getElem?_mapIdx, hi, hc]
  · rename_i hi
    rw [List.getElem?_eq_none (by simpa using hi)]

theorem sortW_at {α : Type} [Inhabited α] (enc : α → List Value) (k : Nat) (w : World) (r m : Nat) (d : Array α) (os : Array Obj) {c : Array Value} {T : TypeId} (hw : w.heap[r]? = some (.cells c T (0, 0))) :
    (sortWorldK enc k w r 0 m d os).heap[r]? = some (.cells (putCells id 0 (flatK enc k d) c) T (0, 0)) ∧ Turned w (sortWorldK enc k w r 0 m d os) r := by
  have hlt : r < w.heap.size := (Array.getElem?_eq_some_iff.1 hw).1
  have hg : ∀ i, i < w.heap.size → (sortWorldK enc k w r 0 m d os).heap[i]? = (w.heap.modify r (onCells (putCells id 0 (flatK enc k d))))[i]? := fun i hi => by
    show (_ ++ os)[i]? = _
    rw [Array.getElem?_append_left (by simpa [putRowK, putRow, mapBlock, Go.Sort.ahead] using hi)]
    rfl
  refine ⟨?_, ⟨?_, fun i hi hne => ?_, rfl, rfl, rfl⟩⟩
  · rw [hg r hlt, Array.getElem?_modify, if_pos rfl, hw]; rfl
  · show _ ≤ (_ ++ os).size
    rw [Array.size_append]
    have : (putRowK enc k (Go.Sort.ahead w m) r 0 d).heap.size = w.heap.size := by simp [putRowK, putRow, mapBlock, Go.Sort.ahead]
    omega
  · rw [hg i hi, Array.getElem?_modify, if_neg (fun e => hne e.symm)]


theorem sort_own {P : Program} {f k : Nat} (h : KitSort P f k) : SortLaw P f k := by
  intro α _ enc rk cf hk h1 inj hcf g l m w r cap c T hfn hlm hm hll hw hcs hfl hcl
  obtain ⟨fn, cd, hf1, hf2, hf3⟩ := hfn
  have hf3' : ¬ fn.name = "runtime.NumGoroutine" := by simpa using hf3
  have eg : ∀ args w, (callFunc g args).run P w = .ok (.enter g args) w := fun args w => by simp [callFunc, hf1, hf2, hf3']
  have hlen : (l.flatMap enc).length = l.length * k := flatMap_len hk l
  have hlt : r < w.heap.size := (Array.getElem?_eq_some_iff.1 hw).1
  have hH : HoldsK enc k w r 0 l.toArray := by
    intro j hj
    rw [size_flatK] at hj
    have hj' : j < l.length * k := by simpa using hj
    have e1 : (flatK enc k l.toArray).toList = c.toList.take (l.length * k) := by
      rw [flatK_list hk, hfl]
    have e2 : c[j]? = some (flatK enc k l.toArray)[j]! := by
      have e3 : (flatK enc k l.toArray)[j]? = some (flatK enc k l.toArray)[j]! := by
        rw [getElem!_pos _ j (by simpa using hj')]; simp [hj']
      rw [← e3, ← Array.getElem?_toList, ← Array.getElem?_toList, e1, List.getElem?_take_of_lt hj']
    refine ⟨?_, ?_⟩
    · simp [World.cell?, hw, e2]
    · simp [World.frozen?, hw]
  have hcmp : CmpLays P g #[] enc k cf r 0 l.toArray.size w := fun m2 os dk _ x y => by
    obtain ⟨_, g2⟩ := sortW_at enc k w r m2 dk os hw
    refine (hcl (sortWorldK enc k w r 0 m2 dk os) g2.size x y).mono ?_
    rintro e w' ⟨rfl, G⟩
    generalize sortWorldK enc k w r 0 m2 dk os = W1 at G
    refine ⟨rfl, w'.drawn - W1.drawn, w'.heap.extract W1.heap.size w'.heap.size, ?_⟩
    have hh : w'.heap = W1.heap ++ w'.heap.extract W1.heap.size w'.heap.size := by
      apply Array.ext_getElem?
      intro i
      rw [Array.getElem?_append]
      split
      · rename_i hi; exact G.same i hi
      · rename_i hi
        rw [Array.getElem?_extract]
        have hge : W1.heap.size ≤ i := by omega
        split
        · rw [show W1.heap.size + (i - W1.heap.size) = i by omega]
        · rename_i h2
          rw [Array.getElem?_eq_none]
          have := G.size
          omega
    have hd : W1.drawn + (w'.drawn - W1.drawn) = w'.drawn := by have := G.dr; omega
    obtain ⟨a1, a2, a3, a4, a5⟩ := w'
    obtain ⟨b1, b2, b3, b4, b5⟩ := W1
    have e1 := G.os; have e2 := G.tape; have e3 := G.output
    simp only at e1 e2 e3 hh hd
    subst e1; subst e2; subst e3
    simp only [grow, World.drewN]
    rw [← hh, hd]
  have h2 := h enc hk h1 cf (swo_rk hcf) g #[] r 0 cap l.toArray w eg hcmp hH hlt (by simpa using hll)
  have hsz : l.toArray.size = l.length := by simp
  rw [hsz] at h2
  refine h2.mono ?_
  rintro e w' ⟨rfl, d', m2, os, hp, hs, rfl⟩
  obtain ⟨g1, g2⟩ := sortW_at enc k w r m2 d' os hw
  have hds : d'.size = l.length := by simpa using hp.1
  have hperm : d'.toList.Perm l := by
    have := hp.2.2
    rw [Array.extract_eq_self_of_le (by simp [hds]), Array.extract_eq_self_of_le (by simp)] at this
    simpa using this
  have hpw : d'.toList.Pairwise (fun a b => ¬ rk b < rk a) := by
    rw [List.pairwise_iff_getElem]
    intro i j hi hj hij
    have hi' : i < d'.size := by simpa using hi
    have hj' : j < d'.size := by simpa using hj
    have := hs i j (Nat.zero_le _) hij (by simpa [hds] using hj')
    rw [getElem!_pos d' i hi', getElem!_pos d' j hj'] at this
    unfold ltOf at this
    simp only [decide_eq_false_iff_not, hcf] at this
    simpa using this
  have hone : d'.toList = m := sorted_one inj (hperm.trans hlm) hpw hm
  have hf : (flatK enc k d').size = l.length * k := by rw [size_flatK, hds]
  have hput := take_put (flatK enc k d') c (by rw [hf]; exact hcs)
  rw [hf] at hput
  refine ⟨rfl, _, g1, by simp [putCells], ?_, g2.size, g2.same, g2.os, g2.tape, g2.output, ?_⟩
  · rw [hput, flatK_list hk, hone]
  · show w.drawn ≤ w.drawn + m2
    omega

end Go.Ev

/- The abstract machine at this program: sorts and keys, by the shelf's contracts. -/
namespace Go.Ev
open Go.Proofs Go.Sort Go.Shelf

theorem sf84 : SortLaw Tryz.prog 84 20 := sort_own (sortLaw Tryz.sort84 (fun w => run_isAgg Tryz.underlying106 w) (fun w => run_sizeOf (E0_ok.ty 106 _ _ rfl).1 w))
theorem sf399 : SortLaw Tryz.prog 399 4 := sort_own (sortLaw Tryz.sort399 (fun w => run_isAgg Tryz.underlying100 w) (fun w => run_sizeOf (E0_ok.ty 100 _ _ rfl).1 w))
theorem sf401 : SortLaw Tryz.prog 401 2 := sort_own (sortLaw Tryz.sort401 (fun w => run_isAgg Tryz.underlying117 w) (fun w => run_sizeOf (E0_ok.ty 117 _ _ rfl).1 w))
theorem sf472 : SortLaw Tryz.prog 472 18 := sort_own (sortLaw Tryz.sort472 (fun w => run_isAgg Tryz.underlying102 w) (fun w => run_sizeOf (E0_ok.ty 102 _ _ rfl).1 w))
theorem sf148 : SortLaw Tryz.prog 148 2 := sort_own (sortLaw Tryz.sort148 (fun w => run_isAgg Tryz.underlying195 w) (fun w => run_sizeOf (E0_ok.ty 195 _ _ rfl).1 w))

theorem sorts129 (m : Nat) : AnyZI.SortsIn Tryz.prog Tryz.sorted129_ren Fence.wide m :=
  ⟨fun blk off cap ss W hH hblk hsz => callsIn_wide.2 (AnyM.slices_Sort_int Tryz.sort172 blk off cap ss W hH hblk hsz), fun p cap W => callsIn_wide.2 (AnyM.slices_Sort_int_none Tryz.sort172 p cap W)⟩
theorem sorts132 (m : Nat) : AnyZ.SortsIn Tryz.prog Tryz.sorted132_ren Fence.wide m :=
  ⟨fun blk off cap ss W hH hblk hsz => callsIn_wide.2 (AnyM.slices_Sort_string Tryz.sort243 blk off cap ss W hH hblk hsz), fun p cap W => callsIn_wide.2 (AnyM.slices_Sort_string_none Tryz.sort243 p cap W)⟩

theorem kf240 : KeysLaw Tryz.prog 129 240 3 true :=
  kl_int (ρk := Tryz.keys130_ren) (ρs := Tryz.sorted129_ren) { Tryz.keys130 with } Tryz.sorted129 sorts129 (enters_of Tryz.func172 (by kernel_rfl) rfl) (enters_of Tryz.func240 (by kernel_rfl) rfl) Tryz.underlying3
theorem kf366 : KeysLaw Tryz.prog 129 366 3 true :=
  kl_int (ρk := Tryz.keys273_ren) (ρs := Tryz.sorted129_ren) { Tryz.keys273 with } Tryz.sorted129 sorts129 (enters_of Tryz.func172 (by kernel_rfl) rfl) (enters_of Tryz.func366 (by kernel_rfl) rfl) Tryz.underlying3
theorem kf244 : KeysLaw Tryz.prog 132 244 9 false :=
  kl_str (ρk := Tryz.keys133_ren) (ρs := Tryz.sorted132_ren) { Tryz.keys133 with } Tryz.sorted132 sorts132 (enters_of Tryz.func243 (by kernel_rfl) rfl) (enters_of Tryz.func244 (by kernel_rfl) rfl) Tryz.underlying9
theorem kf475 : KeysLaw Tryz.prog 132 475 9 false :=
  kl_str (ρk := Tryz.keys391_ren) (ρs := Tryz.sorted132_ren) { Tryz.keys391 with } Tryz.sorted132 sorts132 (enters_of Tryz.func243 (by kernel_rfl) rfl) (enters_of Tryz.func475 (by kernel_rfl) rfl) Tryz.underlying9

end Go.Ev

/- strings.Builder, told by contract: copyCheck; String, of a row of known bytes. -/
namespace Go.Ev
open Go.Proofs

noncomputable def ehCC (h : H) : List V → Option (V × H)
  | [.p (some (b, o))] =>
    match h.get b with
    | .cells [x, y] e g =>
      cond (Nat.beq o 0 && Nat.beq e 146 && !g)
        (match x with
         | .p none => some (.t [], h.set b (.cells [.p (some (b, 0)), y] 146 false))
         | .p (some (b', o')) => cond (Nat.beq b' b && Nat.beq o' 0) (some (.t [], h)) none
         | _ => none) none
    | _ => none
  | _ => none
noncomputable def ehStr (h : H) : List V → Option (V × H)
  | [.p (some (b, o))] =>
    match h.get b with
    | .cells [_, .sl none n _] e g => cond (Nat.beq o 0 && Nat.beq e 146 && !g && Nat.beq n 0) (some (.s [], h)) none
    | .cells [_, .sl (some (b2, o2)) n _] e g =>
      match h.get b2 with
      | .cells l e2 _ =>
        cond (Nat.beq o 0 && Nat.beq e 146 && !g && Nat.beq o2 0 && Nat.beq e2 5 && Nat.ble n l.length && Nat.blt 0 n && Nat.ble n 1000000)
          (match nats8 (l.take n) with
           | some ns => some (.s ns, h.set b2 .gone)
           | none => none) none
      | _ => none
    | _ => none
  | _ => none
noncomputable def eh2 (f : FuncId) (args : List V) (h : H) : Option (V × H) :=
  cond (Nat.beq f 105) (ehCC h args) (cond (Nat.beq f 49) (ehStr h args) none)

theorem ehCC_ok {φ : Ren} {h : H} {w : World} (hr : HR φ h w) {args : List V} {v : V} {h' : H} (e : ehCC h args = some (v, h')) {args' : List Value} (ha : VRs φ args args') (n : Nat) :
    CallsIn (W none) n Tryz.prog 105 args'.toArray w fun e w' => ∃ φ' u, e = .returned u ∧ Ext φ w φ' w' ∧ VR φ' v u ∧ HR φ' h' w' := by
  unfold ehCC at e
  split at e
  · rename_i b o
    split at e
    · rename_i x y te g hl
      cases hq : Nat.beq o 0 && Nat.beq te 146 && !g with
      | false => rw [hq] at e; cases e
      | true =>
        rw [hq] at e
        simp only [cond] at e
        simp only [Bool.and_eq_true, Bool.not_eq_true'] at hq
        obtain ⟨⟨q1, q2⟩, q3⟩ := hq
        have q1 := Nat.eq_of_beq_eq_true q1
        have q2 := Nat.eq_of_beq_eq_true q2
        subst q1; subst q2; subst q3
        simp only [VRs, VR] at ha
        obtain ⟨_, _, rfl, ⟨r, hb, rfl⟩, rfl⟩ := ha
        obtain ⟨ob, o1, o2⟩ := hr.blk b r hb (by rw [hl]; trivial)
        rw [hl] at o2
        obtain ⟨c, rfl, v1, l1, z1, _⟩ := o2
        replace z1 := z1 rfl
        rw [List.take_of_length_le (by rw [Array.length_toList, z1]; exact Nat.le_refl _)] at v1
        clear z1 l1
        simp only [VRs] at v1
        obtain ⟨ux, _, ec, hux, uy, _, rfl, huy, rfl⟩ := v1
        have hc : c = #[ux, uy] := Array.toList_inj.1 ec
        subst hc
        have hcell : w.cell? ⟨r, 0, none⟩ = some ux := by simp [World.cell?, o1]
        cases x with
        | p a =>
          cases a with
          | none =>
            cases e
            simp only [VR] at hux
            subst hux
            refine CallsIn.mono (callsIn_wide.2 (Tryz.copy_fresh r w hcell (by simp [World.shape?, o1]) (by simp [World.frozen?, o1])) : CallsIn (W none) n _ _ _ _ _) ?_
            rintro e w' ⟨rfl, rfl⟩
            obtain ⟨g1, g2⟩ := hr.setCell hb hl (o := 0) (x := .p (some (b, 0))) (v := .pointer (some ⟨r, 0, none⟩)) (by simp only [VR]; exact ⟨r, hb, rfl⟩)
            exact ⟨φ, _, rfl, g2, by simp only [VR]; exact ⟨#[], rfl, by simp [VRs]⟩, g1⟩
          | some bo =>
            obtain ⟨b', o'⟩ := bo
            simp only at e
            cases hq2 : Nat.beq b' b && Nat.beq o' 0 with
            | false => rw [hq2] at e; cases e
            | true =>
              rw [hq2] at e
              cases e
              simp only [Bool.and_eq_true] at hq2
              have e1 := Nat.eq_of_beq_eq_true hq2.1
              have e2 := Nat.eq_of_beq_eq_true hq2.2
              subst e1; subst e2
              simp only [VR] at hux
              obtain ⟨r', hr', rfl⟩ := hux
              rw [hb] at hr'; cases hr'
              refine CallsIn.mono (callsIn_wide.2 (Tryz.copy_used r w hcell) : CallsIn (W none) n _ _ _ _ _) ?_
              rintro e w' ⟨rfl, rfl⟩
              exact ⟨φ, _, rfl, Ext.refl φ _, by simp only [VR]; exact ⟨#[], rfl, by simp [VRs]⟩, hr⟩
        | _ => cases e
    · cases e
  · cases e

theorem ehStr_ok {φ : Ren} {h : H} {w : World} (hr : HR φ h w) {args : List V} {v : V} {h' : H} (e : ehStr h args = some (v, h')) {args' : List Value} (ha : VRs φ args args') (n : Nat) :
    CallsIn (W none) n Tryz.prog 49 args'.toArray w fun e w' => ∃ φ' u, e = .returned u ∧ Ext φ w φ' w' ∧ VR φ' v u ∧ HR φ' h' w' := by
  unfold ehStr at e
  split at e
  · rename_i b o
    split at e
    · rename_i x n c te g hl
      cases hq : Nat.beq o 0 && Nat.beq te 146 && !g && Nat.beq n 0 with
      | false => rw [hq] at e; cases e
      | true =>
        rw [hq] at e
        cases e
        simp only [Bool.and_eq_true, Bool.not_eq_true'] at hq
        obtain ⟨⟨⟨q1, q2⟩, q3⟩, q4⟩ := hq
        have q1 := Nat.eq_of_beq_eq_true q1
        have q2 := Nat.eq_of_beq_eq_true q2
        have q4 := Nat.eq_of_beq_eq_true q4
        subst q1; subst q2; subst q3; subst q4
        simp only [VRs, VR] at ha
        obtain ⟨_, _, rfl, ⟨r, hb, rfl⟩, rfl⟩ := ha
        obtain ⟨ob, o1, o2⟩ := hr.blk b r hb (by rw [hl]; trivial)
        rw [hl] at o2
        obtain ⟨c1, rfl, v1, l1, z1, _⟩ := o2
        have z1 := z1 rfl
        rw [List.take_of_length_le (by rw [Array.length_toList, z1]; exact Nat.le_refl _)] at v1
        simp only [VRs] at v1
        obtain ⟨ux, _, ec, _, uy, _, rfl, huy, rfl⟩ := v1
        have hc : c1 = #[ux, uy] := Array.toList_inj.1 ec
        subst hc
        simp only [VR] at huy
        obtain ⟨_, rfl⟩ := huy
        refine CallsIn.mono (callsIn_wide.2 (Tryz.bstr_nil w o1) : CallsIn (W none) n _ _ _ _ _) ?_
        rintro e w' ⟨rfl, rfl⟩
        exact ⟨φ, _, rfl, ⟨Le.refl φ, Nat.le_refl _, fun _ _ e => .inl e, fun _ => Nat.le_succ _, Nat.le_refl _, rfl, rfl, rfl, fun _ _ _ => rfl⟩, by simp only [VR]; exact ⟨rfl, by simp⟩, hr.drew _⟩
    · rename_i x b2 o2 m c te g hl
      split at e
      · rename_i l e2 g2 hl2
        cases hq : Nat.beq o 0 && Nat.beq te 146 && !g && Nat.beq o2 0 && Nat.beq e2 5 && Nat.ble m l.length && Nat.blt 0 m && Nat.ble m 1000000 with
        | false => rw [hq] at e; cases e
        | true =>
          rw [hq] at e
          simp only [cond] at e
          simp only [Bool.and_eq_true, Bool.not_eq_true'] at hq
          obtain ⟨⟨⟨⟨⟨⟨⟨q1, q2⟩, q3⟩, q4⟩, q5⟩, q6⟩, q7⟩, q8⟩ := hq
          have q1 := Nat.eq_of_beq_eq_true q1
          have q2 := Nat.eq_of_beq_eq_true q2
          have q4 := Nat.eq_of_beq_eq_true q4
          have q5 := Nat.eq_of_beq_eq_true q5
          have q6 := Nat.le_of_ble_eq_true q6
          have q8 := Nat.le_of_ble_eq_true q8
          have q7 : 1 ≤ m := by simpa [Nat.blt] using q7
          subst q1; subst q2; subst q3; subst q4; subst q5
          split at e
          · rename_i ns hns
            cases e
            simp only [VRs, VR] at ha
            obtain ⟨_, _, rfl, ⟨r, hb, rfl⟩, rfl⟩ := ha
            obtain ⟨ob, o1, o2⟩ := hr.blk b r hb (by rw [hl]; trivial)
            rw [hl] at o2
            obtain ⟨c1, rfl, v1, l1, z1, _⟩ := o2
            have z1 := z1 rfl
            rw [List.take_of_length_le (by rw [Array.length_toList, z1]; exact Nat.le_refl _)] at v1
            simp only [VRs] at v1
            obtain ⟨ux, _, ec, _, uy, _, rfl, huy, rfl⟩ := v1
            have hc : c1 = #[ux, uy] := Array.toList_inj.1 ec
            subst hc
            obtain ⟨r2, cap, hb2, hcap, rfl⟩ : ∃ r2 cap, φ b2 = some r2 ∧ m ≤ cap ∧ uy = .slice (some ⟨r2, 0, none⟩) m cap := by
              cases c with
              | kn c => simp only [VR] at huy; obtain ⟨r2, h4, h5, rfl⟩ := huy; exact ⟨r2, _, h4, h5, rfl⟩
              | un sz => simp only [VR] at huy; obtain ⟨r2, cap, h4, h5, _, rfl⟩ := huy; exact ⟨r2, _, h4, h5, rfl⟩
            obtain ⟨ob2, p1, p2⟩ := hr.blk b2 r2 hb2 (by rw [hl2]; trivial)
            rw [hl2] at p2
            obtain ⟨cur, rfl, v2, l2, _, _⟩ := p2
            have v3 := v2.take m
            rw [List.take_take, Nat.min_eq_left q6] at v3
            obtain ⟨j1, j2⟩ := nats8_ok hns v3
            have hlen : (ns.map UInt8.ofNat).length = m := by
              have := congrArg List.length j1
              simp at this
              rw [List.length_map]; omega
            have hby : Lib.byteCells (ns.map UInt8.ofNat) = ns.map (fun m : Nat => Value.int .u8 m) := by
              unfold Lib.byteCells
              rw [List.map_map]
              apply List.map_congr_left
              intro x hx
              have := j2 x hx
              simp [UInt8.toNat_ofNat', Nat.mod_eq_of_lt this]
            have hcall := Tryz.bstr (b := r) (g := r2) (cap := cap) (p := ux) (cur := cur) (l := ns.map UInt8.ofNat) w (by rw [hlen]; exact o1) p1 (by rw [hlen, hby, j1]) (by intro h0; rw [h0] at hlen; simp at hlen; omega) (by rw [hlen]; omega) (by rw [hlen]; exact hcap) (by rw [hlen]; exact q8)
            refine CallsIn.mono (callsIn_wide.2 hcall : CallsIn (W none) n _ _ _ _ _) ?_
            rintro e w' ⟨rfl, rfl⟩
            have hne : (ns.map UInt8.ofNat).length ≠ 0 := by rw [hlen]; omega
            have hlt2 : r2 < w.heap.size := (hr.dom b2 r2 hb2).2
            obtain ⟨ob3, hob3⟩ : ∃ ob3, (w.drew.freeze ⟨r2, 0, none⟩ (ns.map UInt8.ofNat).length).heap[r2]? = some ob3 := by
              refine ⟨_, Array.getElem?_eq_getElem ?_⟩
              unfold World.freeze
              split
              · exact hlt2
              · simpa using hlt2
            obtain ⟨g1, g2'⟩ := hr.turn (b := b2) (r := r2) (w' := w.drew.freeze ⟨r2, 0, none⟩ (ns.map UInt8.ofNat).length) .gone ob3 hb2 (by rw [hl2]; trivial) trivial
              (by
                  unfold World.freeze; split
                  · rfl
                  · show (w.heap.modify _ _).size = _
                    rw [Array.size_modify]) hob3
              (fun s hs => by
                unfold World.freeze; split
                · rfl
                · simp only [Array.getElem?_modify]
                  rw [if_neg (fun e => hs e.symm)]; rfl)
              (by unfold World.freeze; split <;> rfl) (by unfold World.freeze; split <;> rfl) (by unfold World.freeze; split <;> rfl) (by unfold World.freeze; split <;> exact Nat.le_succ _)
            exact ⟨φ, _, rfl, g2', by simp only [VR]; exact ⟨rfl, j2⟩, g1⟩
          · cases e
      · cases e
    · cases e
  · cases e


theorem eh2_ok {f : FuncId} {args : List V} {h : H} {v : V} {h' : H} (e : eh2 f args h = some (v, h')) {φ : Ren} {w : World} {args' : List Value} (ha : VRs φ args args') (hr : HR φ h w) :
    (∃ fn c, Tryz.prog.funcs[f]? = some fn ∧ fn.body = some c ∧ (fn.name == "runtime.NumGoroutine") = false) ∧
    ∀ n, CallsIn (W none) n Tryz.prog f args'.toArray w fun e w' => ∃ φ' u, e = .returned u ∧ Ext φ w φ' w' ∧ VR φ' v u ∧ HR φ' h' w' := by
  unfold eh2 at e
  cases h1 : Nat.beq f 105 with
  | true =>
    rw [h1] at e
    have := Nat.eq_of_beq_eq_true h1
    subst this
    exact ⟨⟨_, _, Tryz.func105, rfl, rfl⟩, fun n => ehCC_ok hr e ha n⟩
  | false =>
    rw [h1] at e
    cases h2 : Nat.beq f 49 with
    | true =>
      rw [h2] at e
      have := Nat.eq_of_beq_eq_true h2
      subst this
      exact ⟨⟨_, _, Tryz.func49, rfl, rfl⟩, fun n => ehStr_ok hr e ha n⟩
    | false => rw [h2] at e; cases e

end Go.Ev

/- Deferred calls of this program that find nothing that panics. -/
namespace Go.Ev
open Go.Proofs

theorem idle81 : Idle Tryz.prog 81 4 := by
  refine ⟨⟨_, _, Tryz.func81, rfl, rfl⟩, fun args ha n w => ?_⟩
  obtain ⟨l⟩ := args
  obtain ⟨p, q, r, s, rfl⟩ : ∃ p q r s, l = [p, q, r, s] := by
    match l, ha with
    | [p, q, r, s], _ => exact ⟨p, q, r, s, rfl⟩
  refine callsDIn_of_wpSIn Tryz.func81 rfl trivial fun c₀ cs hu => ?_
  apply wpSIn_seq
  apply wpSIn_region
  simp [wpOpsSIn, go_sem, recoverD, hu, Tryz.ntmps81, Exit.thenS]
  refine wpSIn_cond (t := false) (by simp [Act.eval, Array.replicate]) ?_
  simp only [Bool.false_eq_true, if_false]
  refine wpSIn_of_wpIn rfl (wpIn_skip ?_)
  cases c₀
  simp_all [bodyPostS, results, Tryz.results81]

theorem idle282 : Idle Tryz.prog 282 2 := by
  refine ⟨⟨_, _, Tryz.func282, rfl, rfl⟩, fun args ha n w => ?_⟩
  obtain ⟨l⟩ := args
  obtain ⟨p, q, rfl⟩ : ∃ p q, l = [p, q] := by
    match l, ha with
    | [p, q], _ => exact ⟨p, q, rfl⟩
  refine callsDIn_of_wpSIn Tryz.func282 rfl trivial fun c₀ cs hu => ?_
  apply wpSIn_seq
  apply wpSIn_region
  simp [wpOpsSIn, go_sem, recoverD, hu, Tryz.ntmps282, Exit.thenS]
  apply wpSIn_seq
  apply wpSIn_seq
  apply wpSIn_region
  simp [wpOpsSIn, go_sem, Tryz.ntmps282, Exit.thenS]
  refine wpSIn_cond (t := true) (by simp [Act.eval, Array.replicate]) ?_
  simp only [if_true]
  refine wpSIn_of_wpIn rfl (wpIn_ret ?_)
  cases c₀
  simp_all [bodyPostS, results, Tryz.results282, Exit.thenS]

theorem idle385 : Idle Tryz.prog 385 4 := by
  refine ⟨⟨_, _, Tryz.func385, rfl, rfl⟩, fun args ha n w => ?_⟩
  obtain ⟨l⟩ := args
  obtain ⟨p, q, r, s, rfl⟩ : ∃ p q r s, l = [p, q, r, s] := by
    match l, ha with
    | [p, q, r, s], _ => exact ⟨p, q, r, s, rfl⟩
  refine callsDIn_of_wpSIn Tryz.func385 rfl trivial fun c₀ cs hu => ?_
  apply wpSIn_seq
  apply wpSIn_region
  simp [wpOpsSIn, go_sem, recoverD, hu, Tryz.ntmps385, Exit.thenS]
  apply wpSIn_seq
  apply wpSIn_region
  simp [wpOpsSIn, go_sem, Tryz.ntmps385, Exit.thenS]
  refine wpSIn_cond (t := false) (by simp [Act.eval, Array.replicate]) ?_
  simp only [Bool.false_eq_true, if_false]
  refine wpSIn_of_wpIn rfl (wpIn_skip ?_)
  cases c₀
  simp_all [bodyPostS, results, Tryz.results385]

theorem idle621 : Idle Tryz.prog 621 3 := by
  refine ⟨⟨_, _, Tryz.func621, rfl, rfl⟩, fun args ha n w => ?_⟩
  obtain ⟨l⟩ := args
  obtain ⟨p, q, r, rfl⟩ : ∃ p q r, l = [p, q, r] := by
    match l, ha with
    | [p, q, r], _ => exact ⟨p, q, r, rfl⟩
  refine callsDIn_of_wpSIn Tryz.func621 rfl trivial fun c₀ cs hu => ?_
  apply wpSIn_seq
  apply wpSIn_region
  simp [wpOpsSIn, go_sem, recoverD, hu, Tryz.ntmps621, Exit.thenS]
  apply wpSIn_seq
  apply wpSIn_region
  simp [wpOpsSIn, go_sem, Tryz.ntmps621, Exit.thenS]
  refine wpSIn_cond (t := false) (by simp [Act.eval, Array.replicate]) ?_
  simp only [Bool.false_eq_true, if_false]
  refine wpSIn_of_wpIn rfl (wpIn_skip ?_)
  cases c₀
  simp_all [bodyPostS, results, Tryz.results621]

end Go.Ev

/- The evaluator at this program: its hooks, and that they hold. -/
namespace Go.Ev
open Go.Proofs

theorem bd0 (φ : Ren) : BD E0 φ := fun φ' _ => ⟨fun _ _ _ h => (by cases h), fun _ _ _ _ h => (by cases h), fun _ _ _ h => (by cases h), fun _ _ _ h => (by cases h), fun _ _ _ h => (by cases h), fun _ _ _ h => (by cases h), fun _ h => (by cases h), fun _ _ _ h => (by cases h), fun _ _ h => (by cases h), fun _ _ _ h => (by cases h), XtOK.none _ _, fun h => (by cases h)⟩

/-- What a comparer says of two rows of cells. -/
noncomputable def cmR (g : FuncId) (c c' : List V) : Option Int :=
  match callB E0 (exec E0 60) g [.a (c.map opV), .a (c'.map opV)] ⟨0, .leaf⟩ with
  | some (.i .i64 z, _) => some z
  | _ => none
theorem opV_vr {φ φ' : Ren} {x : V} {v : Value} (h : VR φ (opV x) v) : VR φ' (opV x) v := by
  unfold opV at h ⊢
  cases hc : noN x with
  | true => rw [hc] at h; exact noN_ok hc h
  | false => rw [hc] at h; simp only [cond_false, VR] at h ⊢; exact h
theorem opV_vrs {φ φ' : Ren} : ∀ {l : List V} {vs : List Value}, VRs φ (l.map opV) vs → VRs φ' (l.map opV) vs
  | [], vs, h => by simpa [VRs] using h
  | x :: l, vs, h => by
    simp only [List.map_cons, VRs] at h ⊢
    obtain ⟨y, ys, e, h1, h2⟩ := h
    exact ⟨y, ys, e, opV_vr h1, opV_vrs h2⟩
theorem callB_has {E : Env} (hE : E.OK) {ex : ExecT} {f : FuncId} {args : List V} {h : H} {r : V × H} (hs : callB E ex f args h = some r) : ∃ fn c, E.P.funcs[f]? = some fn ∧ fn.body = some c ∧ (fn.name == "runtime.NumGoroutine") = false := by
  unfold callB at hs
  split at hs
  · rename_i fn hfn
    obtain ⟨hfn', hname⟩ := hE.fn _ _ hfn
    split at hs
    · rename_i c hc
      exact ⟨fn, c, hfn', hc, hname⟩
    · cases hs
  · cases hs
theorem cmR_ok {g : FuncId} {c c' : List V} {z : Int} (h : cmR g c c' = some z) : (∃ fn c, Tryz.prog.funcs[g]? = some fn ∧ fn.body = some c ∧ (fn.name == "runtime.NumGoroutine") = false) ∧ CmpLaw Tryz.prog g c c' z := by
  unfold cmR at h
  split at h
  · rename_i z' h' hc
    simp only [Option.some.injEq] at h
    subst h
    refine ⟨callB_has E0_ok hc, fun φ u u' h1 h2 w => ?_⟩
    let φ0 : Ren := ⟨fun _ => none, fun _ => 0, ⟨fun _ => 0, fun _ => undef, fun _ => [], fun _ => (#[], 0), fun _ => none, true⟩, 0⟩
    have hr : HR φ0 ⟨0, .leaf⟩ w := ⟨rfl, fun _ _ e => (by cases e), fun _ _ e => (by cases e), fun _ _ _ e => (by cases e), fun _ _ e => (by cases e)⟩
    have hv : VRs φ0 [.a (c.map opV), .a (c'.map opV)] [.agg u.toArray, .agg u'.toArray] :=
      VRs.cons (by simp only [VR]; exact ⟨_, rfl, opV_vrs h1⟩) (VRs.cons (by simp only [VR]; exact ⟨_, rfl, opV_vrs h2⟩) (by simp [VRs]))
    have key := (callB_ok (E := E0) E0_ok (exec_ok E0_ok 60).1 _ _ _ _ _ hc φ0 _ w 0 (fun _ h => absurd h (Nat.not_lt_zero _)) (bd0 _) hv hr).2
    refine Calls.mono (callsIn_wide.1 key) ?_
    rintro e w' ⟨φ1, v, rfl, hx, hv1, hr1⟩
    simp only [VR] at hv1
    subst hv1
    exact ⟨rfl, hx.size, fun r hlt => hx.frame r hlt fun b e => (by cases e), hx.os, hx.tape, hx.output, hx.dr rfl⟩
  · cases h

/-- Elements' cells, of what slices.SortFunc sorts. -/
def sfF (f : FuncId) : Option Nat := cond (Nat.beq f 84) (some 20) (cond (Nat.beq f 399) (some 4) (cond (Nat.beq f 401) (some 2) (cond (Nat.beq f 472) (some 18) (cond (Nat.beq f 148) (some 2) none))))
def kfF (f g : FuncId) : Option (TypeId × Bool) :=
  cond (Nat.beq f 129) (cond (Nat.beq g 240 || Nat.beq g 366) (some (3, true)) none) (cond (Nat.beq f 132) (cond (Nat.beq g 244 || Nat.beq g 475) (some (9, false)) none) none)
theorem beqC {α : Type} {a b : Nat} {x y : Option α} {z : α} (h : cond (Nat.beq a b) x y = some z) : (a = b ∧ x = some z) ∨ y = some z := by
  cases e : Nat.beq a b with
  | true => rw [e] at h; exact .inl ⟨Nat.eq_of_beq_eq_true e, h⟩
  | false => rw [e] at h; exact .inr h
theorem sfF_ok (f k : Nat) (h : sfF f = some k) : SortLaw Tryz.prog f k ∧ ∃ fn c, Tryz.prog.funcs[f]? = some fn ∧ fn.body = some c ∧ (fn.name == "runtime.NumGoroutine") = false := by
  rcases beqC h with ⟨rfl, e⟩ | h
  · cases e; exact ⟨sf84, _, _, Tryz.func84, rfl, rfl⟩
  rcases beqC h with ⟨rfl, e⟩ | h
  · cases e; exact ⟨sf399, _, _, Tryz.func399, rfl, rfl⟩
  rcases beqC h with ⟨rfl, e⟩ | h
  · cases e; exact ⟨sf401, _, _, Tryz.func401, rfl, rfl⟩
  rcases beqC h with ⟨rfl, e⟩ | h
  · cases e; exact ⟨sf472, _, _, Tryz.func472, rfl, rfl⟩
  rcases beqC h with ⟨rfl, e⟩ | h
  · cases e; exact ⟨sf148, _, _, Tryz.func148, rfl, rfl⟩
  · cases h
theorem orB {a b c : Nat} (h : (Nat.beq a b || Nat.beq a c) = true) : a = b ∨ a = c := by
  rw [Bool.or_eq_true] at h
  exact h.imp Nat.eq_of_beq_eq_true Nat.eq_of_beq_eq_true
theorem kfF_ok (f g : FuncId) (e : TypeId) (nums : Bool) (h : kfF f g = some (e, nums)) : KeysLaw Tryz.prog f g e nums ∧ ∃ fn c, Tryz.prog.funcs[f]? = some fn ∧ fn.body = some c ∧ (fn.name == "runtime.NumGoroutine") = false := by
  unfold kfF at h
  rcases beqC h with ⟨rfl, h⟩ | h
  · obtain ⟨h1, h2⟩ := cond_some (c := Nat.beq g 240 || Nat.beq g 366) (m := some (3, true)) h
    cases h2
    rcases orB h1 with rfl | rfl
    · exact ⟨kf240, _, _, Tryz.func129, rfl, rfl⟩
    · exact ⟨kf366, _, _, Tryz.func129, rfl, rfl⟩
  rcases beqC h with ⟨rfl, h⟩ | h
  · obtain ⟨h1, h2⟩ := cond_some (c := Nat.beq g 244 || Nat.beq g 475) (m := some (9, false)) h
    cases h2
    rcases orB h1 with rfl | rfl
    · exact ⟨kf244, _, _, Tryz.func132, rfl, rfl⟩
    · exact ⟨kf475, _, _, Tryz.func132, rfl, rfl⟩
  · cases h

/-- The evaluator at this program, with the variables of packages. -/
noncomputable def EB : Env := { E0 with ng := 3, eh := eh2, pl := true, kd := true, sf := sfF, kf := kfF, cm := cmR }
theorem EB_ok : EB.OK := by
  refine ⟨E0_ok.ty, E0_ok.fn, E0_ok.mixed, E0_ok.hl, fun _ _ _ _ _ h => (by cases h), fun f args h v h' e φ w args' _ _ ha hr => eh2_ok e ha hr, fun _ _ _ _ _ _ h => (by cases h), fun _ φ hk φ' hle => ?_, fun f k h => sfF_ok f k h, fun f g e nums h => ⟨rfl, kfF_ok f g e nums h⟩, fun g c c' z h => cmR_ok h⟩
  exact ⟨fun _ _ _ h => (by cases h), fun _ _ _ _ h => (by cases h), fun _ _ _ h => (by cases h), fun _ _ _ h => (by cases h), fun _ _ _ h => (by cases h), fun _ _ _ h => (by cases h), fun _ h => (by cases h), fun _ _ _ h => (by cases h), fun _ _ h => (by cases h), fun _ _ _ h => (by cases h), XtOK.none _ _, fun h => by rw [hle.yy]; exact hk h⟩

/-! ### Functions that defer -/
def dfAt (fn : Func) (i : Nat) : Option (FuncId × Nat) := fn.body.bind fun c => ((flatL c)[i]?).bind fun cd => (dfShape cd).map fun x => (x.2.1, x.2.2.size)
theorem idleAt {f i g k : Nat} {fn : Func} (hf : Tryz.prog.funcs[f]? = some fn) (hd : dfAt fn i = some (g, k)) (hI : Idle Tryz.prog g k) : IdleAt Tryz.prog EB.ft f i := by
  intro fn' c cd t g' caps h1 h2 h3 h4
  have := (EB_ok.fn _ _ h1).1
  have this : Tryz.prog.funcs[f]? = some fn' := this
  rw [hf] at this
  cases this
  unfold dfAt at hd
  rw [h2, Option.bind_some, h3, Option.bind_some, h4, Option.map_some] at hd
  cases hd
  exact hI
theorem di37 : IdleAt Tryz.prog EB.ft 37 1 := idleAt Tryz.func37 (by rfl) idle81
theorem di179 : IdleAt Tryz.prog EB.ft 179 3 := idleAt Tryz.func179 (by rfl) idle282
theorem di295 : IdleAt Tryz.prog EB.ft 295 1 := idleAt Tryz.func295 (by rfl) idle385
theorem di601 : IdleAt Tryz.prog EB.ft 601 1 := idleAt Tryz.func601 (by rfl) idle621

end Go.Ev

/- What is written down: short words; a list of calls, checked. -/
namespace Go.Ev
open Go.Proofs
noncomputable section

def I (n : Nat) : V := .i .i64 (.ofNat n)
def U (n : Nat) : V := .i .u8 (.ofNat n)
def P (b o : Nat) : V := .p (some (b, o))
def N0 : V := .p none
def M0 : V := .m none
def M (b : Nat) : V := .m (some b)
def K (b o n c : Nat) : V := .sl (some (b, o)) n (.kn c)
def S (b o n c : Nat) : V := .sl (some (b, o)) n (.un c)
def Z : V := .sl none 0 (.kn 0)
def C (e : TypeId) (l : List V) : Blk := .cells l e false
def D (e : TypeId) (l : List V) : Blk := .cells l e true
def Q (n : Nat) (x : V) : List V := List.replicate n x
def B : List Nat → List V
  | [] => []
  | x :: l => U x :: B l
/-- The variables of packages, as they lie all through. -/
def GB : List (Nat × Blk) := [(2,.rc [.ifc 859 .top] 110),(1,.rc [.ifc 859 .top] 110),(0,.rc [] 260)]
def KK : Nat := 4000
def N (f di : Nat) (args : List V) (nb : Nat) (hb : List (Nat × Blk)) (v : V) (nb' : Nat) (out : List (Nat × Blk)) : Ent := ⟨f, args, nb, hb ++ GB, v, nb', out, di⟩

def hasF (f : FuncId) : Bool :=
  match EB.ft f with
  | some fn => match fn.body with
    | some _ => true
    | none => false
  | none => false
theorem hasF_ok {f : FuncId} (h : hasF f = true) : ∃ fn c, Tryz.prog.funcs[f]? = some fn ∧ fn.body = some c ∧ (fn.name == "runtime.NumGoroutine") = false := by
  unfold hasF at h
  split at h
  · rename_i fn hf
    split at h
    · rename_i c hc
      obtain ⟨h1, h2⟩ := EB_ok.fn _ _ hf
      exact ⟨fn, c, h1, hc, h2⟩
    · cases h
  · cases h
def diB (f : Nat) : Nat → Bool
  | 0 => true
  | i + 1 => (Nat.beq i 1 && (Nat.beq f 37 || Nat.beq f 295 || Nat.beq f 601)) || (Nat.beq i 3 && Nat.beq f 179)
theorem diB_ok {f di : Nat} (h : diB f di = true) : DiOK EB f di := by
  cases di with
  | zero => trivial
  | succ i =>
    simp only [diB, Bool.or_eq_true, Bool.and_eq_true] at h
    rcases h with ⟨h1, (h2 | h2) | h2⟩ | ⟨h1, h2⟩ <;> (have h1 := Nat.eq_of_beq_eq_true h1; have h2 := Nat.eq_of_beq_eq_true h2; subst h1; subst h2)
    · exact di37
    · exact di295
    · exact di601
    · exact di179
structure Like (E : Env) : Prop where
  ok : E.OK
  P : E.P = Tryz.prog
  ft : E.ft = EB.ft
  ng : E.ng = 3
  pl : E.pl = true
theorem like0 : Like EB := ⟨EB_ok, rfl, rfl, rfl, rfl⟩
def entsB (E : Env) : List Ent → Bool
  | [] => true
  | e :: l => hasF e.f && diB e.f e.di && entB E KK e && entsB E l
def AllOK (l : List Ent) : Prop := ∀ e ∈ l, e.OK Tryz.prog 3
theorem AllOK.nil : AllOK [] := fun _ h => (by cases h)
theorem AllOK.app {l l' : List Ent} (h : AllOK l) (h' : AllOK l') : AllOK (l ++ l') := fun e he => (List.mem_append.1 he).elim (h e) (h' e)
theorem like_of {L : List Ent} (h : AllOK L) : Like (envT EB (mkT L)) := ⟨envT_ok EB_ok rfl h, rfl, rfl, rfl, rfl⟩
theorem entsB_ok {E : Env} (hE : Like E) : ∀ {l : List Ent}, entsB E l = true → AllOK l
  | [], _ => AllOK.nil
  | e :: l, h => by
    simp only [entsB, Bool.and_eq_true] at h
    intro e' he'
    rcases List.mem_cons.1 he' with rfl | hm
    · have h1 := entB_ok hE.ok hE.pl (k := KK) (e := e') (by
        have := diB_ok h.1.1.2
        unfold DiOK at this ⊢
        split
        · trivial
        · rename_i i hi
          rw [hi] at this
          unfold IdleAt at this ⊢
          rw [hE.P, hE.ft]
          exact this) h.1.2 (by rw [hE.P]; exact hasF_ok h.1.1.1)
      rw [hE.P, hE.ng] at h1
      exact h1
    · exact entsB_ok hE h.2 e' hm

def isT (r : Option (V × H)) : Bool :=
  match r with
  | some (.b true, _) => true
  | _ => false

end
end Go.Ev

/- The law's own function: what it picks is told, all else is run. -/
namespace Go.Ev
open Go.Proofs Go.Shelf Go.RowKit

/-- What is picked of twelve. -/
def pick12 (c : Int) : Nat := if c < 0 then ((-(c + 1)) % 12).toNat else (c % 12).toNat
theorem pick12_lt (c : Int) : pick12 c < 12 := by
  unfold pick12
  split <;> omega
set_option maxHeartbeats 1000000 in
theorem pick7 (c : Int) (hc : -9223372036854775808 ≤ c ∧ c ≤ 9223372036854775807) (w : World) :
    Calls Tryz.prog 7 #[.int .i64 c, .int .i64 12] w fun e w' => e = .returned (.int .i64 (pick12 c)) ∧ w' = w := by
  have wrap_in : ∀ {n : Int}, -9223372036854775808 ≤ n ∧ n ≤ 9223372036854775807 → IntKind.i64.wrap n = n := fun h => by
    simp [IntKind.wrap, IntKind.bits, IntKind.signed]
    omega
  go_enter Tryz.func7, Tryz.ntmps7
  go_wp2
  · go_ret
    have h1 : 0 ≤ -(c + 1) := by omega
    have e : -(c + 1).tmod (12 : Int) = (-(c + 1)) % (12 : Int) := by
      rw [← Int.neg_tmod, Int.tmod_eq_emod_of_nonneg h1]
    have h2 := Int.emod_nonneg (-(c + 1)) (show (12 : Int) ≠ 0 by decide)
    refine ⟨?_, rfl⟩
    rw [pick12, if_pos (by omega), e, Int.toNat_of_nonneg h2]; rfl
  · go_ret
    have h2 := Int.emod_nonneg c (show (12 : Int) ≠ 0 by decide)
    refine ⟨?_, rfl⟩
    rw [pick12, if_neg (by omega), Int.toNat_of_nonneg h2]; rfl

noncomputable section
/-- The evaluator, told what is picked. -/
def qcP (m : Nat) (f : FuncId) : List V → Option V
  | [.y .i64 0, .i .i64 (.ofNat 12)] => cond (Nat.beq f 7) (some (I m)) none
  | _ => none
def qcE (E : Env) (m : Nat) : Env := { E with pl := false, qc := qcP m }
theorem qcE_ok {E : Env} (hE : E.OK) (m : Nat) : (qcE E m).OK :=
  ⟨hE.ty, hE.fn, hE.mixed, hE.hl, hE.qh, hE.eh, hE.xh, fun h => (by cases h), hE.sf, hE.kf, hE.cm⟩
theorem qcP_some {m : Nat} {f : FuncId} {args : List V} {v : V} (h : qcP m f args = some v) : f = 7 ∧ args = [.y .i64 0, .i .i64 (.ofNat 12)] ∧ v = I m := by
  unfold qcP at h
  split at h
  · obtain ⟨h1, h2⟩ := cond_some h
    cases h2
    exact ⟨Nat.eq_of_beq_eq_true h1, rfl, rfl⟩
  · cases h
theorem qcE_bd {E : Env} {φ : Ren} (hP : E.P = Tryz.prog) (hb : BD E φ) (hc : -9223372036854775808 ≤ φ.s 0 ∧ φ.s 0 ≤ 9223372036854775807) : BD (qcE E (pick12 (φ.s 0))) φ := fun φ' hle => by
  have h := hb φ' hle
  refine ⟨h.bd, h.bin, h.mx, h.rx, h.rl, h.re, h.qs, h.mg, h.ml, fun f args v e args' ha => ?_, h.xt, h.kd⟩
  obtain ⟨rfl, rfl, rfl⟩ := qcP_some e
  simp only [VRs, VR] at ha
  obtain ⟨_, _, rfl, rfl, _, _, rfl, rfl, rfl⟩ := ha
  have hs : φ'.s 0 = φ.s 0 := by unfold Ren.s; rw [hle.yy]
  rw [hs]
  show Quiet E.P _ _ _ _
  rw [hP]
  refine ⟨⟨_, _, Tryz.func7, rfl, rfl⟩, fun n w _ => ?_⟩
  refine CallsIn.mono (callsIn_wide.2 (pick7 _ hc w) : CallsIn (W none) n _ _ _ _ _) ?_
  rintro e w' ⟨rfl, rfl⟩
  exact ⟨_, rfl, by simp only [I, VR]; rfl, Grown.refl _⟩

/-- Statements ahead of the picking, the picking, what stands behind it. -/
def runS (E E' : Env) (k i : Nat) (fn : Func) (L : List Code) (args : List V) (h : H) : Option (V × H) :=
  match execX E k (L.take i) { n := fn.ntmps, t := load args 0 .leaf } h with
  | some (.n, fr1, h1) =>
    match execX E' k ((L.drop i).take 1) fr1 h1 with
    | some (.n, fr2, h2) =>
      match execX E k (L.drop (i + 1)) fr2 h2 with
      | some (.e _, _, _) => none
      | some (_, fr3, h3) =>
        match aRes E fr3 h3 fn.results.toList with
        | some l => some (aRets l, h3)
        | none => none
      | none => none
    | _ => none
  | _ => none
theorem runS_ok {E : Env} (hE : E.OK) {m k i f : Nat} {fn : Func} {c : Code} (hfn : E.P.funcs[f]? = some fn) (hc : fn.body = some c) {args : List V} {h : H} {v : V} {h' : H} (hs : runS E (qcE E m) k i fn (flatL c) args h = some (v, h'))
    {φ : Ren} {args' : List Value} {w : World} (n : Nat) (hg : GL E.ng φ) (hbd : BD E φ) (hbd' : BD (qcE E m) φ) (hle : args.length ≤ fn.ntmps) (hargs : VRs φ args args') (hr : HR φ h w) :
    CallsIn (W none) n E.P f args'.toArray w (Res φ w v h') := by
  unfold runS at hs
  have hF := load_FR hargs fn.ntmps hle
  split at hs
  rotate_left
  · cases hs
  rename_i fr1 h1 e1
  split at hs
  rotate_left
  · cases hs
  rename_i fr2 h2 e2
  refine callsIn_of_wp_marks hfn hc trivial (wpIn_flat _ ?_)
  have hsplit : flatL c = (flatL c).take i ++ ((flatL c).drop i).take 1 ++ (flatL c).drop (i + 1) := by
    rw [List.append_assoc]
    have : ((flatL c).drop i).take 1 ++ (flatL c).drop (i + 1) = (flatL c).drop i := by
      rw [← List.drop_drop, List.take_append_drop]
    rw [this, List.take_append_drop]
  rw [hsplit, List.append_assoc]
  refine execX_ok (D := []) hE _ ((flatL c).take i) _ _ _ _ _ e1 φ _ w hg hbd hF rfl hr fun φ1 a1 w1 hx1 hf1 hd1 hr1 => ?_
  show wpCs none n E.P _ (((flatL c).drop i).take 1 ++ (flatL c).drop (i + 1)) a1 w1
  refine execX_ok (E := qcE E m) (D := []) (qcE_ok hE m) _ (((flatL c).drop i).take 1) _ _ _ _ _ e2 φ1 a1 w1 (hg.mono hx1.le) (hbd'.mono hx1.le) hf1 hd1 hr1 fun φ2 a2 w2 hx2 hf2 hd2 hr2 => ?_
  show wpCs none n E.P _ ((flatL c).drop (i + 1)) a2 w2
  have hx12 := hx1.trans hx2
  have fin : ∀ (x3 : X) (fr3 : Fr) (h3 : H), x3 = .n ∨ x3 = .r → execX E k ((flatL c).drop (i + 1)) fr2 h2 = some (x3, fr3, h3) → (match aRes E fr3 h3 fn.results.toList with | some l => some (aRets l, h3) | none => none) = some (v, h') →
      wpCs none n E.P (bodyPostM (W none) n E.P fn (Res φ w v h')) ((flatL c).drop (i + 1)) a2 w2 := fun x3 fr3 h3 hx e3 ee => by
    rw [← List.append_nil ((flatL c).drop (i + 1))]
    refine execX_ok (D := []) hE [] ((flatL c).drop (i + 1)) _ _ _ _ _ e3 φ2 a2 w2 (hg.mono hx12.le) (hbd.mono hx12.le) hf2 hd2 hr2 fun φ3 a3 w3 hx3 hf3 hd3 hr3 => ?_
    split at ee
    · rename_i l hl
      cases ee
      obtain ⟨u, hu1, hu2⟩ := results_ok hE hf3 hr3 fn hl
      have key : LeavesInM (W none) n E.P fn a3.tmps (Res φ w (aRets l) h') a3.defers .returning w3 := by
        rw [hd3]
        exact ⟨u, hu1, φ3, u, rfl, hx12.trans hx3, hu2, hr3⟩
      rcases hx with rfl | rfl
      · exact key
      · exact key
    · cases ee
  split at hs
  · cases hs
  · rename_i x3 fr3 h3 hne e3
    refine fin x3 fr3 h3 ?_ e3 hs
    cases x3 with
    | n => exact .inl rfl
    | r => exact .inr rfl
    | e id => exact absurd rfl (hne id)
  · cases hs

/-- The run of the law's function, for what is picked. -/
def rootB (E : Env) (m : Nat) : Bool :=
  match EB.ft 3 with
  | some fn =>
    match fn.body with
    | some c => Nat.ble 1 fn.ntmps && isT (runS E (qcE E m) KK 6 fn (flatL c) [.y .i64 0] (hOf 3 GB))
    | none => false
  | none => false
theorem rootB_ok {E : Env} (hE : Like E) {m : Nat} (h : rootB E m = true) {φ : Ren} {w : World} (hm : m = pick12 (φ.s 0)) (hc : -9223372036854775808 ≤ φ.s 0 ∧ φ.s 0 ≤ 9223372036854775807) (hg : GL 3 φ) (hd : φ.y.d = false) (hr : HR φ (hOf 3 GB) w) :
    Calls Tryz.prog 3 #[.int .i64 (φ.s 0)] w fun e w' => e = .returned (.bool true) ∧ ∃ φ' h', Ext φ w φ' w' ∧ HR φ' h' w' := by
  unfold rootB at h
  split at h
  · rename_i fn hfn
    split at h
    · rename_i c hcd
      simp only [Bool.and_eq_true] at h
      obtain ⟨h1, h2⟩ := h
      unfold isT at h2
      split at h2
      · rename_i h' hs
        subst hm
        have hb := hE.ok.pl hE.pl φ fun _ => hd
        have key := runS_ok hE.ok (f := 3) (by rw [hE.P]; exact (EB_ok.fn _ _ hfn).1) hcd hs (φ := φ) (args' := [.int .i64 (φ.s 0)]) (w := w) 0 (by rw [hE.ng]; exact hg) hb (qcE_bd hE.P hb hc) (Nat.le_of_ble_eq_true h1) (by simp [VRs, VR]) hr
        rw [hE.P] at key
        refine Calls.mono (callsIn_wide.1 key) ?_
        rintro e w' ⟨φ', u, rfl, hx, hv, hr'⟩
        simp only [VR] at hv
        subst hv
        exact ⟨rfl, φ', _, hx, hr'⟩
      · cases h2
    · cases h
  · cases h

end
end Go.Ev
