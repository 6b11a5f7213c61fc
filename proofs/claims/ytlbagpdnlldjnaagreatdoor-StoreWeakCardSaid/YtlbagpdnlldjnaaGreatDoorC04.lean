/- 'StoreWeak': closed facts of its row, B. -/
import Derived.Test.YtlbagpdnlldjnaaGreatDoorRows
import Derived.WalkKit
import Derived.ProofKit
import Derived.RowKit
import Derived.SevenTiedAt
import Derived.Test.YtlbagpdnlldjnaaGreatDoorCards
set_option linter.all false
namespace Go.Proofs.YtlbagpdnlldjnaaGreatDoor
open Go.ChangeShapes Go.WideShapes Go.ChangeAt Go.RowKit
set_option maxRecDepth 1000000
theorem big_k24 : Tryz.pinned.checked.prog.stopsHeard = true := by kernel_rfl
end Go.Proofs.YtlbagpdnlldjnaaGreatDoor
namespace Go.Proofs.YtlbagpdnlldjnaaGreatDoor
open Go.ChangeShapes Go.WideShapes Go.ChangeAt Go.RowKit
set_option maxRecDepth 1000000
theorem big_k25 : Tryz.pinned.checked.prog.mayEnter = true := by kernel_rfl
end Go.Proofs.YtlbagpdnlldjnaaGreatDoor
namespace Go.Proofs.YtlbagpdnlldjnaaGreatDoor
open Go.ChangeShapes Go.WideShapes Go.ChangeAt Go.RowKit
set_option maxRecDepth 1000000
theorem big_looks : true = Tryz.pinned.checked.prog.looks [] := by kernel_rfl
end Go.Proofs.YtlbagpdnlldjnaaGreatDoor
namespace Go.Proofs.YtlbagpdnlldjnaaGreatDoor
open Go.ChangeShapes Go.WideShapes Go.ChangeAt Go.RowKit
set_option maxRecDepth 1000000
theorem goes_none {P : Program} (h : (P.funcs.toList.all fun fn => !fn.goes) = true) (f : FuncId) : P.goes f = false := by
 have h1 : ∀ g : FuncId, (P.funcs[g]?).any Func.goes = false := by
  intro g
  cases hg : P.funcs[g]? with
  | none => rfl
  | some fn =>
   have hm : fn ∈ P.funcs.toList := Array.mem_toList_iff.2 (Array.mem_of_getElem? hg)
   have := List.all_eq_true.1 h fn hm
   show fn.goes = false
   simpa using this
 have h2 : P.funcs.any Func.goes = false := by
  rw [← Array.any_toList, List.any_eq_false]
  intro x hx
  have := List.all_eq_true.1 h x hx
  simpa using this
 unfold Program.goes
 rw [h2, Bool.and_false, Bool.or_false, List.any_eq_false]
 intro g _
 rw [h1 g]
 decide
theorem goesBy_none {P : Program} (h : (P.funcs.toList.all fun fn => !fn.goes) = true) (c : OpenClaim) : c.goesBy P = false := by
 unfold OpenClaim.goesBy Program.goesAt Program.goesFrom
 have h1 : ∀ o : Option FuncId, o.any P.goes = false := by
  intro o
  cases o with
  | none => rfl
  | some f => exact goes_none h f
 have h2 : P.inits.toList.any P.goes = false := by
  rw [List.any_eq_false]
  intro g _
  rw [goes_none h g]
  decide
 rw [h1, Bool.false_or]
 split
 ·rfl
 ·exact h2
theorem big_still : (Tryz.pinned.checked.prog.funcs.toList.all fun fn => !fn.goes) = true := by kernel_rfl
theorem big_goes : false = Rows.storeWeakRow.goesBy Tryz.pinned.checked.prog := (goesBy_none (P := Tryz.pinned.checked.prog) big_still Rows.storeWeakRow).symm
theorem big_stand : ([3, 4].all fun u => !Tryz.pinned.checked.prog.wantsStandIn u) = true := by kernel_rfl
theorem big_byText : Rows.storeWeakRow.wfByText (OpenSpec.ofChange Rows.storeWeakSpec) = true := by kernel_rfl
theorem big_main : Tryz.pinned.checked.prog.mainIs = some (true, "0eb0d8951d5e4f77cb90a65f53e8cab719c43e473ed82275ba4ab33610292169".toList) := by kernel_rfl
end Go.Proofs.YtlbagpdnlldjnaaGreatDoor
