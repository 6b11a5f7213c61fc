/- 'LimitObjs' returns true for every input, and leaves its arguments as they were, where the listed package-level variables lie as the program's text lays them. -/
import Derived.Test.YtcnckmkbidklgaaGreatDoorObjsR
import Derived.Test.YtcnckmkbidklgaaGreatDoorObjsFE
import Derived.Test.YtcnckmkbidklgaaGreatDoorObjsFG
namespace Go.Proofs.YtcnckmkbidklgaaGreatDoor
open Go.ChangeShapes Go.WideShapes Go.ChangeAt Go.RowKit

set_option maxRecDepth 100000
theorem objs_stand : ([3, 3].all fun u => !Tryz.pinned.checked.prog.wantsStandIn u) = true := by kernel_rfl
theorem objs_byText : Rows.limitObjsRow.wfByText (OpenSpec.ofChange Rows.limitObjsSpec) = true := by kernel_rfl
theorem objs_main : Tryz.pinned.checked.prog.mainIs = some (true, "3007a75dd3082347e5cdf8eea6a2bcf59a499f3ecc5868d701c04def61608f04".toList) := by kernel_rfl
theorem limitObjs_holds : Rows.LimitObjsCardSaid :=
  Claim7.holds_tied_plain_at .later [] [.data, .data, .data, .data, .handle, .sentinel, .sentinel, .sentinel, .sentinel, .pinned] true (true, "3007a75dd3082347e5cdf8eea6a2bcf59a499f3ecc5868d701c04def61608f04") true
    limitObjs_row (fun _ h => by cases h) objs_byText (fun _ h => by cases h) limitObjs_row_tie rfl ⟨rfl, rfl⟩ objs_main rfl
    (fun f fn hf hfn => by
      obtain rfl : f = 3 := Option.some.inj (objs_named.symm.trans hf) |>.symm
      obtain rfl : fn = Tryz.f3 := (Option.some.inj (Tryz.func3.symm.trans hfn)).symm
      exact ⟨objs_looks, fun j t ht => by
        rw [Tryz.params3] at ht
        have hm : t ∈ [3, 3] := by simpa using Array.mem_of_getElem? ht
        exact (show Tryz.pinned.checked.prog.wantsStandIn t = false by simpa using List.all_eq_true.1 objs_stand t hm)⟩)
    objs_goes
#print axioms limitObjs_holds

end Go.Proofs.YtcnckmkbidklgaaGreatDoor
