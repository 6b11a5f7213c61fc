/- 'LimitRoots' returns true for every input, and leaves its arguments as they were, where the listed package-level variables lie as the program's text lays them. -/
import Derived.Test.YtcnckmkbidklgaaGreatDoorRootsR
import Derived.Test.YtcnckmkbidklgaaGreatDoorRootsFE
import Derived.Test.YtcnckmkbidklgaaGreatDoorRootsFG
namespace Go.Proofs.YtcnckmkbidklgaaGreatDoor
open Go.ChangeShapes Go.WideShapes Go.ChangeAt Go.RowKit

set_option maxRecDepth 100000
theorem roots_stand : ([3, 3, 3].all fun u => !Tryz.pinned.checked.prog.wantsStandIn u) = true := by kernel_rfl
theorem roots_byText : Rows.limitRootsRow.wfByText (OpenSpec.ofChange Rows.limitRootsSpec) = true := by kernel_rfl
theorem roots_main : Tryz.pinned.checked.prog.mainIs = some (true, "3007a75dd3082347e5cdf8eea6a2bcf59a499f3ecc5868d701c04def61608f04".toList) := by kernel_rfl
theorem limitRoots_holds : Rows.LimitRootsCardSaid :=
  Claim7.holds_tied_plain_at .later [] [.data, .data, .data, .data, .handle, .sentinel, .sentinel, .sentinel, .sentinel, .pinned] true (true, "3007a75dd3082347e5cdf8eea6a2bcf59a499f3ecc5868d701c04def61608f04") true
    limitRoots_row (fun _ h => by cases h) roots_byText (fun _ h => by cases h) limitRoots_row_tie rfl ⟨rfl, rfl⟩ roots_main rfl
    (fun f fn hf hfn => by
      obtain rfl : f = 4 := Option.some.inj (roots_named.symm.trans hf) |>.symm
      obtain rfl : fn = Tryz.f4 := (Option.some.inj (Tryz.func4.symm.trans hfn)).symm
      exact ⟨roots_looks, fun j t ht => by
        rw [Tryz.params4] at ht
        have hm : t ∈ [3, 3, 3] := by simpa using Array.mem_of_getElem? ht
        exact (show Tryz.pinned.checked.prog.wantsStandIn t = false by simpa using List.all_eq_true.1 roots_stand t hm)⟩)
    roots_goes
#print axioms limitRoots_holds

end Go.Proofs.YtcnckmkbidklgaaGreatDoor
