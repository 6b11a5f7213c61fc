/- 'LimitSnaps' returns true for every input, and leaves its arguments as they were, where the listed package-level variables lie as the program's text lays them. -/
import Derived.Test.YtcnckmkbidklgaaGreatDoorSnapsR
import Derived.Test.YtcnckmkbidklgaaGreatDoorSnapsFE
import Derived.Test.YtcnckmkbidklgaaGreatDoorSnapsFG
namespace Go.Proofs.YtcnckmkbidklgaaGreatDoor
open Go.ChangeShapes Go.WideShapes Go.ChangeAt Go.RowKit

set_option maxRecDepth 100000
theorem snaps_stand : ([3, 3, 3].all fun u => !Tryz.pinned.checked.prog.wantsStandIn u) = true := by kernel_rfl
theorem snaps_byText : Rows.limitSnapsRow.wfByText (OpenSpec.ofChange Rows.limitSnapsSpec) = true := by kernel_rfl
theorem snaps_main : Tryz.pinned.checked.prog.mainIs = some (true, "3007a75dd3082347e5cdf8eea6a2bcf59a499f3ecc5868d701c04def61608f04".toList) := by kernel_rfl
theorem limitSnaps_holds : Rows.LimitSnapsCardSaid :=
  Claim7.holds_tied_plain_at .later [] [.data, .data, .data, .data, .handle, .sentinel, .sentinel, .sentinel, .sentinel, .pinned] true (true, "3007a75dd3082347e5cdf8eea6a2bcf59a499f3ecc5868d701c04def61608f04") true
    limitSnaps_row (fun _ h => by cases h) snaps_byText (fun _ h => by cases h) limitSnaps_row_tie rfl ⟨rfl, rfl⟩ snaps_main rfl
    (fun f fn hf hfn => by
      obtain rfl : f = 5 := Option.some.inj (snaps_named.symm.trans hf) |>.symm
      obtain rfl : fn = Tryz.f5 := (Option.some.inj (Tryz.func5.symm.trans hfn)).symm
      exact ⟨snaps_looks, fun j t ht => by
        rw [Tryz.params5] at ht
        have hm : t ∈ [3, 3, 3] := by simpa using Array.mem_of_getElem? ht
        exact (show Tryz.pinned.checked.prog.wantsStandIn t = false by simpa using List.all_eq_true.1 snaps_stand t hm)⟩)
    snaps_goes
#print axioms limitSnaps_holds

end Go.Proofs.YtcnckmkbidklgaaGreatDoor
