/- 'StoreWeak' returns true for every input, and leaves its arguments as they were, where the listed package-level variables lie as the program's text lays them. -/
import Derived.Test.YtlbagpdnlldjnaaGreatDoorC09
import Derived.Test.YtlbagpdnlldjnaaGreatDoorC03
import Derived.Test.YtlbagpdnlldjnaaGreatDoorC04
import Derived.Test.YtlbagpdnlldjnaaGreatDoorC05
import Derived.Test.YtlbagpdnlldjnaaGreatDoorC08
set_option linter.all false
namespace Go.Proofs.YtlbagpdnlldjnaaGreatDoor
open Go.ChangeShapes Go.WideShapes Go.ChangeAt Go.RowKit
set_option maxRecDepth 1000000
theorem and2 {a b : Bool} (ha : a = true) (hb : b = true) : (a && b) = true := by rw [ha, hb]; rfl
theorem big_named : Tryz.pinned.checked.prog.funcNamed Rows.storeWeakRow.func = some 3 := by kernel_rfl
theorem big_facts : joinedFacts Tryz.pinned.checked.prog 3 Tryz.f3 Rows.storeWeakSpec Rows.storeWeakRow = true :=
 and2 (and2 (and2 (and2 (and2 (and2 (and2 (and2 (and2 (and2 (and2 (and2 (and2 (and2 (and2 (and2 (and2 (and2 (and2 (and2 (and2 (and2 (and2 (and2 (and2 (and2 (and2 (and2 (and2 (and2 (and2 big_k0 big_k1) big_k2) big_k3) big_k4) big_k5) big_k6) big_k7) big_k8) big_k9) big_k10) big_k11) big_k12) big_k13) big_k14) big_k15) big_k16) big_k17) big_k18) big_k19) big_k20) big_k21) big_k22) big_k23) big_k24) big_k25) big_k26) big_k27) big_k28) big_k29) big_k30) big_k31
theorem storeWeak_row : Rows.StoreWeakSaid :=
 OpenClaim.holds_of_wide 3 Tryz.f3 rfl rfl rfl rfl rfl rfl rfl ⟨rfl, rfl, rfl, rfl, rfl⟩ rfl rfl rfl rfl rfl big_named Tryz.func3 big_facts
  (of_decide_eq_true (by kernel_rfl)) (by unfold Func.isWrapper; first | (rw [if_pos (by decide +kernel)]; kernel_rfl) | (rw [if_neg (by decide +kernel)]; exact ⟨rfl, rfl⟩))
  (fun os started H enc _ => storeWeak_lifted os started H enc)
end Go.Proofs.YtlbagpdnlldjnaaGreatDoor
namespace Go.Proofs.YtlbagpdnlldjnaaGreatDoor
open Go.ChangeShapes Go.WideShapes Go.ChangeAt Go.RowKit
set_option maxRecDepth 1000000
theorem storeWeak_holds : Rows.StoreWeakCardSaid :=
 Claim7.holds_tied_plain_at .later [] [.handle, .sentinel, .sentinel, .data, .data, .data, .pinned, .data, .sentinel, .sentinel] true (true, "0eb0d8951d5e4f77cb90a65f53e8cab719c43e473ed82275ba4ab33610292169") true
  storeWeak_row (fun _ h => by cases h) big_byText (fun _ h => by cases h) big_row_tie rfl ⟨rfl, rfl⟩ big_main rfl
  (fun f fn hf hfn => by
   obtain rfl : f = 3 := Option.some.inj (big_named.symm.trans hf) |>.symm
   obtain rfl : fn = Tryz.f3 := (Option.some.inj (Tryz.func3.symm.trans hfn)).symm
   exact ⟨big_looks, fun j t ht => by
    rw [Tryz.params3] at ht
    have hm : t ∈ [3, 4] := by simpa using Array.mem_of_getElem? ht
    exact (show Tryz.pinned.checked.prog.wantsStandIn t = false by simpa using List.all_eq_true.1 big_stand t hm)⟩)
  big_goes
#print axioms storeWeak_holds
end Go.Proofs.YtlbagpdnlldjnaaGreatDoor
