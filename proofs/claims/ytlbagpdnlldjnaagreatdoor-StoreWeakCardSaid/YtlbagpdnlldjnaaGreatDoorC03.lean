/- The types lie as they should: in pieces. -/
import GoSem.ClaimJoined
import GoSem.ClaimDataLaid
import Derived.KernelRfl
import Derived.Test.YtlbagpdnlldjnaaGreatDoorC02
import Derived.Test.YtlbagpdnlldjnaaGreatDoorRows
import Derived.WalkKit
import Derived.ProofKit
import Derived.RowKit
import Derived.SevenTiedAt
set_option linter.all false
namespace Go.Ev
open Go.Proofs
set_option maxRecDepth 1000000
def ck (p : Nat → Bool) (a : Nat) : Nat → Bool
 | 0 => true
 | k + 1 => p (a + k) && ck p a k
theorem ck_ok {p : Nat → Bool} {a : Nat} : ∀ {k : Nat}, ck p a k = true → ∀ t, a ≤ t → t < a + k → p t = true
 | 0, _, t, h1, h2 => by omega
 | k + 1, h, t, h1, h2 => by
  simp only [ck, Bool.and_eq_true] at h
  by_cases e : t = a + k
  ·rw [e]; exact h.1
  ·exact ck_ok h.2 t h1 (by omega)
theorem ntypes : Tryz.prog.types.size = 962 := by kernel_rfl
def mapRow (P : Program) (t : TypeId) : Bool := match P.underlying t with | some (.map _ e) => decide (e < P.types.size) | _ => true
theorem row_0 : ck (rowFine Tryz.prog) 0 74 = true := by kernel_rfl
theorem row_1 : ck (rowFine Tryz.prog) 74 74 = true := by kernel_rfl
theorem row_2 : ck (rowFine Tryz.prog) 148 74 = true := by kernel_rfl
theorem row_3 : ck (rowFine Tryz.prog) 222 74 = true := by kernel_rfl
theorem row_4 : ck (rowFine Tryz.prog) 296 74 = true := by kernel_rfl
theorem row_5 : ck (rowFine Tryz.prog) 370 74 = true := by kernel_rfl
theorem row_6 : ck (rowFine Tryz.prog) 444 74 = true := by kernel_rfl
theorem row_7 : ck (rowFine Tryz.prog) 518 74 = true := by kernel_rfl
theorem row_8 : ck (rowFine Tryz.prog) 592 74 = true := by kernel_rfl
theorem row_9 : ck (rowFine Tryz.prog) 666 74 = true := by kernel_rfl
theorem row_10 : ck (rowFine Tryz.prog) 740 74 = true := by kernel_rfl
theorem row_11 : ck (rowFine Tryz.prog) 814 74 = true := by kernel_rfl
theorem row_12 : ck (rowFine Tryz.prog) 888 74 = true := by kernel_rfl
theorem row_all (t : Nat) (h : t < 962) : (rowFine Tryz.prog) t = true := by
 by_cases h0 : t < 74
 ·exact ck_ok row_0 t (by omega) (by omega)
 by_cases h1 : t < 148
 ·exact ck_ok row_1 t (by omega) (by omega)
 by_cases h2 : t < 222
 ·exact ck_ok row_2 t (by omega) (by omega)
 by_cases h3 : t < 296
 ·exact ck_ok row_3 t (by omega) (by omega)
 by_cases h4 : t < 370
 ·exact ck_ok row_4 t (by omega) (by omega)
 by_cases h5 : t < 444
 ·exact ck_ok row_5 t (by omega) (by omega)
 by_cases h6 : t < 518
 ·exact ck_ok row_6 t (by omega) (by omega)
 by_cases h7 : t < 592
 ·exact ck_ok row_7 t (by omega) (by omega)
 by_cases h8 : t < 666
 ·exact ck_ok row_8 t (by omega) (by omega)
 by_cases h9 : t < 740
 ·exact ck_ok row_9 t (by omega) (by omega)
 by_cases h10 : t < 814
 ·exact ck_ok row_10 t (by omega) (by omega)
 by_cases h11 : t < 888
 ·exact ck_ok row_11 t (by omega) (by omega)
 exact ck_ok row_12 t (by omega) (by omega)
theorem map_0 : ck (mapRow Tryz.prog) 0 74 = true := by kernel_rfl
theorem map_1 : ck (mapRow Tryz.prog) 74 74 = true := by kernel_rfl
theorem map_2 : ck (mapRow Tryz.prog) 148 74 = true := by kernel_rfl
theorem map_3 : ck (mapRow Tryz.prog) 222 74 = true := by kernel_rfl
theorem map_4 : ck (mapRow Tryz.prog) 296 74 = true := by kernel_rfl
theorem map_5 : ck (mapRow Tryz.prog) 370 74 = true := by kernel_rfl
theorem map_6 : ck (mapRow Tryz.prog) 444 74 = true := by kernel_rfl
theorem map_7 : ck (mapRow Tryz.prog) 518 74 = true := by kernel_rfl
theorem map_8 : ck (mapRow Tryz.prog) 592 74 = true := by kernel_rfl
theorem map_9 : ck (mapRow Tryz.prog) 666 74 = true := by kernel_rfl
theorem map_10 : ck (mapRow Tryz.prog) 740 74 = true := by kernel_rfl
theorem map_11 : ck (mapRow Tryz.prog) 814 74 = true := by kernel_rfl
theorem map_12 : ck (mapRow Tryz.prog) 888 74 = true := by kernel_rfl
theorem map_all (t : Nat) (h : t < 962) : (mapRow Tryz.prog) t = true := by
 by_cases h0 : t < 74
 ·exact ck_ok map_0 t (by omega) (by omega)
 by_cases h1 : t < 148
 ·exact ck_ok map_1 t (by omega) (by omega)
 by_cases h2 : t < 222
 ·exact ck_ok map_2 t (by omega) (by omega)
 by_cases h3 : t < 296
 ·exact ck_ok map_3 t (by omega) (by omega)
 by_cases h4 : t < 370
 ·exact ck_ok map_4 t (by omega) (by omega)
 by_cases h5 : t < 444
 ·exact ck_ok map_5 t (by omega) (by omega)
 by_cases h6 : t < 518
 ·exact ck_ok map_6 t (by omega) (by omega)
 by_cases h7 : t < 592
 ·exact ck_ok map_7 t (by omega) (by omega)
 by_cases h8 : t < 666
 ·exact ck_ok map_8 t (by omega) (by omega)
 by_cases h9 : t < 740
 ·exact ck_ok map_9 t (by omega) (by omega)
 by_cases h10 : t < 814
 ·exact ck_ok map_10 t (by omega) (by omega)
 by_cases h11 : t < 888
 ·exact ck_ok map_11 t (by omega) (by omega)
 exact ck_ok map_12 t (by omega) (by omega)
theorem all_range {p : Nat → Bool} {n : Nat} (h : ∀ t, t < n → p t = true) : (List.range n).all p = true := List.all_eq_true.2 fun t ht => h t (List.mem_range.1 ht)
theorem mapsRowed_ok : mapsRowed Tryz.prog = true := by
 unfold mapsRowed
 exact all_range fun t h => map_all t (by rw [← ntypes]; exact h)
theorem laid_g : Tryz.prog.globals.all (fun g => decide (g.type < Tryz.prog.types.size)) = true := by kernel_rfl
theorem laid_f : Tryz.prog.funcs.all (fun f => f.params.all fun t => decide (t < Tryz.prog.types.size)) = true := by kernel_rfl
theorem laidOut_ok : laidOutB Tryz.prog = true := by
 unfold laidOutB
 rw [all_range fun t h => row_all t (by rw [← ntypes]; exact h), laid_g, laid_f]
 rfl
end Go.Ev
namespace Go.Proofs.YtlbagpdnlldjnaaGreatDoor
open Go.ChangeShapes Go.WideShapes Go.ChangeAt Go.RowKit
set_option maxRecDepth 1000000
theorem big_k9 : (Rows.storeWeakRow.inPlace == Tryz.pinned.checked.prog.inPlace 3) = true := by
 show (Rows.storeWeakRow.inPlace == Tryz.prog.inPlace 3) = true
 rw [Go.Ev.inPlace_eq]
 kernel_rfl
theorem big_k10 : (Rows.storeWeakRow.unfollowed == Tryz.pinned.checked.prog.unfollowed 3) = true := by
 show (Rows.storeWeakRow.unfollowed == Tryz.prog.unfollowed 3) = true
 rw [Go.Ev.unf_true]
 rfl
theorem big_k11 : (Rows.storeWeakRow.recurses == Tryz.pinned.checked.prog.recurses 3) = true := by
 show (Rows.storeWeakRow.recurses == Tryz.prog.recurses 3) = true
 rw [Go.Ev.rec_true]
 rfl
theorem big_k12 : (Rows.storeWeakRow.named == Tryz.pinned.checked.prog.varsNamed 3) = true := by
 show (Rows.storeWeakRow.named == Tryz.prog.varsNamed 3) = true
 rw [Go.Ev.named_eq]
 kernel_rfl
theorem big_k1 : laidOutB Tryz.pinned.checked.prog = true := Go.Ev.laidOut_ok
theorem big_k2 : mapsRowed Tryz.pinned.checked.prog = true := Go.Ev.mapsRowed_ok
end Go.Proofs.YtlbagpdnlldjnaaGreatDoor
