/- The witness of the rows: a world in which the listed variables lie as the condition says: the data by 'World.layVars', the handle by hand. -/
import Derived.Test.YtcnckmkbidklgaaGreatDoorCards
import Derived.Test.YtcnckmkbidklgaaGreatDoorTie
import Derived.WalkKit
import Derived.ProofKit
import Derived.Lay
import Derived.LaidMore
import Derived.SevenTiedAt
import Derived.Stop.Joined
namespace Go.Proofs.YtcnckmkbidklgaaGreatDoor
open Go.ChangeShapes Go.WideShapes Go.ChangeAt

def listed : List (String × DataW Unit) := Rows.limitObjsRow.laid
def plainL : List (String × DataW Unit) := listed.filter fun x => x.2.handleName?.isNone
noncomputable def world0 (os : Os) : World :=
  let w0 := World.holding Tryz.prog os ⟨#[], #[], []⟩
  { w0 with heap := w0.heap.modify 2 fun
      | .cells _ t frozen => .cells #[.iface 446 (.agg #[.pointer (some ⟨11, 137, none⟩)])] t frozen
      | o => o }
noncomputable def world1 (os : Os) : World := (world0 os).layVars Tryz.prog plainL
set_option maxRecDepth 100000
theorem own : ownKnob Tryz.prog.godebug = none := by kernel_rfl
theorem plain_all : (plainL.filter fun x => (plainL.map (·.1)).contains x.1) = plainL := List.filter_eq_self.2 fun x hx => List.contains_iff_mem.2 (List.mem_map.2 ⟨x, hx, rfl⟩)
theorem plain_none : (plainL.filter fun x => !(plainL.map (·.1)).contains x.1) = [] := List.filter_eq_nil_iff.2 fun x hx => by rw [List.contains_iff_mem.2 (List.mem_map.2 ⟨x, hx, rfl⟩)]; simp
theorem world1_met (os : Os) (args : Array Value) : laidMetH Tryz.prog listed (((world1 os).forCall (fun _ _ => 0) ⟨#[], args, []⟩).memory) := by
  have h : laidMet Tryz.prog plainL (world1 os) := laidMet_layVars (w0 := world0 os) (plainL.map (·.1)) [] (by rw [plain_all]; rfl) (by rw [plain_all]; kernel_rfl) (by rw [plain_all]; kernel_rfl) (by rw [plain_none]; exact LaidIn.none)
  have h1 : laidMet Tryz.prog plainL (((world1 os).forCall (fun _ _ => 0) ⟨#[], args, []⟩).memory) := h.of_heap (by simp [World.memory, World.forCall, Input.heap])
  exact laidMetH_of_parts h1 (by kernel_rfl)
theorem world1_os (os : Os) : (world1 os).os = os := World.layVars_os _ _ _
theorem world1_shaped (os : Os) (args : Array Value) : ((world1 os).forCall (fun _ _ => 0) ⟨#[], args, []⟩).Shaped Tryz.prog := World.shaped_of_ZipB (by kernel_rfl) (by kernel_rfl)

end Go.Proofs.YtcnckmkbidklgaaGreatDoor
