/- A part of what LimitFits rests on. -/
import Derived.Test.YtnpajahfimaakaaGreatDoorCards
import Derived.Test.YtnpajahfimaakaaGreatDoorTie
import Derived.WalkKit
import Derived.ProofKit
import Derived.Lay
import Derived.LaidMore
import Derived.SevenTiedAt
import Derived.Stop.Joined
import Derived.Test.YtnpajahfimaakaaGreatDoorA01
set_option linter.all false
namespace Go.Proofs.YtnpajahfimaakaaGreatDoor
section
open Go.ChangeShapes Go.WideShapes Go.ChangeAt
noncomputable def listed:List (String×DataW Unit):=Rows.limitFitsRow.laid
noncomputable def mD:List (String×DataW Unit):=listed.filter fun x=>x.2.handleName?.isNone
noncomputable def UT(os:Os):World:=
 let w0:=World.holding Tryz.prog os ⟨#[],#[],[]⟩
 {w0 with heap:=w0.heap.modify 2 fun
   |.cells _ t frozen=>.cells #[.iface 428 (.agg #[.pointer (some ⟨11,84,none⟩)])] t frozen
   |o=>o}
noncomputable def oJ(os:Os):World:=(UT os).layVars Tryz.prog mD
set_option maxRecDepth 100000
theorem own:ownKnob Tryz.prog.godebug=none:=by kernel_rfl
theorem xB:(mD.filter fun x=>(mD.map (·.1)).contains x.1)=mD:=List.filter_eq_self.2 fun x hx=>List.contains_iff_mem.2 (List.mem_map.2 ⟨x,hx,rfl⟩)
theorem KP:(mD.filter fun x=> !(mD.map (·.1)).contains x.1)=[]:=List.filter_eq_nil_iff.2 fun x hx=>by rw[List.contains_iff_mem.2 (List.mem_map.2 ⟨x,hx,rfl⟩)];simp
theorem KQ(os:Os)(args:Array Value):laidMetH Tryz.prog listed (((oJ os).forCall (fun _ _=>0) ⟨#[],args,[]⟩).memory):=by
 have h:laidMet Tryz.prog mD (oJ os):=laidMet_layVars (w0:=UT os) (mD.map (·.1)) [] (by rw[xB];rfl) (by rw[xB];kernel_rfl) (by rw[xB];kernel_rfl) (by rw[KP];exact LaidIn.none);have h1:laidMet Tryz.prog mD (((oJ os).forCall (fun _ _=>0) ⟨#[],args,[]⟩).memory):=h.of_heap (by simp[World.memory,World.forCall,Input.heap]);exact laidMetH_of_parts h1 (by kernel_rfl)
theorem OW(os:Os):(oJ os).os=os:=World.layVars_os _ _ _
theorem Cd(os:Os)(args:Array Value):((oJ os).forCall (fun _ _=>0) ⟨#[],args,[]⟩).Shaped Tryz.prog:=World.shaped_of_ZipB (by kernel_rfl) (by kernel_rfl)
end
end Go.Proofs.YtnpajahfimaakaaGreatDoor
