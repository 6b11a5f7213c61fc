/- 'LimitFits' returns true for every input, and leaves its arguments as they were, where the listed package-level variables lie as the program's text lays them. -/
import Derived.Test.YtnpajahfimaakaaGreatDoorA46
import Derived.Test.YtnpajahfimaakaaGreatDoorA47
import Derived.Test.YtnpajahfimaakaaGreatDoorA48
import Derived.Test.YtnpajahfimaakaaGreatDoorA49
import Derived.Test.YtnpajahfimaakaaGreatDoorA50
import Derived.Test.YtnpajahfimaakaaGreatDoorA51
import Derived.Test.YtnpajahfimaakaaGreatDoorA52
import Derived.Test.YtnpajahfimaakaaGreatDoorA01
set_option linter.all false
namespace Go.Proofs.YtnpajahfimaakaaGreatDoor
section
open Go.ChangeShapes Go.WideShapes Go.ChangeAt Go.RowKit
theorem gQ{a b:Bool}(ha:a=true)(hb:b=true):(a&&b)=true:=by rw[ha,hb];rfl
set_option maxRecDepth 100000
theorem Bv:Tryz.pinned.checked.prog.funcNamed Rows.limitFitsRow.func=some 3:=by kernel_rfl
theorem KV:joinedFacts Tryz.pinned.checked.prog 3 Tryz.f3 Rows.limitFitsSpec Rows.limitFitsRow=true:=gQ (gQ (gQ (gQ (gQ (gQ (gQ (gQ (gQ (gQ (gQ (gQ (gQ (gQ (gQ (gQ (gQ (gQ (gQ (gQ (gQ (gQ (gQ (gQ (gQ (gQ (gQ (gQ (gQ (gQ (gQ YQ YR) YS) YT) YU) YV) YW) YX) YY) YP) UX) UY) UZ) U4) U5) U6) U7) U8) U9) Va) Vb) Vc) U0) Vd) U1) U2) U3) Ve) Vf) Vg) Vh) Vi
theorem Ce:Rows.LimitFitsSaid:=OpenClaim.holds_of_wide 3 Tryz.f3 rfl rfl rfl rfl rfl rfl rfl ⟨rfl,rfl,rfl,rfl,rfl⟩ rfl rfl rfl rfl rfl Bv Tryz.func3 KV
  (of_decide_eq_true (by kernel_rfl)) (by unfold Func.isWrapper;first|(rw[if_pos (by decide+kernel)];kernel_rfl)|(rw[if_neg (by decide+kernel)];exact⟨rfl,rfl⟩))
  (fun os started H enc _=>xC os started H enc)
end
section
open Go.ChangeShapes Go.WideShapes Go.ChangeAt Go.RowKit
set_option maxRecDepth 100000
theorem KX:([25,3].all fun u=> !Tryz.pinned.checked.prog.wantsStandIn u)=true:=by kernel_rfl
theorem H8:Rows.limitFitsRow.wfByText (OpenSpec.ofChange Rows.limitFitsSpec)=true:=by kernel_rfl
theorem OZ:Tryz.pinned.checked.prog.mainIs=some (true, "5fc78bae74013f9597588cf4d2a03117a5d97c4461908fdccdd6274ed4ebeab1".toList):=by kernel_rfl
theorem limitFits_holds:Rows.LimitFitsCardSaid:=Claim7.holds_tied_plain_at .later [] [.data,.data,.data,.data,.handle,.sentinel,.sentinel,.sentinel,.sentinel,.pinned] true (true, "5fc78bae74013f9597588cf4d2a03117a5d97c4461908fdccdd6274ed4ebeab1") true
  Ce (fun _ h=>by cases h) H8 (fun _ h=>by cases h) limitFits_row_tie rfl ⟨rfl,rfl⟩ OZ rfl
  (fun f fn hf lF=>by
   obtain rfl:f=3:=Option.some.inj (Bv.symm.trans hf)|>.symm;obtain rfl:fn=Tryz.f3:=(Option.some.inj (Tryz.func3.symm.trans lF)).symm;exact⟨KW,fun j t ht=>by
    rw[Tryz.params3]at ht;have hm:t∈[25,3]:=by simpa using Array.mem_of_getElem? ht
    exact(show Tryz.pinned.checked.prog.wantsStandIn t=false by simpa using List.all_eq_true.1 KX t hm)⟩)
  OY
#print axioms limitFits_holds
end
end Go.Proofs.YtnpajahfimaakaaGreatDoor
