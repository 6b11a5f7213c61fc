/- A part of what LimitFits rests on. -/
import Derived.Test.YtnpajahfimaakaaGreatDoorA45
import Derived.Test.YtnpajahfimaakaaGreatDoorA01
set_option linter.all false
namespace Go.Proofs.YtnpajahfimaakaaGreatDoor
open List renaming any_eq_false->aop
section
open Go.ChangeShapes Go.WideShapes Go.ChangeAt Go.RowKit
theorem Da{P:Program}(h:(P.funcs.toList.all fun fn=> !fn.goes)=true)(f:FuncId):P.goes f=false:=by
 have h1:∀g:FuncId,(P.funcs[g]?).any Func.goes=false:=by
  intro g;cases hg:P.funcs[g]?with
  |none=>rfl
  |some fn=>
   have hm:fn∈P.funcs.toList:=Array.mem_toList_iff.2 (Array.mem_of_getElem? hg);have:=List.all_eq_true.1 h fn hm;show fn.goes=false;simpa using this
 have h2:P.funcs.any Func.goes=false:=by
  rw[<-Array.any_toList,aop];intro x hx;have:=List.all_eq_true.1 h x hx;simpa using this
 unfold Program.goes;rw[h2,Bool.and_false,Bool.or_false,aop];intro g _;rw[h1 g];decide
theorem arB{P:Program}(h:(P.funcs.toList.all fun fn=> !fn.goes)=true)(c:OpenClaim):c.goesBy P=false:=by
 unfold OpenClaim.goesBy Program.goesAt Program.goesFrom;have h1:∀o:Option FuncId,o.any P.goes=false:=by
  intro o;cases o with
  |none=>rfl
  |some f=>exact Da h f
 have h2:P.inits.toList.any P.goes=false:=by
  rw[aop];intro g _;rw[Da h g];decide
 rw[h1,Bool.false_or];split
 ·rfl
 ·exact h2
set_option maxRecDepth 100000
theorem Bw:(Tryz.pinned.checked.prog.funcs.toList.all fun fn=> !fn.goes)=true:=by kernel_rfl
theorem OY:false=Rows.limitFitsRow.goesBy Tryz.pinned.checked.prog:=(arB (P:=Tryz.pinned.checked.prog) Bw Rows.limitFitsRow).symm
end
end Go.Proofs.YtnpajahfimaakaaGreatDoor
