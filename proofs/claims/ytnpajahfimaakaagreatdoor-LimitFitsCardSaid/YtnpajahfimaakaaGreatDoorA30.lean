/- A part of what LimitFits rests on. -/
import Derived.Test.YtnpajahfimaakaaGreatDoorA21
import Derived.Test.YtnpajahfimaakaaGreatDoorA01
set_option linter.all false
namespace Go.Ev
theorem amB:exO (aT.getD 0 [])=true:=by decide+kernel
theorem amC:exO (aT.getD 1 [])=true:=by decide+kernel
theorem amD:exO (aT.getD 2 [])=true:=by decide+kernel
theorem amE:exO (aT.getD 3 [])=true:=by decide+kernel
theorem amF:exO (aT.getD 4 [])=true:=by decide+kernel
theorem amG:exO (aT.getD 5 [])=true:=by decide+kernel
theorem aqh:fF.all (fun t=>tlE t.1.toNat t.2.toNat)=true:=by decide+kernel
end Go.Ev
