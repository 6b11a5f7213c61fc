/- A part of what LimitFits rests on. -/
import Derived.Test.YtnpajahfimaakaaGreatDoorA21
import Derived.Test.YtnpajahfimaakaaGreatDoorA01
set_option linter.all false
namespace Go.Ev
theorem ago:yZ (qZ.getD 3 []) (oS.take 2)=true:=by decide+kernel
theorem agp:yZ (qZ.getD 3 []) ((oS.drop 2).take 2)=true:=by decide+kernel
theorem agq:yZ (qZ.getD 3 []) (oS.drop 4)=true:=by decide+kernel
theorem ags:yZ (qZ.getD 4 []) (oS.take 2)=true:=by decide+kernel
theorem agt:yZ (qZ.getD 4 []) ((oS.drop 2).take 2)=true:=by decide+kernel
theorem agu:yZ (qZ.getD 4 []) (oS.drop 4)=true:=by decide+kernel
end Go.Ev
