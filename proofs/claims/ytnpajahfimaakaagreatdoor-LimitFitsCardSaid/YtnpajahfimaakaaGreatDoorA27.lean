/- A part of what LimitFits rests on. -/
import Derived.Test.YtnpajahfimaakaaGreatDoorA21
import Derived.Test.YtnpajahfimaakaaGreatDoorA01
set_option linter.all false
namespace Go.Ev
theorem agb:yZ (qZ.getD 0 []) (oS.take 2)=true:=by decide+kernel
theorem agc:yZ (qZ.getD 0 []) ((oS.drop 2).take 2)=true:=by decide+kernel
theorem agd:yZ (qZ.getD 0 []) (oS.drop 4)=true:=by decide+kernel
theorem age:yZ (qZ.getD 1 []) (oS.take 2)=true:=by decide+kernel
theorem agf:yZ (qZ.getD 1 []) ((oS.drop 2).take 2)=true:=by decide+kernel
theorem agh:yZ (qZ.getD 1 []) (oS.drop 4)=true:=by decide+kernel
theorem agi:yZ (qZ.getD 2 []) (oS.take 2)=true:=by decide+kernel
theorem agj:yZ (qZ.getD 2 []) ((oS.drop 2).take 2)=true:=by decide+kernel
theorem agl:yZ (qZ.getD 2 []) (oS.drop 4)=true:=by decide+kernel
end Go.Ev
