/- A part of what LimitFits rests on. -/
import Derived.Test.YtnpajahfimaakaaGreatDoorA21
import Derived.Test.YtnpajahfimaakaaGreatDoorA01
set_option linter.all false
namespace Go.Ev
theorem agv:yZ (qZ.getD 5 []) (oS.take 2)=true:=by decide+kernel
theorem agw:yZ (qZ.getD 5 []) ((oS.drop 2).take 2)=true:=by decide+kernel
theorem agx:yZ (qZ.getD 5 []) (oS.drop 4)=true:=by decide+kernel
theorem agy:yZ (qZ.getD 6 []) (oS.take 2)=true:=by decide+kernel
theorem agz:yZ (qZ.getD 6 []) ((oS.drop 2).take 2)=true:=by decide+kernel
theorem agC:yZ (qZ.getD 6 []) (oS.drop 4)=true:=by decide+kernel
end Go.Ev
