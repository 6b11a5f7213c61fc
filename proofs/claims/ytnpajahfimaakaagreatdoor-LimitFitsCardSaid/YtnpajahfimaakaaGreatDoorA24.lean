/- A part of what LimitFits rests on. -/
import Derived.Test.YtnpajahfimaakaaGreatDoorA21
import Derived.Test.YtnpajahfimaakaaGreatDoorA01
set_option linter.all false
namespace Go.Ev
theorem afW:XV 1 5 (qZ.take 3)=true:=by decide+kernel
theorem afX:XV 1 5 ((qZ.drop 3).take 2)=true:=by decide+kernel
theorem afY:XV 1 5 (qZ.drop 5)=true:=by decide+kernel
end Go.Ev
