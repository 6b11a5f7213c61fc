/- A part of what LimitFits rests on. -/
import Derived.Test.YtnpajahfimaakaaGreatDoorA21
import Derived.Test.YtnpajahfimaakaaGreatDoorA01
set_option linter.all false
namespace Go.Ev
theorem amx:(Ik 1 0 d7 vP&&Ik 1 1 d7 vP&&Ik 2 0 d7 vP&&Ik 2 1 d7 vP)=true:=by decide+kernel
theorem aaN:XV 1 2 qZ=true:=by decide+kernel
theorem amy:XV 1 3 qZ=true:=by decide+kernel
theorem amz:XV 1 7 qZ=true:=by decide+kernel
end Go.Ev
