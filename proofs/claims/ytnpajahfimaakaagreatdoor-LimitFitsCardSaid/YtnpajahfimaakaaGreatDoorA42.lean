/- A part of what LimitFits rests on. -/
import Derived.Test.YtnpajahfimaakaaGreatDoorA40
import Derived.Test.YtnpajahfimaakaaGreatDoorA01
set_option linter.all false
namespace Go.Ev
open Go.Proofs
theorem aqY:((List.range' 39 7).all UL)=true:=by decide+kernel
theorem aqZ:((List.range' 46 6).all UL)=true:=by decide+kernel
end Go.Ev
