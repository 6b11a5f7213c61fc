/- A part of what LimitFits rests on. -/
import Derived.Test.YtnpajahfimaakaaGreatDoorA40
import Derived.Test.YtnpajahfimaakaaGreatDoorA01
set_option linter.all false
namespace Go.Ev
open Go.Proofs
theorem aqW:((List.range' 21 10).all UL)=true:=by decide+kernel
theorem aqX:((List.range' 31 8).all UL)=true:=by decide+kernel
end Go.Ev
