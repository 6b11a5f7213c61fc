/- A part of what LimitFits rests on. -/
import Derived.Test.YtnpajahfimaakaaGreatDoorA40
import Derived.Test.YtnpajahfimaakaaGreatDoorA01
set_option linter.all false
namespace Go.Ev
open Go.Proofs
theorem aq0:((List.range' 52 6).all UL)=true:=by decide+kernel
theorem aq1:((List.range' 58 6).all UL)=true:=by decide+kernel
end Go.Ev
