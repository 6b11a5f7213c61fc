/- A part of what LimitFits rests on. -/
import Derived.Test.YtnpajahfimaakaaGreatDoorA15
import Derived.Test.YtnpajahfimaakaaGreatDoorA01
set_option linter.all false
namespace Go.Ev
theorem ae9:((jB 4).all fun l=>Pe (false::false::l))=true:=by decide+kernel
theorem afa:((jB 4).all fun l=>Pe (false::true::l))=true:=by decide+kernel
end Go.Ev
