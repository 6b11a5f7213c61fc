/- A part of what LimitFits rests on. -/
import Derived.Test.YtnpajahfimaakaaGreatDoorA15
import Derived.Test.YtnpajahfimaakaaGreatDoorA01
set_option linter.all false
namespace Go.Ev
theorem afb:((jB 4).all fun l=>Pe (true::false::l))=true:=by decide+kernel
theorem afc:((jB 4).all fun l=>Pe (true::true::l))=true:=by decide+kernel
end Go.Ev
