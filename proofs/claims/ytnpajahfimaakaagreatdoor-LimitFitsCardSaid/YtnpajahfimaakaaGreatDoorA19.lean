/- A part of what LimitFits rests on. -/
import Derived.Test.YtnpajahfimaakaaGreatDoorA15
import Derived.Test.YtnpajahfimaakaaGreatDoorA01
set_option linter.all false
namespace Go.Ev
theorem afd:((jB 4).all fun l=>Pf (false::l))=true:=by decide+kernel
theorem afe:((jB 4).all fun l=>Pf (true::l))=true:=by decide+kernel
theorem aff:((jB 4).all fun l=>Pf (false::false::l))=true:=by decide+kernel
theorem afg:((jB 4).all fun l=>Pf (false::true::l))=true:=by decide+kernel
theorem afh:((jB 4).all fun l=>Pf (true::false::l))=true:=by decide+kernel
theorem afi:((jB 4).all fun l=>Pf (true::true::l))=true:=by decide+kernel
end Go.Ev
