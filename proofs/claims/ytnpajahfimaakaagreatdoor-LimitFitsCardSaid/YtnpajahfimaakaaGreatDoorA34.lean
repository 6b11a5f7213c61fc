/- A part of what LimitFits rests on. -/
import Derived.Test.YtnpajahfimaakaaGreatDoorA20
import Derived.Test.YtnpajahfimaakaaGreatDoorA01
set_option linter.all false
namespace Go.Ev
open Go.Proofs
theorem anm:([6].all fun m=>rV m&&uX m&&oF m)=true:=by decide+kernel
theorem ann:([7].all fun m=>rV m&&uX m&&oF m)=true:=by decide+kernel
end Go.Ev
