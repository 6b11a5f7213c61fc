/- A part of what LimitFits rests on. -/
import Derived.Test.YtnpajahfimaakaaGreatDoorA21
import Derived.Test.YtnpajahfimaakaaGreatDoorA01
set_option linter.all false
namespace Go.Ev
theorem af5:Pk 2 3 (oS.take 4)=true:=by decide+kernel
theorem af6:Pk 2 3 (oS.drop 4)=true:=by decide+kernel
theorem af7:Pk 2 5 (oS.take 4)=true:=by decide+kernel
theorem af8:Pk 2 5 (oS.drop 4)=true:=by decide+kernel
theorem af9:Pk 2 6 (oS.take 4)=true:=by decide+kernel
theorem aga:Pk 2 6 (oS.drop 4)=true:=by decide+kernel
end Go.Ev
