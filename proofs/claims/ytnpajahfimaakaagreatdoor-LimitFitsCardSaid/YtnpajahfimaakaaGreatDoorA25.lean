/- A part of what LimitFits rests on. -/
import Derived.Test.YtnpajahfimaakaaGreatDoorA21
import Derived.Test.YtnpajahfimaakaaGreatDoorA01
set_option linter.all false
namespace Go.Ev
theorem amA:Pk 2 2 oS=true:=by decide+kernel
theorem afZ:Pk 1 4 (oS.take 4)=true:=by decide+kernel
theorem af0:Pk 1 4 (oS.drop 4)=true:=by decide+kernel
theorem af1:Pk 1 6 (oS.take 4)=true:=by decide+kernel
theorem af2:Pk 1 6 (oS.drop 4)=true:=by decide+kernel
theorem af3:XV 2 4 (qZ.take 4)=true:=by decide+kernel
theorem af4:XV 2 4 (qZ.drop 4)=true:=by decide+kernel
end Go.Ev
