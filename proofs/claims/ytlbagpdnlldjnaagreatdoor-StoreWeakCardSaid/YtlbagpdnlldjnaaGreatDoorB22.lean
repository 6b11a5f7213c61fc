/- All calls up to rank 10. -/
import Derived.Test.YtlbagpdnlldjnaaGreatDoorB18
import Derived.Test.YtlbagpdnlldjnaaGreatDoorB19
import Derived.Test.YtlbagpdnlldjnaaGreatDoorB20
import Derived.Test.YtlbagpdnlldjnaaGreatDoorB21
import Derived.Test.YtlbagpdnlldjnaaGreatDoorA13
set_option linter.all false
set_option maxRecDepth 1000000
set_option maxHeartbeats 0
namespace Go.Ev
noncomputable section
def A11 : List Ent := L10aa ++ (L10ab ++ (L10ac ++ (L10ad ++ (L10ae ++ (L10af ++ (L10ag ++ (L10ah ++ (L10ai ++ (L10aj ++ (L10ak ++ (L10al ++ (L10am ++ (L10an ++ (L10ao ++ (L10ap ++ (L10aq ++ A10))))))))))))))))
theorem okA11 : AllOK A11 := (L10aa_ok.app (L10ab_ok.app (L10ac_ok.app (L10ad_ok.app (L10ae_ok.app (L10af_ok.app (L10ag_ok.app (L10ah_ok.app (L10ai_ok.app (L10aj_ok.app (L10ak_ok.app (L10al_ok.app (L10am_ok.app (L10an_ok.app (L10ao_ok.app (L10ap_ok.app (L10aq_ok.app okA10)))))))))))))))))
end
end Go.Ev
set_option maxRecDepth 1000000
set_option maxHeartbeats 0
namespace Go.Ev
noncomputable section
def ckR (p : Nat → Bool) (a : Nat) : Nat → Bool
 | 0 => true
 | k + 1 => p (a + k) && ckR p a k
theorem ckR_ok {p : Nat → Bool} {a : Nat} : ∀ {k : Nat}, ckR p a k = true → ∀ t, a ≤ t → t < a + k → p t = true
 | 0, _, t, h1, h2 => by omega
 | k + 1, h, t, h1, h2 => by
  simp only [ckR, Bool.and_eq_true] at h
  by_cases e : t = a + k
  ·rw [e]; exact h.1
  ·exact ckR_ok h.2 t h1 (by omega)
end
end Go.Ev
