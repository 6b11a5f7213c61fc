/- All calls up to rank 10. -/
import Derived.Test.YtpamikcnbnkgkaaGreatDoorB23
import Derived.Test.YtpamikcnbnkgkaaGreatDoorB24
import Derived.Test.YtpamikcnbnkgkaaGreatDoorB25
import Derived.Test.YtpamikcnbnkgkaaGreatDoorB26
import Derived.Test.YtpamikcnbnkgkaaGreatDoorB27
import Derived.Test.YtpamikcnbnkgkaaGreatDoorB28
import Derived.Test.YtpamikcnbnkgkaaGreatDoorA13
set_option linter.all false
set_option maxRecDepth 1000000
set_option maxHeartbeats 0
namespace Go.Ev
noncomputable section
def A11 : List Ent := L10aa ++ (L10ab ++ (L10ac ++ (L10ad ++ (L10ae ++ (L10af ++ (L10ag ++ (L10ah ++ (L10ai ++ (L10aj ++ (L10ak ++ (L10al ++ (L10am ++ (L10an ++ (L10ao ++ (L10ap ++ (L10aq ++ (L10ar ++ (L10as ++ (L10at ++ (L10au ++ (L10av ++ (L10aw ++ (L10ax ++ (L10ay ++ (L10az ++ (L10ba ++ (L10bb ++ (L10bc ++ (L10bd ++ (L10be ++ (L10bf ++ (L10bg ++ (L10bh ++ (L10bi ++ (L10bj ++ (L10bk ++ (L10bl ++ (L10bm ++ (L10bn ++ (L10bo ++ (L10bp ++ (L10bq ++ (L10br ++ (L10bs ++ (L10bt ++ (L10bu ++ (L10bv ++ (L10bw ++ (L10bx ++ (L10by ++ (L10bz ++ (L10ca ++ (L10cb ++ (L10cc ++ (L10cd ++ (L10ce ++ (L10cf ++ (L10cg ++ (L10ch ++ (L10ci ++ (L10cj ++ (L10ck ++ (L10cl ++ A10)))))))))))))))))))))))))))))))))))))))))))))))))))))))))))))))
theorem okA11 : AllOK A11 := (L10aa_ok.app (L10ab_ok.app (L10ac_ok.app (L10ad_ok.app (L10ae_ok.app (L10af_ok.app (L10ag_ok.app (L10ah_ok.app (L10ai_ok.app (L10aj_ok.app (L10ak_ok.app (L10al_ok.app (L10am_ok.app (L10an_ok.app (L10ao_ok.app (L10ap_ok.app (L10aq_ok.app (L10ar_ok.app (L10as_ok.app (L10at_ok.app (L10au_ok.app (L10av_ok.app (L10aw_ok.app (L10ax_ok.app (L10ay_ok.app (L10az_ok.app (L10ba_ok.app (L10bb_ok.app (L10bc_ok.app (L10bd_ok.app (L10be_ok.app (L10bf_ok.app (L10bg_ok.app (L10bh_ok.app (L10bi_ok.app (L10bj_ok.app (L10bk_ok.app (L10bl_ok.app (L10bm_ok.app (L10bn_ok.app (L10bo_ok.app (L10bp_ok.app (L10bq_ok.app (L10br_ok.app (L10bs_ok.app (L10bt_ok.app (L10bu_ok.app (L10bv_ok.app (L10bw_ok.app (L10bx_ok.app (L10by_ok.app (L10bz_ok.app (L10ca_ok.app (L10cb_ok.app (L10cc_ok.app (L10cd_ok.app (L10ce_ok.app (L10cf_ok.app (L10cg_ok.app (L10ch_ok.app (L10ci_ok.app (L10cj_ok.app (L10ck_ok.app (L10cl_ok.app okA10))))))))))))))))))))))))))))))))))))))))))))))))))))))))))))))))
end
end Go.Ev
set_option maxRecDepth 1000000
set_option maxHeartbeats 0
namespace Go.Ev
noncomputable section
def ckR (p : Nat → Bool) (a : Nat) : Nat → Bool
 | 0 => true
 | k + 1 => p (a + k) && ckR p a k
theorem ckR_ok {p : Nat → Bool} {a : Nat} : ∀ {k : Nat}, ckR p a k = true → ∀ t, a ≤ t → t < a + k → p t = true
 | 0, _, t, h1, h2 => by omega
 | k + 1, h, t, h1, h2 => by
  simp only [ckR, Bool.and_eq_true] at h
  by_cases e : t = a + k
  ·rw [e]; exact h.1
  ·exact ckR_ok h.2 t h1 (by omega)
end
end Go.Ev
