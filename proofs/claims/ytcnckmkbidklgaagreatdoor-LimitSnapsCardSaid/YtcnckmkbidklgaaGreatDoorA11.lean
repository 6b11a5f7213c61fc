/- Chains, part D: 'survey'. -/
import Derived.Test.YtcnckmkbidklgaaGreatDoorA10
namespace Go.Ev
open Go.Proofs

/-- A world in memory that is in order. -/
structure GW (w : World) (lines ov rv : Value) (next : Nat) (l : List (O × Value)) (rs : List (ByteArray × Nat)) : Prop where
  sch : IsSch w lines
  objs : IsRow w 36 4 ov (oRow l)
  roots : IsRow w 72 2 rv (rRow rs)
  vals : ∀ p ∈ l, IsVal w p
  ids : ∀ i p, l[i]? = some p → lastId l i < p.1.id ∧ p.1.id < next
  nx : 1 ≤ next ∧ next ≤ 100001
  ln : l.length ≤ 100000
  rl : rs.length ≤ 100000
  rn : ∀ p ∈ rs, RN p.1
  ord : ∀ i p q, rs[i]? = some p → rs[i + 1]? = some q → (Op.bytesLess q.1.toList p.1.toList || q.1.toList == p.1.toList) = false
  ref : ∀ p ∈ l, p.1.ref ≤ 100000
theorem IsSch.one {w : World} {v : Value} (h : IsSch w v) : v.oneCell' = true := by
  obtain ⟨_, _, _, _, rfl, _⟩ := h; rfl
theorem IsRow.one {w : World} {T sz : Nat} {v : Value} {row : List Value} (h : IsRow w T sz v row) : v.oneCell' = true := by
  obtain ⟨_, _, _, _, rfl, _⟩ := h; rfl
theorem GW.kept {w w' : World} {lines ov rv : Value} {next : Nat} {l : List (O × Value)} {rs : List (ByteArray × Nat)} (h : GW w lines ov rv next l rs) (hk : ∀ (r : Nat) (o : Obj), w.heap[r]? = some o → w'.heap[r]? = some o) : GW w' lines ov rv next l rs :=
  { h with sch := h.sch.kept hk, objs := h.objs.kept hk, roots := h.roots.kept hk, vals := fun p hp => (h.vals p hp).kept fun r c => hk r _ }
theorem GW.ordered {n : Nat} {w : World} {lines ov rv : Value} {next : Nat} {l : List (O × Value)} {rs : List (ByteArray × Nat)} (h : GW w lines ov rv next l rs) :
    CallsIn (W none) n Tryz.prog 47 #[wV lines ov rv next] w fun e w' => ∃ v, e = .returned v ∧ v = .bool true ∧ Grown w w' :=
  ordered_ok h.objs h.roots h.sch.one (fun p hp => (h.vals p hp).one) h.ids h.nx h.ln h.rl h.rn h.ord

/-- What is found of a world. -/
structure Found (w : World) (l : List (O × Value)) (lv mv : Value) : Prop where
  late : ∃ late, IsRow w 36 4 lv (oRow late) ∧ late.map (·.1) = l.map (·.1) ∧ ∀ p ∈ late, IsVal w p
  place : IsPlace w mv (pm l l.length)
theorem Found.kept {w w' : World} {l : List (O × Value)} {lv mv : Value} (h : Found w l lv mv) (hc : ∀ (r : Nat) (c : Array Value) (T : TypeId), T = 36 ∨ T = 70 → w.heap[r]? = some (.cells c T (0, 0)) → w'.heap[r]? = some (.cells c T (0, 0)))
    (hm : ∀ (r : Nat) (es : Array MapEntry) (n : Nat), w.heap[r]? = some (.map es n) → w'.heap[r]? = some (.map es n)) : Found w' l lv mv := by
  obtain ⟨⟨late, ⟨r, n, cap, c, h1, h2, h3, h4, h5, h6, h7⟩, hl2, hl3⟩, rm, hm1, hm2⟩ := h
  exact ⟨⟨late, ⟨r, n, cap, c, h1, h2, h3, h4, h5, hc _ _ _ (.inl rfl) h6, h7⟩, hl2, fun p hp => (hl3 p hp).kept fun r c => hc r c _ (.inr rfl)⟩, rm, hm1, hm _ _ _ hm2⟩

theorem quietE {P : Program} {K : Nat → Option Obj} {f : FuncId} {args : List Value} {Q Q' : Value → Prop} (h : Quiet P K f args Q) (hq : ∀ v, Q v → Q' v) : Quiet P K f args Q' :=
  ⟨h.1, fun n w hk => (h.2 n w hk).mono fun e w' ⟨v, h1, h2, h3⟩ => ⟨v, h1, hq v h2, h3⟩⟩

theorem survey_ok {n : Nat} {w : World} {lines ov rv : Value} {next : Nat} {l : List (O × Value)} {rs : List (ByteArray × Nat)} (H : GW w lines ov rv next l rs) (hne : l ≠ [])
    (hwh : ∀ n w' lv mv, Found w' l lv mv → IsRow w' 72 2 rv (rRow rs) → CallsIn (W none) n Tryz.prog 49 #[.agg #[lv, mv], rv] w' fun e w'' => ∃ v, e = .returned v ∧ v = .bool true ∧ Grown w' w'') :
    CallsIn (W none) n Tryz.prog 26 #[wV lines ov rv next] w fun e w' => ∃ v, e = .returned v ∧ (∃ lv mv, v = .tuple #[.agg #[lv, mv], .int .i64 0] ∧ Found w' l lv mv) ∧ Grown w w' := by
  have hov := H.objs.one
  have hrv := H.roots.one
  let y0 : Sym := mkY [0, l.length, 0, next] [.bool false, ov, rv] [oRow l] [(#[], 0), (#[], 0)]
  obtain ⟨φ1, h1, hy1, v1⟩ := H.sch.add y0
  have hargs : VRs φ1 sur_args [wV lines ov rv next] := by
    refine VRs.cons ?_ VRs.nil
    simp only [VR]
    refine ⟨_, rfl, VRs.cons v1 (VRs.cons ?_ (VRs.cons ?_ (VRs.cons ?_ VRs.nil)))⟩
    · simp only [VR, Ren.q, hy1]; exact ⟨rfl, hov⟩
    · simp only [VR, Ren.q, hy1]; exact ⟨rfl, hrv⟩
    · simp only [VR, Ren.s, hy1]; rfl
  have hst := StAt.enter (nt := 67) h1 rfl (by rw [hy1]; rfl) hargs (by decide)
  refine callIn (fn := Tryz.f26) (c := (Tryz.f26.body).getD .skip) Tryz.func26 rfl (wpIn_flat _ ?_)
  show wpCs none n E0.P _ c26 _ _
  refine StAt.runL (withF_ok E0_ok sur_FA) rfl 8 sur_A hst (FactsOK.bd' ?_) rfl y0 ?_ fun φ a w1 hs hd hg _ n1 n2 n3 n4 => ?_
  · refine ⟨trivial, trivial, trivial, trivial, trivial, trivial, trivial, trivial, ⟨?_, trivial⟩⟩
    intro φ' hle args' ha
    have : args' = [wV lines ov rv next] := by
      have hb := hle
      simp only [sur_args, VRs, VR] at ha
      obtain ⟨_, _, rfl, ⟨cs, rfl, _, _, e1, ⟨r, hr1, _, rfl⟩, _, _, rfl, ⟨rfl, _⟩, _, _, rfl, ⟨rfl, _⟩, _, _, rfl, rfl, rfl⟩, rfl⟩ := ha
      simp only [VR] at v1
      obtain ⟨r', hr', _, hv1⟩ := v1
      have := (hle.at_ _ _ hr').1
      rw [this] at hr1; cases hr1
      rw [hle.qy, hle.sy, ← hv1] at e1
      have q1 : φ1.q 1 = ov := by simp only [Ren.q, hy1]; rfl
      have q2 : φ1.q 2 = rv := by simp only [Ren.q, hy1]; rfl
      have s3 : φ1.s 3 = next := by simp only [Ren.s, hy1]; rfl
      rw [q1, q2, s3] at e1
      congr 1
      unfold wV
      congr 1
      exact Array.toList_inj.1 e1
    subst this
    refine ⟨⟨_, _, Tryz.func47, rfl, rfl⟩, fun n w' hk => ?_⟩
    rw [hy1] at hk
    refine ((H.kept fun r o h => hk r o h).ordered (n := n)).mono ?_
    rintro e w'' ⟨v, h1, h2, h3⟩
    exact ⟨v, h1, by simp only [VR]; exact h2, h3⟩
  · refine Ag.agreeS (o := y0) ⟨⟨rfl, trivial⟩, ⟨⟨rfl, hov⟩, ⟨rfl, hrv⟩, trivial⟩, trivial, trivial⟩ ?_ ?_ ?_ ?_ <;> rw [hy1] <;> rfl
  show wpCs none n E0.P _ (c26.drop 8) a w1
  -- the row is looked into
  obtain ⟨φ2, hs2, hy2⟩ := hs.revealRow (H.objs.kept fun r o h => hg.at_ rfl h) rfl 1 0 (congrFun n2 1) (congrFun n3 0)
  refine StAt.runL (withF_ok E0_ok sur_FB) rfl 1 sur_B hs2 (FactsOK.bd' ?_) hd y0 ?_ fun φ3 a3 w3 hs3 hd3 hg3 _ m1 m2 m3 m4 => ?_
  · refine ⟨trivial, trivial, trivial, ⟨⟨l.length, by decide, ?_, ?_⟩, trivial⟩, trivial, trivial, trivial, trivial, trivial⟩
    · show l.length * 4 = (φ2.y.w 0).length
      rw [hy2, show φ.y.w 0 = oRow l from congrFun n3 0, oRow_len]
    · show φ2.y.s 1 = _
      rw [hy2]; exact congrFun n1 1
  · refine Ag.agreeS (o := y0) ⟨⟨rfl, rfl, rfl, trivial⟩, ⟨⟨rfl, hrv⟩, trivial⟩, ⟨rfl, trivial⟩, trivial⟩ ?_ ?_ ?_ ?_ <;> rw [hy2]
    · exact n1
    · exact n2
    · exact n3
    · exact n4
  show wpCs none n E0.P _ (c26.drop 9) a3 w3
  -- the map is named
  have hag : Agree sur_TBs φ3 (hOf 9 sur_H0) w3 (mkY [0, l.length, 0, next] [.bool false, .bool false, rv] [oRow l] [(#[], 0), (#[], 0)]) := by
    refine mkAgree ⟨(congrFun m1 0).symm, (congrFun m1 1).symm, (congrFun m1 3).symm, trivial⟩ ⟨?_, trivial⟩ ⟨(congrFun m3 0).symm, trivial⟩ ⟨?_, trivial⟩
    · simp only [VR]; exact ⟨(congrFun m2 2).symm, hrv⟩
    · intro r es c hr hes
      obtain ⟨o, h1, h2⟩ := hs3.hr.blk 7 r hr (by rw [hOf_get]; trivial)
      rw [hOf_get] at h2
      rw [hes] at h1; cases h1
      obtain ⟨el, h1, h2⟩ := h2
      cases h1
      simp only [ERs] at h2
      show (#[], 0) = (es, 0)
      have : es = #[] := Array.toList_inj.1 h2
      rw [this]
  obtain ⟨φ4, hs4, k1, k2, k3, k4⟩ := hs3.conv sur_Bs _ hag
  obtain ⟨N, hN⟩ : ∃ N, l.length = N + 1 := by
    cases l with
    | nil => exact (hne rfl).elim
    | cons x xs => exact ⟨xs.length, rfl⟩
  refine for_loop (id := 0) (b := (match c26.drop 9 with | .block _ (.loop b) :: _ => b | _ => .skip)) (rest := c26.drop 10) (N + 1) (SurInv w l rv next) ?_ ?_ ⟨φ4, hs4, hd3, hg.trans hg3, k1, k2, k3, k4⟩
  · intro i a w' hi hinv
    obtain ⟨p, hp⟩ : ∃ p, l[i]? = some p := ⟨l[i], List.getElem?_eq_getElem (by omega)⟩
    have hm := List.mem_of_getElem? hp
    have hid : 1 ≤ p.1.id ∧ p.1.id ≤ 100000 := by have := H.ids i p hp; have := H.nx; omega
    cases i with
    | zero =>
      by_cases hz : p.1.ref = 0
      · exact sur_round0 hrv hp (H.vals p hm) hid (H.ref p hm) H.ln (KN_N hz) sur_0N sur_CN hinv
      · exact sur_round0 hrv hp (H.vals p hm) hid (H.ref p hm) H.ln (KN_Y hz) sur_0Y sur_CY hinv
    | succ i =>
      by_cases hz : p.1.ref = 0
      · exact sur_round1 hrv hp (H.vals p hm) hid (H.ref p hm) H.ln (KN_N hz) sur_1N sur_DN hinv
      · exact sur_round1 hrv hp (H.vals p hm) hid (H.ref p hm) H.ln (KN_Y hz) sur_1Y sur_DY hinv
  · rintro a w' ⟨φ, late, hs, hd, hg, ⟨n1, n2, n3, n4⟩, hlate, hlv⟩
    let Y : Sym := mkY [(N + 1 : Nat), l.length, 0, next] [.bool false, .bool false, rv] [oRow l, [], oRow late] [(#[], 0), pm l (N + 1)]
    refine StAt.go E0_ok rfl sur_FE 100 (cs := roundOf (c26.drop 9)) sur_S1 sur_E hs hd Y ?_ (fun φ1 hs1 m1 m2 m3 m4 => ?_) Y ?_ fun φ' a' w'' hs' hd' hg' hk k1 k2 k3 k4 => ⟨rfl, ?_⟩
    · exact ⟨⟨(congrFun n1 0).symm, (congrFun n1 1).symm, (congrFun n1 3).symm, trivial⟩, ⟨⟨(congrFun n2 2).symm, hrv⟩, trivial⟩, ⟨(congrFun n3 0).symm, (congrFun n3 2).symm, trivial⟩, ⟨(congrFun n4 1).symm, trivial⟩⟩
    · have s0 : φ1.y.s 0 = (N + 1 : Nat) := congrFun m1 0
      have s1 : φ1.y.s 1 = l.length := congrFun m1 1
      exact ⟨trivial, ⟨.lss (k := .i64) (x := (N + 1 : Nat)) (y := l.length) (by simp only [ival, s0]) (by simp only [ival, s1]) (by simp; omega), trivial⟩, trivial, trivial, trivial, trivial, trivial, trivial, trivial⟩
    · exact ⟨⟨rfl, rfl, rfl, trivial⟩, ⟨⟨rfl, hrv⟩, trivial⟩, ⟨rfl, rfl, trivial⟩, ⟨rfl, trivial⟩⟩
    -- what was found
    obtain ⟨r5, h5⟩ := hs'.ptr 7 rfl
    obtain ⟨c5, _, v5, _⟩ := hs'.hr.cellsL h5 (l := [.sr 9 2 0 4, .m (some 7)]) rfl
    simp only [VRs] at v5
    obtain ⟨lv, _, _, hlvr, mv, _, _, hmvr, _⟩ := v5
    have hF : Found w'' l lv mv := by
      refine ⟨⟨late, ?_, ?_, fun p hp => (hlv p hp).kept fun r c h => hk.c r c 70 rfl h⟩, ?_⟩
      · have := hs'.hr.isRow (e := 36) rfl hlvr
        rwa [show φ'.w 2 = oRow late from congrFun k3 2] at this
      · rw [hlate, List.take_of_length_le (by omega)]
      · simp only [VR] at hmvr
        obtain ⟨r7, h7, rfl⟩ := hmvr
        obtain ⟨es, c, g7, mu, _⟩ := hs'.hr.smpL h7 (x := 1) (d := .int .i64) (us := []) rfl
        simp only [MU] at mu
        refine ⟨r7, rfl, ?_⟩
        rw [g7, hN, ← show φ'.g 1 = pm l (N + 1) from congrFun k4 1, ← mu]
    have hlv1 : lv.oneCell' = true := by
      simp only [VR] at hlvr
      obtain ⟨_, _, _, _, _, _, _, _, rfl⟩ := hlvr; rfl
    have hmv1 : mv.oneCell' = true := by
      simp only [VR] at hmvr
      obtain ⟨_, _, rfl⟩ := hmvr; rfl
    let Z : Sym := mkY [0, 0, 0, next] [.bool false, .bool false, rv, .bool false, .bool false, lv, mv] [] []
    have hag : Agree sur_TZ φ' (hOf 13 sur_H1) w'' Z := by
      refine mkAgree ⟨(congrFun k1 3).symm, trivial⟩ ⟨?_, hlvr, hmvr, trivial⟩ trivial trivial
      simp only [VR]; exact ⟨(congrFun k2 2).symm, hrv⟩
    obtain ⟨φ5, hs5, j1, j2, j3, j4⟩ := hs'.conv sur_Z Z hag
    refine StAt.go E0_ok rfl sur_FX 10 (cs := c26.drop 10) sur_SZ sur_X hs5 hd' Z ?_ (fun φ1 hs1 m1 m2 m3 m4 => ?_) Z ?_ fun φ6 a6 w6 hs6 hd6 hg6 hk6 i1 i2 i3 i4 => ?_
    · exact ⟨⟨(congrFun j1 3).symm, trivial⟩, ⟨⟨(congrFun j2 2).symm, hrv⟩, ⟨(congrFun j2 5).symm, hlv1⟩, ⟨(congrFun j2 6).symm, hmv1⟩, trivial⟩, trivial, trivial⟩
    · refine ⟨trivial, trivial, trivial, trivial, trivial, trivial, trivial, trivial, ⟨?_, trivial⟩⟩
      intro φ' hle args' ha
      have : args' = [.agg #[lv, mv], rv] := by
        simp only [VRs, VR] at ha
        obtain ⟨_, _, rfl, ⟨cs, rfl, _, _, e1, ⟨rfl, _⟩, _, _, rfl, ⟨rfl, _⟩, rfl⟩, _, _, rfl, ⟨rfl, _⟩, rfl⟩ := ha
        rw [hle.qy, m2] at e1 ⊢
        congr 2
        exact Array.toList_inj.1 e1
      subst this
      refine ⟨⟨_, _, Tryz.func49, rfl, rfl⟩, fun n w' hkk => ?_⟩
      refine (hwh n w' lv mv (hF.kept (fun r c T hT h => hkk _ _ ?_) fun r es c h => hkk _ _ (hs1.kM rfl h)) ?_).mono ?_
      · rcases hT with rfl | rfl
        · exact hs1.kT rfl h
        · exact hs1.kT rfl h
      · refine H.roots.kept fun r o h => hkk _ _ ?_
        rw [hs1.kB (Array.getElem?_eq_some_iff.1 h).1]
        exact (hg.trans hg').at_ rfl h
      · rintro e w'' ⟨v, h1, h2, h3⟩
        exact ⟨v, h1, by simp only [VR]; exact h2, h3⟩
    · exact ⟨trivial, ⟨⟨rfl, hlv1⟩, ⟨rfl, hmv1⟩, trivial⟩, trivial, trivial⟩
    refine ⟨.inl rfl, hd6, ?_⟩
    obtain ⟨v, hv1, hv2⟩ := hs6.leave E0_ok (fn := Tryz.f26) (l := [.a [.q 5, .q 6], .i .i64 0]) rfl
    refine ⟨v, hv1, v, rfl, ⟨lv, mv, ?_, ?_⟩, ((hg.trans hg').trans hg6).grown⟩
    · simp only [aRets, VR, VRs] at hv2
      obtain ⟨vs, rfl, _, _, e1, ⟨cs, rfl, _, _, e2, ⟨rfl, _⟩, _, _, rfl, ⟨rfl, _⟩, rfl⟩, _, _, rfl, rfl, rfl⟩ := hv2
      rw [i2] at e2
      congr 1
      apply Array.toList_inj.1
      rw [e1]
      congr 2
      exact Array.toList_inj.1 e2
    · exact hF.kept (fun r c T hT h => hk6.c r c T (by rcases hT with rfl | rfl <;> rfl) h) fun r es c h => hk6.m rfl r es c h

end Go.Ev

/- Chains, part E: 'whole', its runs. -/
namespace Go.Ev
open Go.Proofs

noncomputable def c49 : List Code := flatL ((Tryz.f49.body).getD .skip)
def who_h : List (Nat × Blk) := [(2, .rm 0 (.int .i64)), (1, .rw 1 36), (0, .rw 0 72)]
def who_args : List V := [.a [.sr 1 1 0 4, .m (some 2)], .sr 0 0 0 2]
def who_L1 : List (Nat × V) := [(2, .p (some (3, 0))), (4, .b false), (5, .f 78 [] [.p (some (3, 0))]), (11, .sr 0 0 0 2), (12, .y .i64 1), (13, .y .i64 0)]
def who_H1 : List (Nat × Blk) := [(3, .cells [.sr 1 1 0 4, .m (some 2)] 86 false), (2, .rm 0 (.int .i64)), (1, .rw 1 36), (0, .rw 0 72)]
def who_FA : Facts := { rz := [(0, 2), (1, 4)], rl := [(0, 0, 1)] }
def who_TA : Tab := { s := [(0, .i 0), (1, .y 1)], w := [(0, .same 0), (1, .same 1)], g := [(0, .same 0)] }
theorem who_A : runsL (withF E0 who_FA) 100 (c49.take 3) ⟨34, load who_args 0 .leaf⟩ (hOf 3 who_h) .n who_TA 34 who_L1 4 who_H1 = true := by decide +kernel
def who_T1 : Tab := { s := [(0, .y 0), (1, .y 1)], w := [(0, .same 0), (1, .same 1)], g := [(0, .same 0)] }
theorem who_S1 : selfOK who_T1 34 who_L1 4 who_H1 = true := by decide +kernel
/-- A round: a root. -/
def who_FB : Facts := { bd := [(5, 1, 100000)], bin := [(.lss, .y .i64 0, .y .i64 1, .b true), (.add, .y .i64 0, .i .i64 1, .y .i64 2)], rz := [(0, 2), (1, 4)], re := [(0, 0, [.q 4, .y .i64 5])], mg := [(0, .y .i64 5, some .top)] }
def who_TB : Tab := { s := [(0, .y 2), (1, .y 1)], w := [(0, .same 0), (1, .same 1)], g := [(0, .same 0)] }
theorem who_B : runsL (withF E0 who_FB) 200 ((roundOf (c49.drop 3)).take 100) (frOf 34 who_L1) (hOf 4 who_H1) .n who_TB 34 who_L1 4 who_H1 = true := by decide +kernel
def who_FC : Facts := { bin := [(.lss, .y .i64 0, .y .i64 1, .b false)], rz := [(0, 2), (1, 4)] }
theorem who_C : runsL (withF E0 who_FC) 100 ((roundOf (c49.drop 3)).take 100) (frOf 34 who_L1) (hOf 4 who_H1) (.e 0) who_T1 34 who_L1 4 who_H1 = true := by decide +kernel
def who_L2 : List (Nat × V) := [(2, .p (some (3, 0))), (4, .b false), (5, .f 78 [] [.p (some (3, 0))]), (23, .sr 1 1 0 4), (24, .y .i64 1), (25, .y .i64 0)]
def who_H2 : List (Nat × Blk) := [(3, .cells [.sr 1 1 0 4, .m (some 2)] 86 false), (2, .rm 0 (.int .i64)), (1, .rw 1 36)]
def who_FD : Facts := { rz := [(0, 2), (1, 4)], rl := [(1, 0, 3)] }
def who_TD : Tab := { s := [(0, .i 0), (1, .y 3)], w := [(1, .same 1)], g := [(0, .same 0)] }
theorem who_D : runsL (withF E0 who_FD) 100 ((c49.drop 4).take 1) (frOf 34 who_L1) (hOf 4 who_H1) .n who_TD 34 who_L2 4 who_H2 = true := by decide +kernel
def who_T2 : Tab := { s := [(0, .y 0), (1, .y 1)], w := [(1, .same 1)], g := [(0, .same 0)] }
def who_TE : Tab := { s := [(0, .y 2), (1, .y 1)], w := [(1, .same 1)], g := [(0, .same 0)] }
theorem who_S2 : selfOK who_T2 34 who_L2 4 who_H2 = true := by decide +kernel
/-- A round: an object. -/
def who_FE : Facts := { bd := [(6, 1, 100000)], bin := [(.lss, .y .i64 0, .y .i64 1, .b true), (.add, .y .i64 0, .i .i64 1, .y .i64 2)], rz := [(0, 2), (1, 4)], re := [(1, 0, [.y .i64 4, .i .i64 0, .i .i64 0, .sl (some (4, 0)) 1 (.kn 1)])], mg := [(0, .y .i64 6, some .top)] }
theorem who_EY : runsL (withF E0 who_FE) 300 ((roundOf (c49.drop 5)).take 100) (frOf 34 who_L2) (hOf 5 ((4, valY) :: who_H2)) .n who_TE 34 who_L2 4 who_H2 = true := by decide +kernel
def who_FN : Facts := { bin := [(.lss, .y .i64 0, .y .i64 1, .b true), (.add, .y .i64 0, .i .i64 1, .y .i64 2)], rz := [(0, 2), (1, 4)], re := [(1, 0, [.y .i64 4, .i .i64 0, .i .i64 0, .sl (some (4, 0)) 1 (.kn 1)])] }
theorem who_EN : runsL (withF E0 who_FN) 300 ((roundOf (c49.drop 5)).take 100) (frOf 34 who_L2) (hOf 5 ((4, valN) :: who_H2)) .n who_TE 34 who_L2 4 who_H2 = true := by decide +kernel
theorem who_G : runsL (withF E0 who_FC) 100 ((roundOf (c49.drop 5)).take 100) (frOf 34 who_L2) (hOf 4 who_H2) (.e 2) who_T2 34 who_L2 4 who_H2 = true := by decide +kernel
def who_L3 : List (Nat × V) := [(4, .b true)]
theorem who_I : runsL (withF E0 {}) 100 ((c49.drop 6).take 2) (frOf 34 who_L2) (hOf 4 who_H2) .r {} 34 who_L3 0 [] = true := by decide +kernel

end Go.Ev

/- Chains, part F: the map of places; 'whole'. -/
namespace Go.Ev
open Go.Proofs

/-! ### The map of places -/
def Asc (l : List (O × Value)) : Prop := ∀ i p, l[i]? = some p → lastId l i < p.1.id
theorem Asc.lt {l : List (O × Value)} (h : Asc l) : ∀ {i j : Nat}, i < j → j ≤ l.length → lastId l i < lastId l j
  | i, j + 1, hij, hj => by
    obtain ⟨p, hp⟩ : ∃ p, l[j]? = some p := ⟨l[j], List.getElem?_eq_getElem (by omega)⟩
    have h1 := h j p hp
    have e : lastId l (j + 1) = p.1.id := by simp [lastId, hp]
    rw [e]
    rcases Nat.lt_or_ge i j with h2 | h2
    · exact Nat.lt_trans (h.lt h2 (by omega)) h1
    · rw [show i = j by omega]; exact h1
theorem Asc.inj {l : List (O × Value)} (h : Asc l) {i j : Nat} (hi : i ≤ l.length) (hj : j ≤ l.length) (e : lastId l i = lastId l j) : i = j := by
  rcases Nat.lt_trichotomy i j with h1 | h1 | h1
  · have := h.lt h1 hj; omega
  · exact h1
  · have := h.lt h1 hi; omega
def ent (l : List (O × Value)) (i : Nat) : MapEntry := { key := .int .i64 (lastId l (i + 1)), val := .int .i64 i, born := i }
def ents (l : List (O × Value)) (n : Nat) : List MapEntry := (List.range n).map (ent l)
theorem ents_at {l : List (O × Value)} {n j : Nat} {e : MapEntry} (h : (ents l n)[j]? = some e) : j < n ∧ e = ent l j := by
  simp only [ents, List.getElem?_map, List.getElem?_range] at h
  by_cases hj : j < n
  · simp [List.getElem?_range hj] at h
    exact ⟨hj, h.symm⟩
  · rw [List.getElem?_eq_none (by simpa using hj)] at h; cases h
theorem ents_key (l : List (O × Value)) (n : Nat) : ∀ x ∈ ents l n, MapKept.IsKey (.int .i64) x.key := by
  intro x hx
  simp only [ents, List.mem_map] at hx
  obtain ⟨i, _, rfl⟩ := hx
  exact rfl
theorem pm_eq {l : List (O × Value)} (h : Asc l) : ∀ n, n ≤ l.length → pm l n = ((ents l n).toArray, n)
  | 0, _ => rfl
  | n + 1, hn => by
    rw [pm, pm_eq h n (by omega), mset]
    have : Instr.findNow (.int .i64) (.int .i64 (lastId l (n + 1))) (ents l n).toArray.toList 0 = some none := by
      rcases MapKept.findNow_spec (d := .int .i64) (k := .int .i64 (lastId l (n + 1))) rfl (ents l n) 0 (ents_key l n) with ⟨h1, _⟩ | ⟨j, e, _, h2, h3⟩
      · exact h1
      · obtain ⟨h4, rfl⟩ := ents_at h2
        simp only [ent, Value.int.injEq, true_and, Int.natCast_inj] at h3
        have := h.inj (i := j + 1) (j := n + 1) (by omega) (by omega) h3
        omega
    rw [this]
    simp [ents, List.range_succ, ent]
theorem pm_find {l : List (O × Value)} (h : Asc l) {j : Nat} (hj : j < l.length) {d : TypeDesc} (hk : MapKept.IsKey d (.int .i64 (lastId l (j + 1)))) : Instr.findNow d (.int .i64 (lastId l (j + 1))) (pm l l.length).1.toList 0 = some (some (j, .int .i64 j)) := by
  rw [pm_eq h _ (Nat.le_refl _)]
  show Instr.findNow d _ (ents l l.length) 0 = _
  have hkeys : ∀ x ∈ ents l l.length, MapKept.IsKey d x.key := by
    intro x hx
    simp only [ents, List.mem_map] at hx
    obtain ⟨i, _, rfl⟩ := hx
    cases d <;> first | exact hk | exact hk.elim
  rcases MapKept.findNow_spec hk (ents l l.length) 0 hkeys with ⟨_, h1⟩ | ⟨j', e, h1, h2, h3⟩
  · exact absurd rfl (h1 (ent l j) (List.mem_map.2 ⟨j, by simpa using hj, rfl⟩))
  · obtain ⟨h4, rfl⟩ := ents_at h2
    simp only [ent, Value.int.injEq, true_and, Int.natCast_inj] at h3
    have := h.inj (i := j' + 1) (j := j + 1) (by omega) (by omega) h3
    have : j' = j := by omega
    subst this
    rw [h1]; simp [ent]
theorem GW.asc {w : World} {lines ov rv : Value} {next : Nat} {l : List (O × Value)} {rs : List (ByteArray × Nat)} (h : GW w lines ov rv next l rs) : Asc l := fun i p hp => (h.ids i p hp).1

/-- An object has a number. -/
def Has (l : List (O × Value)) (x : Nat) : Prop := ∃ j, j < l.length ∧ lastId l (j + 1) = x

/-- No reference that leads nowhere. -/
structure Whole (l : List (O × Value)) (rs : List (ByteArray × Nat)) : Prop where
  root : ∀ p ∈ rs, Has l p.2
  ref : ∀ p ∈ l, p.1.ref = 0 ∨ Has l p.1.ref

theorem mg_ok {l : List (O × Value)} (ha : Asc l) {x : Nat} (hx : Has l x) {φ : Ren} {z s : Nat} (hz : φ.g z = pm l l.length) (hs : φ.s s = x) :
    ∃ kv, VR φ (.y .i64 s) kv ∧ detV (.y .i64 s) = true ∧ ∀ d, MapKept.IsKey d kv → (∀ x ∈ (φ.g z).1.toList, MapKept.IsKey d x.key) → ∃ j u, Instr.findNow d kv (φ.g z).1.toList 0 = some (some (j, u)) ∧ VR φ .top u := by
  obtain ⟨j, hj, rfl⟩ := hx
  refine ⟨.int .i64 (lastId l (j + 1)), by simp only [VR, hs], rfl, fun d hk _ => ⟨j, .int .i64 j, ?_, by simp only [VR]⟩⟩
  rw [hz]; exact pm_find ha hj hk

theorem whole_ok {n : Nat} {w : World} {l : List (O × Value)} {lv mv rv : Value} {rs : List (ByteArray × Nat)} (hF : Found w l lv mv) (hr : IsRow w 72 2 rv (rRow rs)) (ha : Asc l) (hW : Whole l rs) (hln : l.length ≤ 100000) (hrl : rs.length ≤ 100000)
    (hid : ∀ x, Has l x → 1 ≤ x ∧ x ≤ 100000) :
    CallsIn (W none) n Tryz.prog 49 #[.agg #[lv, mv], rv] w fun e w' => ∃ v, e = .returned v ∧ v = .bool true ∧ Grown w w' := by
  obtain ⟨⟨late, hlate, hfst, hvals⟩, rm, rfl, hm⟩ := hF
  have hll : late.length = l.length := by have := congrArg List.length hfst; simpa using this
  let y0 : Sym := mkY [0, rs.length] [] [rRow rs, oRow late] [pm l l.length]
  obtain ⟨φ1, h1, e1, le1, v1⟩ := hr.add (φ0_hr y0 w) rfl 0 rfl
  obtain ⟨φ2, h2, e2, le2, v2⟩ := hlate.add h1 rfl 1 (by show φ1.y.w 1 = _; rw [e1]; rfl)
  have hy2 : φ2.y = (φ0 y0 w).y := e2.trans e1
  have h3 := h2.addM hm rfl 0 (.int .i64) (by show φ2.y.g 0 = _; rw [hy2]; rfl) (by rw [pm_eq ha _ (Nat.le_refl _)]; exact ents_key l _)
  have hfr : ∀ s, φ2 2 ≠ some s := fun s es => by have := (h2.dom _ _ es).1; exact absurd this (Nat.lt_irrefl _)
  have le3 : Le φ2 (up φ2 2 rm 0) := le_up hfr
  have hy3 : (up φ2 2 rm 0).y = (φ0 y0 w).y := hy2
  have v3 : VR (up φ2 2 rm 0) (.m (some 2)) (.map (some rm)) := by simp only [VR]; exact ⟨rm, by simp [up], rfl⟩
  generalize up φ2 2 rm 0 = φ3 at h3 le3 hy3 v3
  have hargs : VRs φ3 who_args [.agg #[lv, .map (some rm)], rv] := by
    refine VRs.cons ?_ (VRs.cons (VR.mono (le2.trans le3) _ _ v1) VRs.nil)
    simp only [VR]
    exact ⟨_, rfl, VRs.cons (VR.mono le3 _ _ v2) (VRs.cons (by simpa only [VR] using v3) VRs.nil)⟩
  have hst := StAt.enter (nt := 34) h3 rfl (by rw [hy3]; rfl) hargs (by decide)
  refine callIn (fn := Tryz.f49) (c := (Tryz.f49.body).getD .skip) Tryz.func49 rfl (wpIn_flat _ ?_)
  show wpCs none n E0.P _ c49 _ _
  refine StAt.runL (withF_ok E0_ok who_FA) rfl 3 who_A hst (FactsOK.bd' ?_) rfl y0 ?_ fun φ a w1 hs hd hg _ n1 n2 n3 n4 => ?_
  · refine ⟨trivial, trivial, trivial, ⟨⟨rs.length, by decide, ?_, ?_⟩, trivial⟩, trivial, trivial, trivial, trivial, trivial⟩
    · simp only [Ren.w, hy3]; exact (rRow_len rs).symm
    · simp only [Ren.s, hy3]; rfl
  · refine Ag.agreeS (o := y0) ⟨⟨rfl, rfl, trivial⟩, trivial, ⟨rfl, rfl, trivial⟩, ⟨rfl, trivial⟩⟩ ?_ ?_ ?_ ?_ <;> rw [hy3] <;> rfl
  show wpCs none n E0.P _ (c49.drop 3) a w1
  -- the roots
  let Y1 : Nat → Sym := fun i => mkY [i, rs.length] [] [rRow rs, oRow late] [pm l l.length]
  refine for_loop (id := 0) (b := (match c49.drop 3 with | .block _ (.loop b) :: _ => b | _ => .skip)) (rest := c49.drop 4) rs.length (fun i a w' => ∃ φ, StAt φ w.heap.size (frOf 34 who_L1) (hOf 4 who_H1) a w' ∧ a.defers = [] ∧ GB w.heap.size w w' ∧ Named φ (Y1 i)) ?_ ?_ ⟨φ, hs, hd, hg, n1, n2, n3, n4⟩
  · rintro i a w' hi ⟨φ, hs, hd, hg, n1, n2, n3, n4⟩
    obtain ⟨p, hp⟩ : ∃ p, rs[i]? = some p := ⟨rs[i], List.getElem?_eq_getElem hi⟩
    have hhas := hW.root p (List.mem_of_getElem? hp)
    have hb := hid _ hhas
    refine StAt.go E0_ok rfl who_FB 100 (cs := roundOf (c49.drop 3)) who_S1 who_B hs hd (mkY [i, rs.length, i + 1, 0, 0, p.2] [.bool false, .bool false, .bool false, .bool false, .string p.1] [rRow rs, oRow late] [pm l l.length]) ?_ (fun φ1 hs1 m1 m2 m3 m4 => ?_) (Y1 (i + 1)) ?_ fun φ' a' w'' hs' hd' hg' _ k1 k2 k3 k4 => ⟨rfl, φ', hs', hd', hg.trans hg', k1, k2, k3, k4⟩
    · exact ⟨⟨(congrFun n1 0).symm, (congrFun n1 1).symm, trivial⟩, trivial, ⟨(congrFun n3 0).symm, (congrFun n3 1).symm, trivial⟩, ⟨(congrFun n4 0).symm, trivial⟩⟩
    · have s0 : φ1.y.s 0 = i := congrFun m1 0
      have s1 : φ1.y.s 1 = rs.length := congrFun m1 1
      have s2 : φ1.y.s 2 = i + 1 := congrFun m1 2
      have s5 : φ1.s 5 = p.2 := congrFun m1 5
      have hw0 : φ1.w 0 = rRow rs := congrFun m3 0
      refine ⟨⟨⟨?_, ?_⟩, trivial⟩, ⟨?_, ?_, trivial⟩, trivial, trivial, ⟨⟨by decide, rfl, i, s0, ?_, ?_⟩, trivial⟩, trivial, ⟨mg_ok ha hhas (congrFun m4 0) s5, trivial⟩, trivial, trivial⟩
      · show (1 : Int) ≤ φ1.s 5; rw [s5]; omega
      · show φ1.s 5 ≤ (100000 : Int); rw [s5]; omega
      · exact .lss (k := .i64) (x := i) (y := rs.length) (by simp only [ival, s0]) (by simp only [ival, s1]) (by simp; omega)
      · exact .add (k := .i64) (x := i) (y := 1) (by simp only [ival, s0]) rfl (by simp only [ival, s2]) (i64_in (by omega))
      · show (i + 1) * 2 ≤ _
        rw [hw0, rRow_len]; omega
      · show VRs φ1 [.q 4, .y .i64 5] (((φ1.w 0).drop (i * 2)).take 2)
        rw [hw0, rRow_at hp]
        exact VRs.cons (by simp only [VR]; exact ⟨(congrFun m2 4).symm, rfl⟩) (VRs.cons (by simp only [VR, s5]) VRs.nil)
    · exact ⟨⟨by show ((i + 1 : Nat) : Int) = (i : Int) + 1; omega, rfl, trivial⟩, trivial, ⟨rfl, rfl, trivial⟩, ⟨rfl, trivial⟩⟩
  · rintro a w' ⟨φ, hs, hd, hg, n1, n2, n3, n4⟩
    refine StAt.go E0_ok rfl who_FC 100 (cs := roundOf (c49.drop 3)) who_S1 who_C hs hd (Y1 rs.length) ?_ (fun φ1 hs1 m1 m2 m3 m4 => ?_) (mkY [rs.length, rs.length, 0, late.length] [] [rRow rs, oRow late] [pm l l.length]) ?_ fun φ' a' w'' hs' hd' hg' _ k1 k2 k3 k4 => ⟨rfl, ?_⟩
    · exact ⟨⟨(congrFun n1 0).symm, (congrFun n1 1).symm, trivial⟩, trivial, ⟨(congrFun n3 0).symm, (congrFun n3 1).symm, trivial⟩, ⟨(congrFun n4 0).symm, trivial⟩⟩
    · have s0 : φ1.y.s 0 = rs.length := congrFun m1 0
      have s1 : φ1.y.s 1 = rs.length := congrFun m1 1
      exact ⟨trivial, ⟨.lss (k := .i64) (x := rs.length) (y := rs.length) (by simp only [ival, s0]) (by simp only [ival, s1]) (by simp), trivial⟩, trivial, trivial, trivial, trivial, trivial, trivial, trivial⟩
    · exact ⟨⟨rfl, rfl, trivial⟩, trivial, ⟨rfl, rfl, trivial⟩, ⟨rfl, trivial⟩⟩
    -- between the loops
    refine StAt.runL (withF_ok E0_ok who_FD) rfl 1 (cs := c49.drop 4) who_D hs' (FactsOK.bd' ?_) hd' (mkY [0, late.length] [] [[], oRow late] [pm l l.length]) ?_ fun φ a w1 hs hd hg2 _ n1 n2 n3 n4 => ?_
    · refine ⟨trivial, trivial, trivial, ⟨⟨late.length, by decide, ?_, congrFun k1 3⟩, trivial⟩, trivial, trivial, trivial, trivial, trivial⟩
      show late.length * 4 = _
      rw [show φ'.w 1 = oRow late from congrFun k3 1, oRow_len]
    · exact Ag.agreeS (o := mkY [rs.length, rs.length, 0, late.length] [] [rRow rs, oRow late] [pm l l.length]) ⟨⟨rfl, rfl, trivial⟩, trivial, ⟨rfl, trivial⟩, ⟨rfl, trivial⟩⟩ k1 k2 k3 k4
    show wpCs none n E0.P _ (c49.drop 5) a w1
    -- the objects
    let Y2 : Nat → Sym := fun i => mkY [i, late.length] [] [[], oRow late] [pm l l.length]
    refine for_loop (id := 2) (b := (match c49.drop 5 with | .block _ (.loop b) :: _ => b | _ => .skip)) (rest := c49.drop 6) late.length (fun i a w' => ∃ φ, StAt φ w.heap.size (frOf 34 who_L2) (hOf 4 who_H2) a w' ∧ a.defers = [] ∧ GB w.heap.size w w' ∧ Named φ (Y2 i)) ?_ ?_ ⟨φ, hs, hd, (hg.trans hg').trans hg2, n1, n2, n3, n4⟩
    · rintro i a w' hi ⟨φ, hs, hd, hg, n1, n2, n3, n4⟩
      obtain ⟨p, hp⟩ : ∃ p, late[i]? = some p := ⟨late[i], List.getElem?_eq_getElem hi⟩
      have hpm := List.mem_of_getElem? hp
      have hol : p.1 ∈ l.map (·.1) := by rw [← hfst]; exact List.mem_map.2 ⟨p, hpm, rfl⟩
      obtain ⟨p', hp', hpp⟩ := List.mem_map.1 hol
      have href : p.1.ref = 0 ∨ Has l p.1.ref := by rw [← hpp]; exact hW.ref p' hp'
      obtain ⟨φ1, hs1, m1, m2, m3, m4⟩ := hs.resym who_S2 (y := mkY [i, late.length, i + 1, 0, p.1.id, 0, rf p.1] [] [[], oRow late] [pm l l.length])
        ⟨⟨(congrFun n1 0).symm, (congrFun n1 1).symm, trivial⟩, trivial, ⟨(congrFun n3 1).symm, trivial⟩, ⟨(congrFun n4 0).symm, trivial⟩⟩
      obtain ⟨r, hp2, hr⟩ := hvals p hpm
      have hr' := hg.at_ rfl hr
      have s6 : φ1.s 6 = ((rf p.1 : Nat) : Int) := congrFun m1 6
      have common : ∀ (φ4 : Ren), φ4.y = φ1.y → φ4 4 = some r → BinF φ4.y .lss (.y .i64 0) (.y .i64 1) (.b true) ∧ BinF φ4.y .add (.y .i64 0) (.i .i64 1) (.y .i64 2) ∧ φ4.s 0 = ((i : Nat) : Int) ∧ (i + 1) * 4 ≤ (φ4.w 1).length ∧ VRs φ4 [.y .i64 4, .i .i64 0, .i .i64 0, .sl (some (4, 0)) 1 (.kn 1)] (((φ4.w 1).drop (i * 4)).take 4) := fun φ4 hy h4 => by
        have s0 : φ4.y.s 0 = i := by rw [hy]; exact congrFun m1 0
        have s1 : φ4.y.s 1 = late.length := by rw [hy]; exact congrFun m1 1
        have s2 : φ4.y.s 2 = i + 1 := by rw [hy]; exact congrFun m1 2
        have s4 : φ4.y.s 4 = p.1.id := by rw [hy]; exact congrFun m1 4
        have hw : φ4.w 1 = oRow late := by show φ4.y.w 1 = _; rw [hy]; exact congrFun m3 1
        refine ⟨.lss (k := .i64) (x := i) (y := late.length) (by simp only [ival, s0]) (by simp only [ival, s1]) (by simp; omega), .add (k := .i64) (x := i) (y := 1) (by simp only [ival, s0]) rfl (by simp only [ival, s2]) (i64_in (by omega)), s0, by rw [hw, oRow_len]; omega, ?_⟩
        rw [hw, oRow_at hp]
        refine VRs.cons (by simp only [VR, Ren.s, s4]) (VRs.cons vI (VRs.cons vI (VRs.cons ?_ VRs.nil)))
        show VR _ _ p.2
        rw [hp2]; exact vSl h4 (by decide)
      have hfin : ∀ (k v : V) (F : Facts), KN k v p.1 → runsL (withF E0 F) 300 ((roundOf (c49.drop 5)).take 100) (frOf 34 who_L2) (hOf 5 ((4, .rc [k, v, .s [], .sl none 0 (.kn 0)] 70) :: who_H2)) .n who_TE 34 who_L2 4 who_H2 = true → FactsOK E0.P F (up φ1 4 r (valC p.1).size) →
          wpCs none n E0.P (fun e a' w' => e = .normal ∧ ∃ φ, StAt φ w.heap.size (frOf 34 who_L2) (hOf 4 who_H2) a' w' ∧ a'.defers = [] ∧ GB w.heap.size w w' ∧ Named φ (Y2 (i + 1))) (roundOf (c49.drop 5)) a w' := fun k v F hkn hrun hfa => by
        have hst := hs1.reveal hr' rfl 99 .top (.rc [k, v, .s [], .sl none 0 (.kn 0)] 70) (fun h => h) ⟨_, rfl, by
          rw [List.take_of_length_le (by rw [Array.length_toList, valC_size]; exact Nat.le_refl 4)]
          exact (hkn φ1 s6).1, by rw [valC_size]; exact Nat.le_refl 4, rfl⟩ (by simp only [VR])
        refine StAt.runL (withF_ok E0_ok F) rfl 100 (cs := roundOf (c49.drop 5)) hrun hst hfa.bd' hd (Y2 (i + 1)) ?_ fun φ' a' w'' hs' hd' hg' _ e1 e2 e3 e4 => ⟨rfl, φ', hs', hd', hg.trans hg', e1, e2, e3, e4⟩
        exact Ag.agreeS (o := mkY [i, late.length, i + 1, 0, p.1.id, 0, rf p.1] [] [[], oRow late] [pm l l.length]) ⟨⟨by show ((i + 1 : Nat) : Int) = (i : Int) + 1; omega, rfl, trivial⟩, trivial, ⟨rfl, trivial⟩, ⟨rfl, trivial⟩⟩ m1 m2 m3 m4
      obtain ⟨b1, b2, b3, b4, b5⟩ := common (up φ1 4 r (valC p.1).size) rfl (by simp [up])
      by_cases hz : p.1.ref = 0
      · exact hfin _ _ who_FN (KN_N hz) who_EN ⟨trivial, ⟨b1, b2, trivial⟩, trivial, trivial, ⟨⟨by decide, rfl, i, b3, b4, b5⟩, trivial⟩, trivial, trivial, trivial, trivial⟩
      · have hhas := href.resolve_left hz
        have hb := hid _ hhas
        have hrf : rf p.1 = p.1.ref := by simp [rf, hz]
        have s6' : (up φ1 4 r (valC p.1).size).s 6 = p.1.ref := by rw [← hrf]; exact s6
        refine hfin _ _ who_FE (KN_Y hz) who_EY ⟨⟨⟨?_, ?_⟩, trivial⟩, ⟨b1, b2, trivial⟩, trivial, trivial, ⟨⟨by decide, rfl, i, b3, b4, b5⟩, trivial⟩, trivial, ⟨mg_ok ha hhas (congrFun m4 0) s6', trivial⟩, trivial, trivial⟩
        · show (1 : Int) ≤ (up φ1 4 r (valC p.1).size).s 6; rw [s6']; omega
        · show (up φ1 4 r (valC p.1).size).s 6 ≤ (100000 : Int); rw [s6']; omega
    · rintro a w' ⟨φ, hs, hd, hg, n1, n2, n3, n4⟩
      refine StAt.go E0_ok rfl who_FC 100 (cs := roundOf (c49.drop 5)) who_S2 who_G hs hd (Y2 late.length) ?_ (fun φ1 hs1 m1 m2 m3 m4 => ?_) (Y2 late.length) ?_ fun φ' a' w'' hs' hd' hg' _ k1 k2 k3 k4 => ⟨rfl, ?_⟩
      · exact ⟨⟨(congrFun n1 0).symm, (congrFun n1 1).symm, trivial⟩, trivial, ⟨(congrFun n3 1).symm, trivial⟩, ⟨(congrFun n4 0).symm, trivial⟩⟩
      · have s0 : φ1.y.s 0 = late.length := congrFun m1 0
        have s1 : φ1.y.s 1 = late.length := congrFun m1 1
        exact ⟨trivial, ⟨.lss (k := .i64) (x := late.length) (y := late.length) (by simp only [ival, s0]) (by simp only [ival, s1]) (by simp), trivial⟩, trivial, trivial, trivial, trivial, trivial, trivial, trivial⟩
      · exact ⟨⟨rfl, rfl, trivial⟩, trivial, ⟨rfl, trivial⟩, ⟨rfl, trivial⟩⟩
      refine StAt.go E0_ok rfl {} 2 (cs := c49.drop 6) who_S2 who_I hs' hd' (Y2 late.length) ?_ (fun φ1 hs1 m1 m2 m3 m4 => ?_) (Y2 0) ?_ fun φ3 a3 w3 hs3 hd3 hg3 _ j1 j2 j3 j4 => ?_
      · exact ⟨⟨(congrFun k1 0).symm, (congrFun k1 1).symm, trivial⟩, trivial, ⟨(congrFun k3 1).symm, trivial⟩, ⟨(congrFun k4 0).symm, trivial⟩⟩
      · exact ⟨trivial, trivial, trivial, trivial, trivial, trivial, trivial, trivial, trivial⟩
      · exact ⟨trivial, trivial, trivial, trivial⟩
      refine ⟨.inl rfl, hd3, ?_⟩
      obtain ⟨v, hv1, hv2⟩ := hs3.leave E0_ok (fn := Tryz.f49) (l := [.b true]) rfl
      exact ⟨v, hv1, v, rfl, by simpa only [aRets, VR] using hv2, ((hg.trans hg').trans hg3).grown⟩

end Go.Ev

/- Chains, part G: 'Check'. -/
namespace Go.Ev
open Go.Proofs

/-- The types of a world's blocks. -/
def wT : List Nat := [36, 70, 72, 65, 68]
/-- Cells of some types are kept. -/
def KeptC (w w' : World) (Ts : List Nat) : Prop := ∀ (r : Nat) (c : Array Value) (T : TypeId), T ∈ Ts → w.heap[r]? = some (.cells c T (0, 0)) → w'.heap[r]? = some (.cells c T (0, 0))
theorem KeptC.grown {w w' : World} (h : Grown w w') (Ts : List Nat) : KeptC w w' Ts := fun r c T _ ho => by rw [h.same r (Array.getElem?_eq_some_iff.1 ho).1]; exact ho
theorem IsRow.keptC {w w' : World} {Ts : List Nat} (h : KeptC w w' Ts) {T sz : Nat} {v : Value} {row : List Value} (hi : IsRow w T sz v row) (hT : T ∈ Ts) : IsRow w' T sz v row := by
  obtain ⟨r, n, cap, c, h1, h2, h3, h4, h5, h6, h7⟩ := hi
  exact ⟨r, n, cap, c, h1, h2, h3, h4, h5, h _ _ _ hT h6, h7⟩
theorem GW.keptC {w w' : World} {lines ov rv : Value} {next : Nat} {l : List (O × Value)} {rs : List (ByteArray × Nat)} (h : GW w lines ov rv next l rs) (hk : KeptC w w' wT) : GW w' lines ov rv next l rs :=
  { h with
    sch := by
      obtain ⟨rl, rf, cl, cf, h1, h2, h3, h4⟩ := h.sch
      exact ⟨rl, rf, cl, cf, h1, hk _ _ _ (by decide) h2, hk _ _ _ (by decide) h3, h4⟩
    objs := h.objs.keptC hk (by decide), roots := h.roots.keptC hk (by decide), vals := fun p hp => (h.vals p hp).kept fun r c => hk r _ _ (by decide) }
theorem GW.hid {w : World} {lines ov rv : Value} {next : Nat} {l : List (O × Value)} {rs : List (ByteArray × Nat)} (h : GW w lines ov rv next l rs) : ∀ x, Has l x → 1 ≤ x ∧ x ≤ 100000 := by
  rintro x ⟨j, hj, rfl⟩
  obtain ⟨p, hp⟩ : ∃ p, l[j]? = some p := ⟨l[j], List.getElem?_eq_getElem hj⟩
  have := h.ids j p hp
  have := h.nx
  simp only [lastId, hp, Option.map_some, Option.getD_some]
  omega
theorem Found.one1 {w : World} {l : List (O × Value)} {lv mv : Value} (h : Found w l lv mv) : lv.oneCell' = true := by
  obtain ⟨⟨_, h, _⟩, _⟩ := h; exact h.one
theorem Found.one2 {w : World} {l : List (O × Value)} {lv mv : Value} (h : Found w l lv mv) : mv.oneCell' = true := by
  obtain ⟨_, _, rfl, _⟩ := h; rfl
/-- 'survey' of a world in order. -/
theorem GW.survey {n : Nat} {w : World} {lines ov rv : Value} {next : Nat} {l : List (O × Value)} {rs : List (ByteArray × Nat)} (h : GW w lines ov rv next l rs) (hW : Whole l rs) (hne : l ≠ []) :
    CallsIn (W none) n Tryz.prog 26 #[wV lines ov rv next] w fun e w' => ∃ v, e = .returned v ∧ (∃ lv mv, v = .tuple #[.agg #[lv, mv], .int .i64 0] ∧ Found w' l lv mv) ∧ Grown w w' :=
  survey_ok h hne fun n w' lv mv hF hr => whole_ok hF hr h.asc hW h.ln h.rl h.hid

/-! ### 'Check' -/
noncomputable def c16 : List Code := flatL ((Tryz.f16.body).getD .skip)
def w_args : List V := [.a [.q 0, .q 1, .q 2, .y .i64 3]]
def chk_F : Facts := { qc := [(26, w_args, .t [.a [.o, .o], .i .i64 0])] }
def chk_L : List (Nat × V) := [(2, .i .i64 0)]
theorem chk_A : runsL (withF E0 chk_F) 100 (c16.take 10) ⟨11, load w_args 0 .leaf⟩ (hOf 0 []) .r {} 11 chk_L 0 [] = true := by decide +kernel

theorem w_args_ok {φ : Ren} {lines ov rv : Value} {next : Nat} (h0 : φ.q 0 = lines) (h1 : φ.q 1 = ov) (h2 : φ.q 2 = rv) (h3 : φ.s 3 = next) (o0 : lines.oneCell' = true) (o1 : ov.oneCell' = true) (o2 : rv.oneCell' = true) : VRs φ w_args [wV lines ov rv next] := by
  refine VRs.cons ?_ VRs.nil
  simp only [VR]
  refine ⟨_, rfl, VRs.cons ?_ (VRs.cons ?_ (VRs.cons ?_ (VRs.cons ?_ VRs.nil)))⟩
  · simp only [VR]; exact ⟨h0.symm, o0⟩
  · simp only [VR]; exact ⟨h1.symm, o1⟩
  · simp only [VR]; exact ⟨h2.symm, o2⟩
  · simp only [VR, h3]
theorem w_args_eq {φ : Ren} {lines ov rv : Value} {next : Nat} (h0 : φ.q 0 = lines) (h1 : φ.q 1 = ov) (h2 : φ.q 2 = rv) (h3 : φ.s 3 = next) {args : List Value} (ha : VRs φ w_args args) : args = [wV lines ov rv next] := by
  simp only [w_args, VRs, VR] at ha
  obtain ⟨_, _, rfl, ⟨cs, rfl, _, _, e1, ⟨rfl, _⟩, _, _, rfl, ⟨rfl, _⟩, _, _, rfl, ⟨rfl, _⟩, _, _, rfl, rfl, rfl⟩, rfl⟩ := ha
  rw [h0, h1, h2, h3] at e1
  unfold wV
  congr 2
  exact Array.toList_inj.1 e1

theorem check_ok {n : Nat} {w : World} {lines ov rv : Value} {next : Nat} {l : List (O × Value)} {rs : List (ByteArray × Nat)} (h : GW w lines ov rv next l rs) (hW : Whole l rs) (hne : l ≠ []) :
    CallsIn (W none) n Tryz.prog 16 #[wV lines ov rv next] w fun e w' => ∃ v, e = .returned v ∧ v = .int .i64 0 ∧ Grown w w' := by
  let y0 : Sym := mkY [0, 0, 0, next] [lines, ov, rv] [] []
  have hst := StAt.enter (nt := 11) (φ0_hr y0 w) rfl rfl (w_args_ok (φ := φ0 y0 w) rfl rfl rfl rfl h.sch.one h.objs.one h.roots.one) (by decide)
  refine callIn (fn := Tryz.f16) (c := (Tryz.f16.body).getD .skip) Tryz.func16 rfl (wpIn_flat _ ?_)
  show wpCs none n E0.P _ c16 _ _
  refine StAt.runL (withF_ok E0_ok chk_F) rfl 10 chk_A hst (FactsOK.bd' ?_) rfl y0 ?_ fun φ a w1 hs hd hg _ n1 n2 n3 n4 => ?_
  · refine ⟨trivial, trivial, trivial, trivial, trivial, trivial, trivial, trivial, ⟨?_, trivial⟩⟩
    intro φ' hle args' ha
    have := w_args_eq (φ := φ') (lines := lines) (ov := ov) (rv := rv) (next := next) (by rw [hle.qy]; rfl) (by rw [hle.qy]; rfl) (by rw [hle.qy]; rfl) (by rw [hle.sy]; rfl) ha
    subst this
    refine ⟨⟨_, _, Tryz.func26, rfl, rfl⟩, fun n w' hk => ?_⟩
    refine ((h.keptC fun r c T _ ho => hk r _ ho).survey hW hne (n := n)).mono ?_
    rintro e w'' ⟨v, h1, ⟨lv, mv, rfl, hF⟩, h3⟩
    refine ⟨_, h1, ?_, h3⟩
    simp only [VR]
    refine ⟨_, rfl, VRs.cons ?_ (VRs.cons vI VRs.nil)⟩
    simp only [VR]
    exact ⟨_, rfl, VRs.cons (by simp only [VR]; exact hF.one1) (VRs.cons (by simp only [VR]; exact hF.one2) VRs.nil)⟩
  · exact Ag.agreeS (o := y0) ⟨trivial, trivial, trivial, trivial⟩ rfl rfl rfl rfl
  refine ⟨.inl rfl, hd, ?_⟩
  obtain ⟨v, hv1, hv2⟩ := hs.leave E0_ok (fn := Tryz.f16) (l := [.i .i64 0]) rfl
  exact ⟨v, hv1, v, rfl, by simpa only [aRets, VR] using hv2, hg.grown⟩

end Go.Ev

/- Chains, part H: 'reach', its runs: all roots name one object. -/
namespace Go.Ev
open Go.Proofs

noncomputable def c29 : List Code := flatL ((Tryz.f29.body).getD .skip)
def rea_L1 : List (Nat × V) := [(2, .p (some (3, 0))), (5, .p (some (5, 0))), (6, .p (some (6, 0))), (7, .f 53 [] [.p (some (5, 0)), .p (some (6, 0))]), (13, .sr 0 0 0 2), (14, .y .i64 1), (15, .y .i64 0)]
def rea_B3 : Blk := .cells [.sr 1 1 0 4, .m (some 2)] 86 false
def rea_HA : List (Nat × Blk) := [(3, rea_B3), (5, .cells [.m (some 4)] 93 false), (6, .cells [.sl none 0 (.kn 0)] 49 false), (4, .mp [] 0), (2, .rm 0 (.int .i64)), (1, .rw 1 36), (0, .rw 0 72)]
def rea_TA : Tab := { s := [(0, .i 0), (1, .y 1)], w := [(0, .same 0), (1, .same 1)], g := [(0, .same 0)] }
theorem rea_A : runsL (withF E0 who_FA) 100 (c29.take 5) ⟨51, load who_args 0 .leaf⟩ (hOf 3 who_h) .n rea_TA 51 rea_L1 7 rea_HA = true := by decide +kernel
def rea_H0 : List (Nat × Blk) := [(3, rea_B3), (5, .cells [.m (some 4)] 93 false), (6, .cells [.sl none 0 (.kn 0)] 49 false), (4, .smp 1 (.int .i64) []), (2, .rm 0 (.int .i64)), (1, .rw 1 36), (0, .rw 0 72)]
def rea_TAs : Tab := { s := [(0, .y 0), (1, .y 1)], w := [(0, .same 0), (1, .same 1)], g := [(0, .same 0), (1, .fold 4)] }
theorem rea_As : (mAll rea_TAs (frOf 51 rea_L1) (hOf 7 rea_HA) 51 rea_L1 7 rea_H0).isSome = true := by decide +kernel
def rea_TS : Tab := { s := [(0, .y 0), (1, .y 1)], w := [(0, .same 0), (1, .same 1)], g := [(0, .same 0), (1, .same 1)] }
theorem rea_S0 : selfOK rea_TS 51 rea_L1 7 rea_H0 = true := by decide +kernel
/-- The first root. -/
def rea_F0 : Facts := { bd := [(5, 1, 100000)], bin := [(.lss, .y .i64 0, .y .i64 1, .b true), (.add, .y .i64 0, .i .i64 1, .y .i64 2)], rz := [(0, 2), (1, 4)], re := [(0, 0, [.q 4, .y .i64 5])], mg := [(1, .y .i64 5, none)] }
def rea_T0 : Tab := { s := [(0, .y 2), (1, .y 1), (5, .y 5)], w := [(0, .same 0), (1, .same 1)], g := [(0, .same 0), (1, .same 1)] }
def rea_st : Blk := .cells [.sl (some (7, 0)) 1 (.un 1)] 49 false
def rea_G0 : List (Nat × Blk) := [(3, rea_B3), (5, .cells [.m (some 4)] 93 false), (6, rea_st), (4, .smp 1 (.int .i64) [(.y .i64 5, some (.b true))]), (7, .cells [.y .i64 5] 3 true), (2, .rm 0 (.int .i64)), (1, .rw 1 36), (0, .rw 0 72)]
theorem rea_R0 : runsL (withF E0 rea_F0) 300 ((roundOf (c29.drop 5)).take 100) (frOf 51 rea_L1) (hOf 7 rea_H0) .n rea_T0 51 rea_L1 8 rea_G0 = true := by decide +kernel
def rea_H1 : List (Nat × Blk) := [(3, rea_B3), (5, .cells [.m (some 4)] 93 false), (6, rea_st), (4, .smp 1 (.int .i64) []), (7, .cells [.y .i64 5] 3 true), (2, .rm 0 (.int .i64)), (1, .rw 1 36), (0, .rw 0 72)]
def rea_TG : Tab := { s := [(0, .y 0), (1, .y 1), (5, .y 5)], w := [(0, .same 0), (1, .same 1)], g := [(0, .same 0), (1, .fold 4)] }
theorem rea_G0s : (mAll rea_TG (frOf 51 rea_L1) (hOf 8 rea_G0) 51 rea_L1 8 rea_H1).isSome = true := by decide +kernel
def rea_TS1 : Tab := { s := [(0, .y 0), (1, .y 1), (5, .y 5)], w := [(0, .same 0), (1, .same 1)], g := [(0, .same 0), (1, .same 1)] }
theorem rea_S1 : selfOK rea_TS1 51 rea_L1 8 rea_H1 = true := by decide +kernel
/-- A further root. -/
def rea_F1 : Facts := { bd := [(5, 1, 100000)], bin := [(.lss, .y .i64 0, .y .i64 1, .b true), (.add, .y .i64 0, .i .i64 1, .y .i64 2)], rz := [(0, 2), (1, 4)], re := [(0, 0, [.q 4, .y .i64 5])], mg := [(1, .y .i64 5, some (.b true))] }
theorem rea_R1 : runsL (withF E0 rea_F1) 300 ((roundOf (c29.drop 5)).take 100) (frOf 51 rea_L1) (hOf 8 rea_H1) .n rea_T0 51 rea_L1 8 rea_H1 = true := by decide +kernel
/-- The roots' end. -/
def rea_L2 : List (Nat × V) := [(2, .p (some (3, 0))), (5, .p (some (5, 0))), (6, .p (some (6, 0))), (7, .f 53 [] [.p (some (5, 0)), .p (some (6, 0))])]
def rea_H2 : List (Nat × Blk) := [(3, rea_B3), (5, .cells [.m (some 4)] 93 false), (6, rea_st), (4, .smp 1 (.int .i64) []), (7, .cells [.y .i64 5] 3 true), (2, .rm 0 (.int .i64)), (1, .rw 1 36)]
def rea_T2 : Tab := { s := [(5, .y 5)], w := [(1, .same 1)], g := [(0, .same 0), (1, .same 1)] }
theorem rea_E1 : runsL (withF E0 who_FC) 100 ((roundOf (c29.drop 5)).take 100) (frOf 51 rea_L1) (hOf 8 rea_H1) (.e 0) rea_T2 51 rea_L2 8 rea_H2 = true := by decide +kernel
theorem rea_S2 : selfOK rea_T2 51 rea_L2 8 rea_H2 = true := by decide +kernel
/-- A step along the path. -/
def rea_F2 : Facts := { bd := [(5, 1, 100000), (6, 1, 100000), (9, 0, 100000)], rz := [(0, 2), (1, 4)], re := [(1, 9, [.y .i64 5, .i .i64 0, .i .i64 0, .sl (some (8, 0)) 1 (.kn 1)])], mg := [(0, .y .i64 5, some (.y .i64 9)), (1, .y .i64 6, none)] }
def rea_G2 : List (Nat × Blk) := [(3, rea_B3), (5, .cells [.m (some 4)] 93 false), (6, rea_st), (4, .smp 1 (.int .i64) [(.y .i64 5, some (.b true))]), (7, .cells [.y .i64 5] 3 true), (2, .rm 0 (.int .i64)), (1, .rw 1 36)]
def rea_TY : Tab := { s := [(5, .y 6)], w := [(1, .same 1)], g := [(0, .same 0), (1, .same 1)] }
theorem rea_Y : runsL (withF E0 rea_F2) 400 ((roundOf (c29.drop 6)).take 100) (frOf 51 rea_L2) (hOf 9 ((8, valY) :: rea_H2)) .n rea_TY 51 rea_L2 8 rea_G2 = true := by decide +kernel
def rea_TGs : Tab := { s := [(5, .y 5)], w := [(1, .same 1)], g := [(0, .same 0), (1, .fold 4)] }
theorem rea_Ys : (mAll rea_TGs (frOf 51 rea_L2) (hOf 8 rea_G2) 51 rea_L2 8 rea_H2).isSome = true := by decide +kernel
/-- The path's end. -/
def rea_F3 : Facts := { bd := [(5, 1, 100000), (9, 0, 100000)], rz := [(0, 2), (1, 4)], re := [(1, 9, [.y .i64 5, .i .i64 0, .i .i64 0, .sl (some (8, 0)) 1 (.kn 1)])], mg := [(0, .y .i64 5, some (.y .i64 9))] }
def rea_H3 : List (Nat × Blk) := [(5, .cells [.m (some 4)] 93 false), (6, .cells [.sl (some (7, 0)) 0 (.un 1)] 49 false), (4, .smp 1 (.int .i64) []), (7, .cells [.y .i64 5] 3 true)]
def rea_L3 : List (Nat × V) := [(5, .p (some (5, 0))), (6, .p (some (6, 0)))]
def rea_T3 : Tab := { s := [(5, .y 5)], g := [(1, .same 1)] }
theorem rea_N : runsL (withF E0 rea_F3) 400 ((roundOf (c29.drop 6)).take 100) (frOf 51 rea_L2) (hOf 9 ((8, valN) :: rea_H2)) .n rea_T3 51 rea_L3 8 rea_H3 = true := by decide +kernel
theorem rea_S3 : selfOK rea_T3 51 rea_L3 8 rea_H3 = true := by decide +kernel
theorem rea_X : runsL (withF E0 {}) 100 ((roundOf (c29.drop 6)).take 100) (frOf 51 rea_L3) (hOf 8 rea_H3) (.e 2) rea_T3 51 rea_L3 8 rea_H3 = true := by decide +kernel
def rea_L4 : List (Nat × V) := [(4, .m (some 4))]
def rea_H4 : List (Nat × Blk) := [(4, .smp 1 (.int .i64) [])]
def rea_T4 : Tab := { g := [(1, .same 1)] }
theorem rea_Z : runsL (withF E0 {}) 100 ((c29.drop 7).take 2) (frOf 51 rea_L3) (hOf 8 rea_H3) .r rea_T4 51 rea_L4 5 rea_H4 = true := by decide +kernel

end Go.Ev

/- Chains, part I: 'reach', where all roots name one object. -/
namespace Go.Ev
open Go.Proofs

/-! ### The map of what was seen -/
def sment (i x : Nat) : MapEntry := { key := .int .i64 x, val := .bool true, born := i }
def sm (s : List Nat) : Array MapEntry × Nat := ((s.mapIdx sment).toArray, s.length)
theorem sm_keys (s : List Nat) : ∀ e ∈ (sm s).1.toList, MapKept.IsKey (.int .i64) e.key := by
  intro e he
  simp only [sm, List.mem_mapIdx] at he
  obtain ⟨i, _, rfl⟩ := he
  exact rfl
theorem isKey_int {d : TypeDesc} {x : Nat} (h : MapKept.IsKey d (.int .i64 x)) (y : Nat) : MapKept.IsKey d (.int .i64 y) := by
  cases d <;> first | exact h | exact h.elim
theorem sm_keys' {d : TypeDesc} {x : Nat} (h : MapKept.IsKey d (.int .i64 x)) (s : List Nat) : ∀ e ∈ s.mapIdx sment, MapKept.IsKey d e.key := by
  intro e he
  simp only [List.mem_mapIdx] at he
  obtain ⟨i, _, rfl⟩ := he
  exact isKey_int h _
theorem sm_none {s : List Nat} {x : Nat} (hx : x ∉ s) {d : TypeDesc} (hk : MapKept.IsKey d (.int .i64 x)) : Instr.findNow d (.int .i64 x) (sm s).1.toList 0 = some none := by
  show Instr.findNow d (.int .i64 x) (s.mapIdx sment) 0 = _
  rcases MapKept.findNow_spec hk (s.mapIdx sment) 0 (sm_keys' hk s) with ⟨h1, _⟩ | ⟨j, e, _, h2, h3⟩
  · exact h1
  · rw [List.getElem?_mapIdx] at h2
    cases hj : s[j]? with
    | none => rw [hj] at h2; cases h2
    | some z =>
      rw [hj] at h2; cases h2
      simp only [sment, Value.int.injEq, true_and, Int.natCast_inj] at h3
      subst h3
      exact absurd (List.mem_of_getElem? hj) hx
theorem sm_some {s : List Nat} {x : Nat} (hx : x ∈ s) {d : TypeDesc} (hk : MapKept.IsKey d (.int .i64 x)) : ∃ j, Instr.findNow d (.int .i64 x) (sm s).1.toList 0 = some (some (j, .bool true)) := by
  show ∃ j, Instr.findNow d (.int .i64 x) (s.mapIdx sment) 0 = _
  rcases MapKept.findNow_spec hk (s.mapIdx sment) 0 (sm_keys' hk s) with ⟨_, h1⟩ | ⟨j, e, h1, h2, h3⟩
  · obtain ⟨j, hj⟩ := List.getElem?_of_mem hx
    have : (s.mapIdx sment)[j]? = some (sment j x) := by rw [List.getElem?_mapIdx, hj]; rfl
    exact absurd rfl (h1 _ (List.mem_of_getElem? this))
  · rw [List.getElem?_mapIdx] at h2
    cases hj : s[j]? with
    | none => rw [hj] at h2; cases h2
    | some z =>
      rw [hj] at h2; cases h2
      exact ⟨_, h1⟩
theorem sm_push {s : List Nat} {x : Nat} (hx : x ∉ s) : mset (.int .i64) (sm s) (.int .i64 x) (.bool true) = sm (s ++ [x]) := by
  rw [mset, sm_none (d := .int .i64) hx rfl]
  simp [sm, List.mapIdx_append, sment]

/-- A path: each object refers to the next, the last to none. -/
structure Path (l : List (O × Value)) (p : List Nat) : Prop where
  nd : p.Nodup
  at_ : ∀ i x, p[i]? = some x → ∃ (j : Nat) (q : O × Value), l[j]? = some q ∧ q.1.id = x ∧ q.1.ref = (p[i + 1]?).getD 0
  pos : ∀ x ∈ p, 1 ≤ x ∧ x ≤ 100000

theorem reach_ok {n : Nat} {w : World} {l : List (O × Value)} {lv mv rv : Value} {rs : List (ByteArray × Nat)} {p : List Nat} {k : Nat} (hF : Found w l lv mv) (hr : IsRow w 72 2 rv (rRow rs)) (ha : Asc l) (hP : Path l p) (hk : p[0]? = some k) (hrs : ∀ q ∈ rs, q.2 = k) (hne : rs ≠ [])
    (hln : l.length ≤ 100000) (hrl : rs.length ≤ 100000) :
    CallsIn (W none) n Tryz.prog 29 #[.agg #[lv, mv], rv] w fun e w' => ∃ v, e = .returned v ∧ (∃ r, v = .map (some r) ∧ w'.heap[r]? = some (.map (sm p).1 (sm p).2)) ∧ Grown w w' := by
  obtain ⟨⟨late, hlate, hfst, hvals⟩, rm, rfl, hm⟩ := hF
  have hll : late.length = l.length := by have := congrArg List.length hfst; simpa using this
  have hkp := hP.pos k (List.mem_of_getElem? hk)
  let y0 : Sym := mkY [0, rs.length] [] [rRow rs, oRow late] [pm l l.length]
  obtain ⟨φ1, h1, e1, le1, v1⟩ := hr.add (φ0_hr y0 w) rfl 0 rfl
  obtain ⟨φ2, h2, e2, le2, v2⟩ := hlate.add h1 rfl 1 (by show φ1.y.w 1 = _; rw [e1]; rfl)
  have hy2 : φ2.y = (φ0 y0 w).y := e2.trans e1
  have h3 := h2.addM hm rfl 0 (.int .i64) (by show φ2.y.g 0 = _; rw [hy2]; rfl) (by rw [pm_eq ha _ (Nat.le_refl _)]; exact ents_key l _)
  have hfr : ∀ s, φ2 2 ≠ some s := fun s es => by have := (h2.dom _ _ es).1; exact absurd this (Nat.lt_irrefl _)
  have le3 : Le φ2 (up φ2 2 rm 0) := le_up hfr
  have hy3 : (up φ2 2 rm 0).y = (φ0 y0 w).y := hy2
  have v3 : VR (up φ2 2 rm 0) (.m (some 2)) (.map (some rm)) := by simp only [VR]; exact ⟨rm, by simp [up], rfl⟩
  generalize up φ2 2 rm 0 = φ3 at h3 le3 hy3 v3
  have hargs : VRs φ3 who_args [.agg #[lv, .map (some rm)], rv] := by
    refine VRs.cons ?_ (VRs.cons (VR.mono (le2.trans le3) _ _ v1) VRs.nil)
    simp only [VR]
    exact ⟨_, rfl, VRs.cons (VR.mono le3 _ _ v2) (VRs.cons (by simpa only [VR] using v3) VRs.nil)⟩
  have hst := StAt.enter (nt := 51) h3 rfl (by rw [hy3]; rfl) hargs (by decide)
  refine callIn (fn := Tryz.f29) (c := (Tryz.f29.body).getD .skip) Tryz.func29 rfl (wpIn_flat _ ?_)
  show wpCs none n E0.P _ c29 _ _
  refine StAt.runL (withF_ok E0_ok who_FA) rfl 5 rea_A hst (FactsOK.bd' ?_) rfl y0 ?_ fun φ a w1 hs hd hg _ n1 n2 n3 n4 => ?_
  · refine ⟨trivial, trivial, trivial, ⟨⟨rs.length, by decide, ?_, ?_⟩, trivial⟩, trivial, trivial, trivial, trivial, trivial⟩
    · simp only [Ren.w, hy3]; exact (rRow_len rs).symm
    · simp only [Ren.s, hy3]; rfl
  · refine Ag.agreeS (o := y0) ⟨⟨rfl, rfl, trivial⟩, trivial, ⟨rfl, rfl, trivial⟩, ⟨rfl, trivial⟩⟩ ?_ ?_ ?_ ?_ <;> rw [hy3] <;> rfl
  show wpCs none n E0.P _ (c29.drop 5) a w1
  have hag : Agree rea_TAs φ (hOf 7 rea_HA) w1 (mkY [(0 : Nat), rs.length] [] [rRow rs, oRow late] [pm l l.length, sm []]) := by
    refine mkAgree ⟨(congrFun n1 0).symm, (congrFun n1 1).symm, trivial⟩ trivial ⟨(congrFun n3 0).symm, (congrFun n3 1).symm, trivial⟩ ⟨(congrFun n4 0).symm, ?_, trivial⟩
    intro r es c hr hes
    obtain ⟨o, h1, h2⟩ := hs.hr.blk 4 r hr (by rw [hOf_get]; trivial)
    rw [hOf_get] at h2
    rw [hes] at h1; cases h1
    obtain ⟨el, h1, h2⟩ := h2
    cases h1
    simp only [ERs] at h2
    have : es = #[] := Array.toList_inj.1 h2
    rw [this]; rfl
  obtain ⟨φ4, hs4, k1, k2, k3, k4⟩ := hs.conv rea_As _ hag
  obtain ⟨N, hN⟩ : ∃ N, rs.length = N + 1 := by
    cases rs with
    | nil => exact (hne rfl).elim
    | cons x xs => exact ⟨xs.length, rfl⟩
  -- the roots
  let Y0 : Sym := mkY [(0 : Nat), rs.length] [] [rRow rs, oRow late] [pm l l.length, sm []]
  let Y1 : Nat → Sym := fun i => mkY [i, rs.length, 0, 0, 0, k] [] [rRow rs, oRow late] [pm l l.length, sm [k]]
  let Inv1 : Nat → Act → World → Prop := fun i a w' => match i with
    | 0 => ∃ φ, StAt φ w.heap.size (frOf 51 rea_L1) (hOf 7 rea_H0) a w' ∧ a.defers = [] ∧ GB w.heap.size w w' ∧ Named φ Y0
    | i + 1 => ∃ φ, StAt φ w.heap.size (frOf 51 rea_L1) (hOf 8 rea_H1) a w' ∧ a.defers = [] ∧ GB w.heap.size w w' ∧ Named φ (Y1 (i + 1))
  have facts : ∀ (i : Nat) (q : ByteArray × Nat) (φ1 : Ren), rs[i]? = some q → φ1.s 0 = i → φ1.s 1 = rs.length → φ1.s 2 = i + 1 → φ1.s 5 = k → φ1.q 4 = .string q.1 → φ1.w 0 = rRow rs →
      (BinF φ1.y .lss (.y .i64 0) (.y .i64 1) (.b true) ∧ BinF φ1.y .add (.y .i64 0) (.i .i64 1) (.y .i64 2)) ∧ ((1 : Int) ≤ φ1.s 5 ∧ φ1.s 5 ≤ (100000 : Int)) ∧ (i + 1) * 2 ≤ (φ1.w 0).length ∧ VRs φ1 [.q 4, .y .i64 5] (((φ1.w 0).drop (i * 2)).take 2) := fun i q φ1 hq s0 s1 s2 s5 q4 hw0 => by
    have hi : i < rs.length := by
      rcases Nat.lt_or_ge i rs.length with h | h
      · exact h
      · rw [List.getElem?_eq_none h] at hq; cases hq
    have hqk := hrs q (List.mem_of_getElem? hq)
    refine ⟨⟨.lss (k := .i64) (x := i) (y := rs.length) (by simp only [ival]; rw [show φ1.y.s 0 = _ from s0]) (by simp only [ival]; rw [show φ1.y.s 1 = _ from s1]) (by simp; omega), .add (k := .i64) (x := i) (y := 1) (by simp only [ival]; rw [show φ1.y.s 0 = _ from s0]) rfl (by simp only [ival]; rw [show φ1.y.s 2 = _ from s2]) (i64_in (by omega))⟩, by rw [s5]; omega, ?_, ?_⟩
    · rw [hw0, rRow_len]; omega
    · rw [hw0, rRow_at hq]
      exact VRs.cons (by simp only [VR]; exact ⟨q4.symm, rfl⟩) (VRs.cons (by simp only [VR, s5, hqk]) VRs.nil)
  refine for_loop (id := 0) (b := (match c29.drop 5 with | .block _ (.loop b) :: _ => b | _ => .skip)) (rest := c29.drop 6) (N + 1) Inv1 ?_ ?_ ⟨φ4, hs4, hd, hg, k1, k2, k3, k4⟩
  · intro i a w' hi hinv
    obtain ⟨q, hq⟩ : ∃ q, rs[i]? = some q := ⟨rs[i], List.getElem?_eq_getElem (by omega)⟩
    cases i with
    | zero =>
      obtain ⟨φ, hs, hd, hg, n1, n2, n3, n4⟩ := hinv
      refine StAt.go E0_ok rfl rea_F0 100 (cs := roundOf (c29.drop 5)) rea_S0 rea_R0 hs hd (mkY [(0 : Nat), rs.length, (0 : Nat) + 1, 0, 0, k] [.bool false, .bool false, .bool false, .bool false, .string q.1] [rRow rs, oRow late] [pm l l.length, sm []]) ?_ (fun φ1 hs1 m1 m2 m3 m4 => ?_) (mkY [(1 : Nat), rs.length, 0, 0, 0, k] [] [rRow rs, oRow late] [pm l l.length, sm []]) ?_ fun φ' a' w'' hs' hd' hg' _ k1 k2 k3 k4 => ⟨rfl, ?_⟩
      · exact ⟨⟨(congrFun n1 0).symm, (congrFun n1 1).symm, trivial⟩, trivial, ⟨(congrFun n3 0).symm, (congrFun n3 1).symm, trivial⟩, ⟨(congrFun n4 0).symm, (congrFun n4 1).symm, trivial⟩⟩
      · obtain ⟨⟨b1, b2⟩, b3, b4, b5⟩ := facts 0 q φ1 hq (congrFun m1 0) (congrFun m1 1) (congrFun m1 2) (congrFun m1 5) (congrFun m2 4) (congrFun m3 0)
        refine ⟨⟨b3, trivial⟩, ⟨b1, b2, trivial⟩, trivial, trivial, ⟨⟨by decide, rfl, 0, congrFun m1 0, b4, b5⟩, trivial⟩, trivial, ⟨⟨.int .i64 k, ?_, rfl, fun d hd _ => ?_⟩, trivial⟩, trivial, trivial⟩
        · simp only [VR]; rw [show φ1.s 5 = k from congrFun m1 5]
        · show Instr.findNow d _ (φ1.g 1).1.toList 0 = some none
          rw [show φ1.g 1 = sm [] from congrFun m4 1]
          exact sm_none (by simp) hd
      · exact ⟨⟨rfl, rfl, rfl, trivial⟩, trivial, ⟨rfl, rfl, trivial⟩, ⟨rfl, rfl, trivial⟩⟩
      · have hag : Agree rea_TG φ' (hOf 8 rea_G0) w'' (Y1 1) := by
          refine mkAgree ⟨(congrFun k1 0).symm, (congrFun k1 1).symm, (congrFun k1 5).symm, trivial⟩ trivial ⟨(congrFun k3 0).symm, (congrFun k3 1).symm, trivial⟩ ⟨(congrFun k4 0).symm, ?_, trivial⟩
          intro r es c hr hes
          obtain ⟨es', c', g7, mu, _⟩ := hs'.hr.smpL hr (x := 1) (d := .int .i64) (us := [(.y .i64 5, some (.b true))]) rfl
          rw [hes] at g7; cases g7
          simp only [MU, VR] at mu
          obtain ⟨_, _, rfl, rfl, _, mu⟩ := mu
          rw [mu, show φ'.g 1 = sm [] from congrFun k4 1, show φ'.s 5 = k from congrFun k1 5, sm_push (by simp)]
          rfl
        obtain ⟨φ5, hs5, j1, j2, j3, j4⟩ := hs'.conv rea_G0s _ hag
        exact ⟨φ5, hs5, hd', hg.trans hg', j1, j2, j3, j4⟩
    | succ i =>
      obtain ⟨φ, hs, hd, hg, n1, n2, n3, n4⟩ := hinv
      refine StAt.go E0_ok rfl rea_F1 100 (cs := roundOf (c29.drop 5)) rea_S1 rea_R1 hs hd (mkY [(i + 1 : Nat), rs.length, (i + 1 : Nat) + 1, 0, 0, k] [.bool false, .bool false, .bool false, .bool false, .string q.1] [rRow rs, oRow late] [pm l l.length, sm [k]]) ?_ (fun φ1 hs1 m1 m2 m3 m4 => ?_) (Y1 (i + 2)) ?_ fun φ' a' w'' hs' hd' hg' _ k1 k2 k3 k4 => ⟨rfl, φ', hs', hd', hg.trans hg', k1, k2, k3, k4⟩
      · exact ⟨⟨(congrFun n1 0).symm, (congrFun n1 1).symm, (congrFun n1 5).symm, trivial⟩, trivial, ⟨(congrFun n3 0).symm, (congrFun n3 1).symm, trivial⟩, ⟨(congrFun n4 0).symm, (congrFun n4 1).symm, trivial⟩⟩
      · obtain ⟨⟨b1, b2⟩, b3, b4, b5⟩ := facts (i + 1) q φ1 hq (congrFun m1 0) (congrFun m1 1) (congrFun m1 2) (congrFun m1 5) (congrFun m2 4) (congrFun m3 0)
        refine ⟨⟨b3, trivial⟩, ⟨b1, b2, trivial⟩, trivial, trivial, ⟨⟨by decide, rfl, i + 1, congrFun m1 0, b4, b5⟩, trivial⟩, trivial, ⟨⟨.int .i64 k, ?_, rfl, fun d hd _ => ?_⟩, trivial⟩, trivial, trivial⟩
        · simp only [VR]; rw [show φ1.s 5 = k from congrFun m1 5]
        · show ∃ j u, Instr.findNow d _ (φ1.g 1).1.toList 0 = some (some (j, u)) ∧ VR φ1 (.b true) u
          rw [show φ1.g 1 = sm [k] from congrFun m4 1]
          obtain ⟨j, hj⟩ := sm_some (s := [k]) (x := k) (by simp) hd
          exact ⟨j, _, hj, vB⟩
      · exact ⟨⟨by show ((i + 2 : Nat) : Int) = ((i + 1 : Nat) : Int) + 1; omega, rfl, rfl, trivial⟩, trivial, ⟨rfl, rfl, trivial⟩, ⟨rfl, rfl, trivial⟩⟩
  · rintro a w' ⟨φ, hs, hd, hg, n1, n2, n3, n4⟩
    refine StAt.go E0_ok rfl who_FC 100 (cs := roundOf (c29.drop 5)) rea_S1 rea_E1 hs hd (Y1 (N + 1)) ?_ (fun φ1 hs1 m1 m2 m3 m4 => ?_) (mkY [0, 0, 0, 0, 0, k] [] [[], oRow late] [pm l l.length, sm [k]]) ?_ fun φ' a' w'' hs' hd' hg' _ k1 k2 k3 k4 => ⟨rfl, ?_⟩
    · exact ⟨⟨(congrFun n1 0).symm, (congrFun n1 1).symm, (congrFun n1 5).symm, trivial⟩, trivial, ⟨(congrFun n3 0).symm, (congrFun n3 1).symm, trivial⟩, ⟨(congrFun n4 0).symm, (congrFun n4 1).symm, trivial⟩⟩
    · have s0 : φ1.y.s 0 = (N + 1 : Nat) := congrFun m1 0
      have s1 : φ1.y.s 1 = rs.length := congrFun m1 1
      exact ⟨trivial, ⟨.lss (k := .i64) (x := (N + 1 : Nat)) (y := rs.length) (by simp only [ival, s0]) (by simp only [ival, s1]) (by simp; omega), trivial⟩, trivial, trivial, trivial, trivial, trivial, trivial, trivial⟩
    · exact ⟨⟨rfl, trivial⟩, trivial, ⟨rfl, trivial⟩, ⟨rfl, rfl, trivial⟩⟩
    -- along the path
    let Inv2 : Nat → Act → World → Prop := fun i a w' =>
      (∀ x, p[i]? = some x → ∃ φ, StAt φ w.heap.size (frOf 51 rea_L2) (hOf 8 rea_H2) a w' ∧ a.defers = [] ∧ GB w.heap.size w w' ∧ Named φ (mkY [0, 0, 0, 0, 0, x] [] [[], oRow late] [pm l l.length, sm (p.take (i + 1))])) ∧
      (p[i]? = none → ∃ φ x, StAt φ w.heap.size (frOf 51 rea_L3) (hOf 8 rea_H3) a w' ∧ a.defers = [] ∧ GB w.heap.size w w' ∧ Named φ (mkY [0, 0, 0, 0, 0, x] [] [] [(#[], 0), sm p]))
    have htk : p.take 1 = [k] := by
      cases p with
      | nil => cases hk
      | cons x xs => cases hk; rfl
    refine for_loop (id := 2) (b := (match c29.drop 6 with | .block _ (.loop b) :: _ => b | _ => .skip)) (rest := c29.drop 7) p.length Inv2 ?_ ?_ ⟨fun x hx => ?_, fun hx => ?_⟩
    · intro i a w' hi ⟨hinv, _⟩
      obtain ⟨x, hx⟩ : ∃ x, p[i]? = some x := ⟨p[i], List.getElem?_eq_getElem hi⟩
      obtain ⟨φ, hs, hd, hg, n1, n2, n3, n4⟩ := hinv x hx
      obtain ⟨j, q, hq, hqid, hqref⟩ := hP.at_ i x hx
      have hxp := hP.pos x (List.mem_of_getElem? hx)
      have hjl : j < l.length := by
        rcases Nat.lt_or_ge j l.length with h | h
        · exact h
        · rw [List.getElem?_eq_none h] at hq; cases hq
      have hlast : lastId l (j + 1) = x := by simp [lastId, hq, hqid]
      obtain ⟨q', hq'⟩ : ∃ q', late[j]? = some q' := ⟨late[j]'(by omega), List.getElem?_eq_getElem (by omega)⟩
      have hqq : q'.1 = q.1 := by
        have := congrArg (·[j]?) hfst
        simpa [hq, hq'] using this
      obtain ⟨r, hp2, hr⟩ := hvals q' (List.mem_of_getElem? hq')
      have hr' := hg.at_ rfl hr
      obtain ⟨φ1, hs1, m1, m2, m3, m4⟩ := hs.resym rea_S2 (y := mkY [0, 0, 0, 0, 0, x, rf q'.1, 0, 0, j] [] [[], oRow late] [pm l l.length, sm (p.take (i + 1))])
        ⟨⟨(congrFun n1 5).symm, trivial⟩, trivial, ⟨(congrFun n3 1).symm, trivial⟩, ⟨(congrFun n4 0).symm, (congrFun n4 1).symm, trivial⟩⟩
      have s6 : φ1.s 6 = ((rf q'.1 : Nat) : Int) := congrFun m1 6
      have common : ∀ (φ4 : Ren), φ4.y = φ1.y → φ4 8 = some r → ((1 : Int) ≤ φ4.s 5 ∧ φ4.s 5 ≤ (100000 : Int)) ∧ ((0 : Int) ≤ φ4.s 9 ∧ φ4.s 9 ≤ (100000 : Int)) ∧ φ4.s 9 = ((j : Nat) : Int) ∧ (j + 1) * 4 ≤ (φ4.w 1).length ∧
          VRs φ4 [.y .i64 5, .i .i64 0, .i .i64 0, .sl (some (8, 0)) 1 (.kn 1)] (((φ4.w 1).drop (j * 4)).take 4) ∧
          (∃ kv, VR φ4 (.y .i64 5) kv ∧ detV (.y .i64 5) = true ∧ ∀ d, MapKept.IsKey d kv → (∀ x ∈ (φ4.g 0).1.toList, MapKept.IsKey d x.key) → ∃ j' u, Instr.findNow d kv (φ4.g 0).1.toList 0 = some (some (j', u)) ∧ VR φ4 (.y .i64 9) u) := fun φ4 hy h8 => by
        have s5 : φ4.s 5 = x := by show φ4.y.s 5 = _; rw [hy]; exact congrFun m1 5
        have s9 : φ4.s 9 = j := by show φ4.y.s 9 = _; rw [hy]; exact congrFun m1 9
        have hw : φ4.w 1 = oRow late := by show φ4.y.w 1 = _; rw [hy]; exact congrFun m3 1
        have hg0 : φ4.g 0 = pm l l.length := by show φ4.y.g 0 = _; rw [hy]; exact congrFun m4 0
        refine ⟨by rw [s5]; omega, by rw [s9]; omega, s9, by rw [hw, oRow_len]; omega, ?_, ⟨.int .i64 x, by simp only [VR, s5], rfl, fun d hd _ => ⟨j, .int .i64 j, ?_, by simp only [VR, s9]⟩⟩⟩
        · rw [hw, oRow_at hq']
          refine VRs.cons (by simp only [VR, s5, hqq, hqid]) (VRs.cons vI (VRs.cons vI (VRs.cons ?_ VRs.nil)))
          show VR _ _ q'.2
          rw [hp2]; exact vSl h8 (by decide)
        · rw [hg0, ← hlast]
          exact pm_find ha hjl (by rw [hlast]; exact hd)
      have hst : ∀ (k v : V), KN k v q'.1 → StAt (up φ1 8 r (valC q'.1).size) w.heap.size (frOf 51 rea_L2) (hOf 9 ((8, .rc [k, v, .s [], .sl none 0 (.kn 0)] 70) :: rea_H2)) a w' := fun k v hkn =>
        hs1.reveal hr' rfl 99 .top (.rc [k, v, .s [], .sl none 0 (.kn 0)] 70) (fun h => h) ⟨_, rfl, by
          rw [List.take_of_length_le (by rw [Array.length_toList, valC_size]; exact Nat.le_refl 4)]
          exact (hkn φ1 s6).1, by rw [valC_size]; exact Nat.le_refl 4, rfl⟩ (by simp only [VR])
      obtain ⟨b1, b2, b3, b4, b5, b6⟩ := common (up φ1 8 r (valC q'.1).size) rfl (by simp [up])
      cases hnx : p[i + 1]? with
      | none =>
        have hz : q'.1.ref = 0 := by rw [hqq, hqref, hnx]; rfl
        refine StAt.runL (withF_ok E0_ok rea_F3) rfl 100 (cs := roundOf (c29.drop 6)) rea_N (hst _ _ (KN_N hz)) (FactsOK.bd' ⟨⟨b1, b2, trivial⟩, trivial, trivial, trivial, ⟨⟨by decide, rfl, j, b3, b4, b5⟩, trivial⟩, trivial, ⟨b6, trivial⟩, trivial, trivial⟩) hd (mkY [0, 0, 0, 0, 0, x] [] [] [(#[], 0), sm p]) ?_ fun φ' a' w'' hs' hd' hg' _ e1 e2 e3 e4 => ⟨rfl, ⟨fun y hy => ?_, fun _ => ⟨φ', x, hs', hd', hg.trans hg', e1, e2, e3, e4⟩⟩⟩
        · have hall : p.take (i + 1) = p := List.take_of_length_le (by
            rcases Nat.lt_or_ge (i + 1) p.length with h | h
            · rw [List.getElem?_eq_getElem h] at hnx; cases hnx
            · exact h)
          exact Ag.agreeS (o := mkY [0, 0, 0, 0, 0, x, rf q'.1, 0, 0, j] [] [[], oRow late] [pm l l.length, sm (p.take (i + 1))]) ⟨⟨rfl, trivial⟩, trivial, trivial, ⟨by show sm p = sm (p.take (i + 1)); rw [hall], trivial⟩⟩ m1 m2 m3 m4
        · rw [hnx] at hy; cases hy
      | some z =>
        have hzp := hP.pos z (List.mem_of_getElem? hnx)
        have hz : q'.1.ref = z := by rw [hqq, hqref, hnx]; rfl
        have hz0 : q'.1.ref ≠ 0 := by omega
        have hrf : rf q'.1 = z := by rw [rf, if_neg hz0, hz]
        have hil : i + 1 < p.length := by
          rcases Nat.lt_or_ge (i + 1) p.length with h | h
          · exact h
          · rw [List.getElem?_eq_none h] at hnx; cases hnx
        have hni : z ∉ p.take (i + 1) := fun hmem => by
          obtain ⟨t, ht⟩ := List.getElem?_of_mem hmem
          have htl : t < i + 1 := by
            rcases Nat.lt_or_ge t (i + 1) with h | h
            · exact h
            · rw [List.getElem?_eq_none (by simp; omega)] at ht; cases ht
          rw [List.getElem?_take_of_lt htl] at ht
          have h1 : p[t]? = p[i + 1]? := ht.trans hnx.symm
          have := (List.getElem?_inj (by omega) hP.nd).1 h1
          omega
        have htake : p.take (i + 1 + 1) = p.take (i + 1) ++ [z] := by rw [List.take_add_one, hnx]; rfl
        have s6' : (up φ1 8 r (valC q'.1).size).s 6 = z := by rw [← hrf]; exact s6
        refine StAt.runL (withF_ok E0_ok rea_F2) rfl 100 (cs := roundOf (c29.drop 6)) rea_Y (hst _ _ (KN_Y hz0)) (FactsOK.bd' ⟨⟨b1, ⟨?_, ?_⟩, b2, trivial⟩, trivial, trivial, trivial, ⟨⟨by decide, rfl, j, b3, b4, b5⟩, trivial⟩, trivial, ⟨b6, ⟨.int .i64 z, ?_, rfl, fun d hd _ => ?_⟩, trivial⟩, trivial, trivial⟩) hd (mkY [0, 0, 0, 0, 0, z] [] [[], oRow late] [pm l l.length, sm (p.take (i + 1))]) ?_ fun φ' a' w'' hs' hd' hg' _ e1 e2 e3 e4 => ⟨rfl, ⟨fun y hy => ?_, fun hy => ?_⟩⟩
        · show (1 : Int) ≤ (up φ1 8 r (valC q'.1).size).s 6; rw [s6']; omega
        · show (up φ1 8 r (valC q'.1).size).s 6 ≤ (100000 : Int); rw [s6']; omega
        · simp only [VR]; rw [s6']
        · show Instr.findNow d _ ((up φ1 8 r (valC q'.1).size).g 1).1.toList 0 = some none
          rw [show (up φ1 8 r (valC q'.1).size).g 1 = sm (p.take (i + 1)) from congrFun m4 1]
          exact sm_none hni hd
        · exact Ag.agreeS (o := mkY [0, 0, 0, 0, 0, x, rf q'.1, 0, 0, j] [] [[], oRow late] [pm l l.length, sm (p.take (i + 1))]) ⟨⟨by show (z : Int) = (rf q'.1 : Nat); rw [hrf], trivial⟩, trivial, ⟨rfl, trivial⟩, ⟨rfl, rfl, trivial⟩⟩ m1 m2 m3 m4
        · rw [hnx] at hy; cases hy
          have hag : Agree rea_TGs φ' (hOf 8 rea_G2) w'' (mkY [0, 0, 0, 0, 0, z] [] [[], oRow late] [pm l l.length, sm (p.take (i + 1 + 1))]) := by
            refine mkAgree ⟨(congrFun e1 5).symm, trivial⟩ trivial ⟨(congrFun e3 1).symm, trivial⟩ ⟨(congrFun e4 0).symm, ?_, trivial⟩
            intro r es c hr hes
            obtain ⟨es', c', g7, mu, _⟩ := hs'.hr.smpL hr (x := 1) (d := .int .i64) (us := [(.y .i64 5, some (.b true))]) rfl
            rw [hes] at g7; cases g7
            simp only [MU, VR] at mu
            obtain ⟨_, _, rfl, rfl, _, mu⟩ := mu
            rw [mu, show φ'.g 1 = sm (p.take (i + 1)) from congrFun e4 1, show φ'.s 5 = z from congrFun e1 5, sm_push hni, ← htake]
            rfl
          obtain ⟨φ5, hs5, j1, j2, j3, j4⟩ := hs'.conv rea_Ys _ hag
          exact ⟨φ5, hs5, hd', hg.trans hg', j1, j2, j3, j4⟩
        · rw [hnx] at hy; cases hy
    · intro a w' ⟨_, hinv⟩
      obtain ⟨φ, x, hs, hd, hg, n1, n2, n3, n4⟩ := hinv (List.getElem?_eq_none (Nat.le_refl _))
      let Z : Sym := mkY [0, 0, 0, 0, 0, x] [] [] [(#[], 0), sm p]
      refine StAt.go E0_ok rfl {} 100 (cs := roundOf (c29.drop 6)) rea_S3 rea_X hs hd Z ?_ (fun φ1 hs1 m1 m2 m3 m4 => ?_) Z ?_ fun φ' a' w'' hs' hd' hg' _ k1 k2 k3 k4 => ⟨rfl, ?_⟩
      · exact ⟨⟨(congrFun n1 5).symm, trivial⟩, trivial, trivial, ⟨(congrFun n4 1).symm, trivial⟩⟩
      · exact ⟨trivial, trivial, trivial, trivial, trivial, trivial, trivial, trivial, trivial⟩
      · exact ⟨⟨rfl, trivial⟩, trivial, trivial, ⟨rfl, trivial⟩⟩
      refine StAt.go E0_ok rfl {} 2 (cs := c29.drop 7) rea_S3 rea_Z hs' hd' Z ?_ (fun φ1 hs1 m1 m2 m3 m4 => ?_) Z ?_ fun φ3 a3 w3 hs3 hd3 hg3 _ j1 j2 j3 j4 => ?_
      · exact ⟨⟨(congrFun k1 5).symm, trivial⟩, trivial, trivial, ⟨(congrFun k4 1).symm, trivial⟩⟩
      · exact ⟨trivial, trivial, trivial, trivial, trivial, trivial, trivial, trivial, trivial⟩
      · exact ⟨trivial, trivial, trivial, ⟨rfl, trivial⟩⟩
      refine ⟨.inl rfl, hd3, ?_⟩
      obtain ⟨v, hv1, hv2⟩ := hs3.leave E0_ok (fn := Tryz.f29) (l := [.m (some 4)]) rfl
      simp only [aRets, VR] at hv2
      obtain ⟨r, h4, rfl⟩ := hv2
      obtain ⟨es, c, g7, mu, _⟩ := hs3.hr.smpL h4 (x := 1) (d := .int .i64) (us := []) rfl
      simp only [MU] at mu
      refine ⟨_, hv1, _, rfl, ⟨r, rfl, ?_⟩, ((hg.trans hg').trans hg3).grown⟩
      rw [g7, ← show φ3.g 1 = sm p from congrFun j4 1, ← mu]
    · rw [hk] at hx; cases hx
      refine ⟨φ', hs', hd', hg.trans hg', k1, k2, k3, ?_⟩
      rw [k4]
      show _ = (mkY [0, 0, 0, 0, 0, k] [] [[], oRow late] [pm l l.length, sm (p.take 1)]).g
      rw [htk]
    · rw [hk] at hx; cases hx

end Go.Ev
