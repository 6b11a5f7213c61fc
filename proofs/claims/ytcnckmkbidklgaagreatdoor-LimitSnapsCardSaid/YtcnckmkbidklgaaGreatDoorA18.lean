/- Chains, part Bf: 'limit.Check'. -/
import Derived.Test.YtcnckmkbidklgaaGreatDoorA17
import Derived.Lib.Walk
import Derived.Lib.Builder
import Derived.Lib.UnsafeStr
import Derived.WalkKit
import Derived.Laws.Externs
import Derived.Shelf.Strings.Builder1
import Derived.Test.YtcnckmkbidklgaaGreatDoorA13
import Derived.Test.YtcnckmkbidklgaaGreatDoorA16
namespace Go.Ev
open Go.Proofs

/-- What is told of so many objects that are reached, roots, and names of snapshots. -/
def lim (a b c : Nat) : Nat := if 200 < a then 250 else if 20 < b then 251 else if 8 < c then 252 else 0
theorem IsRecs.kept {w w' : World} {v : Value} {rl : List (R × Value)} (h : IsRecs w v rl) (hk : ∀ (r : Nat) (o : Obj), w.heap[r]? = some o → w'.heap[r]? = some o) : IsRecs w' v rl := by
  rcases h with h | h
  · exact .inl h
  · exact .inr (h.kept hk)
theorem IsSnaps.kept {w w' : World} {v : Value} {sl : List (ByteArray × Nat)} (h : IsSnaps w v sl) (hk : ∀ (r : Nat) (o : Obj), w.heap[r]? = some o → w'.heap[r]? = some o) : IsSnaps w' v sl := by
  rcases h with h | h
  · exact .inl h
  · exact .inr (h.kept hk)
theorem ROK.kept {w w' : World} {r : R × Value} (h : ROK w r) (hk : ∀ (x : Nat) (o : Obj), w.heap[x]? = some o → w'.heap[x]? = some o) : ROK w' r := by
  obtain ⟨r, v⟩ := r
  cases r with
  | put o => exact ⟨h.1.kept fun r c ho => hk r _ ho, h.2⟩
  | root nm id => exact h
  | snap nm id => exact h
theorem ROK.rn' {w : World} {r : R × Value} (h : ROK w r) : RN' r := by
  obtain ⟨r, v⟩ := r
  cases r with
  | put o => exact h.1.one
  | root nm id => trivial
  | snap nm id => exact h.2

def lY (next next' : Nat) (lines ov rv sv recv ln' ov' rv' uv : Value) (a b c : Nat) (r0 r1 : List Value) (m : Nat) : Sym :=
  mkY [0, 0, 0, next, next', m, 0, 0, 0, 0, 0, a, b, c] [lines, ov, rv, .bool false, .bool false, sv, recv, ln', ov', rv', uv] [r0, r1] []

theorem limit_ok {n : Nat} {w : World} {lines ov rv : Value} {next : Nat} {l : List (O × Value)} {rs : List (ByteArray × Nat)} (G : GW w lines ov rv next l rs) (hW : Whole l rs) (hne : l ≠ []) {sv recv : Value} {sl : List (ByteArray × Nat)} {rl : List (R × Value)} (hsn : IsSnaps w sv sl) (hsl : sl.length ≤ 100000) (hrecs : IsRecs w recv rl) (hrl : ∀ r ∈ rl, ROK w r) (hn : rl.length ≤ 100000)
    {s : Bst} (hs : s = (⟨l, rs, next⟩ : Bst).run rl) (hW2 : WholeS s.objs s.roots) (hsl2 : s.objs.length ≤ 100000) (hsr : s.roots.length ≤ 100000) (hsne : s.objs ≠ []) (hrne : s.roots ≠ []) {N : Nat}
    (hreach : ∀ n w' ln ov rv l' rs', OutW w' s ln ov rv l' rs' → CallsIn (W none) n Tryz.prog 11 #[wV ln ov rv s.next] w' fun e w'' => ∃ v, e = .returned v ∧ (∃ u row, v = .tuple #[u, .int .i64 0] ∧ row.length = N ∧ IsRow w'' 3 1 u row) ∧ Grown w' w'') :
    CallsIn (W none) n Tryz.prog 9 #[wV lines ov rv next, sv, recv] w fun e w' => ∃ v, e = .returned v ∧ v = .int .i64 (lim N s.roots.length (namesOf sl rl).length) ∧ Grown w w' := by
  have o0 := G.sch.one
  have o1 := G.objs.one
  have o2 := G.roots.one
  have o5 := hsn.one
  have o6 := hrecs.one
  let y0 : Sym := mkY [0, 0, 0, next] [lines, ov, rv, .bool false, .bool false, sv, recv] [] []
  have hwA : ∀ φ : Ren, φ.q = y0.q → φ.s = y0.s → VR φ wA (wV lines ov rv next) := fun φ hq hs => by
    have := w_args_ok (φ := φ) (lines := lines) (ov := ov) (rv := rv) (next := next) (by rw [hq]; rfl) (by rw [hq]; rfl) (by rw [hq]; rfl) (by rw [hs]; rfl) o0 o1 o2
    simp only [w_args, VRs] at this
    obtain ⟨_, _, e, h, rfl⟩ := this
    simp only [List.cons.injEq, and_true] at e
    rw [e]; exact h
  have hst := StAt.enter (nt := 48) (φ0_hr y0 w) rfl rfl (vs := lim_args) (args := [wV lines ov rv next, sv, recv]) (VRs.cons (hwA _ rfl rfl) (VRs.cons (by simp only [VR]; exact ⟨rfl, o5⟩) (VRs.cons (by simp only [VR]; exact ⟨rfl, o6⟩) VRs.nil))) (by decide)
  refine callIn (fn := Tryz.f9) (c := (Tryz.f9.body).getD .skip) (args := [wV lines ov rv next, sv, recv]) Tryz.func9 rfl (wpIn_flat _ ?_)
  show wpCs none n E0.P _ c9 _ _
  have hy0 : Ag lim_T y0 y0 := ⟨⟨rfl, trivial⟩, ⟨⟨rfl, o0⟩, ⟨rfl, o1⟩, ⟨rfl, o2⟩, ⟨rfl, o5⟩, ⟨rfl, o6⟩, trivial⟩, trivial, trivial⟩
  refine StAt.runL (withF_ok E0_ok app_F) rfl 4 lim_A hst (FactsOK.bd' ?_) rfl y0 (hy0.agreeS rfl rfl rfl rfl) fun φ a w1 hs1 hd hg _ n1 n2 n3 n4 => ?_
  · refine ⟨trivial, trivial, trivial, trivial, trivial, trivial, trivial, trivial, ⟨?_, trivial⟩⟩
    intro φ' hle args' ha
    have := w_args_eq (φ := φ') (lines := lines) (ov := ov) (rv := rv) (next := next) (by rw [hle.qy]; rfl) (by rw [hle.qy]; rfl) (by rw [hle.qy]; rfl) (by rw [hle.sy]; rfl) ha
    subst this
    refine ⟨⟨_, _, Tryz.func16, rfl, rfl⟩, fun n w' hk => ?_⟩
    refine (check_ok (n := n) (G.keptC fun r c T _ ho => hk r _ ho) hW hne).mono ?_
    rintro e w'' ⟨v, h1, rfl, h3⟩
    exact ⟨_, h1, by simp only [VR], h3⟩
  show wpCs none n E0.P _ (c9.drop 4) a w1
  obtain ⟨id4, hr4⟩ := lim_r4
  rw [hr4]
  refine wpCs_region ?_
  refine StAt.runO (withF_ok E0_ok {}) rfl 2 lim_B hs1 noFacts.bd' _ (hy0.self' ⟨n1, n2, n3, n4⟩) fun φ a2 w2 hs2 hd2 hg2 _ n1 n2 n3 n4 => ?_
  have g02 := hg.trans hg2
  have k02 : ∀ (r : Nat) (o : Obj), w.heap[r]? = some o → w2.heap[r]? = some o := fun r o ho => g02.at_ rfl ho
  -- 'Apply'
  refine hs2.callO (l := (opsD (c9.drop 4)).toList.drop 2) (o := ((opsD (c9.drop 4)).toList.drop 2).headD default) (rest := (opsD (c9.drop 4)).toList.drop 3) rfl rfl rfl rfl rfl Tryz.func10 rfl rfl (Vs := [wA, .q 6]) rfl ?_
  intro args' ha
  have : args' = [wV lines ov rv next, recv] := by
    simp only [VRs] at ha
    obtain ⟨uw, _, rfl, huw, ur, _, rfl, hur, rfl⟩ := ha
    have h1 : VRs φ w_args [uw] := VRs.cons huw VRs.nil
    have := w_args_eq (φ := φ) (lines := lines) (ov := ov) (rv := rv) (next := next) (congrFun n2 0) (congrFun n2 1) (congrFun n2 2) (congrFun n1 3) h1
    simp only [List.cons.injEq, and_true] at this
    simp only [VR] at hur
    rw [this, hur.1, n2]; rfl
  subst this
  refine (apply_ok (n := n - 1) (G.kept k02) hW hne (hrecs.kept k02) (fun r hr => (hrl r hr).kept k02) hn hs hW2 hsl2 hsr hsne hrne).mono ?_
  rintro e w3 ⟨v, rfl, ⟨ln', ov', rv', l', rs', rfl, hout⟩, hgr⟩
  refine ⟨_, rfl, ?_⟩
  have p0 := hout.gw.sch.one
  have p1 := hout.gw.objs.one
  have p2 := hout.gw.roots.one
  have g03 := g02.trans (hgr.gb g02.size)
  obtain ⟨φ, hs3, n1, n2, n3, n4⟩ := hs2.conv lim_C (mkY [] [.bool false, .bool false, .bool false, .bool false, .bool false, sv, recv] [] []) (by
    refine mkAgree trivial ⟨?_, ?_, trivial⟩ trivial trivial
    · simp only [VR]; exact ⟨(congrFun n2 5).symm, o5⟩
    · simp only [VR]; exact ⟨(congrFun n2 6).symm, o6⟩)
  let y1 : Sym := mkY [0, 0, 0, 0, s.next, rl.length] [.bool false, .bool false, .bool false, .bool false, .bool false, sv, recv, ln', ov', rv'] [] []
  obtain ⟨φ, hs3, n1, n2, n3, n4⟩ := hs3.grow hgr lim_S (y := y1) ⟨trivial, ⟨⟨(congrFun n2 5).symm, o5⟩, ⟨(congrFun n2 6).symm, o6⟩, trivial⟩, trivial, trivial⟩
  have hwB : ∀ φ : Ren, φ.q 7 = ln' → φ.q 8 = ov' → φ.q 9 = rv' → φ.s 4 = s.next → VR φ wB (wV ln' ov' rv' s.next) := fun φ h7 h8 h9 h4 => by
    simp only [wB, VR]
    refine ⟨_, rfl, VRs.cons ?_ (VRs.cons ?_ (VRs.cons ?_ (VRs.cons ?_ VRs.nil)))⟩
    · simp only [VR]; exact ⟨h7.symm, p0⟩
    · simp only [VR]; exact ⟨h8.symm, p1⟩
    · simp only [VR]; exact ⟨h9.symm, p2⟩
    · simp only [VR, h4]
  have hs3 := hs3.put (d := 20) (by decide) (x := .t [wB, .y .i64 5, .i .i64 0]) (v := .tuple #[wV ln' ov' rv' s.next, .int .i64 rl.length, .int .i64 0]) (by
    simp only [VR]
    refine ⟨_, rfl, VRs.cons (hwB φ (congrFun n2 7) (congrFun n2 8) (congrFun n2 9) (congrFun n1 4)) (VRs.cons ?_ (VRs.cons vI VRs.nil))⟩
    simp only [VR]
    rw [show φ.s 5 = rl.length from congrFun n1 5])
  have hy1 : Ag lim_T3 y1 y1 := ⟨⟨rfl, trivial⟩, ⟨⟨rfl, o5⟩, ⟨rfl, o6⟩, ⟨rfl, p0⟩, ⟨rfl, p1⟩, ⟨rfl, p2⟩, trivial⟩, trivial, trivial⟩
  refine StAt.runO (withF_ok E0_ok {}) rfl 100 lim_D hs3 noFacts.bd' _ (hy1.self' ⟨n1, n2, n3, n4⟩) fun φ a4 w4 hs4 hd4 hg4 hk4 n1 n2 n3 n4 => ?_
  show wpCs none n E0.P _ (c9.drop 5) a4 w4
  have hd4' : a4.defers = [] := by rw [hd4]; show a2.defers = []; rw [hd2, hd]
  refine StAt.runL (withF_ok E0_ok {}) rfl 2 (cs := c9.drop 5) lim_E hs4 noFacts.bd' hd4' _ (hy1.self' ⟨n1, n2, n3, n4⟩) fun φ a5 w5 hs5 hd5 hg5 hk5 n1 n2 n3 n4 => ?_
  show wpCs none n E0.P _ (c9.drop 7) a5 w5
  obtain ⟨id7, hr7⟩ := lim_r7
  rw [hr7]
  refine wpCs_region ?_
  refine StAt.runO (withF_ok E0_ok {}) rfl 1 lim_F hs5 noFacts.bd' _ (hy1.self' ⟨n1, n2, n3, n4⟩) fun φ a6 w6 hs6 hd6 hg6 hk6 n1 n2 n3 n4 => ?_
  have kc6 : KeptC w3 w6 wT := ((hk4.keptC rfl).trans (hk5.keptC rfl)).trans (hk6.keptC rfl)
  have hout6 : OutW w6 s ln' ov' rv' l' rs' := ⟨hout.gw.keptC kc6, hout.whole, hout.objs, hout.roots⟩
  have g06 := ((g03.trans hg4).trans hg5).trans hg6
  -- 'Reach'
  refine hs6.callO (l := (opsD (c9.drop 7)).toList.drop 1) (o := ((opsD (c9.drop 7)).toList.drop 1).headD default) (rest := (opsD (c9.drop 7)).toList.drop 2) rfl rfl rfl rfl rfl Tryz.func11 rfl rfl (Vs := [wB]) rfl ?_
  intro args' ha
  have : args' = [wV ln' ov' rv' s.next] := by
    simp only [VRs, wB, VR] at ha
    obtain ⟨_, _, rfl, ⟨cs, rfl, _, _, e1, ⟨rfl, _⟩, _, _, rfl, ⟨rfl, _⟩, _, _, rfl, ⟨rfl, _⟩, _, _, rfl, rfl, rfl⟩, rfl⟩ := ha
    rw [n1, n2] at e1
    unfold wV
    congr 2
    exact Array.toList_inj.1 e1
  subst this
  refine (hreach (n - 1) w6 ln' ov' rv' l' rs' hout6).mono ?_
  rintro e w7 ⟨v, rfl, ⟨uv, row, rfl, hrow, hu⟩, hgr7⟩
  refine ⟨_, rfl, ?_⟩
  have g07 := g06.trans (hgr7.gb g06.size)
  have p10 := hu.one
  have hroots7 : IsRow w7 72 2 rv' (rRow rs') := hout6.gw.roots.grown hgr7
  let y2 : Sym := lY 0 s.next (.bool false) (.bool false) (.bool false) sv recv ln' ov' rv' uv N s.roots.length (namesOf sl rl).length row (rRow rs') 0
  obtain ⟨φ, hs7, n1, n2, n3, n4⟩ := hs6.grow hgr7 lim_SG (y := y2) ⟨⟨(congrFun n1 4).symm, trivial⟩, ⟨⟨(congrFun n2 5).symm, o5⟩, ⟨(congrFun n2 6).symm, o6⟩, ⟨(congrFun n2 7).symm, p0⟩, ⟨(congrFun n2 8).symm, p1⟩, ⟨(congrFun n2 9).symm, p2⟩, trivial⟩, trivial, trivial⟩
  have hs7 := hs7.put (d := 29) (by decide) (x := .t [.q 10, .i .i64 0]) (v := .tuple #[uv, .int .i64 0]) (by
    simp only [VR]
    refine ⟨_, rfl, VRs.cons ?_ (VRs.cons vI VRs.nil)⟩
    simp only [VR]; exact ⟨(congrFun n2 10).symm, p10⟩)
  have hy2 : Ag lim_T4 y2 y2 := ⟨⟨rfl, trivial⟩, ⟨⟨rfl, o5⟩, ⟨rfl, o6⟩, ⟨rfl, p0⟩, ⟨rfl, p1⟩, ⟨rfl, p2⟩, ⟨rfl, p10⟩, trivial⟩, trivial, trivial⟩
  refine StAt.runO (withF_ok E0_ok {}) rfl 100 lim_G hs7 noFacts.bd' _ (hy2.self' ⟨n1, n2, n3, n4⟩) fun φ a8 w8 hs8 hd8 hg8 hk8 n1 n2 n3 n4 => ?_
  show wpCs none n E0.P _ (c9.drop 8) a8 w8
  have hd8' : a8.defers = [] := by rw [hd8]; show a6.defers = []; rw [hd6, hd5]
  refine StAt.runL (withF_ok E0_ok {}) rfl 2 (cs := c9.drop 8) lim_H hs8 noFacts.bd' hd8' _ (hy2.self' ⟨n1, n2, n3, n4⟩) fun φ a9 w9 hs9 hd9 hg9 hk9 n1 n2 n3 n4 => ?_
  show wpCs none n E0.P _ (c9.drop 10) a9 w9
  have kc9 : KeptC w7 w9 [3, 72] := (hk8.keptC rfl).trans (hk9.keptC rfl)
  have g09 := (g07.trans hg8).trans hg9
  obtain ⟨φ, hsA, m1, m2, m3, m4⟩ := hs9.resym lim_SJ (y := y2) (hy2.self'' n1 n2 n3 n4)
  obtain ⟨φB, hsB, hyB⟩ := hsA.revealRow (hroots7.keptC kc9 (by decide)) rfl 9 1 (congrFun m2 9) (congrFun m3 1)
  obtain ⟨φC, hsC, hyC⟩ := hsB.revealRow (hu.keptC kc9 (by decide)) rfl 10 0 (by show φB.y.q 10 = _; rw [hyB]; exact congrFun m2 10) (by show φB.y.w 0 = _; rw [hyB]; exact congrFun m3 0)
  have cs : φC.y.s = y2.s := by rw [hyC, hyB]; exact m1
  have cq : φC.y.q = y2.q := by rw [hyC, hyB]; exact m2
  have cw : φC.y.w = y2.w := by rw [hyC, hyB]; exact m3
  have hlen72 : rs'.length = s.roots.length := hout.roots.length_eq
  have facts : ∀ bn, AllL (fun e : BinOp × V × V × V => BinF φC.y e.1 e.2.1 e.2.2.1 e.2.2.2) bn → FactsOK Tryz.prog (lim_FK bn) φC := fun bn hbn => by
    refine ⟨trivial, hbn, trivial, ⟨⟨N, (by show 0 < 1; decide), ?_, ?_⟩, ⟨s.roots.length, (by show 0 < 2; decide), ?_, ?_⟩, trivial⟩, trivial, trivial, trivial, trivial, ⟨?_, trivial⟩⟩
    · show N * 1 = (φC.y.w 0).length
      rw [cw, Nat.mul_one]; exact hrow.symm
    · show φC.y.s 11 = _
      rw [cs]; rfl
    · show s.roots.length * 2 = (φC.y.w 1).length
      rw [cw]
      show _ = (rRow rs').length
      rw [rRow_len, hlen72]
    · show φC.y.s 12 = _
      rw [cs]; rfl
    · intro φ' hle args' ha
      simp only [VRs, VR] at ha
      obtain ⟨_, _, rfl, ⟨rfl, _⟩, _, _, rfl, ⟨rfl, _⟩, rfl⟩ := ha
      have e5 : φ'.q 5 = sv := by rw [hle.qy]; show φC.y.q 5 = _; rw [cq]; rfl
      have e6 : φ'.q 6 = recv := by rw [hle.qy]; show φC.y.q 6 = _; rw [cq]; rfl
      have e13 : φ'.s 13 = (namesOf sl rl).length := by rw [hle.sy]; show φC.y.s 13 = _; rw [cs]; rfl
      rw [e5, e6]
      refine ⟨⟨_, _, Tryz.func18, rfl, rfl⟩, fun n w' hk => ?_⟩
      have kk : ∀ (r : Nat) (o : Obj), w.heap[r]? = some o → w'.heap[r]? = some o := fun r o ho => hk r o (by
        rw [hsC.kB (Array.getElem?_eq_some_iff.1 ho).1]
        exact g09.at_ rfl ho)
      refine (names_ok (n := n) (hsn.kept kk) (hrecs.kept kk) (fun r hr => (hrl r hr).rn') hsl hn).mono ?_
      rintro e w'' ⟨v, h1, rfl, h3⟩
      exact ⟨_, h1, by simp only [VR, e13], h3⟩
  have s11 : φC.y.s 11 = N := by rw [cs]; rfl
  have s12 : φC.y.s 12 = s.roots.length := by rw [cs]; rfl
  have s13 : φC.y.s 13 = (namesOf sl rl).length := by rw [cs]; rfl
  have bO : ∀ t, decide ((200 : Int) < N) = t → BinF φC.y .gtr (.y .i64 11) (.i .i64 200) (.b t) := fun t ht => .gtr (k := .i64) (x := N) (y := 200) (by simp only [ival, s11]) rfl ht
  have bR : ∀ t, decide ((20 : Int) < s.roots.length) = t → BinF φC.y .gtr (.y .i64 12) (.i .i64 20) (.b t) := fun t ht => .gtr (k := .i64) (x := s.roots.length) (y := 20) (by simp only [ival, s12]) rfl ht
  have bN : ∀ t, decide ((8 : Int) < (namesOf sl rl).length) = t → BinF φC.y .gtr (.y .i64 13) (.i .i64 8) (.b t) := fun t ht => .gtr (k := .i64) (x := (namesOf sl rl).length) (y := 8) (by simp only [ival, s13]) rfl ht
  have fin : ∀ (bn : List (BinOp × V × V × V)) (x : Nat), AllL (fun e : BinOp × V × V × V => BinF φC.y e.1 e.2.1 e.2.2.1 e.2.2.2) bn → runsL (withF E0 (lim_FK bn)) 200 ((c9.drop 10).take 2) (frOf 48 lim_LK) (hOf 3 lim_HK) .r {} 48 [(6, .i .i64 x)] 0 [] = true → lim N s.roots.length (namesOf sl rl).length = x →
      wpCs none n E0.P (fun e a' w' => (e = .ret ∨ e = .normal) ∧ a'.defers = [] ∧ ∃ v, (results Tryz.f9 a'.tmps).run Tryz.prog w' = .ok v w' ∧ ∃ u, Ending.returned v = .returned u ∧ u = .int .i64 (lim N s.roots.length (namesOf sl rl).length) ∧ Grown w w') (c9.drop 10) a9 w9 := fun bn x hbn hrun hx => by
    refine StAt.runL (withF_ok E0_ok _) rfl 2 (cs := c9.drop 10) hrun hsC (FactsOK.bd' (facts bn hbn)) hd9 y2 (Ag.agreeS (o := φC.y) ⟨trivial, trivial, trivial, trivial⟩ rfl rfl rfl rfl) fun φ aa wa hsa hda hga _ _ _ _ _ => ⟨.inl rfl, hda, ?_⟩
    obtain ⟨v, hv1, hv2⟩ := hsa.leave E0_ok (fn := Tryz.f9) (l := [.i .i64 x]) rfl
    refine ⟨v, hv1, v, rfl, ?_, (g09.trans hga).grown⟩
    simp only [aRets, VR] at hv2
    rw [hv2, hx]
  by_cases h1 : 200 < N
  · exact fin [gO true] 250 ⟨bO true (by simp; omega), trivial⟩ lim_KO (by simp [lim, h1])
  · by_cases h2 : 20 < s.roots.length
    · exact fin [gO false, gR true] 251 ⟨bO false (by simp; omega), bR true (by simp; omega), trivial⟩ lim_KR (by simp [lim, h1, h2])
    · by_cases h3 : 8 < (namesOf sl rl).length
      · exact fin [gO false, gR false, gN true] 252 ⟨bO false (by simp; omega), bR false (by simp; omega), bN true (by simp; omega), trivial⟩ lim_KN (by simp [lim, h1, h2, h3])
      · exact fin [gO false, gR false, gN false] 0 ⟨bO false (by simp; omega), bR false (by simp; omega), bN false (by simp; omega), trivial⟩ lim_K0 (by simp [lim, h1, h2, h3])

end Go.Ev

/- Chains, part Bb: strings.Builder's copyCheck and String, at our own numbers. -/
namespace Go.Proofs
open Go.Shelf Go.RowKit

theorem info135 : ∃ j, Tryz.prog.info? 135 = some j ∧ j.size = 2 := ⟨_, (Go.Ev.E0_ok.ty 135 _ _ rfl).1, rfl⟩
set_option maxHeartbeats 1000000 in
set_option maxRecDepth 100000 in
theorem Tryz.copy_used (b : Nat) (w : World) (h0 : w.cell? ⟨b, 0, none⟩ = some (.pointer (some ⟨b, 0, none⟩))) :
    Calls Tryz.prog 88 #[.pointer (some ⟨b, 0, none⟩)] w fun e w' => e = .returned (.tuple #[]) ∧ w' = w := by
  obtain ⟨j, hj, _⟩ := info135
  go_enter Tryz.func88, Tryz.ntmps88
  go_wp2
  rw [Lib.run_neq_ptr_same w _ Tryz.underlying133 hj]
  go_wp2
  go_end0
  exact ⟨rfl, rfl⟩

theorem lies135 : liesAt Tryz.prog Tryz.prog.depth 135 (2 / Tryz.prog.cellsOf 135) 0 135 1 = true := by decide +kernel

set_option maxHeartbeats 1000000 in
set_option maxRecDepth 100000 in
theorem Tryz.copy_fresh (b : Nat) (w : World) (h0 : w.cell? ⟨b, 0, none⟩ = some (.pointer none)) (hsh : w.shape? b = some (135, 2)) (hfz : w.frozen? ⟨b, 0, none⟩ = false) :
    Calls Tryz.prog 88 #[.pointer (some ⟨b, 0, none⟩)] w fun e w' => e = .returned (.tuple #[]) ∧ w' = w.setCell ⟨b, 0, none⟩ (.pointer (some ⟨b, 0, none⟩)) := by
  obtain ⟨j, hj, hjs⟩ := info135
  go_enter Tryz.func88, Tryz.ntmps88
  go_wp2
  rw [Lib.run_to_unsafe w ⟨b, 0, none⟩ Tryz.underlying133 Tryz.underlying241 hj (by rw [hjs]; decide) hsh (Nat.zero_lt_succ 1)]
  simp only [Result.andThen]
  rw [Oper.upon_value]
  go_wp2
  rw [run_callFunc_extern Tryz.func160 (by kernel_rfl) (by kernel_rfl) (by kernel_rfl) (e := Extern.AbiNoEscape.same) (by kernel_rfl)]
  rw [Lib.run_noEscape]
  simp only [Result.andThen]
  rw [Oper.upon_value]
  go_wp2
  rw [Lib.run_from_unsafe w ⟨b, 0, none⟩ Tryz.underlying241 Tryz.underlying133 hj hsh lies135]
  simp only [Result.andThen]
  rw [Oper.upon_value]
  go_wp2
  go_end0
  exact ⟨rfl, rfl⟩

set_option maxHeartbeats 1000000 in
set_option maxRecDepth 100000 in
theorem Tryz.bstr {b g cap : Nat} {p : Value} {cur : Array Value} {l : List UInt8} (w : World) (hbk : w.heap[b]? = some (.cells #[p, .slice (some ⟨g, 0, none⟩) l.length cap] 135 (0, 0))) (hg : w.heap[g]? = some (.cells cur 5 (0, 0))) (htake : cur.toList.take l.length = Lib.byteCells l) (h0 : l ≠ []) (hn : l.length ≤ cur.size) (hcap : l.length ≤ cap) (h63 : l.length ≤ 1000000) :
    Calls Tryz.prog 59 #[.pointer (some ⟨b, 0, none⟩)] w fun e w' => e = .returned (.string ⟨l.toArray⟩) ∧ w' = w.drew.freeze ⟨g, 0, none⟩ l.length := by
  have hl0 : l.length ≠ 0 := by simpa using h0
  have c1 : w.drew.cell? ⟨b, 1, none⟩ = some (.slice (some ⟨g, 0, none⟩) l.length cap) := by
    have : w.drew.heap[b]? = some (.cells #[p, .slice (some ⟨g, 0, none⟩) l.length cap] 135 (0, 0)) := hbk
    rw [Lib.cell_of_heap this]; rfl
  have hSD : (Builtin.unsafeSliceData_ #[95] 181 #[.slice (some ⟨g, 0, none⟩) l.length cap]).run Tryz.prog w.drew = .ok (.pointer (some ⟨g, 0, none⟩)) w.drew :=
    Lib.run_unsafeSliceData_row _ _ _ _ _ _ (by omega)
  have hUS : (Builtin.unsafeString_ #[181, 3] 9 #[.pointer (some ⟨g, 0, none⟩), .int .i64 l.length]).run Tryz.prog w.drew = .ok (.string ⟨l.toArray⟩) (w.drew.freeze ⟨g, 0, none⟩ l.length) := by
    refine Lib.run_unsafeString_row w.drew 181 3 9 5 Tryz.underlying181 (by decide +kernel) g cur.size (by have hg' : w.drew.heap[g]? = some (.cells cur 5 (0, 0)) := hg; simp [World.shape?, hg']) l h0 hn (by omega) ?_
    intro j x hx
    have hj : j < l.length := (List.getElem?_eq_some_iff.1 hx).1
    have ea : Addr.add ⟨g, 0, none⟩ j = ⟨g, j, none⟩ := by
      unfold Addr.add
      by_cases h0 : j = 0
      · subst h0; simp
      · simp [h0]
    rw [ea]
    have hg' : w.drew.heap[g]? = some (.cells cur 5 (0, 0)) := hg
    rw [Lib.cell_of_heap hg']
    have : (cur.toList.take l.length)[j]? = (Lib.byteCells l)[j]? := by rw [htake]
    rw [List.getElem?_take_of_lt hj] at this
    simpa [Lib.byteCells, hx] using this
  have mixed : Tryz.prog.follows .mixedOrders = true := Go.Ev.E0_ok.mixed
  go_enter Tryz.func59, Tryz.ntmps59
  go_wp2
  go_region_o
  all_goals (go_wp2; go_ret; exact ⟨rfl, rfl⟩)

end Go.Proofs

/- Chains, part Bc: the evaluator with strings.Builder told by contract. -/
namespace Go.Ev
open Go.Proofs

def eh88 (h : H) : List V → Option (V × H)
  | [.p (some (b, o))] =>
    match h.get b with
    | .cells [x, y] e g =>
      cond (Nat.beq o 0 && Nat.beq e 135 && !g)
        (match x with
         | .p none => some (.t [], h.set b (.cells [.p (some (b, 0)), y] 135 false))
         | .p (some (b', o')) => cond (Nat.beq b' b && Nat.beq o' 0) (some (.t [], h)) none
         | _ => none) none
    | _ => none
  | _ => none
def eh59 (h : H) : List V → Option (V × H)
  | [.p (some (b, o))] =>
    match h.get b with
    | .cells [_, .sl (some (b2, o2)) n _] e g =>
      match h.get b2 with
      | .cells l e2 _ =>
        cond (Nat.beq o 0 && Nat.beq e 135 && !g && Nat.beq o2 0 && Nat.beq e2 5 && Nat.ble n l.length && Nat.blt 0 n && Nat.ble n 1000000)
          (match nats8 (l.take n) with
           | some ns => some (.s ns, h.set b2 .gone)
           | none => none) none
      | _ => none
    | _ => none
  | _ => none
def eh2 (f : FuncId) (args : List V) (h : H) : Option (V × H) :=
  cond (Nat.beq f 88) (eh88 h args) (cond (Nat.beq f 59) (eh59 h args) none)

theorem eh88_ok {φ : Ren} {h : H} {w : World} (hr : HR φ h w) {args : List V} {v : V} {h' : H} (e : eh88 h args = some (v, h')) {args' : List Value} (ha : VRs φ args args') (n : Nat) :
    CallsIn (W none) n Tryz.prog 88 args'.toArray w fun e w' => ∃ φ' u, e = .returned u ∧ Ext φ w φ' w' ∧ VR φ' v u ∧ HR φ' h' w' := by
  unfold eh88 at e
  split at e
  · rename_i b o
    split at e
    · rename_i x y te g hl
      cases hq : Nat.beq o 0 && Nat.beq te 135 && !g with
      | false => rw [hq] at e; cases e
      | true =>
        rw [hq] at e
        simp only [cond] at e
        simp only [Bool.and_eq_true, Bool.not_eq_true'] at hq
        obtain ⟨⟨q1, q2⟩, q3⟩ := hq
        have q1 := Nat.eq_of_beq_eq_true q1
        have q2 := Nat.eq_of_beq_eq_true q2
        subst q1; subst q2; subst q3
        simp only [VRs, VR] at ha
        obtain ⟨_, _, rfl, ⟨r, hb, rfl⟩, rfl⟩ := ha
        obtain ⟨ob, o1, o2⟩ := hr.blk b r hb (by rw [hl]; trivial)
        rw [hl] at o2
        obtain ⟨c, rfl, v1, l1, z1, _⟩ := o2
        replace z1 := z1 rfl
        rw [List.take_of_length_le (by rw [Array.length_toList, z1]; exact Nat.le_refl _)] at v1
        clear z1 l1
        simp only [VRs] at v1
        obtain ⟨ux, _, ec, hux, uy, _, rfl, huy, rfl⟩ := v1
        have hc : c = #[ux, uy] := Array.toList_inj.1 ec
        subst hc
        have hcell : w.cell? ⟨r, 0, none⟩ = some ux := by simp [World.cell?, o1]
        cases x with
        | p a =>
          cases a with
          | none =>
            cases e
            simp only [VR] at hux
            subst hux
            refine CallsIn.mono (callsIn_wide.2 (Tryz.copy_fresh r w hcell (by simp [World.shape?, o1]) (by simp [World.frozen?, o1])) : CallsIn (W none) n _ _ _ _ _) ?_
            rintro e w' ⟨rfl, rfl⟩
            obtain ⟨g1, g2⟩ := hr.setCell hb hl (o := 0) (x := .p (some (b, 0))) (v := .pointer (some ⟨r, 0, none⟩)) (by simp only [VR]; exact ⟨r, hb, rfl⟩)
            exact ⟨φ, _, rfl, g2, by simp only [VR]; exact ⟨#[], rfl, by simp [VRs]⟩, g1⟩
          | some bo =>
            obtain ⟨b', o'⟩ := bo
            simp only at e
            cases hq2 : Nat.beq b' b && Nat.beq o' 0 with
            | false => rw [hq2] at e; cases e
            | true =>
              rw [hq2] at e
              cases e
              simp only [Bool.and_eq_true] at hq2
              have e1 := Nat.eq_of_beq_eq_true hq2.1
              have e2 := Nat.eq_of_beq_eq_true hq2.2
              subst e1; subst e2
              simp only [VR] at hux
              obtain ⟨r', hr', rfl⟩ := hux
              rw [hb] at hr'; cases hr'
              refine CallsIn.mono (callsIn_wide.2 (Tryz.copy_used r w hcell) : CallsIn (W none) n _ _ _ _ _) ?_
              rintro e w' ⟨rfl, rfl⟩
              exact ⟨φ, _, rfl, Ext.refl φ _, by simp only [VR]; exact ⟨#[], rfl, by simp [VRs]⟩, hr⟩
        | _ => cases e
    · cases e
  · cases e

theorem eh59_ok {φ : Ren} {h : H} {w : World} (hr : HR φ h w) {args : List V} {v : V} {h' : H} (e : eh59 h args = some (v, h')) {args' : List Value} (ha : VRs φ args args') (n : Nat) :
    CallsIn (W none) n Tryz.prog 59 args'.toArray w fun e w' => ∃ φ' u, e = .returned u ∧ Ext φ w φ' w' ∧ VR φ' v u ∧ HR φ' h' w' := by
  unfold eh59 at e
  split at e
  · rename_i b o
    split at e
    · rename_i x b2 o2 m c te g hl
      split at e
      · rename_i l e2 g2 hl2
        cases hq : Nat.beq o 0 && Nat.beq te 135 && !g && Nat.beq o2 0 && Nat.beq e2 5 && Nat.ble m l.length && Nat.blt 0 m && Nat.ble m 1000000 with
        | false => rw [hq] at e; cases e
        | true =>
          rw [hq] at e
          simp only [cond] at e
          simp only [Bool.and_eq_true, Bool.not_eq_true'] at hq
          obtain ⟨⟨⟨⟨⟨⟨⟨q1, q2⟩, q3⟩, q4⟩, q5⟩, q6⟩, q7⟩, q8⟩ := hq
          have q1 := Nat.eq_of_beq_eq_true q1
          have q2 := Nat.eq_of_beq_eq_true q2
          have q4 := Nat.eq_of_beq_eq_true q4
          have q5 := Nat.eq_of_beq_eq_true q5
          have q6 := Nat.le_of_ble_eq_true q6
          have q8 := Nat.le_of_ble_eq_true q8
          have q7 : 1 ≤ m := by simpa [Nat.blt] using q7
          subst q1; subst q2; subst q3; subst q4; subst q5
          split at e
          · rename_i ns hns
            cases e
            simp only [VRs, VR] at ha
            obtain ⟨_, _, rfl, ⟨r, hb, rfl⟩, rfl⟩ := ha
            obtain ⟨ob, o1, o2⟩ := hr.blk b r hb (by rw [hl]; trivial)
            rw [hl] at o2
            obtain ⟨c1, rfl, v1, l1, z1, _⟩ := o2
            have z1 := z1 rfl
            rw [List.take_of_length_le (by rw [Array.length_toList, z1]; exact Nat.le_refl _)] at v1
            simp only [VRs] at v1
            obtain ⟨ux, _, ec, _, uy, _, rfl, huy, rfl⟩ := v1
            have hc : c1 = #[ux, uy] := Array.toList_inj.1 ec
            subst hc
            obtain ⟨r2, cap, hb2, hcap, rfl⟩ : ∃ r2 cap, φ b2 = some r2 ∧ m ≤ cap ∧ uy = .slice (some ⟨r2, 0, none⟩) m cap := by
              cases c with
              | kn c => simp only [VR] at huy; obtain ⟨r2, h4, h5, rfl⟩ := huy; exact ⟨r2, _, h4, h5, rfl⟩
              | un sz => simp only [VR] at huy; obtain ⟨r2, cap, h4, h5, _, rfl⟩ := huy; exact ⟨r2, _, h4, h5, rfl⟩
            obtain ⟨ob2, p1, p2⟩ := hr.blk b2 r2 hb2 (by rw [hl2]; trivial)
            rw [hl2] at p2
            obtain ⟨cur, rfl, v2, l2, _, _⟩ := p2
            have v3 := v2.take m
            rw [List.take_take, Nat.min_eq_left q6] at v3
            obtain ⟨j1, j2⟩ := nats8_ok hns v3
            have hlen : (ns.map UInt8.ofNat).length = m := by
              have := congrArg List.length j1
              simp at this
              rw [List.length_map]; omega
            have hby : Lib.byteCells (ns.map UInt8.ofNat) = ns.map (fun m : Nat => Value.int .u8 m) := by
              unfold Lib.byteCells
              rw [List.map_map]
              apply List.map_congr_left
              intro x hx
              have := j2 x hx
              simp [UInt8.toNat_ofNat', Nat.mod_eq_of_lt this]
            have hcall := Tryz.bstr (b := r) (g := r2) (cap := cap) (p := ux) (cur := cur) (l := ns.map UInt8.ofNat) w (by rw [hlen]; exact o1) p1 (by rw [hlen, hby, j1]) (by intro h0; rw [h0] at hlen; simp at hlen; omega) (by rw [hlen]; omega) (by rw [hlen]; exact hcap) (by rw [hlen]; exact q8)
            refine CallsIn.mono (callsIn_wide.2 hcall : CallsIn (W none) n _ _ _ _ _) ?_
            rintro e w' ⟨rfl, rfl⟩
            have hne : (ns.map UInt8.ofNat).length ≠ 0 := by rw [hlen]; omega
            have hlt2 : r2 < w.heap.size := (hr.dom b2 r2 hb2).2
            obtain ⟨ob3, hob3⟩ : ∃ ob3, (w.drew.freeze ⟨r2, 0, none⟩ (ns.map UInt8.ofNat).length).heap[r2]? = some ob3 := by
              refine ⟨_, Array.getElem?_eq_getElem ?_⟩
              unfold World.freeze
              split
              · exact hlt2
              · simpa using hlt2
            obtain ⟨g1, g2'⟩ := hr.turn (b := b2) (r := r2) (w' := w.drew.freeze ⟨r2, 0, none⟩ (ns.map UInt8.ofNat).length) .gone ob3 hb2 (by rw [hl2]; trivial) trivial
              (by unfold World.freeze; split
                  · rfl
                  · show (w.heap.modify _ _).size = _
                    rw [Array.size_modify]) hob3
              (fun s hs => by
                unfold World.freeze; split
                · rfl
                · simp only [Array.getElem?_modify]
                  rw [if_neg (fun e => hs e.symm)]; rfl)
              (by unfold World.freeze; split <;> rfl) (by unfold World.freeze; split <;> rfl) (by unfold World.freeze; split <;> rfl)
            exact ⟨φ, _, rfl, g2', by simp only [VR]; exact ⟨rfl, j2⟩, g1⟩
          · cases e
      · cases e
    · cases e
  · cases e

noncomputable def E2 : Env := { E1 with eh := eh2 }
theorem E2_ok : E2.OK := by
  refine ⟨E1_ok.ty, E1_ok.fn, E1_ok.mixed, E1_ok.hl, E1_ok.qh, ?_⟩
  intro f args h v h' e0 φ w args' ha hr
  have e : eh2 f args h = some (v, h') := e0
  clear e0
  unfold eh2 at e
  cases h1 : Nat.beq f 88 with
  | true =>
    rw [h1] at e
    have := Nat.eq_of_beq_eq_true h1
    subst this
    exact ⟨⟨_, _, Tryz.func88, rfl, rfl⟩, fun n => eh88_ok hr e ha n⟩
  | false =>
    rw [h1] at e
    cases h2 : Nat.beq f 59 with
    | true =>
      rw [h2] at e
      have := Nat.eq_of_beq_eq_true h2
      subst this
      exact ⟨⟨_, _, Tryz.func59, rfl, rfl⟩, fun n => eh59_ok hr e ha n⟩
    | false => rw [h2] at e; cases e

end Go.Ev

/- Chains, part Ca: 'Chain', its runs. -/
namespace Go.Ev
open Go.Proofs

noncomputable def c8 : List Code := flatL ((Tryz.f8.body).getD .skip)
def cha_args : List V := [.y .i64 1, .q 2]
def cha_S : List (Nat × Blk) := [(2, .cells [.s cName, .sl (some (3, 0)) 1 (.kn 1), .sl none 0 (.kn 0)] 68 false), (3, .cells [.s nextName, .i .i64 3, .i .i64 0, .b false] 65 false)]
def cha_W (x r : V) : Blk := .cells [.sl (some (2, 0)) 1 (.kn 1), x, r, .y .i64 3] 30 false
def cha_L : List (Nat × V) := [(0, .y .i64 1), (1, .q 2), (4, .p (some (0, 0))), (5, .p (some (1, 0))), (6, .y .i64 0)]
def cha_H0 : List (Nat × Blk) := [(0, zW), (1, cha_W nl nl)] ++ cha_S
def cha_FA : Facts := { bin := [(.add, .y .i64 1, .i .i64 1, .y .i64 3)] }
def cha_TA : Tab := { s := [(0, .i 1), (1, .y 1), (3, .y 3)], q := [(2, .q 2)] }
theorem cha_A : runsL (withF E0 cha_FA) 100 (c8.take 3) ⟨55, load cha_args 0 .leaf⟩ (hOf 0 []) .n cha_TA 55 cha_L 4 cha_H0 = true := by decide +kernel
noncomputable def cha_rd : List Code := roundOf (c8.drop 3)
def cha_H1 : List (Nat × Blk) := [(0, zW), (1, cha_W (.sr 4 2 0 4) nl), (4, .row 2 [] 36)] ++ cha_S
def cha_F (e : Bool) : Facts := { bd := [(7, 0, 100000)], bin := [(.leq, .y .i64 0, .y .i64 1, .b true), (.add, .y .i64 0, .i .i64 1, .y .i64 5), (.eql, .y .i64 0, .y .i64 1, .b e)], rz := [(2, 4)], rl := [(2, 0, 7)] }
def cha_o : List V := [.y .i64 0, .i .i64 0, .i .i64 0, .sl (some (5, 0)) 1 (.kn 1)]
def cha_o' : List V := [.y .i64 4, .i .i64 0, .i .i64 0, .sl (some (5, 0)) 1 (.kn 1)]
def cha_G0 (k v : V) : List (Nat × Blk) := [(0, zW), (1, cha_W (.sl (some (4, 0)) 1 (.un 4)) nl), (4, .cells cha_o' 36 true), (5, valB' k v)] ++ cha_S
def cha_G1 (k v : V) : List (Nat × Blk) := [(0, zW), (1, cha_W (.sr 4 2 1 4) nl), (4, .row 2 cha_o' 36), (5, valB' k v)] ++ cha_S
def cha_TR (w : List (Nat × WV)) : Tab := { s := [(0, .y 5), (1, .y 1), (3, .y 3), (4, .y 0), (6, .y 5)], q := [(2, .q 2)], w := w }
theorem cha_0Y : runsL (withF E0 (cha_F false)) 200 (cha_rd.take 100) (frOf 55 cha_L) (hOf 4 cha_H0) .n (cha_TR []) 55 cha_L 6 (cha_G0 kY vY) = true := by decide +kernel
theorem cha_0N : runsL (withF E0 (cha_F true)) 200 (cha_rd.take 100) (frOf 55 cha_L) (hOf 4 cha_H0) .n (cha_TR []) 55 cha_L 6 (cha_G0 kN kN) = true := by decide +kernel
theorem cha_1Y : runsL (withF E0 (cha_F false)) 200 (cha_rd.take 100) (frOf 55 cha_L) (hOf 5 cha_H1) .n (cha_TR [(2, .same 2)]) 55 cha_L 6 (cha_G1 kY vY) = true := by decide +kernel
theorem cha_1N : runsL (withF E0 (cha_F true)) 200 (cha_rd.take 100) (frOf 55 cha_L) (hOf 5 cha_H1) .n (cha_TR [(2, .same 2)]) 55 cha_L 6 (cha_G1 kN kN) = true := by decide +kernel
def cha_TC : Tab := { s := [(0, .y 0), (1, .y 1), (3, .y 3)], q := [(2, .q 2)], w := [(2, .fold 4)] }
theorem cha_C0Y : (mAll cha_TC (frOf 55 cha_L) (hOf 6 (cha_G0 kY vY)) 55 cha_L 5 cha_H1).isSome = true := by decide +kernel
theorem cha_C0N : (mAll cha_TC (frOf 55 cha_L) (hOf 6 (cha_G0 kN kN)) 55 cha_L 5 cha_H1).isSome = true := by decide +kernel
theorem cha_C1Y : (mAll cha_TC (frOf 55 cha_L) (hOf 6 (cha_G1 kY vY)) 55 cha_L 5 cha_H1).isSome = true := by decide +kernel
theorem cha_C1N : (mAll cha_TC (frOf 55 cha_L) (hOf 6 (cha_G1 kN kN)) 55 cha_L 5 cha_H1).isSome = true := by decide +kernel
def cha_T0 : Tab := { s := [(0, .y 0), (1, .y 1), (3, .y 3)], q := [(2, .q 2)] }
def cha_T1 : Tab := { s := [(0, .y 0), (1, .y 1), (3, .y 3)], q := [(2, .q 2)], w := [(2, .same 2)] }
theorem cha_S0 : selfOK cha_T0 55 cha_L 4 cha_H0 = true := by decide +kernel
theorem cha_S1 : selfOK cha_T1 55 cha_L 5 cha_H1 = true := by decide +kernel
def cha_FX : Facts := { bin := [(.leq, .y .i64 0, .y .i64 1, .b false)] }
theorem cha_X : runsL (withF E0 cha_FX) 100 (cha_rd.take 100) (frOf 55 cha_L) (hOf 5 cha_H1) (.e 0) cha_T1 55 cha_L 5 cha_H1 = true := by decide +kernel
/-- The roots. -/
def rName (i : Nat) : List Nat := [114, 48 + i / 10 % 10, 48 + i % 10]
def rootsV (m : Nat) : List V := (List.range m).flatMap fun i => [.s (rName i), .i .i64 1]
def cha_HZ.cha_W' (m : Nat) : Blk := .cells [.sl (some (2, 0)) 1 (.kn 1), .sr 4 2 0 4, .sl (some (6, 0)) m (.un 2), .y .i64 3] 30 false
def cha_HZ (m : Nat) : List (Nat × Blk) := [(0, cha_HZ.cha_W' m), (4, .row 2 [] 36), (6, .cells (rootsV m) 72 true)] ++ cha_S
noncomputable def cha_Z (m : Nat) : Bool := runsL (withF E0 { rz := [(2, 4)] }) 3000 ((c8.drop 4).take 10) (frOf 55 (subL 2 (.i .i64 m) cha_L)) (hOf 5 (subH 2 (.i .i64 m) cha_H1)) .r { s := [(3, .y 3)], w := [(2, .same 2)] } 55 [(4, .p (some (0, 0)))] 7 (cha_HZ m)
theorem cha_Z1 : cha_Z 1 = true := by decide +kernel
theorem cha_Z20 : cha_Z 20 = true := by decide +kernel

end Go.Ev

/- Chains, part Cb: 'Chain'. -/
namespace Go.Ev
open Go.Proofs

def chO (N i : Nat) : O := ⟨i + 1, if i + 1 = N then 0 else i + 2⟩
def chainL (N : Nat) : List O := (List.range N).map (chO N)
def rootsL (m : Nat) : List (ByteArray × Nat) := (List.range m).map fun i => (bytes (rName i), 1)
def cY (N : Nat) (mv : Value) (i k : Nat) (row : List Value) : Sym := mkY [i, N, 0, (N + 1 : Nat), 0, (i + 1 : Nat), 0, k] [.bool false, .bool false, mv] [[], [], row] []
def CInv (w : World) (N : Nat) (mv : Value) : Nat → Act → World → Prop
  | 0, a, w' => ∃ φ, StAt φ w.heap.size (frOf 55 cha_L) (hOf 4 cha_H0) a w' ∧ a.defers = [] ∧ GB w.heap.size w w' ∧ Named φ (mkY [1, N, 0, (N + 1 : Nat)] [.bool false, .bool false, mv] [] [])
  | j + 1, a, w' => ∃ φ lc, StAt φ w.heap.size (frOf 55 cha_L) (hOf 5 cha_H1) a w' ∧ a.defers = [] ∧ GB w.heap.size w w' ∧ Named φ (mkY [(j + 2 : Nat), N, 0, (N + 1 : Nat)] [.bool false, .bool false, mv] [[], [], oRow lc] []) ∧ lc.map (·.1) = (List.range (j + 1)).map (chO N) ∧ ∀ p ∈ lc, IsVal w' p

theorem cha_facts {φ : Ren} {N i k : Nat} {e : Bool} (hN : N ≤ 90000) (hi : i ≤ N) (he : decide (i = N) = e) (s0 : φ.y.s 0 = i) (s1 : φ.y.s 1 = N) (s5 : φ.y.s 5 = (i + 1 : Nat)) (s7 : φ.y.s 7 = k) (hk : k ≤ 100000) (hw : (φ.y.w 2).length = k * 4) : FactsOK Tryz.prog (cha_F e) φ := by
  refine ⟨⟨⟨?_, ?_⟩, trivial⟩, ⟨?_, ?_, ?_, trivial⟩, trivial, ⟨⟨k, (by show 0 < 4; decide), hw.symm, s7⟩, trivial⟩, trivial, trivial, trivial, trivial, trivial⟩
  · show (0 : Int) ≤ φ.y.s 7; rw [s7]; omega
  · show φ.y.s 7 ≤ (100000 : Int); rw [s7]; omega
  · exact .leq (k := .i64) (x := i) (y := N) (by simp only [ival, s0]) (by simp only [ival, s1]) (by simp; omega)
  · exact .add (k := .i64) (x := i) (y := 1) (by simp only [ival, s0]) rfl (by simp only [ival, s5]; rfl) (i64_in (by omega))
  · exact .eql (k := .i64) (x := i) (y := N) (by simp only [ival, s0]) (by simp only [ival, s1]) (by rw [← he]; exact decide_eq_decide.2 (by omega))

theorem cha_step {n : Nat} {w : World} {N : Nat} {mv : Value} (hN : N ≤ 90000) (hmv : mv.oneCell' = true) {j : Nat} (hj : j < N) {a : Act} {w' : World} (h : CInv w N mv j a w') : wpCs none n E0.P (fun e a' w'' => e = .normal ∧ CInv w N mv (j + 1) a' w'') cha_rd a w' := by
  -- what is left behind
  have key : ∀ (e : Bool) (k v : V) (nb : Nat) (HB G : List (Nat × Blk)) (wt : List (Nat × WV)) (lc : List (O × Value)), decide (j + 1 = N) = e → (∀ φ : Ren, φ.s 6 = ((j + 2 : Nat) : Int) → ∀ vs, VRs φ [k, v, .s [], .sl none 0 (.kn 0)] vs → vs = (valC (chO N j)).toList) →
      runsL (withF E0 (cha_F e)) 200 (cha_rd.take 100) (frOf 55 cha_L) (hOf nb HB) .n (cha_TR wt) 55 cha_L 6 G = true → (mAll cha_TC (frOf 55 cha_L) (hOf 6 G) 55 cha_L 5 cha_H1).isSome = true → (wt = [] ∨ wt = [(2, .same 2)]) → [70].all (fun T => noT T (muts HB)) = true → lkB G 5 = valB' k v →
      (∀ φ a w, StAt φ w.heap.size (frOf 55 cha_L) (hOf 6 G) a w → True) →
      (∀ φ B a w1, StAt φ B (frOf 55 cha_L) (hOf 6 G) a w1 → φ.w 2 = oRow lc → ∃ r c vs, φ 4 = some r ∧ w1.heap[r]? = some (.cells c 36 (0, 0)) ∧ VRs φ cha_o' vs ∧ (∀ z l e', (hOf 6 G).get 4 = .row z l e' → c.toList.take ((φ.w z).length + l.length) = oRow lc ++ vs) ∧ (∀ l e' g, (hOf 6 G).get 4 = .cells l e' g → c.toList.take l.length = oRow lc ++ vs)) →
      lc.length = j → lc.map (·.1) = (List.range j).map (chO N) → (∀ p ∈ lc, IsVal w' p) →
      ∀ φ : Ren, StAt φ w.heap.size (frOf 55 cha_L) (hOf nb HB) a w' → a.defers = [] → GB w.heap.size w w' → Named φ (cY N mv (j + 1) lc.length (oRow lc)) → wpCs none n E0.P (fun e a' w'' => e = .normal ∧ CInv w N mv (j + 1) a' w'') cha_rd a w' := by
    intro e k v nb HB G wt lc he hval hrun hconv hwt hT h5 _ hex hlc hfst hvs φ hs hd hg hn
    obtain ⟨n1, n2, n3, n4⟩ := hn
    have hyT : Ag (cha_TR wt) (cY N mv (j + 1) lc.length (oRow lc)) (mkY [(j + 2 : Nat), N, 0, (N + 1 : Nat), (j + 1 : Nat), 0, (j + 2 : Nat)] [.bool false, .bool false, mv] [[], [], oRow lc] []) := by
      refine ⟨⟨rfl, rfl, rfl, rfl, rfl, trivial⟩, ⟨⟨rfl, hmv⟩, trivial⟩, ?_, trivial⟩
      rcases hwt with rfl | rfl
      · exact trivial
      · exact ⟨rfl, trivial⟩
    refine StAt.runL (withF_ok E0_ok (cha_F e)) rfl 100 (cs := cha_rd) hrun hs (FactsOK.bd' (cha_facts hN (by omega) he (congrFun n1 0) (congrFun n1 1) (congrFun n1 5) (congrFun n1 7) (by omega) (by rw [show φ.y.w 2 = oRow lc from congrFun n3 2, oRow_len]))) hd _ (hyT.agreeS n1 n2 n3 n4) fun φ' a' w'' hs' hd' hg' hk' e1 e2 e3 e4 => ⟨rfl, ?_⟩
    obtain ⟨r4, c4, vs, h4, g4, v4, t1, t2⟩ := hex φ' _ a' w'' hs' (congrFun e3 2)
    have hv4 := v4
    simp only [cha_o', VRs, VR] at v4
    obtain ⟨_, _, rfl, rfl, _, _, rfl, rfl, _, _, rfl, rfl, _, _, rfl, ⟨r5, hr5, _, rfl⟩, rfl⟩ := v4
    have s4 : φ'.s 4 = ((j + 1 : Nat) : Int) := congrFun e1 4
    obtain ⟨c5, g5, v5, _, z5, _⟩ := hs'.hr.cellsL hr5 (l := [k, v, .s [], .sl none 0 (.kn 0)]) h5
    have z5 := z5 rfl
    rw [List.take_of_length_le (by rw [Array.length_toList, z5]; exact Nat.le_refl _)] at v5
    have hc5 : c5 = valC (chO N j) := Array.toList_inj.1 (hval φ' (congrFun e1 6) _ v5)
    subst hc5
    have hvalN : IsVal w'' (chO N j, .slice (some ⟨r5, 0, none⟩) 1 1) := ⟨r5, rfl, g5⟩
    rw [s4] at t1 t2
    have hag : Agree cha_TC φ' (hOf 6 G) w'' (mkY [(j + 2 : Nat), N, 0, (N + 1 : Nat)] [.bool false, .bool false, mv] [[], [], oRow (lc ++ [(chO N j, .slice (some ⟨r5, 0, none⟩) 1 1)])] []) := by
      refine mkAgree ⟨(congrFun e1 0).symm, (congrFun e1 1).symm, (congrFun e1 3).symm, trivial⟩ ⟨?_, trivial⟩ ⟨?_, trivial⟩ trivial
      · simp only [VR]; exact ⟨(congrFun e2 2).symm, hmv⟩
      · intro r cs e' hr hcs
        rw [h4] at hr; cases hr
        rw [g4] at hcs; cases hcs
        have hrow : oRow (lc ++ [(chO N j, .slice (some ⟨r5, 0, none⟩) 1 1)]) = oRow lc ++ [.int .i64 ((j + 1 : Nat) : Int), .int .i64 0, .int .i64 0, .slice (some ⟨r5, 0, none⟩) 1 1] := by simp [oRow, oCells, chO]
        exact ⟨fun z l e h => by rw [t1 z l e h]; exact hrow, fun l e g h => by rw [t2 l e g h]; exact hrow⟩
    obtain ⟨φ2, hs2, j1, j2, j3, j4⟩ := hs'.conv hconv _ hag
    refine ⟨φ2, _, hs2, hd', hg.trans hg', ⟨j1, j2, j3, j4⟩, by rw [List.map_append, hfst, List.range_succ, List.map_append]; rfl, fun p hp => ?_⟩
    rcases List.mem_append.1 hp with hp | hp
    · exact (hvs p hp).keptC (hk'.keptC hT) (by decide)
    · simp only [List.mem_singleton] at hp; subst hp; exact hvalN
  have hY : j + 1 ≠ N → ∀ φ : Ren, φ.s 6 = ((j + 2 : Nat) : Int) → ∀ vs, VRs φ [kY, vY, .s [], .sl none 0 (.kn 0)] vs → vs = (valC (chO N j)).toList := fun hne φ h6 vs hv => by
    simp only [kY, vY, VRs, VR] at hv
    obtain ⟨_, _, rfl, rfl, _, _, rfl, rfl, _, _, rfl, ⟨rfl, _⟩, _, _, rfl, ⟨_, rfl⟩, rfl⟩ := hv
    rw [h6]
    simp [valC, chO, hne]
  have hNn : j + 1 = N → ∀ φ : Ren, φ.s 6 = ((j + 2 : Nat) : Int) → ∀ vs, VRs φ [kN, kN, .s [], .sl none 0 (.kn 0)] vs → vs = (valC (chO N j)).toList := fun he φ h6 vs hv => by
    simp only [kN, VRs, VR] at hv
    obtain ⟨_, _, rfl, rfl, _, _, rfl, rfl, _, _, rfl, ⟨rfl, _⟩, _, _, rfl, ⟨_, rfl⟩, rfl⟩ := hv
    simp [valC, chO, he]
  have ex0 : ∀ k v, ∀ φ B a w1, StAt φ B (frOf 55 cha_L) (hOf 6 (cha_G0 k v)) a w1 → φ.w 2 = oRow [] → ∃ r c vs, φ 4 = some r ∧ w1.heap[r]? = some (.cells c 36 (0, 0)) ∧ VRs φ cha_o' vs ∧ (∀ z l e', (hOf 6 (cha_G0 k v)).get 4 = .row z l e' → c.toList.take ((φ.w z).length + l.length) = oRow [] ++ vs) ∧ (∀ l e' g, (hOf 6 (cha_G0 k v)).get 4 = .cells l e' g → c.toList.take l.length = oRow [] ++ vs) := fun k v φ B a w1 hs hw => by
    obtain ⟨r1, h1⟩ := hs.ptr 5 rfl
    obtain ⟨c1, _, v1, _⟩ := hs.hr.cellsL h1 (l := [.sl (some (2, 0)) 1 (.kn 1), .sl (some (4, 0)) 1 (.un 4), nl, .y .i64 3]) rfl
    simp only [VRs, VR] at v1
    obtain ⟨_, _, _, _, _, _, _, ⟨r4, cap, h4, _⟩, _⟩ := v1
    obtain ⟨c4, g4, v4, z4, _, _⟩ := hs.hr.cellsL h4 (l := cha_o') rfl
    refine ⟨r4, c4, _, h4, g4, v4, fun z l e' h => ?_, fun l e' g h => ?_⟩
    · rw [hOf_get] at h; cases h
    · rw [hOf_get] at h; cases h; rfl
  have ex1 : ∀ k v lc, ∀ φ B a w1, StAt φ B (frOf 55 cha_L) (hOf 6 (cha_G1 k v)) a w1 → φ.w 2 = oRow lc → ∃ r c vs, φ 4 = some r ∧ w1.heap[r]? = some (.cells c 36 (0, 0)) ∧ VRs φ cha_o' vs ∧ (∀ z l e', (hOf 6 (cha_G1 k v)).get 4 = .row z l e' → c.toList.take ((φ.w z).length + l.length) = oRow lc ++ vs) ∧ (∀ l e' g, (hOf 6 (cha_G1 k v)).get 4 = .cells l e' g → c.toList.take l.length = oRow lc ++ vs) := fun k v lc φ B a w1 hs hw => by
    obtain ⟨r1, h1⟩ := hs.ptr 5 rfl
    obtain ⟨c1, _, v1, _⟩ := hs.hr.cellsL h1 (l := [.sl (some (2, 0)) 1 (.kn 1), .sr 4 2 1 4, nl, .y .i64 3]) rfl
    simp only [VRs, VR] at v1
    obtain ⟨_, _, _, _, _, _, _, ⟨r4, nn, cap, h4, _⟩, _⟩ := v1
    obtain ⟨c4, vs, g4, v4, t4, z4, _⟩ := hs.hr.rowL h4 (x := 2) (l := cha_o') rfl
    refine ⟨r4, c4, vs, h4, g4, v4, fun z l e' h => ?_, fun l e' g h => ?_⟩
    · rw [hOf_get] at h; cases h; rw [t4, hw]
    · rw [hOf_get] at h; cases h
  cases j with
  | zero =>
    obtain ⟨φ, hs, hd, hg, n1, n2, n3, n4⟩ := h
    obtain ⟨φ1, hs1, m1, m2, m3, m4⟩ := hs.resym cha_S0 (y := cY N mv 1 0 []) ⟨⟨(congrFun n1 0).symm, (congrFun n1 1).symm, (congrFun n1 3).symm, trivial⟩, ⟨⟨(congrFun n2 2).symm, hmv⟩, trivial⟩, trivial, trivial⟩
    by_cases he : 0 + 1 = N
    · exact key true kN kN 4 cha_H0 (cha_G0 kN kN) [] [] (by simp [he]) (hNn he) cha_0N cha_C0N (.inl rfl) rfl rfl (fun _ _ _ _ => trivial) (ex0 kN kN) rfl rfl (fun _ h => by cases h) φ1 hs1 hd hg ⟨m1, m2, m3, m4⟩
    · exact key false kY vY 4 cha_H0 (cha_G0 kY vY) [] [] (by simp [he]) (hY he) cha_0Y cha_C0Y (.inl rfl) rfl rfl (fun _ _ _ _ => trivial) (ex0 kY vY) rfl rfl (fun _ h => by cases h) φ1 hs1 hd hg ⟨m1, m2, m3, m4⟩
  | succ j =>
    obtain ⟨φ, lc, hs, hd, hg, ⟨n1, n2, n3, n4⟩, hfst, hvs⟩ := h
    have hlen : lc.length = j + 1 := by have := congrArg List.length hfst; simpa using this
    obtain ⟨φ1, hs1, m1, m2, m3, m4⟩ := hs.resym cha_S1 (y := cY N mv (j + 1 + 1) lc.length (oRow lc)) ⟨⟨(congrFun n1 0).symm, (congrFun n1 1).symm, (congrFun n1 3).symm, trivial⟩, ⟨⟨(congrFun n2 2).symm, hmv⟩, trivial⟩, ⟨(congrFun n3 2).symm, trivial⟩, trivial⟩
    by_cases he : j + 1 + 1 = N
    · exact key true kN kN 5 cha_H1 (cha_G1 kN kN) [(2, .same 2)] lc (by simp [he]) (hNn he) cha_1N cha_C1N (.inr rfl) rfl rfl (fun _ _ _ _ => trivial) (ex1 kN kN lc) hlen hfst hvs φ1 hs1 hd hg ⟨m1, m2, m3, m4⟩
    · exact key false kY vY 5 cha_H1 (cha_G1 kY vY) [(2, .same 2)] lc (by simp [he]) (hY he) cha_1Y cha_C1Y (.inr rfl) rfl rfl (fun _ _ _ _ => trivial) (ex1 kY vY lc) hlen hfst hvs φ1 hs1 hd hg ⟨m1, m2, m3, m4⟩

/-- Names that are right, by evaluation. -/
noncomputable def c34 : List Code := flatL ((Tryz.f34.body).getD .skip)
noncomputable def rightN (l : List Nat) : Bool := l.all (fun x => Nat.blt x 256) && runsL (withF E0 {}) 400 (c34.take 50) ⟨Tryz.f34.ntmps, load [.s l] 0 .leaf⟩ (hOf 0 []) .r {} Tryz.f34.ntmps [(2, .b true)] 0 []
theorem rn_of {l : List Nat} (h : rightN l = true) : RN (bytes l) := by
  simp only [rightN, Bool.and_eq_true, List.all_eq_true] at h
  have h1 : ∀ x ∈ l, x < 256 := fun x hx => by
    have := h.1 x hx
    have : x + 1 ≤ 256 := by simpa [Nat.blt] using this
    omega
  intro K
  refine ⟨⟨_, _, Tryz.func34, rfl, rfl⟩, fun n w _ => ?_⟩
  let y0 : Sym := mkY [] [] [] []
  have hst := StAt.enter (nt := Tryz.f34.ntmps) (φ0_hr y0 w) rfl rfl (vs := [.s l]) (args := [.string (bytes l)]) (VRs.cons (vS h1) VRs.nil) (by show 1 ≤ _; decide)
  refine callIn (fn := Tryz.f34) (c := (Tryz.f34.body).getD .skip) (args := [.string (bytes l)]) Tryz.func34 rfl (wpIn_flat _ ?_)
  show wpCs none n E0.P _ c34 _ _
  refine StAt.runL (withF_ok E0_ok {}) rfl 50 h.2 hst noFacts.bd' rfl y0 (Ag.agreeS (o := y0) ⟨trivial, trivial, trivial, trivial⟩ rfl rfl rfl rfl) fun φ a w1 hs hd hg _ _ _ _ _ => ⟨.inl rfl, hd, ?_⟩
  obtain ⟨v, hv1, hv2⟩ := hs.leave E0_ok (fn := Tryz.f34) (l := [.b true]) rfl
  exact ⟨v, hv1, v, rfl, by simpa only [aRets, VR] using hv2, hg.grown⟩
theorem rn_roots : ((List.range 20).all fun i => rightN (rName i)) = true := by decide +kernel
theorem ord_roots : ((List.range 19).all fun i => !(Op.bytesLess ((rName (i + 1)).map UInt8.ofNat) ((rName i).map UInt8.ofNat) || ((rName (i + 1)).map UInt8.ofNat) == ((rName i).map UInt8.ofNat))) = true := by decide +kernel

end Go.Ev

/- Chains, part Cc: 'Chain', joined. -/
namespace Go.Ev
open Go.Proofs

theorem bytes_toL (l : List Nat) : (bytes l).toList = l.map UInt8.ofNat := bytes_toList l
theorem rootsL_at {m i : Nat} {p : ByteArray × Nat} (h : (rootsL m)[i]? = some p) : i < m ∧ p = (bytes (rName i), 1) := by
  simp only [rootsL, List.getElem?_map] at h
  rcases Nat.lt_or_ge i m with hi | hi
  · rw [List.getElem?_range hi] at h
    exact ⟨hi, (Option.some.inj h).symm⟩
  · rw [List.getElem?_eq_none (by simpa using hi)] at h; cases h
theorem rootsL_mem {m : Nat} {p : ByteArray × Nat} (h : p ∈ rootsL m) : ∃ i, i < m ∧ p = (bytes (rName i), 1) := by
  obtain ⟨i, hi⟩ := List.getElem?_of_mem h
  exact ⟨i, rootsL_at hi⟩
theorem rootsL_rn {m : Nat} (hm : m ≤ 20) : ∀ p ∈ rootsL m, RN p.1 := fun p hp => by
  obtain ⟨i, hi, rfl⟩ := rootsL_mem hp
  exact rn_of (List.all_eq_true.1 rn_roots i (List.mem_range.2 (by omega)))
theorem rootsL_ord {m : Nat} (hm : m ≤ 20) : ∀ i p q, (rootsL m)[i]? = some p → (rootsL m)[i + 1]? = some q → (Op.bytesLess q.1.toList p.1.toList || q.1.toList == p.1.toList) = false := fun i p q hp hq => by
  obtain ⟨h1, rfl⟩ := rootsL_at hp
  obtain ⟨h2, rfl⟩ := rootsL_at hq
  have := List.all_eq_true.1 ord_roots i (List.mem_range.2 (by omega))
  simp only [bytes_toL]
  simpa using this
theorem rootsV_ok {φ : Ren} : ∀ (ks : List Nat) (vs : List Value), VRs φ (ks.flatMap fun i => [V.s (rName i), V.i .i64 1]) vs → vs = rRow (ks.map fun i => (bytes (rName i), 1))
  | [], vs, h => by
    simp only [List.flatMap_nil, VRs] at h
    rw [h]; rfl
  | k :: ks, vs, h => by
    simp only [List.flatMap_cons, List.cons_append, List.nil_append, VRs, VR] at h
    obtain ⟨_, _, rfl, ⟨rfl, _⟩, _, _, rfl, rfl, h⟩ := h
    rw [rootsV_ok ks _ h]
    simp [rRow, rCells]

theorem chain_ok {n : Nat} {w : World} {N m : Nat} (hN : 1 ≤ N ∧ N ≤ 90000) (hm : 1 ≤ m ∧ m ≤ 20) (hZ : cha_Z m = true) :
    CallsIn (W none) n Tryz.prog 8 #[.int .i64 N, .int .i64 m] w fun e w' => ∃ v, e = .returned v ∧ (∃ ln ov rv l, v = wV ln ov rv (N + 1) ∧ GW w' ln ov rv (N + 1) l (rootsL m) ∧ l.map (·.1) = chainL N) ∧ Grown w w' := by
  let mv : Value := .int .i64 m
  have hmv : mv.oneCell' = true := rfl
  let y0 : Sym := mkY [1, N, 0, (N + 1 : Nat)] [.bool false, .bool false, mv] [] []
  have hst := StAt.enter (nt := 55) (φ0_hr y0 w) rfl rfl (vs := cha_args) (args := [.int .i64 N, mv]) (VRs.cons (by simp only [VR]; rfl) (VRs.cons (by simp only [VR]; exact ⟨rfl, hmv⟩) VRs.nil)) (by decide)
  refine callIn (fn := Tryz.f8) (c := (Tryz.f8.body).getD .skip) (args := [.int .i64 N, mv]) Tryz.func8 rfl (wpIn_flat _ ?_)
  show wpCs none n E0.P _ c8 _ _
  refine StAt.runL (withF_ok E0_ok cha_FA) rfl 3 cha_A hst (FactsOK.bd' ?_) rfl y0 (Ag.agreeS (o := y0) ⟨⟨rfl, rfl, rfl, trivial⟩, ⟨⟨rfl, hmv⟩, trivial⟩, trivial, trivial⟩ rfl rfl rfl rfl) fun φ a w1 hs hd hg _ n1 n2 n3 n4 => ?_
  · refine ⟨trivial, ⟨?_, trivial⟩, trivial, trivial, trivial, trivial, trivial, trivial, trivial⟩
    exact .add (k := .i64) (x := N) (y := 1) rfl rfl rfl (i64_in (by omega))
  show wpCs none n E0.P _ (c8.drop 3) a w1
  refine for_loop (id := 0) (b := (match c8.drop 3 with | .block _ (.loop b) :: _ => b | _ => .skip)) (rest := c8.drop 4) N (CInv w N mv) (fun j a w' hj h => cha_step hN.2 hmv hj h) ?_ ⟨φ, hs, hd, hg, n1, n2, n3, n4⟩
  intro a w' h
  obtain ⟨j, rfl⟩ : ∃ j, N = j + 1 := ⟨N - 1, by omega⟩
  obtain ⟨φ, lc, hs, hd, hg, ⟨n1, n2, n3, n4⟩, hfst, hvs⟩ := h
  have hlen : lc.length = j + 1 := by have := congrArg List.length hfst; simpa using this
  show wpCs none n E0.P _ cha_rd a w'
  let y1 : Sym := mkY [(j + 2 : Nat), (j + 1 : Nat), 0, (j + 1 + 1 : Nat)] [.bool false, .bool false, mv] [[], [], oRow lc] []
  refine StAt.runL (withF_ok E0_ok cha_FX) rfl 100 (cs := cha_rd) cha_X hs (FactsOK.bd' ?_) hd y1 (Ag.agreeS (o := y1) ⟨⟨rfl, rfl, rfl, trivial⟩, ⟨⟨rfl, hmv⟩, trivial⟩, ⟨rfl, trivial⟩, trivial⟩ n1 n2 n3 n4) fun φ a2 w2 hs2 hd2 hg2 hk2 n1 n2 n3 n4 => ⟨rfl, ?_⟩
  · have t0 : φ.y.s 0 = ((j + 2 : Nat) : Int) := congrFun n1 0
    have t1 : φ.y.s 1 = ((j + 1 : Nat) : Int) := congrFun n1 1
    exact ⟨trivial, ⟨.leq (k := .i64) (x := (j + 2 : Nat)) (y := (j + 1 : Nat)) (by simp only [ival, t0]) (by simp only [ival, t1]) (decide_eq_false (by omega)), trivial⟩, trivial, trivial, trivial, trivial, trivial, trivial, trivial⟩
  have hvs2 : ∀ p ∈ lc, IsVal w2 p := fun p hp => (hvs p hp).keptC (hk2.keptC (Ts := [70]) rfl) (by decide)
  -- the roots
  have hs3 := hs2.subst 2 (.i .i64 m) (by rw [show φ.q 2 = mv from congrFun n2 2]; exact vI)
  refine StAt.runL (withF_ok E0_ok _) rfl 10 (cs := c8.drop 4) hZ hs3 (FactsOK.bd' ⟨trivial, trivial, trivial, trivial, trivial, trivial, trivial, trivial, trivial⟩) hd2 y1 (Ag.agreeS (o := y1) ⟨⟨rfl, trivial⟩, trivial, ⟨rfl, trivial⟩, trivial⟩ n1 n2 n3 n4) fun φ a3 w3 hs3 hd3 hg3 hk3 n1 n2 n3 n4 => ⟨.inl rfl, hd3, ?_⟩
  obtain ⟨v, hv1, hv2⟩ := hs3.leave E0_ok (fn := Tryz.f8) (l := [.a [.sl (some (2, 0)) 1 (.kn 1), .sr 4 2 0 4, .sl (some (6, 0)) m (.un 2), .y .i64 3]]) rfl
  have hvs3 : ∀ p ∈ lc, IsVal w3 p := fun p hp => (hvs2 p hp).keptC (hk3.keptC (Ts := [70]) rfl) (by decide)
  refine ⟨v, hv1, v, rfl, ?_, ((hg.trans hg2).trans hg3).grown⟩
  simp only [aRets, VR] at hv2
  obtain ⟨cs, rfl, hcs⟩ := hv2
  simp only [VRs] at hcs
  obtain ⟨ln, _, ec, hln, ov, _, rfl, hov, rv, _, rfl, hrv, nv, _, rfl, hnv, rfl⟩ := hcs
  have hnv' : nv = .int .i64 ((j + 1 + 1 : Nat) : Int) := by
    simp only [VR] at hnv
    rw [hnv, show φ.s 3 = ((j + 1 + 1 : Nat) : Int) from congrFun n1 3]
  subst hnv'
  have hw2 : φ.w 2 = oRow lc := congrFun n3 2
  have hsch : IsSch w3 ln := hs3.hr.isSchC (b1 := 2) (b0 := 3) rfl rfl hln
  have hobj : IsRow w3 36 4 ov (oRow lc) := by have := hs3.hr.isRow (b := 4) (x := 2) (e := 36) rfl hov; rwa [hw2] at this
  have hroot : IsRow w3 72 2 rv (rRow (rootsL m)) := by
    simp only [VR] at hrv
    obtain ⟨r6, cap, h6, h7, h8, rfl⟩ := hrv
    obtain ⟨c6, g6, v6, l6, _, z6⟩ := hs3.hr.cellsL h6 (l := rootsV m) rfl
    have := rootsV_ok _ _ v6
    have hl2 : (rootsV m).length = (rRow (rootsL m)).length := by
      have h1 := congrArg List.length this
      rw [List.length_take, Nat.min_eq_left (by rw [Array.length_toList]; exact l6)] at h1
      exact h1
    refine ⟨r6, m, cap, c6, rfl, by decide, by rw [rRow_len]; simp [rootsL], h7, by omega, g6, ?_⟩
    rw [← hl2]; exact this
  refine ⟨ln, ov, rv, lc, ?_, ⟨hsch, hobj, hroot, hvs3, fun i p hp => ?_, by omega, by omega, by simp [rootsL]; omega, rootsL_rn hm.2, rootsL_ord hm.2, fun p hp => ?_⟩, hfst⟩
  · unfold wV
    congr 1
    exact Array.toList_inj.1 ec
  · have hi : i < lc.length := (List.getElem?_eq_some_iff.1 hp).1
    have hat : ∀ k, k < j + 1 → (lc[k]?).map (·.1) = some (chO (j + 1) k) := fun k hk => by
      have := congrArg (·[k]?) hfst
      simp only [List.getElem?_map] at this
      rw [this, List.getElem?_range (by omega)]; rfl
    have hpi := hat i (by omega)
    rw [hp] at hpi
    have hid : p.1.id = i + 1 := by rw [Option.map_some] at hpi; rw [Option.some.inj hpi]; rfl
    refine ⟨?_, by omega⟩
    cases i with
    | zero => simp only [lastId]; omega
    | succ k =>
      have hk := hat k (by omega)
      simp only [lastId]
      cases hlk : lc[k]? with
      | none => rw [hlk] at hk; cases hk
      | some q =>
        rw [hlk] at hk
        simp only [Option.map_some, Option.some.injEq] at hk
        simp only [Option.map_some, Option.getD_some, hk, chO]
        omega
  · have : p.1 ∈ (List.range (j + 1)).map (chO (j + 1)) := by rw [← hfst]; exact List.mem_map.2 ⟨p, hp, rfl⟩
    obtain ⟨k, hk, e⟩ := List.mem_map.1 this
    have := List.mem_range.1 hk
    rw [← e]
    simp only [chO]
    split <;> omega

end Go.Ev

/- Chains, part Da: limits of chains, plain. -/
namespace Go.Ev
open Go.Proofs

theorem chainL_mem {N : Nat} {o : O} : o ∈ chainL N ↔ ∃ i, i < N ∧ o = chO N i := by
  simp only [chainL, List.mem_map, List.mem_range]
  constructor
  · rintro ⟨i, hi, rfl⟩; exact ⟨i, hi, rfl⟩
  · rintro ⟨i, hi, rfl⟩; exact ⟨i, hi, rfl⟩
/-- A state of a bench that has a chain in it, and roots of one object of it. -/
structure HasChain (s : Bst) (N k : Nat) : Prop where
  sub : ∀ o ∈ chainL N, o ∈ s.objs.map (·.1)
  refs : ∀ p ∈ s.objs, p.1.ref ≤ N
  roots : ∀ q ∈ s.roots, q.2 = k
  rne : s.roots ≠ []
  k : 1 ≤ k ∧ k ≤ N
  N : N ≤ 90000
theorem HasChain.id {s : Bst} {N k : Nat} (h : HasChain s N k) {x : Nat} (hx : 1 ≤ x ∧ x ≤ N) : ∃ p ∈ s.objs, p.1 = chO N (x - 1) := by
  have := h.sub (chO N (x - 1)) (chainL_mem.2 ⟨x - 1, by omega, rfl⟩)
  obtain ⟨p, hp, e⟩ := List.mem_map.1 this
  exact ⟨p, hp, e⟩
theorem HasChain.ne {s : Bst} {N k : Nat} (h : HasChain s N k) : s.objs ≠ [] := by
  obtain ⟨p, hp, _⟩ := h.id h.k
  rintro e
  rw [e] at hp; cases hp
theorem HasChain.whole {s : Bst} {N k : Nat} (h : HasChain s N k) : WholeS s.objs s.roots := by
  refine ⟨fun q hq => ?_, fun p hp => ?_⟩
  · obtain ⟨p, hp, e⟩ := h.id h.k
    have := h.k
    exact ⟨p, hp, by rw [e, h.roots q hq]; simp only [chO]; omega⟩
  · have := h.refs p hp
    by_cases h0 : p.1.ref = 0
    · exact .inl h0
    · obtain ⟨p', hp', e⟩ := h.id (x := p.1.ref) (by omega)
      exact .inr ⟨p', hp', by rw [e]; simp only [chO]; omega⟩
def pathL (N k : Nat) : List Nat := (List.range (N + 1 - k)).map (· + k)
theorem HasChain.path {s : Bst} {N k : Nat} (h : HasChain s N k) {l : List (O × Value)} (hl : (l.map (·.1)).Perm (s.objs.map (·.1))) : Path l (pathL N k) := by
  have hk := h.k
  have hN := h.N
  refine ⟨?_, fun i x hx => ?_, fun x hx => ?_⟩
  · unfold pathL
    rw [List.Nodup, List.pairwise_map]
    exact List.nodup_range.imp fun {a b} hab e => hab (by omega)
  · have hi : i < N + 1 - k ∧ x = i + k := by
      simp only [pathL, List.getElem?_map] at hx
      rcases Nat.lt_or_ge i (N + 1 - k) with h | h
      · rw [List.getElem?_range h] at hx
        exact ⟨h, (Option.some.inj hx).symm⟩
      · rw [List.getElem?_eq_none (by simpa using h)] at hx; cases hx
    obtain ⟨hi, rfl⟩ := hi
    obtain ⟨p, hp, e⟩ := h.id (x := i + k) (by omega)
    obtain ⟨q, hq, e2⟩ := perm_id hl ⟨p, hp, rfl⟩
    obtain ⟨j, hj⟩ := List.getElem?_of_mem hq
    refine ⟨j, q, hj, by rw [e2, e]; simp only [chO]; omega, ?_⟩
    rw [e2, e]
    simp only [chO, pathL, List.getElem?_map]
    rcases Nat.lt_or_ge (i + 1) (N + 1 - k) with h | h
    · rw [List.getElem?_range h, if_neg (by omega)]
      simp only [Option.map_some, Option.getD_some]; omega
    · rw [List.getElem?_eq_none (by simpa using h), if_pos (by omega)]; rfl
  · simp only [pathL, List.mem_map, List.mem_range] at hx
    obtain ⟨i, hi, rfl⟩ := hx
    omega
theorem HasChain.reach {s : Bst} {N k : Nat} (h : HasChain s N k) {n : Nat} {w : World} {ln ov rv : Value} {l : List (O × Value)} {rs : List (ByteArray × Nat)} (ho : OutW w s ln ov rv l rs) :
    CallsIn (W none) n Tryz.prog 11 #[wV ln ov rv s.next] w fun e w' => ∃ v, e = .returned v ∧ (∃ u row, v = .tuple #[u, .int .i64 0] ∧ row.length = N + 1 - k ∧ IsRow w' 3 1 u row) ∧ Grown w w' := by
  have hk := h.k
  have hN := h.N
  have hlen : (pathL N k).length = N + 1 - k := by simp [pathL]
  have hne : l ≠ [] := by
    rintro rfl
    have := ho.objs.length_eq
    simp at this
    exact h.ne (List.eq_nil_of_length_eq_zero this.symm)
  have hrne : rs ≠ [] := by
    rintro rfl
    have := ho.roots.length_eq
    simp at this
    exact h.rne (List.eq_nil_of_length_eq_zero this.symm)
  have := reachF_ok (n := n) ho.gw ho.whole hne (h.path ho.objs) (k := k) (by
    simp only [pathL, List.getElem?_map]
    rw [List.getElem?_range (by omega)]; simp) (fun q hq => h.roots q (ho.roots.mem_iff.1 hq)) hrne (by rw [hlen]; omega)
  rw [hlen] at this
  exact this

/-- 'limit.Check' where there is a chain behind the records. -/
theorem limit_chain {n : Nat} {w : World} {lines ov rv : Value} {next : Nat} {l : List (O × Value)} {rs : List (ByteArray × Nat)} (G : GW w lines ov rv next l rs) {N0 : Nat} (h0 : HasChain ⟨l, rs, next⟩ N0 1) {sv recv : Value} {sl : List (ByteArray × Nat)} {rl : List (R × Value)} (hsn : IsSnaps w sv sl) (hsl : sl.length ≤ 100000) (hrecs : IsRecs w recv rl) (hrl : ∀ r ∈ rl, ROK w r) (hn : rl.length ≤ 1000)
    {s : Bst} (hs : s = (⟨l, rs, next⟩ : Bst).run rl) (hsl2 : s.objs.length ≤ 100000) (hsr : s.roots.length ≤ 100000) {N k c : Nat} (hc : HasChain s N k) (he : lim (N + 1 - k) s.roots.length (namesOf sl rl).length = c) :
    CallsIn (W none) n Tryz.prog 9 #[wV lines ov rv next, sv, recv] w fun e w' => ∃ v, e = .returned v ∧ v = .int .i64 c ∧ Grown w w' := by
  rw [← he]
  exact limit_ok G (h0.whole.perm (List.Perm.refl _) (List.Perm.refl _)) h0.ne hsn hsl hrecs hrl (by omega) hs hc.whole hsl2 hsr hc.ne hc.rne fun n w' ln ov rv l' rs' ho => hc.reach ho

/-! ### The chains that there are -/
theorem hasChain0 {l : List (O × Value)} {N m next : Nat} (hl : l.map (·.1) = chainL N) (hN : 1 ≤ N ∧ N ≤ 90000) (hm : 1 ≤ m) : HasChain ⟨l, rootsL m, next⟩ N 1 := by
  refine ⟨fun o ho => by rw [hl]; exact ho, fun p hp => ?_, fun q hq => ?_, ?_, by omega, hN.2⟩
  · have : p.1 ∈ chainL N := by rw [← hl]; exact List.mem_map.2 ⟨p, hp, rfl⟩
    obtain ⟨i, hi, e⟩ := chainL_mem.1 this
    rw [e]; simp only [chO]; split <;> omega
  · obtain ⟨i, _, rfl⟩ := rootsL_mem hq; rfl
  · intro e
    have := congrArg List.length e
    simp [rootsL] at this
    omega
theorem chain_len {l : List (O × Value)} {N : Nat} (hl : l.map (·.1) = chainL N) : l.length = N := by
  have := congrArg List.length hl
  simpa [chainL] using this

end Go.Ev

/- Chains, part Db: a region that draws its order, looked through, with what is kept. -/
namespace Go.Ev

/-- **A region that draws its order, up to a state that every order comes to.** -/
theorem StAt.exploreK {Ts : List Nat} {E : Env} (hE : E.OK) (hng : E.ng = 0) (hm : E.P.follows .mixedOrders = true) {k : Nat} {ops : Array Oper} {tb : Tab} {nt nb : Nat} {L : List Bool → List (Nat × V)} {HB : List Bool → List (Nat × Blk)} {ms : List (List Bool)} {stop : List Bool}
    (hc : explored E k ops tb nt nb L HB ms stop = true) (hT : ms.all (fun m => Ts.all (fun T => noT T (muts (HB m)))) = true) {φ : Ren} {B : Nat} {a : Act} {w : World} {n id : Nat} {Q : Exit → Act → World → Prop} {L0 : List (Nat × V)} {HB0 : List (Nat × Blk)} (hL : L (List.replicate ops.size false) = L0) (hH : HB (List.replicate ops.size false) = HB0)
    (hs : StAt φ B (frOf nt L0) (hOf nb HB0) a w) (y : Sym) (hy : Ag tb y y) (n1 : φ.s = y.s) (n2 : φ.q = y.q) (n3 : φ.w = y.w) (n4 : φ.g = y.g)
    (hF : ∀ φ1, φ1.s = y.s → φ1.q = y.q → φ1.w = y.w → φ1.g = y.g → BD E φ1)
    (hQ : ∀ φ' a' w', StAt φ' B (frOf nt (L stop)) (hOf nb (HB stop)) a' w' → a'.defers = a.defers → GB B w w' → KeptC w w' Ts → φ'.s = y.s → φ'.q = y.q → φ'.w = y.w → φ'.g = y.g → wpAnyIn (W none) n E.P .any ops Q (left stop.toArray) stop.toArray a' w') :
    (Code.region id ops true).wpIn (W none) n E.P Q a w := by
  subst hL; subst hH
  simp only [explored, Bool.and_eq_true] at hc
  obtain ⟨⟨hp, h0⟩, hall⟩ := hc
  refine wpIn_region_any hm ?_
  have key : ∀ (fuel : Nat) (listed : Array Bool) (φ1 : Ren) (a1 : Act) (w1 : World), left listed = fuel → listed.size = ops.size → listed.toList ∈ ms → StAt φ1 B (frOf nt (L listed.toList)) (hOf nb (HB listed.toList)) a1 w1 →
      a1.defers = a.defers → GB B w w1 → KeptC w w1 Ts → φ1.s = y.s → φ1.q = y.q → φ1.w = y.w → φ1.g = y.g → wpAnyIn (W none) n E.P .any ops Q fuel listed a1 w1 := by
    intro fuel
    induction fuel with
    | zero =>
      intro listed φ1 a1 w1 hl hsz hmem hs1 hd1 hg1 hkc1 e1 e2 e3 e4
      have hok := List.all_eq_true.1 hall _ hmem
      simp only [maskOK, Bool.or_eq_true, Bool.and_eq_true] at hok
      rcases hok with hst | ⟨hany, _⟩
      · have := sameM_ok hst
        have hq := hQ φ1 a1 w1 (by rw [← this]; exact hs1) hd1 hg1 hkc1 e1 e2 e3 e4
        rw [← this, Array.toArray_toList, hl] at hq
        exact hq
      · obtain ⟨i, hi, hr⟩ := List.any_eq_true.1 hany
        obtain ⟨o, ho, hn, _⟩ := mem_ready ((isRdy_iff hsz).1 hr)
        have hlt : i < listed.size := by rw [hsz]; exact List.mem_range.1 hi
        exact absurd (left_zero hl i hlt) (getD_true hn)
    | succ fuel ih =>
      intro listed φ1 a1 w1 hl hsz hmem hs1 hd1 hg1 hkc1 e1 e2 e3 e4
      have hok := List.all_eq_true.1 hall _ hmem
      simp only [maskOK, Bool.or_eq_true, Bool.and_eq_true] at hok
      rcases hok with hst | ⟨hany, hstep⟩
      · have := sameM_ok hst
        have hq := hQ φ1 a1 w1 (by rw [← this]; exact hs1) hd1 hg1 hkc1 e1 e2 e3 e4
        rw [← this, Array.toArray_toList, hl] at hq
        exact hq
      · refine ⟨fun hr => ?_, fun i hi => ?_⟩
        · obtain ⟨i, hi, hr'⟩ := List.any_eq_true.1 hany
          have := (isRdy_iff hsz).1 hr'
          rw [hr] at this; cases this
        · obtain ⟨o, ho, hn, _⟩ := mem_ready hi
          have hlt : i < ops.size := (Array.getElem?_eq_some_iff.1 ho).1
          have h1 := List.all_eq_true.1 hstep i (List.mem_range.2 hlt)
          simp only [Bool.or_eq_true, Bool.not_eq_true', (isRdy_iff hsz).2 hi, Bool.and_eq_true, Bool.true_eq_false, false_or] at h1
          obtain ⟨hmem', hst⟩ := h1
          have hmem' := any_sameM hmem'
          have hset : (listed.setIfInBounds i true).toList = listed.toList.set i true := by simp
          unfold stepOK at hst
          rw [ho] at hst
          simp only at hst
          split at hst
          · rename_i hgd
            have hwant := aguard_ok hs1.fr hgd
            split at hst
            · rename_i x h1 hastep
              unfold wpOpIn
              rw [ho]
              simp only [hwant, if_true]
              refine astep_ok hE (callF_ok hE (exec_ok hE k).1) (yieldF_ok (exec_ok hE k).1) (by rw [hng]; exact fun g hg => by omega) (hF φ1 e1 e2 e3 e4) hs1.fr hs1.hr none n o hastep fun φ2 v w2 hx hv hr2 => ?_
              obtain ⟨hgb, hloc⟩ := hs1.after hx hr2
              have hkc2 : KeptC w w2 Ts := hkc1.trans ((hs1.keepT hx hr2).keptC (List.all_eq_true.1 hT _ hmem))
              have hagr : ∀ h, Agree tb φ2 h w2 y := fun h => (hy.agreeS (o' := φ2.y) (by rw [hx.le.yy]; exact e1) (by rw [hx.le.yy]; exact e2) (by rw [hx.le.yy]; exact e3) (by rw [hx.le.yy]; exact e4)).agree hp rfl h w2
              have hleft : left (listed.setIfInBounds i true) = fuel := by have := left_set hn; omega
              split at hst
              · rename_i hdst
                cases e : mAll tb (frOf nt (L listed.toList)) h1 nt (L (listed.toList.set i true)) nb (HB (listed.toList.set i true)) with
                | none => rw [e] at hst; cases hst
                | some σ =>
                  have hst2 := conv_ok (a := a1.put o.dst v) e (by rw [hdst]; exact hs1.fr.mono hx.le) hr2 hloc (Nat.le_trans hs1.bz hx.size) y (hagr _)
                  exact ih _ _ _ _ hleft (by simpa using hsz) (by rw [hset]; exact hmem') (by rw [hset]; exact hst2) (by rw [hdst]; exact hd1) (hg1.trans hgb) hkc2 rfl rfl rfl rfl
              · rename_i d hdst
                simp only [Bool.and_eq_true] at hst
                cases e : mAll tb ((frOf nt (L listed.toList)).set d x) h1 nt (L (listed.toList.set i true)) nb (HB (listed.toList.set i true)) with
                | none => rw [e] at hst; cases hst.2
                | some σ =>
                  have hst2 := conv_ok (a := a1.put o.dst v) e (by rw [hdst]; exact (hs1.fr.mono hx.le).put (blt_iff.1 hst.1) hv) hr2 hloc (Nat.le_trans hs1.bz hx.size) y (hagr _)
                  exact ih _ _ _ _ hleft (by simpa using hsz) (by rw [hset]; exact hmem') (by rw [hset]; exact hst2) (by rw [hdst]; exact hd1) (hg1.trans hgb) hkc2 rfl rfl rfl rfl
            · cases hst
          · cases hst
  refine key ops.size _ φ a _ ?_ (by simp) (by simpa using any_sameM h0) ?_ rfl ?_ (fun _ _ _ _ h => h) n1 n2 n3 n4
  · unfold left
    simp [List.countP_replicate]
  · have : (Array.replicate ops.size false).toList = List.replicate ops.size false := by simp
    rw [this]
    exact ⟨hs.fr, hs.hr.drew _, hs.loc, hs.kf, hs.bz⟩
  · exact ⟨Nat.le_refl _, fun _ _ => rfl, rfl, rfl, rfl⟩


theorem any_step {P : Program} {n fuel : Nat} {ops : Array Oper} {Q : Exit → Act → World → Prop} {listed : Array Bool} {i : Nat} {o : Oper} {a : Act} {w : World} (hr : Region.ready .any ops listed = [i]) (ho : ops[i]? = some o) {l : List Oper}
    (hK : ∀ a w, wpListIn (W none) n P ops Q l a w → wpAnyIn (W none) n P .any ops Q fuel (listed.setIfInBounds i true) a w) (h : wpListIn (W none) n P ops Q (o :: l) a w) : wpAnyIn (W none) n P .any ops Q (fuel + 1) listed a w := by
  refine ⟨fun h0 => (by rw [hr] at h0; cases h0), fun j hj => ?_⟩
  rw [hr] at hj
  simp only [List.mem_singleton] at hj
  subst hj
  refine wpOpIn_mono hK ?_
  unfold wpOpIn
  rw [ho]
  exact h
theorem any_done {P : Program} {n : Nat} {ops : Array Oper} {Q : Exit → Act → World → Prop} {listed : Array Bool} {a : Act} {w : World} (hr : Region.ready .any ops listed = []) (h : wpListIn (W none) n P ops Q [] a w) : wpAnyIn (W none) n P .any ops Q 0 listed a w := ⟨hr, h⟩

/-! ### Records, out of a state -/
theorem VRs.split {φ : Ren} : ∀ {a b : List V} {vs : List Value}, VRs φ (a ++ b) vs → ∃ v1 v2, vs = v1 ++ v2 ∧ VRs φ a v1 ∧ VRs φ b v2
  | [], b, vs, h => ⟨[], vs, rfl, VRs.nil, h⟩
  | x :: a, b, vs, h => by
    simp only [List.cons_append, VRs] at h
    obtain ⟨y, ys, rfl, h1, h2⟩ := h
    obtain ⟨v1, v2, rfl, h3, h4⟩ := VRs.split h2
    exact ⟨y :: v1, v2, rfl, VRs.cons h1 h3, h4⟩
theorem rec_eq {φ : Ren} {k oid vals id nm : V} {vs : List Value} (h : VRs φ (recV k oid vals id nm) vs) {k' : Int} {oid' id' : Nat} (hk : ∀ v, VR φ k v → v = .int .i64 k') (ho : ∀ v, VR φ oid v → v = .int .i64 oid') (hi : ∀ v, VR φ id v → v = .int .i64 id') : ∃ v n, VR φ vals v ∧ VR φ nm n ∧ vs = recC k' oid' v id' n := by
  simp only [recV, VRs] at h
  obtain ⟨_, _, rfl, h1, _, _, rfl, h2, _, _, rfl, h3, _, _, rfl, h4, v, _, rfl, h5, _, _, rfl, h6, _, _, rfl, h7, nmv, _, rfl, h8, _, _, rfl, h9, _, _, rfl, h10, _, _, rfl, h11, _, _, rfl, h12, _, _, rfl, h13, _, _, rfl, h14, _, _, rfl, h15, _, _, rfl, h16, _, _, rfl, h17, _, _, rfl, h18, rfl⟩ := h
  simp only [VR] at h3 h4 h7 h9 h10 h11 h12 h13 h14 h15 h16 h17 h18
  refine ⟨v, nmv, h5, h8, ?_⟩
  rw [hk _ h1, ho _ h2, hi _ h6, h3, h4, h7, h9.1, h10.2, h11, h12.1, h13.1, h14.1, h15, h16, h17.1, h18.1]
  rfl
theorem vI_eq {φ : Ren} {k : Int} : ∀ v, VR φ (.i .i64 k) v → v = .int .i64 k := fun v h => by simpa only [VR] using h
theorem recsOf {φ : Ren} {nb : Nat} {HB : List (Nat × Blk)} {w : World} (hr : HR φ (hOf nb HB) w) {b m : Nat} {cs : List V} (h : lkB HB b = .cells cs 45 false) {v : Value} (hv : VR φ (.sl (some (b, 0)) m (.kn m)) v) {rl : List (R × Value)} (hrow : ∀ vs, VRs φ cs vs → vs = recRow rl) (hm : rl.length = m) : IsRecs w v rl := by
  simp only [VR] at hv
  obtain ⟨r, hb, hle, rfl⟩ := hv
  obtain ⟨c, g, vc, _, z, _⟩ := hr.cellsL hb h
  have z := z rfl
  rw [List.take_of_length_le (by rw [Array.length_toList, z]; exact Nat.le_refl _)] at vc
  have e := hrow _ vc
  have hl : c.size = m * 18 := by
    have := congrArg List.length e
    rw [Array.length_toList, recRow_len, hm] at this
    exact this
  refine .inr ⟨r, m, m, c, rfl, by decide, by rw [recRow_len, hm], Nat.le_refl _, hl.symm, g, ?_⟩
  rw [recRow_len, hm, ← e]
  exact List.take_of_length_le (by rw [Array.length_toList]; omega)

end Go.Ev
