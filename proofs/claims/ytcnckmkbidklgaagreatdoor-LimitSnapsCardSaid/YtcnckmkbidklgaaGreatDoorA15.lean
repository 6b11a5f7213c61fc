/- Chains, part X: 'bench.world', its second loop. -/
import Derived.Test.YtcnckmkbidklgaaGreatDoorA14
import Derived.Shelf.SlSortCmp.WholeK
import Derived.Shelf.SlicesG.Cmp
import Derived.Ground.SlsfProg
import Derived.Ground.SlgcProg
import Derived.Test.YtcnckmkbidklgaaGreatDoorA13
import Derived.Test.YtcnckmkbidklgaaGreatDoorA12
import Derived.Shelf.Lay
import Derived.Laws.Cover1
import Derived.Shelf.GgSortFunc.InsertionK
namespace Go.Ev
open Go.Proofs

/-! ### A map of roots -/
def rAt (e : MapEntry) : ByteArray × Nat := ((match e.key with | .string s => s | _ => ByteArray.empty), (match e.val with | .int _ n => n.toNat | _ => 0))
def rPair (p : ByteArray × Nat) : Value × Value := (.string p.1, .int .i64 p.2)
structure RM (m : Array MapEntry × Nat) (rs : List (ByteArray × Nat)) : Prop where
  ent : m.1.toList.map (fun e => (e.key, e.val)) = rs.map rPair
  old : ∀ e ∈ m.1.toList, e.born < m.2
  nd : (m.1.toList.map (·.born)).Nodup
theorem rAt_pair {e : MapEntry} {p : ByteArray × Nat} (h : (e.key, e.val) = rPair p) : rAt e = p := by
  simp only [rPair, Prod.mk.injEq] at h
  simp [rAt, h.1, h.2]
theorem map_rAt : ∀ {l : List MapEntry} {rs : List (ByteArray × Nat)}, l.map (fun e => (e.key, e.val)) = rs.map rPair → l.map rAt = rs ∧ ∀ e ∈ l, e.key = .string (rAt e).1 ∧ e.val = .int .i64 (rAt e).2
  | [], [], _ => ⟨rfl, fun _ h => by cases h⟩
  | [], _ :: _, h => by cases h
  | _ :: _, [], h => by cases h
  | e :: l, p :: rs, h => by
    simp only [List.map_cons, List.cons.injEq] at h
    obtain ⟨i1, i2⟩ := map_rAt h.2
    have hp := rAt_pair h.1
    refine ⟨by rw [List.map_cons, hp, i1], fun x hx => ?_⟩
    rcases List.mem_cons.1 hx with rfl | hx
    · rw [hp]
      simp only [rPair, Prod.mk.injEq] at h
      exact h.1
    · exact i2 x hx
theorem RM.map {m : Array MapEntry × Nat} {rs : List (ByteArray × Nat)} (h : RM m rs) : m.1.toList.map rAt = rs := (map_rAt h.ent).1
theorem RM.at_ {m : Array MapEntry × Nat} {rs : List (ByteArray × Nat)} (h : RM m rs) {e : MapEntry} (he : e ∈ m.1.toList) : e.key = .string (rAt e).1 ∧ e.val = .int .i64 (rAt e).2 := (map_rAt h.ent).2 e he
theorem RM.size {m : Array MapEntry × Nat} {rs : List (ByteArray × Nat)} (h : RM m rs) : m.1.size = rs.length := by
  have := congrArg List.length h.map
  simpa using this

def rY (ro rr next ri : Nat) (ln ov : Value) (i id : Nat) (nm : Value) (row : List Value) : Sym :=
  mkY [0, 0, 0, next, id, 0, 0, i] [.bool false, .bool false, .bool false, .map (some ro), .map (some rr), .bool false, ln, ov, .bool false, .pointer (some ⟨ri, 0, none⟩), nm] [[], [], row] []

def rT : List Nat := [36, 65, 68, 70]
theorem wr_TE_ok {ro rr next ri : Nat} {ln ov : Value} (h1 : ln.oneCell' = true) (h2 : ov.oneCell' = true) {i id : Nat} {nm : ByteArray} {row : List Value} {wt : List (Nat × WV)} (hw : wt = [] ∨ wt = [(2, .same 2)]) : Ag (wr_TE wt) (rY ro rr next ri ln ov i id (.string nm) row) (rY ro rr next ri ln ov i id (.string nm) row) := by
  refine ⟨⟨rfl, rfl, rfl, trivial⟩, ⟨⟨rfl, rfl⟩, ⟨rfl, rfl⟩, ⟨rfl, h1⟩, ⟨rfl, h2⟩, ⟨rfl, rfl⟩, ⟨rfl, rfl⟩, trivial⟩, ?_, trivial⟩
  rcases hw with rfl | rfl
  · exact trivial
  · exact ⟨rfl, trivial⟩

theorem wr_body1 {n : Nat} {p : ByteArray × Nat} {φ : Ren} {B : Nat} {a : Act} {w' : World} (hs : StAt φ B (frOf 59 wr_L0) (hOf 4 wr_H1) a w') (hd : a.defers = []) {ro rr next ri : Nat} {ln ov : Value} {rc : List (ByteArray × Nat)} (hn : Named φ (rY ro rr next ri ln ov 0 0 (.bool false) (rRow rc))) (h1 : ln.oneCell' = true) (h2 : ov.oneCell' = true) (hrc : rc.length ≤ 100000) {Q : Act → World → Prop}
    (hQ : ∀ φ' a' w'', StAt φ' B (frOf 59 wr_L0) (hOf 4 wr_H1) a' w'' → a'.defers = [] → Named φ' (rY ro rr next ri ln ov 0 0 (.bool false) (rRow (rc ++ [p]))) → GB B w' w'' → KeptC w' w'' rT → (∀ (x : Nat) mb s se l, w'.heap[x]? = some (.mapIter mb s se l) → w''.heap[x]? = some (.mapIter mb s se l)) → Q a' w'') :
    wpListIn (W none) n E0.P (opsD wr_bk) (Exit.then (wpCs none n E0.P (fun ex a3 w3 => ex = .normal ∧ Q a3 w3) (wr_bk.drop 1)) (fun ex a3 w3 => ex = .normal ∧ Q a3 w3)) ((opsD wr_bk).toList.drop 1) (a.put (some 41) (.tuple #[.string p.1, .int .i64 p.2])) w' := by
  obtain ⟨n1, n2, n3, n4⟩ := hn
  obtain ⟨φ1, hs1, m1, m2, m3, m4⟩ := hs.resym wr_S1 (y := rY ro rr next ri ln ov rc.length p.2 (.string p.1) (rRow rc))
    ⟨⟨(congrFun n1 3).symm, trivial⟩, ⟨⟨(congrFun n2 3).symm, rfl⟩, ⟨(congrFun n2 4).symm, rfl⟩, ⟨(congrFun n2 6).symm, h1⟩, ⟨(congrFun n2 7).symm, h2⟩, ⟨(congrFun n2 9).symm, rfl⟩, trivial⟩, ⟨(congrFun n3 2).symm, trivial⟩, trivial⟩
  have s4 : φ1.s 4 = p.2 := congrFun m1 4
  have hst2 := hs1.put (d := 41) (by decide) (x := .t [.q 10, .y .i64 4]) (v := .tuple #[.string p.1, .int .i64 p.2]) (by
    simp only [VR]
    refine ⟨_, rfl, VRs.cons ?_ (VRs.cons ?_ VRs.nil)⟩
    · simp only [VR]; exact ⟨(congrFun m2 10).symm, rfl⟩
    · simp only [VR, s4])
  have hte := wr_TE_ok (ro := ro) (rr := rr) (next := next) (ri := ri) (i := rc.length) (id := p.2) (nm := p.1) (row := rRow rc) h1 h2 (wt := [(2, .same 2)]) (.inr rfl)
  refine StAt.runO (withF_ok E0_ok {}) rfl 100 wr_E1 hst2 noFacts.bd' _ (hte.self' ⟨m1, m2, m3, m4⟩) fun φ3 a3 w3 hs3 hd3 hg3 hk3 m1 m2 m3 m4 => ?_
  show wpCs none n E0.P _ (wr_bk.drop 1) a3 w3
  have hd3' : a3.defers = [] := by rw [hd3]; exact hd
  refine StAt.runL (withF_ok E0_ok wr_F1) rfl 1 wr_O1 hs3 (FactsOK.bd' ?_) hd3' _ (hte.self' ⟨m1, m2, m3, m4⟩) fun φ' a' w'' hs' hd' hg' hk' e1 e2 e3 e4 => ⟨rfl, ?_⟩
  · have t7 : φ3.y.s 7 = rc.length := congrFun m1 7
    have hw : φ3.y.w 2 = rRow rc := congrFun m3 2
    refine ⟨⟨⟨?_, ?_⟩, trivial⟩, trivial, trivial, ⟨⟨rc.length, by decide, ?_, t7⟩, trivial⟩, trivial, trivial, trivial, trivial, trivial⟩
    · show (0 : Int) ≤ _; simp only [Ren.s, t7]; omega
    · show _ ≤ (100000 : Int); simp only [Ren.s, t7]; omega
    · show rc.length * 2 = (φ3.y.w 2).length
      rw [hw, rRow_len]
  · obtain ⟨r2, h2'⟩ := hs'.ptr 3 rfl
    obtain ⟨c2, _, v2, _⟩ := hs'.hr.cellsL h2' (l := [.q 6, .q 7, .sr 3 2 1 2, .y .i64 3]) rfl
    simp only [VRs, VR] at v2
    obtain ⟨_, _, _, _, _, _, _, _, _, _, _, ⟨r4, nn, cap, h4, _⟩, _⟩ := v2
    obtain ⟨c4, vs, g4, v4, t4, z4, _⟩ := hs'.hr.rowL h4 (x := 2) (l := [.q 10, .y .i64 4]) rfl
    simp only [VRs, VR] at v4
    obtain ⟨_, _, rfl, ⟨rfl, _⟩, _, _, rfl, rfl, rfl⟩ := v4
    have hw : φ'.w 2 = rRow rc := congrFun e3 2
    have q10 : φ'.q 10 = .string p.1 := congrFun e2 10
    have s4' : φ'.s 4 = p.2 := congrFun e1 4
    have hag : Agree wr_TC φ' (hOf 4 wr_G1) w'' (rY ro rr next ri ln ov 0 0 (.bool false) (rRow (rc ++ [p]))) := by
      refine mkAgree ⟨(congrFun e1 3).symm, trivial⟩ ⟨?_, ?_, ?_, ?_, ?_, trivial⟩ ⟨?_, trivial⟩ trivial
      · simp only [VR]; exact ⟨(congrFun e2 3).symm, rfl⟩
      · simp only [VR]; exact ⟨(congrFun e2 4).symm, rfl⟩
      · simp only [VR]; exact ⟨(congrFun e2 6).symm, h1⟩
      · simp only [VR]; exact ⟨(congrFun e2 7).symm, h2⟩
      · simp only [VR]; exact ⟨(congrFun e2 9).symm, rfl⟩
      · intro r cs e hr hcs
        rw [h4] at hr; cases hr
        rw [g4] at hcs; cases hcs
        refine ⟨fun z l e h => ?_, fun l' e g h => ?_⟩
        · rw [hOf_get] at h; cases h
          rw [t4, hw, q10, s4']
          show rRow (rc ++ [_]) = _
          simp [rRow, rCells]
        · rw [hOf_get] at h; cases h
    obtain ⟨φ2, hs2, j1, j2, j3, j4⟩ := hs'.conv wr_C1 _ hag
    exact hQ φ2 a' w'' hs2 hd' ⟨j1, j2, j3, j4⟩ (hg3.trans hg') ((hk3.keptC rfl).trans (hk'.keptC rfl)) (fun x mb s se l h => hk'.i x mb s se l (hk3.i x mb s se l h))

theorem wr_body0 {n : Nat} {p : ByteArray × Nat} {φ : Ren} {B : Nat} {a : Act} {w' : World} (hs : StAt φ B (frOf 59 wr_L0) (hOf 3 wr_H0) a w') (hd : a.defers = []) {ro rr next ri : Nat} {ln ov : Value} (hn : Named φ (rY ro rr next ri ln ov 0 0 (.bool false) [])) (h1 : ln.oneCell' = true) (h2 : ov.oneCell' = true) {Q : Act → World → Prop}
    (hQ : ∀ φ' a' w'', StAt φ' B (frOf 59 wr_L0) (hOf 4 wr_H1) a' w'' → a'.defers = [] → Named φ' (rY ro rr next ri ln ov 0 0 (.bool false) (rRow [p])) → GB B w' w'' → KeptC w' w'' rT → (∀ (x : Nat) mb s se l, w'.heap[x]? = some (.mapIter mb s se l) → w''.heap[x]? = some (.mapIter mb s se l)) → Q a' w'') :
    wpListIn (W none) n E0.P (opsD wr_bk) (Exit.then (wpCs none n E0.P (fun ex a3 w3 => ex = .normal ∧ Q a3 w3) (wr_bk.drop 1)) (fun ex a3 w3 => ex = .normal ∧ Q a3 w3)) ((opsD wr_bk).toList.drop 1) (a.put (some 41) (.tuple #[.string p.1, .int .i64 p.2])) w' := by
  obtain ⟨n1, n2, n3, n4⟩ := hn
  obtain ⟨φ1, hs1, m1, m2, m3, m4⟩ := hs.resym wr_S0 (y := rY ro rr next ri ln ov 0 p.2 (.string p.1) [])
    ⟨⟨(congrFun n1 3).symm, trivial⟩, ⟨⟨(congrFun n2 3).symm, rfl⟩, ⟨(congrFun n2 4).symm, rfl⟩, ⟨(congrFun n2 6).symm, h1⟩, ⟨(congrFun n2 7).symm, h2⟩, ⟨(congrFun n2 9).symm, rfl⟩, trivial⟩, trivial, trivial⟩
  have s4 : φ1.s 4 = p.2 := congrFun m1 4
  have hst2 := hs1.put (d := 41) (by decide) (x := .t [.q 10, .y .i64 4]) (v := .tuple #[.string p.1, .int .i64 p.2]) (by
    simp only [VR]
    refine ⟨_, rfl, VRs.cons ?_ (VRs.cons ?_ VRs.nil)⟩
    · simp only [VR]; exact ⟨(congrFun m2 10).symm, rfl⟩
    · simp only [VR, s4])
  have hte := wr_TE_ok (ro := ro) (rr := rr) (next := next) (ri := ri) (i := 0) (id := p.2) (nm := p.1) (row := []) h1 h2 (wt := []) (.inl rfl)
  refine StAt.runO (withF_ok E0_ok {}) rfl 100 wr_E0 hst2 noFacts.bd' _ (hte.self' ⟨m1, m2, m3, m4⟩) fun φ3 a3 w3 hs3 hd3 hg3 hk3 m1 m2 m3 m4 => ?_
  show wpCs none n E0.P _ (wr_bk.drop 1) a3 w3
  have hd3' : a3.defers = [] := by rw [hd3]; exact hd
  refine StAt.runL (withF_ok E0_ok {}) rfl 1 wr_O0 hs3 noFacts.bd' hd3' _ (hte.self' ⟨m1, m2, m3, m4⟩) fun φ' a' w'' hs' hd' hg' hk' e1 e2 e3 e4 => ⟨rfl, ?_⟩
  obtain ⟨r2, h2'⟩ := hs'.ptr 3 rfl
  obtain ⟨c2, _, v2, _⟩ := hs'.hr.cellsL h2' (l := [.q 6, .q 7, .sl (some (3, 0)) 1 (.un 2), .y .i64 3]) rfl
  simp only [VRs, VR] at v2
  obtain ⟨_, _, _, _, _, _, _, _, _, _, _, ⟨r4, cap, h4, _⟩, _⟩ := v2
  obtain ⟨c4, g4, v4, z4, _, _⟩ := hs'.hr.cellsL h4 (l := [.q 10, .y .i64 4]) rfl
  simp only [VRs, VR] at v4
  obtain ⟨_, _, t4, ⟨rfl, _⟩, _, _, rfl, rfl, rfl⟩ := v4
  have q10 : φ'.q 10 = .string p.1 := congrFun e2 10
  have s4' : φ'.s 4 = p.2 := congrFun e1 4
  have hag : Agree wr_TC φ' (hOf 4 wr_G0) w'' (rY ro rr next ri ln ov 0 0 (.bool false) (rRow [p])) := by
    refine mkAgree ⟨(congrFun e1 3).symm, trivial⟩ ⟨?_, ?_, ?_, ?_, ?_, trivial⟩ ⟨?_, trivial⟩ trivial
    · simp only [VR]; exact ⟨(congrFun e2 3).symm, rfl⟩
    · simp only [VR]; exact ⟨(congrFun e2 4).symm, rfl⟩
    · simp only [VR]; exact ⟨(congrFun e2 6).symm, h1⟩
    · simp only [VR]; exact ⟨(congrFun e2 7).symm, h2⟩
    · simp only [VR]; exact ⟨(congrFun e2 9).symm, rfl⟩
    · intro r cs e hr hcs
      rw [h4] at hr; cases hr
      rw [g4] at hcs; cases hcs
      refine ⟨fun z l e h => ?_, fun l' e g h => ?_⟩
      · rw [hOf_get] at h; cases h
      · rw [hOf_get] at h; cases h
        rw [t4, q10, s4']
        show rRow [_] = _
        simp [rRow, rCells]
  obtain ⟨φ2, hs2, j1, j2, j3, j4⟩ := hs'.conv wr_C0' _ hag
  exact hQ φ2 a' w'' hs2 hd' ⟨j1, j2, j3, j4⟩ (hg3.trans hg') ((hk3.keptC rfl).trans (hk'.keptC rfl)) (fun x mb s se l h => hk'.i x mb s se l (hk3.i x mb s se l h))

end Go.Ev

/- Chains, part Y: 'bench.world', its second loop, joined. -/
namespace Go.Ev
open Go.Proofs

def WInv2 (w : World) (mr : Array MapEntry × Nat) (ro rr ri next : Nat) (ln ov : Value) (lc : List (O × Value)) : Nat → Act → World → Prop
  | 0, a, w' => ∃ φ, StAt φ w.heap.size (frOf 59 wr_L0) (hOf 3 wr_H0) a w' ∧ a.defers = [] ∧ Named φ (rY ro rr next ri ln ov 0 0 (.bool false) []) ∧ WCom w w' rr ri mr ln [] ∧ IsRow w' 36 4 ov (oRow lc) ∧ ∀ p ∈ lc, IsVal w' p
  | i + 1, a, w' => ∃ φ de, StAt φ w.heap.size (frOf 59 wr_L0) (hOf 4 wr_H1) a w' ∧ a.defers = [] ∧ Named φ (rY ro rr next ri ln ov 0 0 (.bool false) (rRow (de.map rAt))) ∧ WCom w w' rr ri mr ln de ∧ de.length = i + 1 ∧ IsRow w' 36 4 ov (oRow lc) ∧ ∀ p ∈ lc, IsVal w' p

theorem wr_loop2 {n : Nat} {w : World} {mr : Array MapEntry × Nat} {rs : List (ByteArray × Nat)} {ro rr ri next : Nat} {ln ov : Value} {lc : List (O × Value)} (hm : w.heap[rr]? = some (.map mr.1 mr.2)) (hri : w.heap.size ≤ ri) (M : RM mr rs) (hrl : rs.length ≤ 100000) (h1 : ln.oneCell' = true) (h2 : ov.oneCell' = true) (hne : rs ≠ []) {Q : Exit → Act → World → Prop} {a : Act} {w' : World} (h0 : WInv2 w mr ro rr ri next ln ov lc 0 a w')
    (hQ : ∀ φ' a' w'' rc, StAt φ' w.heap.size (frOf 59 wr_L0) (hOf 4 wr_H1) a' w'' → a'.defers = [] → Named φ' (rY ro rr next ri ln ov 0 0 (.bool false) (rRow rc)) → GB w.heap.size w w'' → IsSch w'' ln → rc.Perm rs → IsRow w'' 36 4 ov (oRow lc) → (∀ p ∈ lc, IsVal w'' p) → wpCs none n E0.P Q (c25.drop 6) a' w'') : wpCs none n E0.P Q (c25.drop 5) a w' := by
  have hrr : rr < w.heap.size := (Array.getElem?_eq_some_iff.1 hm).1
  refine for_loop (id := 2) (b := (match c25.drop 5 with | .block _ (.loop b) :: _ => b | _ => .skip)) (rest := c25.drop 6) rs.length (WInv2 w mr ro rr ri next ln ov lc) ?_ ?_ h0
  · intro i a w' hi hinv
    show wpCs none n E0.P _ wr_rd a w'
    cases i with
    | zero =>
      obtain ⟨φ, hs, hd, hn, hc, hrow, hvs⟩ := hinv
      refine range_round (d1 := 39) (di := 40) (d2 := 41) (nt := 59) (z := 9) (L0 := wr_L0) (bk := wr_bk) (l2 := (opsD wr_bk).toList.drop 1) wr_r3 wr_b1 wr_r4 rfl rfl rfl rfl (by decide) rfl rfl rfl rfl rfl rfl wr_N0 rfl wr_I0 (Ts := rT) rfl hs hd (y := rY ro rr next ri ln ov 0 0 (.bool false) [])
        ⟨⟨rfl, trivial⟩, ⟨⟨rfl, rfl⟩, ⟨rfl, rfl⟩, ⟨rfl, h1⟩, ⟨rfl, h2⟩, ⟨rfl, rfl⟩, trivial⟩, trivial, trivial⟩ hn rfl hc.it (hc.gb.at_ rfl hm) hrr M.old M.nd hri (fun h0 => ?_) ?_
      · have := hc.came.none M.nd h0
        rw [M.size] at this
        exact hne (List.eq_nil_of_length_eq_zero (Nat.le_zero.1 this))
      · intro e he φ1 a1 w1 hs1 hd1 hn1 hg1 hk1 hit1
        obtain ⟨hcm, hem⟩ := hc.came.snoc he
        obtain ⟨ek, ev'⟩ := M.at_ hem
        rw [ek, ev']
        refine wr_body0 (p := rAt e) hs1 hd1 hn1 h1 h2 (Q := fun a3 w3 => Exit.normal = .normal ∧ WInv2 w mr ro rr ri next ln ov lc (0 + 1) a3 w3) fun φ' a' w'' hs' hd' hn' hg' hk' hi' => ⟨rfl, φ', [e], hs', hd', hn', ⟨(hc.gb.trans hg1).trans hg', hi' _ _ _ _ _ hit1, (hc.sch.keptC hk1 (by decide) (by decide)).keptC hk' (by decide) (by decide), hcm⟩, rfl, (hrow.keptC hk1 (by decide)).keptC hk' (by decide), fun p hp => ((hvs p hp).keptC hk1 (by decide)).keptC hk' (by decide)⟩
    | succ i =>
      obtain ⟨φ, de, hs, hd, hn, hc, hdl, hrow, hvs⟩ := hinv
      refine range_round (d1 := 39) (di := 40) (d2 := 41) (nt := 59) (z := 9) (L0 := wr_L0) (bk := wr_bk) (l2 := (opsD wr_bk).toList.drop 1) wr_r3 wr_b1 wr_r4 rfl rfl rfl rfl (by decide) rfl rfl rfl rfl rfl rfl wr_N1 rfl wr_I1 (Ts := rT) rfl hs hd (y := rY ro rr next ri ln ov 0 0 (.bool false) (rRow (de.map rAt)))
        ⟨⟨rfl, trivial⟩, ⟨⟨rfl, rfl⟩, ⟨rfl, rfl⟩, ⟨rfl, h1⟩, ⟨rfl, h2⟩, ⟨rfl, rfl⟩, trivial⟩, ⟨rfl, trivial⟩, trivial⟩ hn rfl hc.it (hc.gb.at_ rfl hm) hrr M.old M.nd hri (fun h0 => ?_) ?_
      · have := hc.came.none M.nd h0
        rw [M.size] at this
        omega
      · intro e he φ1 a1 w1 hs1 hd1 hn1 hg1 hk1 hit1
        obtain ⟨hcm, hem⟩ := hc.came.snoc he
        obtain ⟨ek, ev'⟩ := M.at_ hem
        rw [ek, ev']
        refine wr_body1 (p := rAt e) hs1 hd1 hn1 h1 h2 (by simp [hdl]; omega) (Q := fun a3 w3 => Exit.normal = .normal ∧ WInv2 w mr ro rr ri next ln ov lc (i + 1 + 1) a3 w3) fun φ' a' w'' hs' hd' hn' hg' hk' hi' => ⟨rfl, φ', de ++ [e], hs', hd', by simpa using hn', ⟨(hc.gb.trans hg1).trans hg', by rw [← push_map]; exact hi' _ _ _ _ _ hit1, (hc.sch.keptC hk1 (by decide) (by decide)).keptC hk' (by decide) (by decide), hcm⟩, by simp [hdl], (hrow.keptC hk1 (by decide)).keptC hk' (by decide), fun p hp => ((hvs p hp).keptC hk1 (by decide)).keptC hk' (by decide)⟩
  · intro a w' hinv
    show wpCs none n E0.P _ wr_rd a w'
    obtain ⟨m, hm'⟩ : ∃ m, rs.length = m + 1 := ⟨rs.length - 1, by have := List.length_pos_iff.2 hne; omega⟩
    rw [hm'] at hinv
    obtain ⟨φ, de, hs, hd, hn, hc, hdl, hrow, hvs⟩ := hinv
    refine range_end (d1 := 39) (di := 40) (nt := 59) (z := 9) (id := 2) (L0 := wr_L0) wr_r3 rfl rfl rfl rfl (by decide) rfl wr_NE rfl wr_IE (Ts := rT) rfl hs hd (y := rY ro rr next ri ln ov 0 0 (.bool false) (rRow (de.map rAt)))
        ⟨⟨rfl, trivial⟩, ⟨⟨rfl, rfl⟩, ⟨rfl, rfl⟩, ⟨rfl, h1⟩, ⟨rfl, h2⟩, ⟨rfl, rfl⟩, trivial⟩, ⟨rfl, trivial⟩, trivial⟩ hn rfl hc.it (hc.gb.at_ rfl hm) M.old hri (fun e he => ?_) ?_
    · have h1 := (hc.came.snoc he).1.length_le
      rw [M.size] at h1
      simp at h1
      omega
    · intro φ' a' w'' hs' hd' hn' hg' hk'
      refine hQ φ' a' w'' (de.map rAt) hs' hd' hn' (hc.gb.trans hg') (hc.sch.keptC hk' (by decide) (by decide)) ?_ (hrow.keptC hk' (by decide)) fun p hp => (hvs p hp).keptC hk' (by decide)
      have hperm := (hc.came.perm (by rw [M.size]; omega)).map rAt
      rwa [M.map] at hperm

end Go.Ev

/- Chains, part Z: 'bench.world', up to its end. -/
namespace Go.Ev
open Go.Proofs

theorem HR.isSchC {φ : Ren} {nb : Nat} {HB : List (Nat × Blk)} {w : World} (hr : HR φ (hOf nb HB) w) {b1 b0 : Nat} (h1 : lkB HB b1 = .cells [.s cName, .sl (some (b0, 0)) 1 (.kn 1), .sl none 0 (.kn 0)] 68 false) (h0 : lkB HB b0 = .cells [.s nextName, .i .i64 3, .i .i64 0, .b false] 65 false) {v : Value} (hv : VR φ (.sl (some (b1, 0)) 1 (.kn 1)) v) : IsSch w v := by
  simp only [VR] at hv
  obtain ⟨r1, hr1, _, rfl⟩ := hv
  obtain ⟨c1, g1, v1, z1, _⟩ := hr.cellsL hr1 h1
  simp only [VRs, VR] at v1
  obtain ⟨_, _, e1, ⟨rfl, _⟩, _, _, rfl, ⟨r0, hr0, _, rfl⟩, _, _, rfl, ⟨_, rfl⟩, rfl⟩ := v1
  obtain ⟨c0, g0, v0, z0, _⟩ := hr.cellsL hr0 h0
  simp only [VRs, VR] at v0
  obtain ⟨_, _, e0, ⟨rfl, _⟩, _, _, rfl, rfl, _, _, rfl, rfl, _, _, rfl, rfl, rfl⟩ := v0
  exact ⟨r1, r0, c1, c0, rfl, g0, g1, e0, e1⟩

/-- A slice whose block lies above a number. -/
def RowB (B : Nat) (v : Value) : Prop := ∃ r n cap, v = .slice (some ⟨r, 0, none⟩) n cap ∧ B ≤ r
def eY (next : Nat) (ln ov rv : Value) : Sym := mkY [0, 0, 0, next] [.bool false, .bool false, .bool false, .bool false, .bool false, .bool false, ln, ov, .bool false, .bool false, .bool false, rv] [] []

/-- A bench as 'world' looks at it. -/
structure BenchW (w : World) (ln kv : Value) (next : Nat) (mo mr : Array MapEntry × Nat) (rb ro rr : Nat) : Prop where
  bench : w.heap[rb]? = some (.cells #[ln, kv, .map (some ro), .map (some rr), .int .i64 next] 106 (0, 0))
  kv : kv.oneCell' = true
  objs : w.heap[ro]? = some (.map mo.1 mo.2)
  roots : w.heap[rr]? = some (.map mr.1 mr.2)

theorem world_pre {n : Nat} {w : World} {ln kv : Value} {next rb ro rr : Nat} {ps : List (O × Value)} {mr : Array MapEntry × Nat} {rs : List (ByteArray × Nat)} (H : BenchW w ln kv next (omL ps) mr rb ro rr) (hsch : IsSch w ln) (hne : ps ≠ []) (hrne : rs ≠ []) (M : RM mr rs)
    (hvals : ∀ p ∈ ps, IsVal w p) (hids : ∀ p ∈ ps, 1 ≤ p.1.id ∧ p.1.id ≤ 100000) (hrefs : ∀ p ∈ ps, p.1.ref ≤ 100000) (hln : ps.length ≤ 100000) (hrl : rs.length ≤ 100000) {Q : Exit → Act → World → Prop}
    (hQ : ∀ φ a w' ln' ov rv lc rc, StAt φ w.heap.size (frOf 59 we_L) (hOf 2 we_H) a w' → a.defers = [] → Named φ (eY next ln' ov rv) → GB w.heap.size w w' → IsSch w' ln' → IsRow w' 36 4 ov (oRow lc) → RowB w.heap.size ov → IsRow w' 72 2 rv (rRow rc) → RowB w.heap.size rv → (∀ p ∈ lc, IsVal w' p) → (lc.map (·.1)).Perm (ps.map (·.1)) → rc.Perm rs → wpCs none n E0.P Q (c25.drop 6) a w') :
    wpCs none n E0.P Q c25 { tmps := [Value.pointer (some ⟨rb, 0, none⟩)].toArray ++ Array.replicate (59 - [Value.pointer (some ⟨rb, 0, none⟩)].toArray.size) undef, defers := [] } w := by
  let y0 : Sym := mkY [0, 0, 0, next] [.bool false, .bool false, .bool false, .map (some ro), .map (some rr), kv] [] []
  obtain ⟨φ1, h1, hy1, v1⟩ := hsch.add y0
  have h2 := h1.add H.bench rfl wor_B (fun h => h) ⟨_, rfl, by
    refine VRs.cons v1 (VRs.cons ?_ (VRs.cons ?_ (VRs.cons ?_ (VRs.cons ?_ VRs.nil))))
    · simp only [VR, Ren.q, hy1]; exact ⟨rfl, H.kv⟩
    · simp only [VR, Ren.q, hy1]; exact ⟨rfl, rfl⟩
    · simp only [VR, Ren.q, hy1]; exact ⟨rfl, rfl⟩
    · simp only [VR, Ren.s, hy1]; rfl, Nat.le_refl _, rfl⟩
  have hargs : VRs (up φ1 2 rb 5) wor_args [.pointer (some ⟨rb, 0, none⟩)] := VRs.cons (by simp only [VR]; exact ⟨rb, by simp [up], rfl⟩) VRs.nil
  have hst := StAt.enter (nt := 59) h2 rfl (by show φ1.y.k = _; rw [hy1]; rfl) hargs (by decide)
  have hy0 : Ag wor_TA y0 y0 := ⟨⟨rfl, trivial⟩, ⟨⟨rfl, H.kv⟩, ⟨rfl, rfl⟩, ⟨rfl, rfl⟩, trivial⟩, trivial, trivial⟩
  refine StAt.runL (withF_ok E0_ok {}) rfl 1 wor_A hst noFacts.bd' rfl y0 (hy0.agreeS (by show φ1.y.s = _; rw [hy1]; rfl) (by show φ1.y.q = _; rw [hy1]; rfl) (by show φ1.y.w = _; rw [hy1]; rfl) (by show φ1.y.g = _; rw [hy1]; rfl)) fun φ a w1 hs hd hg _ n1 n2 n3 n4 => ?_
  show wpCs none n E0.P Q (c25.drop 1) a w1
  obtain ⟨id1, hr1⟩ := wor_r1
  rw [hr1]
  refine StAt.explore (withF_ok E0_ok {}) rfl E0_ok.mixed wor_E (L0 := wor_LA) (HB0 := wor_HA) rfl rfl hs y0 hy0 n1 n2 n3 n4 (fun φ1 _ _ _ _ => noFacts.bd') fun φ a2 w2 hs hd2 hg2 n1 n2 n3 n4 => ⟨rfl, ?_⟩
  show wpCs none n E0.P Q (c25.drop 2) a2 w2
  have hd2' : a2.defers = [] := by rw [hd2]; exact hd
  have g02 : GB w.heap.size w w2 := hg.trans hg2
  -- the new schema is named
  obtain ⟨r6, hr6⟩ := hs.ptr 3 rfl
  obtain ⟨c6, _, v6, _⟩ := hs.hr.cellsL hr6 (l := [.sl (some (4, 0)) 1 (.kn 1), .sl none 0 (.kn 0), .sl none 0 (.kn 0), .y .i64 3]) rfl
  simp only [VRs] at v6
  obtain ⟨ln', _, _, hln', _⟩ := v6
  have hsch2 : IsSch w2 ln' := hs.hr.isSchC (b1 := 4) (b0 := 5) rfl rfl hln'
  have hl1 := hsch2.one
  obtain ⟨φ, hs, n1, n2, n3, n4⟩ := hs.conv wor_B0 (wY ro rr next 0 ln' 0 0 0 []) (by
    refine mkAgree ⟨(congrFun n1 3).symm, trivial⟩ ⟨?_, ?_, hln', trivial⟩ trivial trivial
    · simp only [VR]; exact ⟨(congrFun n2 3).symm, rfl⟩
    · simp only [VR]; exact ⟨(congrFun n2 4).symm, rfl⟩)
  -- the first range
  obtain ⟨id2, hr2⟩ := wor_r2
  rw [hr2]
  refine wpCs_region ?_
  have hy2 : Ag wor_T2 (wY ro rr next 0 ln' 0 0 0 []) (wY ro rr next 0 ln' 0 0 0 []) := ⟨⟨rfl, trivial⟩, ⟨⟨rfl, rfl⟩, ⟨rfl, rfl⟩, ⟨rfl, hl1⟩, trivial⟩, trivial, trivial⟩
  refine StAt.runO (withF_ok E0_ok {}) rfl 4 wor_R2 hs noFacts.bd' _ (hy2.self' ⟨n1, n2, n3, n4⟩) fun φ a3 w3 hs hd3 hg3 hk3 n1 n2 n3 n4 => ?_
  have g03 : GB w.heap.size w w3 := g02.trans hg3
  have hsch3 : IsSch w3 ln' := hsch2.keptC (hk3.keptC (Ts := mT) rfl) (by decide) (by decide)
  refine hs.rangeO (l := (opsD (c25.drop 2)).toList.drop 4) (o := ((opsD (c25.drop 2)).toList.drop 4).headD default) (rest := []) rfl rfl rfl (z := 3) rfl (bm := ro) (congrFun n2 3) Tryz.underlying103 (g03.at_ rfl H.objs) fun hgr hit => ?_
  obtain ⟨φ, hs, n1, n2, n3, n4⟩ := hs.grow hgr wor_S2 (y := wY ro rr next w3.heap.size ln' 0 0 0 []) ⟨⟨(congrFun n1 3).symm, trivial⟩, ⟨⟨(congrFun n2 3).symm, rfl⟩, ⟨(congrFun n2 4).symm, rfl⟩, ⟨(congrFun n2 6).symm, hl1⟩, trivial⟩, trivial, trivial⟩
  have hs := hs.put (d := 22) (by decide) (x := .q 8) (v := .pointer (some ⟨w3.heap.size, 0, none⟩)) (by simp only [VR]; exact ⟨(congrFun n2 8).symm, rfl⟩)
  obtain ⟨φ, hs, n1, n2, n3, n4⟩ := hs.conv wor_C0 (wY ro rr next w3.heap.size ln' 0 0 0 []) (by
    refine mkAgree ⟨(congrFun n1 3).symm, trivial⟩ ⟨?_, ?_, ?_, ?_, trivial⟩ trivial trivial
    · simp only [VR]; exact ⟨(congrFun n2 3).symm, rfl⟩
    · simp only [VR]; exact ⟨(congrFun n2 4).symm, rfl⟩
    · simp only [VR]; exact ⟨(congrFun n2 6).symm, hl1⟩
    · simp only [VR]; exact ⟨(congrFun n2 8).symm, rfl⟩)
  refine wor_loop1 (ro := ro) (rr := rr) (ri := w3.heap.size) (next := next) (ln := ln') ⟨H.objs, g03.size, hvals, hids, hrefs, hln⟩ hl1 hne ⟨φ, hs, by show a3.defers = []; rw [hd3]; exact hd2', ⟨n1, n2, n3, n4⟩, ⟨g03.trans (hgr.gb g03.size), hit, hsch3.kept (fun r o ho => by rw [hgr.same r (Array.getElem?_eq_some_iff.1 ho).1]; exact ho), Came.nil _⟩⟩ ?_
  intro φ a4 w4 lc hs hd4 hn4 g04 hsch4 hperm hvs
  obtain ⟨n1, n2, n3, n4⟩ := hn4
  -- the objects' row is named
  obtain ⟨r2, hr2⟩ := hs.ptr 3 rfl
  obtain ⟨c2, _, v2, _⟩ := hs.hr.cellsL hr2 (l := [.q 6, .sr 3 2 0 4, nl, .y .i64 3]) rfl
  simp only [VRs] at v2
  obtain ⟨_, _, _, _, ov, _, _, hov, _⟩ := v2
  have hw2 : φ.w 2 = oRow lc := congrFun n3 2
  have hrow : IsRow w4 36 4 ov (oRow lc) := by have := hs.hr.isRow (b := 3) (x := 2) (e := 36) rfl hov; rwa [hw2] at this
  have hrB : RowB w.heap.size ov := by
    simp only [VR] at hov
    obtain ⟨r, m, cap, h1, _, _, _, _, rfl⟩ := hov
    exact ⟨r, _, _, rfl, hs.loc 3 r h1 (by rw [hOf_get]; trivial)⟩
  have ho1 := hrow.one
  obtain ⟨φ, hs, n1, n2, n3, n4⟩ := hs.conv wr_B0 (rY ro rr next 0 ln' ov 0 0 (.bool false) []) (by
    refine mkAgree ⟨(congrFun n1 3).symm, trivial⟩ ⟨?_, ?_, ?_, hov, trivial⟩ trivial trivial
    · simp only [VR]; exact ⟨(congrFun n2 3).symm, rfl⟩
    · simp only [VR]; exact ⟨(congrFun n2 4).symm, rfl⟩
    · simp only [VR]; exact ⟨(congrFun n2 6).symm, hl1⟩)
  -- the second range
  obtain ⟨id4, hr4⟩ := wr_r2
  rw [hr4]
  refine wpCs_region ?_
  have hy4 : Ag wr_T2 (rY ro rr next 0 ln' ov 0 0 (.bool false) []) (rY ro rr next 0 ln' ov 0 0 (.bool false) []) := ⟨⟨rfl, trivial⟩, ⟨⟨rfl, rfl⟩, ⟨rfl, rfl⟩, ⟨rfl, hl1⟩, ⟨rfl, ho1⟩, trivial⟩, trivial, trivial⟩
  refine StAt.runO (withF_ok E0_ok {}) rfl 4 wr_R2 hs noFacts.bd' _ (hy4.self' ⟨n1, n2, n3, n4⟩) fun φ a5 w5 hs hd5 hg5 hk5 n1 n2 n3 n4 => ?_
  have g05 : GB w.heap.size w w5 := g04.trans hg5
  have hk5' := hk5.keptC (Ts := rT) rfl
  refine hs.rangeO (l := (opsD (c25.drop 4)).toList.drop 4) (o := ((opsD (c25.drop 4)).toList.drop 4).headD default) (rest := []) rfl rfl rfl (z := 4) rfl (bm := rr) (congrFun n2 4) Tryz.underlying104 (g05.at_ rfl H.roots) fun hgr hit => ?_
  obtain ⟨φ, hs, n1, n2, n3, n4⟩ := hs.grow hgr wr_S2 (y := rY ro rr next w5.heap.size ln' ov 0 0 (.bool false) []) ⟨⟨(congrFun n1 3).symm, trivial⟩, ⟨⟨(congrFun n2 3).symm, rfl⟩, ⟨(congrFun n2 4).symm, rfl⟩, ⟨(congrFun n2 6).symm, hl1⟩, ⟨(congrFun n2 7).symm, ho1⟩, trivial⟩, trivial, trivial⟩
  have hs := hs.put (d := 38) (by decide) (x := .q 9) (v := .pointer (some ⟨w5.heap.size, 0, none⟩)) (by simp only [VR]; exact ⟨(congrFun n2 9).symm, rfl⟩)
  obtain ⟨φ, hs, n1, n2, n3, n4⟩ := hs.conv wr_C0 (rY ro rr next w5.heap.size ln' ov 0 0 (.bool false) []) (by
    refine mkAgree ⟨(congrFun n1 3).symm, trivial⟩ ⟨?_, ?_, ?_, ?_, ?_, trivial⟩ trivial trivial
    · simp only [VR]; exact ⟨(congrFun n2 3).symm, rfl⟩
    · simp only [VR]; exact ⟨(congrFun n2 4).symm, rfl⟩
    · simp only [VR]; exact ⟨(congrFun n2 6).symm, hl1⟩
    · simp only [VR]; exact ⟨(congrFun n2 7).symm, ho1⟩
    · simp only [VR]; exact ⟨(congrFun n2 9).symm, rfl⟩)
  have hgk : KeptC w5 (w5.alloc (.mapIter (some rr) mr.2 #[] mr.2)) rT := KeptC.grown hgr rT
  refine wr_loop2 (ro := ro) (rr := rr) (ri := w5.heap.size) (next := next) (ln := ln') (ov := ov) (lc := lc) H.roots g05.size M hrl hl1 ho1 hrne ⟨φ, hs, by show a5.defers = []; rw [hd5]; exact hd4, ⟨n1, n2, n3, n4⟩, ⟨g05.trans (hgr.gb g05.size), hit, (hsch4.keptC hk5' (by decide) (by decide)).keptC hgk (by decide) (by decide), Came.nil _⟩, (hrow.keptC hk5' (by decide)).keptC hgk (by decide), fun p hp => ((hvs p hp).keptC hk5' (by decide)).keptC hgk (by decide)⟩ ?_
  intro φ a6 w6 rc hs hd6 hn6 g06 hsch6 hpr hrow6 hvs6
  obtain ⟨n1, n2, n3, n4⟩ := hn6
  obtain ⟨r2, hr2⟩ := hs.ptr 3 rfl
  obtain ⟨c2, _, v2, _⟩ := hs.hr.cellsL hr2 (l := [.q 6, .q 7, .sr 3 2 0 2, .y .i64 3]) rfl
  simp only [VRs] at v2
  obtain ⟨_, _, _, _, _, _, _, _, rv, _, _, hrv, _⟩ := v2
  have hw2 : φ.w 2 = rRow rc := congrFun n3 2
  have hrr : IsRow w6 72 2 rv (rRow rc) := by have := hs.hr.isRow (b := 3) (x := 2) (e := 72) rfl hrv; rwa [hw2] at this
  have hrB2 : RowB w.heap.size rv := by
    simp only [VR] at hrv
    obtain ⟨r, m, cap, h1, _, _, _, _, rfl⟩ := hrv
    exact ⟨r, _, _, rfl, hs.loc 3 r h1 (by rw [hOf_get]; trivial)⟩
  obtain ⟨φ, hs, n1, n2, n3, n4⟩ := hs.conv we_B (eY next ln' ov rv) (by
    refine mkAgree ⟨(congrFun n1 3).symm, trivial⟩ ⟨?_, ?_, hrv, trivial⟩ trivial trivial
    · simp only [VR]; exact ⟨(congrFun n2 6).symm, hl1⟩
    · simp only [VR]; exact ⟨(congrFun n2 7).symm, ho1⟩)
  exact hQ φ a6 w6 ln' ov rv lc rc hs hd6 ⟨n1, n2, n3, n4⟩ g06 hsch6 hrow6 hrB hrr hrB2 hvs6 hperm hpr

end Go.Ev

/- Chains, part Q: slices.SortFunc of objects and of roots. -/
namespace Go.Proofs
open Go.Shelf Go.RowKit Go.Lib Go.Sort Go.Ev

set_option maxHeartbeats 1000000 in
theorem Tryz.closure41 (x y : O × Value) (W : World) : Calls Tryz.prog 41 #[.agg (oCells x).toArray, .agg (oCells y).toArray] W fun e w' => e = .returned (.int .i64 (Lib.compareInt x.1.id y.1.id)) ∧ ∃ q os', w' = grow (W.drewN q) os' := by
  have hcon := fun W' => AnyG.cmp_Compare_int Tryz.cmp42 x.1.id y.1.id W'
  change ∀ W', Calls Tryz.prog 42 _ _ _ at hcon
  generalize Lib.compareInt x.1.id y.1.id = r at hcon ⊢
  simp only [oCells]
  go_enter Tryz.func41, Tryz.ntmps41
  go_wp2_with (go_at_call 42; refine (hcon _).mono ?_; rintro e w' ⟨rfl, rfl⟩)
  go_ret
  exact ⟨rfl, 0, _, by rw [alloc_eq_grow, alloc_eq_grow, grow_grow]; rfl⟩

end Go.Proofs

/- Chains, part Qb: cmp.Compare at strings, and the closure over roots. -/
namespace Go.Proofs
open Go.Shelf Go.RowKit Go.Lib Go.Sort Go.Ev

/-- How two texts stand. -/
def cmpS (a b : ByteArray) : Int := if Op.bytesLess a.toList b.toList = true then -1 else if (!(Op.bytesLess a.toList b.toList || a.toList == b.toList)) = true then 1 else 0

theorem Tryz.nan75 (s : ByteArray) (w : World) : Calls Tryz.prog 75 #[.string s] w fun e w' => e = .returned (.bool false) ∧ w' = w := by
  go_enter Tryz.func75, Tryz.ntmps75
  go_wp2
  go_ret
  exact ⟨by simp, rfl⟩

set_option maxHeartbeats 1000000 in
theorem Tryz.cmp45 (a b : ByteArray) (w : World) : Calls Tryz.prog 45 #[.string a, .string b] w fun e w' => e = .returned (.int .i64 (cmpS a b)) ∧ w' = w := by
  go_enter Tryz.func45, Tryz.ntmps45
  go_wp2_with (go_at_call 75; refine (Tryz.nan75 _ _).mono ?_; rintro e w' ⟨rfl, hw⟩; rw [hw])
  all_goals (go_ret; refine ⟨?_, rfl⟩; unfold cmpS; simp_all)

set_option maxHeartbeats 1000000 in
theorem Tryz.closure44 (x y : ByteArray × Nat) (W : World) : Calls Tryz.prog 44 #[.agg (rCells x).toArray, .agg (rCells y).toArray] W fun e w' => e = .returned (.int .i64 (cmpS x.1 y.1)) ∧ ∃ q os', w' = grow (W.drewN q) os' := by
  have hcon := fun W' => Tryz.cmp45 x.1 y.1 W'
  generalize cmpS x.1 y.1 = r at hcon ⊢
  simp only [rCells]
  go_enter Tryz.func44, Tryz.ntmps44
  go_wp2_with (go_at_call 45; refine (hcon _).mono ?_; rintro e w' ⟨rfl, rfl⟩)
  go_ret
  exact ⟨rfl, 0, _, by rw [alloc_eq_grow, alloc_eq_grow, grow_grow]; rfl⟩

end Go.Proofs

/- Chains, part T: slices.SortFunc of objects and of roots, in our terms. -/
namespace Go.Ev
open Go.Proofs Go.Sort

/-- One block is turned, all else is as it was. -/
structure Turned (w w' : World) (r : Nat) : Prop where
  size : w.heap.size ≤ w'.heap.size
  same : ∀ i, i < w.heap.size → i ≠ r → w'.heap[i]? = w.heap[i]?
  os : w'.os = w.os
  tape : w'.tape = w.tape
  output : w'.output = w.output

theorem flatK_list {α : Type} [Inhabited α] {enc : α → List Value} {k : Nat} (hk : ∀ x, (enc x).length = k) (d : Array α) : (flatK enc k d).toList = d.toList.flatMap enc := by
  apply List.ext_getElem?
  intro t
  rcases Nat.lt_or_ge t (d.size * k) with h | h
  · have k0 : 0 < k := by
      rcases Nat.eq_zero_or_pos k with h0 | h0
      · subst h0; simp at h
      · exact h0
    have hd : t / k < d.size := (Nat.div_lt_iff_lt_mul k0).2 h
    have hx : d.toList[t / k]? = some d[t / k]! := by
      rw [getElem!_pos d _ hd]; simp [hd]
    have h2 := flatMap_at hk d.toList (t / k) _ hx
    have h3 : t = t / k * k + t % k := by have := Nat.div_add_mod t k; rw [Nat.mul_comm] at this; omega
    have h4 : (d.toList.flatMap enc)[t]? = (enc d[t / k]!)[t % k]? := by
      rw [← h2, List.getElem?_take_of_lt (Nat.mod_lt t k0), List.getElem?_drop, ← h3]
    rw [h4]
    have hm : t % k < (enc d[t / k]!).length := by rw [hk]; exact Nat.mod_lt t k0
    have h5 : (flatK enc k d)[t]? = some (flatK enc k d)[t]! := by
      rw [getElem!_pos _ t (by simpa using h)]; simp [h]
    rw [Array.getElem?_toList, h5, get_flatK _ _ _ _ h, getElem!_pos (enc d[t / k]!) (t % k) hm, List.getElem?_eq_getElem hm]
  · rw [List.getElem?_eq_none (by simpa using h), List.getElem?_eq_none (by rw [flatMap_len hk]; simpa using h)]

theorem take_put (F c : Array Value) (h : F.size ≤ c.size) : (putCells id 0 F c).toList.take F.size = F.toList := by
  apply List.ext_getElem?
  intro i
  rw [List.getElem?_take]
  split
  · rename_i hi
    have hc : i < c.size := by omega
    simp [putCells, Array.getElem?_mapIdx, hi, hc]
  · rename_i hi
    rw [List.getElem?_eq_none (by simpa using hi)]

theorem sortW_at {α : Type} [Inhabited α] (enc : α → List Value) (k : Nat) (w : World) (r m : Nat) (d : Array α) (os : Array Obj) {c : Array Value} {T : TypeId} (hw : w.heap[r]? = some (.cells c T (0, 0))) :
    (sortWorldK enc k w r 0 m d os).heap[r]? = some (.cells (putCells id 0 (flatK enc k d) c) T (0, 0)) ∧ Turned w (sortWorldK enc k w r 0 m d os) r := by
  have hlt : r < w.heap.size := (Array.getElem?_eq_some_iff.1 hw).1
  have hg : ∀ i, i < w.heap.size → (sortWorldK enc k w r 0 m d os).heap[i]? = (w.heap.modify r (onCells (putCells id 0 (flatK enc k d))))[i]? := fun i hi => by
    show (_ ++ os)[i]? = _
    rw [Array.getElem?_append_left (by simpa [putRowK, putRow, mapBlock, Go.Sort.ahead] using hi)]
    rfl
  refine ⟨?_, ⟨?_, fun i hi hne => ?_, rfl, rfl, rfl⟩⟩
  · rw [hg r hlt, Array.getElem?_modify, if_pos rfl, hw]; rfl
  · show _ ≤ (_ ++ os).size
    rw [Array.size_append]
    have : (putRowK enc k (Go.Sort.ahead w m) r 0 d).heap.size = w.heap.size := by simp [putRowK, putRow, mapBlock, Go.Sort.ahead]
    omega
  · rw [hg i hi, Array.getElem?_modify, if_neg (fun e => hne e.symm)]

theorem sort_ok {α : Type} [Inhabited α] {ρ : Go.Shelf.Ren} (L : SlLaysF0.n6 Tryz.prog ρ) {k T g : Nat} (aE : ∀ w, (isAgg (ρ.t 24)).run Tryz.prog w = .ok true w) (zE : ∀ w, (Go.sizeOf (ρ.t 24)).run Tryz.prog w = .ok k w) {enc : α → List Value} (hk : ∀ x, (enc x).length = k) (h1 : ∀ x, ∀ v ∈ enc x, v.oneCell' = true)
    {cf : α → α → Int} (hO : SWO (ltOf cf)) (eg : ∀ args w, (callFunc g args).run Tryz.prog w = .ok (.enter g args) w)
    (hcl : ∀ x y W, Calls Tryz.prog g #[.agg (enc x).toArray, .agg (enc y).toArray] W fun e w' => e = .returned (.int .i64 (cf x y)) ∧ ∃ q os', w' = Go.Sort.grow (W.drewN q) os')
    {n : Nat} {w : World} {v : Value} {l : List α} (hl : l.length < 4611686018427387904) (hr : IsRow w T k v (l.flatMap enc)) :
    CallsIn (W none) n Tryz.prog (ρ.f 6) #[v, .func (.func g) #[] #[]] w fun e w' => e = .returned (.tuple #[]) ∧
      ∃ (l' : List α) (r : Nat), l'.Perm l ∧ l'.Pairwise (fun a b => ltOf cf b a = false) ∧ IsRow w' T k v (l'.flatMap enc) ∧ (∃ n cap, v = .slice (some ⟨r, 0, none⟩) n cap) ∧ (∃ c, w.heap[r]? = some (.cells c T (0, 0))) ∧ Turned w w' r := by
  obtain ⟨r, m, cap, c, rfl, h2, h3, h4, h5, h6, h7⟩ := hr
  have hlen : (l.flatMap enc).length = l.length * k := flatMap_len hk l
  have hm : m = l.length := Nat.eq_of_mul_eq_mul_right h2 (h3.trans hlen)
  subst hm
  have hcs : l.length * k ≤ c.size := by rw [← h5]; exact Nat.mul_le_mul_right k h4
  have hlt : r < w.heap.size := (Array.getElem?_eq_some_iff.1 h6).1
  have hH : HoldsK enc k w r 0 l.toArray := by
    intro j hj
    rw [size_flatK] at hj
    have hj' : j < l.length * k := by simpa using hj
    have e1 : (flatK enc k l.toArray).toList = c.toList.take (l.length * k) := by
      rw [flatK_list hk, ← hlen, h7]
    have e2 : c[j]? = some (flatK enc k l.toArray)[j]! := by
      have e3 : (flatK enc k l.toArray)[j]? = some (flatK enc k l.toArray)[j]! := by
        rw [getElem!_pos _ j (by simpa using hj')]; simp [hj']
      rw [← e3, ← Array.getElem?_toList, ← Array.getElem?_toList, e1, List.getElem?_take_of_lt hj']
    refine ⟨?_, ?_⟩
    · simp [World.cell?, h6, e2]
    · simp [World.frozen?, h6]
  have hcmp : CmpLays Tryz.prog g #[] enc k cf r 0 l.toArray.size w := fun m os dk _ x y => hcl x y _
  have h := AnyQ.slices_SortFunc L k aE zE enc hk h1 cf hO g #[] r 0 cap l.toArray w eg hcmp hH hlt (by simpa using hl)
  refine CallsIn.mono (callsIn_wide.2 h : CallsIn (W none) n _ _ _ _ _) ?_
  rintro e w' ⟨rfl, d', m, os, hp, hs, rfl⟩
  obtain ⟨g1, g2⟩ := sortW_at enc k w r m d' os h6
  have hsz : d'.size = l.length := by simpa using hp.1
  refine ⟨rfl, d'.toList, r, ?_, ?_, ?_, ⟨_, _, rfl⟩, ⟨_, h6⟩, g2⟩
  · have := hp.2.2
    rw [Array.extract_eq_self_of_le (by simp [hsz]), Array.extract_eq_self_of_le (by simp)] at this
    simpa using this
  · rw [List.pairwise_iff_getElem]
    intro i j hi hj hij
    have hi' : i < d'.size := by simpa using hi
    have hj' : j < d'.size := by simpa using hj
    have := hs i j (Nat.zero_le _) hij (by simpa [hsz] using hj')
    rw [getElem!_pos d' i hi', getElem!_pos d' j hj'] at this
    simpa using this
  · have hfl : (d'.toList.flatMap enc).length = l.length * k := by rw [flatMap_len hk]; simp [hsz]
    have hps : (putCells id 0 (flatK enc k d') c).size = c.size := by simp [putCells]
    refine ⟨r, l.length, cap, _, rfl, h2, hfl.symm, h4, by rw [hps]; exact h5, g1, ?_⟩
    have hf : (flatK enc k d').size = l.length * k := by rw [size_flatK, hsz]
    have := take_put (flatK enc k d') c (by rw [hf]; exact hcs)
    rw [hf] at this
    rw [hfl, this, flatK_list hk]

/-! ### Objects -/
def oc (p : O × Value) : List Value := [.int .i64 p.1.id, .int .i64 0, .int .i64 0, cond p.2.oneCell' p.2 (.bool false)]
theorem oc_row : ∀ {l : List (O × Value)}, (∀ p ∈ l, p.2.oneCell' = true) → l.flatMap oc = oRow l
  | [], _ => rfl
  | p :: l, h => by
    have := h p List.mem_cons_self
    simp only [oRow, List.flatMap_cons, oc, this, cond, oCells]
    have ih := oc_row (l := l) fun q hq => h q (List.mem_cons_of_mem _ hq)
    rw [ih]; rfl
instance : Inhabited O := ⟨⟨0, 0⟩⟩
instance : Inhabited (O × Value) := ⟨(default, .bool false)⟩
theorem swo_int {α : Type} [Inhabited α] (f : α → Int) : SWO (ltOf fun x y => Lib.compareInt (f x) (f y)) := by
  have h : ∀ x y, ltOf (fun x y => Lib.compareInt (f x) (f y)) x y = decide (f x < f y) := fun x y => by
    simp only [ltOf, Lib.compareInt]
    by_cases h1 : f x < f y
    · simp [h1]
    · by_cases h2 : f x > f y <;> simp [h1, h2]
  refine ⟨fun x => ?_, fun x y z => ?_, fun x y z => ?_⟩
  · rw [h]; simp
  · rw [h, h, h]; simp; omega
  · rw [h, h, h]; simp; omega
theorem lt_int {α : Type} (f : α → Int) (x y : α) : ltOf (fun x y => Lib.compareInt (f x) (f y)) x y = decide (f x < f y) := by
  simp only [ltOf, Lib.compareInt]
  by_cases h1 : f x < f y
  · simp [h1]
  · by_cases h2 : f x > f y <;> simp [h1, h2]

theorem cmpS_neg (a b : ByteArray) : (cmpS a b < 0) ↔ Op.bytesLess a.toList b.toList = true := by
  by_cases h1 : Op.bytesLess a.toList b.toList = true
  · have : cmpS a b = -1 := by unfold cmpS; rw [if_pos h1]
    rw [this]; exact ⟨fun _ => h1, fun _ => by decide⟩
  · have : cmpS a b = 1 ∨ cmpS a b = 0 := by
      unfold cmpS; rw [if_neg h1]
      split
      · exact .inl rfl
      · exact .inr rfl
    constructor
    · intro h; rcases this with h2 | h2 <;> omega
    · exact fun h => absurd h h1
theorem lt_str {α : Type} (f : α → ByteArray) (x y : α) : ltOf (fun x y => cmpS (f x) (f y)) x y = Op.bytesLess (f x).toList (f y).toList := by
  show decide (cmpS (f x) (f y) < 0) = _
  rw [Bool.eq_iff_iff, decide_eq_true_iff]
  exact cmpS_neg _ _
theorem swo_str {α : Type} [Inhabited α] (f : α → ByteArray) : SWO (ltOf fun x y => cmpS (f x) (f y)) := by
  refine ⟨fun x => ?_, fun x y z => ?_, fun x y z => ?_⟩
  · rw [lt_str, bytesLess_eq]; simp [List.lt_irrefl]
  · rw [lt_str, lt_str, lt_str, bytesLess_eq, bytesLess_eq, bytesLess_eq]
    simp only [decide_eq_true_eq]
    exact List.lt_trans
  · rw [lt_str, lt_str, lt_str, bytesLess_eq, bytesLess_eq, bytesLess_eq]
    simp only [decide_eq_false_iff_not, List.not_lt]
    exact fun h1 h2 => List.le_trans h2 h1

set_option maxHeartbeats 1000000 in
theorem closure41' (x y : O × Value) (W : World) : Calls Tryz.prog 41 #[.agg (oc x).toArray, .agg (oc y).toArray] W fun e w' => e = .returned (.int .i64 (Lib.compareInt x.1.id y.1.id)) ∧ ∃ q os', w' = Go.Sort.grow (W.drewN q) os' := by
  have := Tryz.closure41 (x.1, cond x.2.oneCell' x.2 (.bool false)) (y.1, cond y.2.oneCell' y.2 (.bool false)) W
  exact this

theorem sortO_ok {n : Nat} {w : World} {v : Value} {l : List (O × Value)} (hl : l.length ≤ 100000) (h1 : ∀ p ∈ l, p.2.oneCell' = true) (hr : IsRow w 36 4 v (oRow l)) :
    CallsIn (W none) n Tryz.prog 40 #[v, .func (.func 41) #[] #[]] w fun e w' => e = .returned (.tuple #[]) ∧
      ∃ (l' : List (O × Value)) (r : Nat), l'.Perm l ∧ l'.Pairwise (fun a b => ¬ b.1.id < a.1.id) ∧ IsRow w' 36 4 v (oRow l') ∧ (∃ n cap, v = .slice (some ⟨r, 0, none⟩) n cap) ∧ (∃ c, w.heap[r]? = some (.cells c 36 (0, 0))) ∧ Turned w w' r := by
  rw [← oc_row h1] at hr
  have := sort_ok (α := O × Value) (T := 36) (g := 41) Tryz.sort40 (k := 4) (fun w => run_isAgg Tryz.underlying36 w) (fun w => run_sizeOf (E0_ok.ty 36 _ _ rfl).1 w) (enc := oc) (fun _ => rfl) (fun x v hv => by
    simp only [oc, List.mem_cons, List.not_mem_nil, or_false] at hv
    rcases hv with rfl | rfl | rfl | rfl
    · rfl
    · rfl
    · rfl
    · cases hc : x.2.oneCell' with
      | true => simpa [cond] using hc
      | false => rfl) (cf := fun x y => Lib.compareInt x.1.id y.1.id) (swo_int fun x : O × Value => (x.1.id : Int)) (fun args w => by simp [callFunc, Tryz.func41]; rfl) closure41' (n := n) (w := w) (v := v) (l := l) (by omega) hr
  refine CallsIn.mono this ?_
  rintro e w' ⟨rfl, l', r, hp, hs, hrow, hv, hc, ht⟩
  refine ⟨rfl, l', r, hp, hs.imp fun {a b} h => ?_, ?_, hv, hc, ht⟩
  · rw [lt_int (fun x : O × Value => (x.1.id : Int))] at h
    have : ¬ ((b.1.id : Int) < a.1.id) := by simpa using h
    omega
  · rwa [oc_row fun p hp' => h1 p (hp.mem_iff.1 hp')] at hrow

instance : Inhabited (ByteArray × Nat) := ⟨(ByteArray.empty, 0)⟩
theorem sortR_ok {n : Nat} {w : World} {v : Value} {l : List (ByteArray × Nat)} (hl : l.length ≤ 100000) (hr : IsRow w 72 2 v (rRow l)) :
    CallsIn (W none) n Tryz.prog 43 #[v, .func (.func 44) #[] #[]] w fun e w' => e = .returned (.tuple #[]) ∧
      ∃ (l' : List (ByteArray × Nat)) (r : Nat), l'.Perm l ∧ l'.Pairwise (fun a b => Op.bytesLess b.1.toList a.1.toList = false) ∧ IsRow w' 72 2 v (rRow l') ∧ (∃ n cap, v = .slice (some ⟨r, 0, none⟩) n cap) ∧ (∃ c, w.heap[r]? = some (.cells c 72 (0, 0))) ∧ Turned w w' r := by
  have := sort_ok (α := ByteArray × Nat) (T := 72) (g := 44) Tryz.sort43 (k := 2) (fun w => run_isAgg Tryz.underlying72 w) (fun w => run_sizeOf (E0_ok.ty 72 _ _ rfl).1 w) (enc := rCells) (fun _ => rfl) (fun x v hv => by
    simp only [rCells, List.mem_cons, List.not_mem_nil, or_false] at hv
    rcases hv with rfl | rfl <;> rfl) (cf := fun x y => cmpS x.1 y.1) (swo_str fun x : ByteArray × Nat => x.1) (fun args w => by simp [callFunc, Tryz.func44]; rfl) Tryz.closure44 (n := n) (w := w) (v := v) (l := l) (by omega) hr
  refine CallsIn.mono this ?_
  rintro e w' ⟨rfl, l', r, hp, hs, hrow, hv, hc, ht⟩
  refine ⟨rfl, l', r, hp, hs.imp fun {a b} h => ?_, hrow, hv, hc, ht⟩
  rwa [lt_str (fun x : ByteArray × Nat => x.1)] at h

end Go.Ev

/- Chains, part Zb: 'bench.world'. -/
namespace Go.Ev
open Go.Proofs

/-- A block that a state does not speak of is turned, and memory grows. -/
theorem StAt.turned {φ : Ren} {B nt nb : Nat} {L : List (Nat × V)} {HB : List (Nat × Blk)} {a : Act} {w w' : World} (hs : StAt φ B (frOf nt L) (hOf nb HB) a w) {r : Nat} (ht : Turned w w' r) (hlt : r < w.heap.size) (hn : ∀ b, φ b = some r → ¬ ((hOf nb HB).get b).live) {tb : Tab} (hc : selfOK tb nt L nb HB = true) {y : Sym} (hy : Ag tb φ.y y) :
    ∃ φ', StAt φ' B (frOf nt L) (hOf nb HB) a w' ∧ φ'.s = y.s ∧ φ'.q = y.q ∧ φ'.w = y.w ∧ φ'.g = y.g := by
  have hlt' : r < w'.heap.size := Nat.lt_of_lt_of_le hlt ht.size
  let w1 : World := { w' with heap := w.heap.setIfInBounds r w'.heap[r] }
  have h1 : w1.heap.size = w.heap.size := by simp [w1]
  obtain ⟨φ1, hs1, e1, e2, e3, e4, _, _⟩ := hs.other (w' := w1) (r := r) hn h1 (fun i hi => by
    show (w.heap.setIfInBounds r _)[i]? = _
    rw [Array.getElem?_setIfInBounds_ne (Ne.symm hi)])
  refine hs1.grow (w' := w') ⟨by rw [h1]; exact ht.size, fun i hi => ?_, rfl, rfl, rfl⟩ hc (hy.self'' e1 e2 e3 e4)
  rw [h1] at hi
  show _ = (w.heap.setIfInBounds r _)[i]?
  by_cases hir : i = r
  · subst hir
    rw [Array.getElem?_setIfInBounds_self_of_lt hlt, Array.getElem?_eq_getElem hlt']
  · rw [Array.getElem?_setIfInBounds_ne (Ne.symm hir), ht.same i hi hir]

theorem Turned.isRow {w w' : World} {r : Nat} (ht : Turned w w' r) {c : Array Value} {T T' : TypeId} (hr : w.heap[r]? = some (.cells c T (0, 0))) (hT : T ≠ T') {sz : Nat} {v : Value} {row : List Value} (h : IsRow w T' sz v row) : IsRow w' T' sz v row := by
  obtain ⟨r1, n, cap, c1, h1, h2, h3, h4, h5, h6, h7⟩ := h
  refine ⟨r1, n, cap, c1, h1, h2, h3, h4, h5, ?_, h7⟩
  rw [ht.same r1 (Array.getElem?_eq_some_iff.1 h6).1 (by rintro rfl; rw [hr] at h6; cases h6; exact hT rfl)]
  exact h6
theorem Turned.keptC {w w' : World} {r : Nat} (ht : Turned w w' r) {c : Array Value} {T : TypeId} (hr : w.heap[r]? = some (.cells c T (0, 0))) {Ts : List Nat} (hT : T ∉ Ts) : KeptC w w' Ts := fun r1 c1 T1 hm ho => by
  rw [ht.same r1 (Array.getElem?_eq_some_iff.1 ho).1 (by rintro rfl; rw [hr] at ho; cases ho; exact hT hm)]
  exact ho
theorem Turned.gb {w w' : World} {r B : Nat} (ht : Turned w w' r) (hB : B ≤ r) (hBw : B ≤ w.heap.size) : GB B w w' := ⟨ht.size, fun i hi => ht.same i (by omega) (by omega), ht.os, ht.tape, ht.output⟩
theorem notLive {φ : Ren} {nb : Nat} {HB : List (Nat × Blk)} {w : World} (hr : HR φ (hOf nb HB) w) {r : Nat} {c : Array Value} {T : TypeId} (ho : w.heap[r]? = some (.cells c T (0, 0))) (hT : noT T HB = true) : ∀ b, φ b = some r → ¬ ((hOf nb HB).get b).live := fun b e hl => by
  obtain ⟨o, h1, h2⟩ := hr.blk b r e hl
  rw [ho] at h1; cases h1
  rw [hOf_get] at h2 hl
  exact noT_ok hT b _ (lkB_mem hl) hl h2

theorem world_ok {n : Nat} {w : World} {ln kv : Value} {next rb ro rr : Nat} {ps : List (O × Value)} {mr : Array MapEntry × Nat} {rs : List (ByteArray × Nat)} (H : BenchW w ln kv next (omL ps) mr rb ro rr) (hsch : IsSch w ln) (hne : ps ≠ []) (hrne : rs ≠ []) (M : RM mr rs)
    (hvals : ∀ p ∈ ps, IsVal w p) (hids : ∀ p ∈ ps, 1 ≤ p.1.id ∧ p.1.id ≤ 100000) (hrefs : ∀ p ∈ ps, p.1.ref ≤ 100000) (hln : ps.length ≤ 100000) (hrl : rs.length ≤ 100000) :
    CallsIn (W none) n Tryz.prog 25 #[.pointer (some ⟨rb, 0, none⟩)] w fun e w' => ∃ v, e = .returned v ∧ (∃ ln' ov rv l' rs', v = wV ln' ov rv next ∧ IsSch w' ln' ∧ IsRow w' 36 4 ov (oRow l') ∧ IsRow w' 72 2 rv (rRow rs') ∧ (∀ p ∈ l', IsVal w' p) ∧
      (l'.map (·.1)).Perm (ps.map (·.1)) ∧ l'.Pairwise (fun a b => ¬ b.1.id < a.1.id) ∧ rs'.Perm rs ∧ rs'.Pairwise (fun a b => Op.bytesLess b.1.toList a.1.toList = false)) ∧ Grown w w' := by
  refine callIn (fn := Tryz.f25) (c := (Tryz.f25.body).getD .skip) (args := [.pointer (some ⟨rb, 0, none⟩)]) Tryz.func25 rfl (wpIn_flat _ ?_)
  show wpCs none n E0.P _ c25 _ _
  refine world_pre H hsch hne hrne M hvals hids hrefs hln hrl ?_
  intro φ a w1 ln' ov rv lc rc hs hd hn g01 hsch1 hro1 hB1 hrr1 hB2 hvs1 hperm hpr
  have hl1 := hsch1.one
  have ho1 := hro1.one
  have hr1 := hrr1.one
  have hlcl : lc.length ≤ 100000 := by have := hperm.length_eq; simp at this; omega
  have hrcl : rc.length ≤ 100000 := by have := hpr.length_eq; omega
  have hyT : Ag we_T (eY next ln' ov rv) (eY next ln' ov rv) := ⟨⟨rfl, trivial⟩, ⟨⟨rfl, hl1⟩, ⟨rfl, ho1⟩, ⟨rfl, hr1⟩, trivial⟩, trivial, trivial⟩
  -- the objects are sorted
  obtain ⟨id6, hr6⟩ := we_r6
  rw [hr6]
  refine wpCs_region ?_
  refine StAt.runO (withF_ok E0_ok {}) rfl 2 we_R6 hs noFacts.bd' _ (hyT.self' hn) fun φ a2 w2 hs hd2 hg2 hk2 n1 n2 n3 n4 => ?_
  have hk2' := hk2.keptC (Ts := [36, 72, 65, 68, 70]) rfl
  refine hs.callO (l := (opsD (c25.drop 6)).toList.drop 2) (o := ((opsD (c25.drop 6)).toList.drop 2).headD default) (rest := []) rfl rfl rfl rfl rfl Tryz.func40 rfl rfl (Vs := [.q 7, .f 41 [] []]) rfl ?_
  intro args' ha
  have : args' = [ov, .func (.func 41) #[] #[]] := by
    simp only [VRs, VR] at ha
    obtain ⟨_, _, rfl, ⟨rfl, _⟩, _, _, rfl, ⟨f', c', rfl, e1, e2⟩, rfl⟩ := ha
    rw [Array.toList_inj.1 e1, Array.toList_inj.1 e2, n2]; rfl
  subst this
  refine (sortO_ok (n := n - 1) hlcl (fun p hp => (hvs1 p hp).one) (hro1.keptC hk2' (by decide))).mono ?_
  rintro e w3 ⟨rfl, l', r, hp3, hs3, hrow3, ⟨m, cap, hov⟩, ⟨c3, hc3⟩, ht3⟩
  refine ⟨_, rfl, ?_⟩
  have hlt3 := (Array.getElem?_eq_some_iff.1 hc3).1
  have hB3 : w.heap.size ≤ r := by
    obtain ⟨r', m', cap', e, h⟩ := hB1
    rw [hov] at e; cases e; exact h
  obtain ⟨φ, hs, n1, n2, n3, n4⟩ := hs.turned ht3 hlt3 (notLive hs.hr hc3 rfl) we_S6 (hyT.self'' n1 n2 n3 n4)
  have hs := hs.put (d := 54) (by decide) (x := .top) (v := .tuple #[]) (by simp only [VR])
  obtain ⟨φ, hs, n1, n2, n3, n4⟩ := hs.conv we_C6 (eY next ln' ov rv) (by
    refine mkAgree ⟨(congrFun n1 3).symm, trivial⟩ ⟨?_, ?_, ?_, trivial⟩ trivial trivial
    · simp only [VR]; exact ⟨(congrFun n2 6).symm, hl1⟩
    · simp only [VR]; exact ⟨(congrFun n2 7).symm, ho1⟩
    · simp only [VR]; exact ⟨(congrFun n2 11).symm, hr1⟩)
  have g03 : GB w.heap.size w w3 := (g01.trans hg2).trans (ht3.gb hB3 (Nat.le_trans g01.size hg2.size))
  have hk3 : KeptC w2 w3 [72, 65, 68, 70] := ht3.keptC hc3 (by decide)
  have hk23 : KeptC w1 w3 [72, 65, 68, 70] := (hk2.keptC (Ts := [72, 65, 68, 70]) rfl).trans hk3
  have hrr3 := hrr1.keptC hk23 (by decide)
  -- the roots are sorted
  show wpCs none n E0.P _ (c25.drop 7) _ w3
  obtain ⟨id7, hr7⟩ := we_r7
  rw [hr7]
  refine wpCs_region ?_
  refine StAt.runO (withF_ok E0_ok {}) rfl 2 we_R7 hs noFacts.bd' _ (hyT.self' ⟨n1, n2, n3, n4⟩) fun φ a4 w4 hs hd4 hg4 hk4 n1 n2 n3 n4 => ?_
  have hk4' := hk4.keptC (Ts := [36, 72, 65, 68, 70]) rfl
  refine hs.callO (l := (opsD (c25.drop 7)).toList.drop 2) (o := ((opsD (c25.drop 7)).toList.drop 2).headD default) (rest := []) rfl rfl rfl rfl rfl Tryz.func43 rfl rfl (Vs := [.q 11, .f 44 [] []]) rfl ?_
  intro args' ha
  have : args' = [rv, .func (.func 44) #[] #[]] := by
    simp only [VRs, VR] at ha
    obtain ⟨_, _, rfl, ⟨rfl, _⟩, _, _, rfl, ⟨f', c', rfl, e1, e2⟩, rfl⟩ := ha
    rw [Array.toList_inj.1 e1, Array.toList_inj.1 e2, n2]; rfl
  subst this
  refine (sortR_ok (n := n - 1) hrcl (hrr3.keptC hk4' (by decide))).mono ?_
  rintro e w5 ⟨rfl, rs', r5, hp5, hs5, hrow5, ⟨m5, cap5, hrv⟩, ⟨c5, hc5⟩, ht5⟩
  refine ⟨_, rfl, ?_⟩
  have hlt5 := (Array.getElem?_eq_some_iff.1 hc5).1
  have hB5 : w.heap.size ≤ r5 := by
    obtain ⟨r', m', cap', e, h⟩ := hB2
    rw [hrv] at e; cases e; exact h
  obtain ⟨φ, hs, n1, n2, n3, n4⟩ := hs.turned ht5 hlt5 (notLive hs.hr hc5 rfl) we_S7 (hyT.self'' n1 n2 n3 n4)
  have hs := hs.put (d := 57) (by decide) (x := .top) (v := .tuple #[]) (by simp only [VR])
  obtain ⟨φ, hs, n1, n2, n3, n4⟩ := hs.conv we_C7 (eY next ln' ov rv) (by
    refine mkAgree ⟨(congrFun n1 3).symm, trivial⟩ ⟨?_, ?_, ?_, trivial⟩ trivial trivial
    · simp only [VR]; exact ⟨(congrFun n2 6).symm, hl1⟩
    · simp only [VR]; exact ⟨(congrFun n2 7).symm, ho1⟩
    · simp only [VR]; exact ⟨(congrFun n2 11).symm, hr1⟩)
  have g05 : GB w.heap.size w w5 := (g03.trans hg4).trans (ht5.gb hB5 (Nat.le_trans g03.size hg4.size))
  have hk5 : KeptC w4 w5 [36, 65, 68, 70] := ht5.keptC hc5 (by decide)
  have hk45 : KeptC w3 w5 [36, 65, 68, 70] := (hk4.keptC (Ts := [36, 65, 68, 70]) rfl).trans hk5
  show wpCs none n E0.P _ (c25.drop 8) _ w5
  have hda : a4.defers = [] := by rw [hd4]; show a2.defers = []; rw [hd2, hd]
  refine StAt.runL (withF_ok E0_ok {}) rfl 2 (cs := c25.drop 8) we_X hs noFacts.bd' hda _ (hyT.self' ⟨n1, n2, n3, n4⟩) fun φ a6 w6 hs hd6 hg6 hk6 n1 n2 n3 n4 => ?_
  refine ⟨.inl rfl, hd6, ?_⟩
  obtain ⟨v, hv1, hv2⟩ := hs.leave E0_ok (fn := Tryz.f25) (l := [.a [.q 6, .q 7, .q 11, .y .i64 3]]) rfl
  have hk6' := hk6.keptC (Ts := [36, 72, 65, 68, 70]) rfl
  refine ⟨v, hv1, v, rfl, ⟨ln', ov, rv, l', rs', ?_, ?_, ?_, ?_, ?_, ?_, hs3, hp5.trans hpr, hs5⟩, (g05.trans hg6).grown⟩
  · simp only [aRets, VR, VRs] at hv2
    obtain ⟨cs, rfl, _, _, e1, ⟨rfl, _⟩, _, _, rfl, ⟨rfl, _⟩, _, _, rfl, ⟨rfl, _⟩, _, _, rfl, rfl, rfl⟩ := hv2
    rw [n1, n2] at e1
    unfold wV
    congr 1
    exact Array.toList_inj.1 e1
  · exact ((hsch1.keptC hk23 (by decide) (by decide)).keptC hk45 (by decide) (by decide)).keptC hk6' (by decide) (by decide)
  · exact (hrow3.keptC hk45 (by decide)).keptC hk6' (by decide)
  · exact hrow5.keptC hk6' (by decide)
  · exact fun p hp => (((hvs1 p (hp3.mem_iff.1 hp)).keptC hk23 (by decide)).keptC hk45 (by decide)).keptC hk6' (by decide)
  · exact (hp3.map (·.1)).trans hperm

end Go.Ev

/- Chains, part Aa: 'Apply', its runs. -/
namespace Go.Ev
open Go.Proofs

noncomputable def c10 : List Code := flatL ((Tryz.f10.body).getD .skip)
def app_args : List V := [.a [.q 0, .q 1, .q 2, .y .i64 3], .q 4]
def app_F : Facts := { qc := [(16, w_args, .i .i64 0)] }
def app_L : List (Nat × V) := [(1, .q 4), (4, .p (some (1, 0))), (5, .i .i64 0), (6, .i .i64 0)]
def app_LA : List (Nat × V) := (2, .p (some (0, 0))) :: app_L
def app_HA : List (Nat × Blk) := [(0, Rea_B), (1, zW)]
def app_T : Tab := { s := [(3, .y 3)], q := [(0, .q 0), (1, .q 1), (2, .q 2), (4, .q 4)] }
theorem app_A : runsL (withF E0 app_F) 100 (c10.take 4) ⟨77, load app_args 0 .leaf⟩ (hOf 0 []) .n app_T 77 app_LA 2 app_HA = true := by decide +kernel
theorem app_r4 : ∃ id, c10.drop 4 = .region id (opsD (c10.drop 4)) false :: c10.drop 5 := ⟨_, rfl⟩
def app_LB : List (Nat × V) := (23, .a [.q 0, .q 1, .q 2, .y .i64 3]) :: app_LA
theorem app_B : runsO (withF E0 {}) 100 (opsD (c10.drop 4)) ((opsD (c10.drop 4)).toList.take 1) (frOf 77 app_LA) (hOf 2 app_HA) app_T 77 app_LB 2 app_HA = true := by decide +kernel
/-- Behind 'lay': what is kept of the state. -/
def app_LC : List (Nat × V) := [(1, .q 4), (4, .p (some (0, 0))), (5, .i .i64 0), (6, .i .i64 0)]
def app_TC : Tab := { s := [(3, .y 3)], q := [(4, .q 4)] }
theorem app_C : (mAll app_TC (frOf 77 app_LB) (hOf 2 app_HA) 77 app_LC 1 [(0, zW)]).isSome = true := by decide +kernel
def ben_bench : Blk := .cells [.sl (some (2, 0)) 1 (.kn 1), .p (some (6, 0)), .m (some 4), .m (some 5), .y .i64 3] 106 false
def ben_book : Blk := .cells [.sl (some (2, 0)) 1 (.kn 1), .m (some 3)] 145 false
def ben_F : Blk := .rc [.s nextName, .i .i64 3, .i .i64 0, .b false] 65
def ben_L : Blk := .rc [.s cName, .sl (some (1, 0)) 1 (.kn 1), .sl none 0 (.kn 0)] 68
def ben_H : List (Nat × Blk) := [(7, ben_bench), (6, ben_book), (5, .smp 2 .string []), (4, .smp 1 (.int .i64) []), (3, .mp [] 0), (2, ben_L), (1, ben_F), (0, zW)]
def app_TD : Tab := { s := [(3, .y 3)], q := [(4, .q 4)], g := [(1, .same 1), (2, .same 2)] }
def app_LD : List (Nat × V) := (8, .p (some (7, 0))) :: app_LC
theorem app_D : runsO (withF E0 {}) 100 (opsD (c10.drop 4)) (((opsD (c10.drop 4)).toList.drop 2).take 100) (frOf 77 ((24, .p (some (7, 0))) :: app_LC)) (hOf 8 ben_H) app_TD 77 app_LD 8 ben_H = true := by decide +kernel

def app_ways : Blk := .mp [(.i .i64 1, .f 20 [.p (some (7, 0))] [], 0), (.i .i64 2, .f 21 [.p (some (7, 0))] [], 1), (.i .i64 3, .f 22 [.p (some (7, 0))] [], 2), (.i .i64 4, .f 23 [.p (some (7, 0))] [], 3), (.i .i64 5, .f 24 [.p (some (7, 0))] [], 4)] 5
def app_LE : List (Nat × V) := (9, .m (some 8)) :: app_LD
theorem app_E : runsL (withF E0 {}) 100 ((c10.drop 5).take 1) (frOf 77 app_LD) (hOf 8 ben_H) .n app_TD 77 app_LE 9 ((8, app_ways) :: ben_H) = true := by decide +kernel
/-- The loop's states: no view was made yet, or one was. -/
def app_L0 : List (Nat × V) := [(1, .sr 9 3 0 18), (4, .p (some (0, 0))), (8, .p (some (7, 0))), (9, .m (some 8)), (37, .sr 9 3 0 18), (38, .y .i64 1), (39, .y .i64 0)]
def app_H0 : List (Nat × Blk) := (9, .rw 3 45) :: (8, app_ways) :: ben_H
def app_FE : Facts := { rz := [(3, 18)], rl := [(3, 0, 1)] }
def app_TG : Tab := { s := [(0, .i 0), (1, .y 1), (3, .y 3)], w := [(3, .same 3)], g := [(1, .same 1), (2, .same 2)] }
theorem app_G : runsL (withF E0 app_FE) 100 ((c10.drop 6).take 1) (frOf 77 (subL 4 (.sr 9 3 0 18) app_LE)) (hOf 10 ((9, .rw 3 45) :: subH 4 (.sr 9 3 0 18) ((8, app_ways) :: ben_H))) .n app_TG 77 app_L0 10 app_H0 = true := by decide +kernel
def app_T0 : Tab := { s := [(0, .y 0), (1, .y 1), (3, .y 3)], w := [(3, .same 3)], g := [(1, .same 1), (2, .same 2)] }
theorem app_S0 : selfOK app_T0 77 app_L0 10 app_H0 = true := by decide +kernel
noncomputable def app_rd : List Code := roundOf (c10.drop 7)
/-- A record's cells. -/
def recV (k oid vals id nm : V) : List V := [k, oid, .i .i64 0, .i .i64 0, vals, id, .i .i64 0, nm, .s [], .sl none 0 (.kn 0), .i .i64 0, .s [], .s [], .s [], .i .i64 0, .i .i64 0, .s [], .s []]
def app_FR (rv : List V) (bd : List (Nat × Int × Int)) (bn : List (BinOp × V × V × V)) (mx : List (V × V × V)) (qs : List Nat) (qc : List (FuncId × List V × V)) : Facts :=
  { bd := bd, bin := (.lss, .y .i64 0, .y .i64 1, .b true) :: (.add, .y .i64 0, .i .i64 1, .y .i64 9) :: bn, mx := mx, rz := [(3, 18)], re := [(3, 0, rv)], qs := qs, qc := qc }
def app_FP (b : Nat) : Facts := app_FR (recV (.i .i64 1) (.y .i64 4) (.sl (some (b, 0)) 1 (.kn 1)) (.i .i64 0) (.s [])) [(4, 1, 100000), (6, 1, 100000)] [(.add, .y .i64 4, .i .i64 1, .y .i64 5)] [(.y .i64 3, .y .i64 5, .y .i64 7)] [] []

end Go.Ev

/- Chains, part Ab: 'obj.Right', whose region has an allocation that floats. -/
namespace Go.Ev
open Go.Proofs

noncomputable def c61 : List Code := flatL ((Tryz.f61.body).getD .skip)
def rig_args : List V := [.a [.sl (some (1, 0)) 1 (.kn 1)], .a (wor_o 2)]
def rig_h (k v : V) : List (Nat × Blk) := [(2, valB k v), (1, schL), (0, schF)]
def rig_F : Facts := { bd := [(4, 1, 100000), (6, 1, 100000)] }

def rig_L6 : List (Nat × V) := [(2, .p (some (3, 0))), (3, .p (some (4, 0)))]
def rig_H6 (k v : V) : List (Nat × Blk) := [(3, .cells [.sl (some (1, 0)) 1 (.kn 1)] 26 false), (4, .cells (wor_o 2) 36 false)] ++ rig_h k v
def rig_T : Tab := { s := [(4, .y 4), (6, .y 6)] }
theorem rig_AY : runsL (withF E0 rig_F) 400 (c61.take 6) ⟨48, load rig_args 0 .leaf⟩ (hOf 3 (rig_h kY vY)) .n rig_T 48 rig_L6 7 (rig_H6 kY vY) = true := by decide +kernel
theorem rig_AN : runsL (withF E0 rig_F) 400 (c61.take 6) ⟨48, load rig_args 0 .leaf⟩ (hOf 3 (rig_h kN kN)) .n rig_T 48 rig_L6 7 (rig_H6 kN kN) = true := by decide +kernel
def rig_R : List Nat := [28, 29, 30, 31, 32, 33, 34, 27, 35, 36, 7, 47, 8]
def rig_S : V := .a [.sl (some (1, 0)) 1 (.kn 1)]
def rig_C : V := .a [.s cName, .sl (some (5, 0)) 1 (.kn 1)]
def rig_V : List V := [rig_S, .p (some (4, 1)), .i .i64 0, rig_S, .p (some (4, 2)), .i .i64 0, .t [rig_C, .i .i64 0], .t [rig_C, .i .i64 0], rig_C, .i .i64 0, .p (some (6, 0)), .top, .i .i64 0]
def rig_L (m : List Bool) : List (Nat × V) := rig_L6 ++ pickL m rig_R rig_V
def rig_H (k v : V) (m : List Bool) : List (Nat × Blk) := rig_H6 k v ++ opt m 6 [(5, .cells [.s nextName, .i .i64 3, .i .i64 0, .b false] 65 false)] ++ opt m 10 [(6, .cells (cond (m.getD 11 false) [.s cName, .sl (some (5, 0)) 1 (.kn 1)] [.s [], .sl none 0 (.kn 0)]) 39 false)]
noncomputable def rig_ms : List (List Bool) := grow (opsD (c61.drop 6)) (List.replicate 13 true) 20 [List.replicate 13 false] [List.replicate 13 false]
theorem rig_r6 : ∃ id, c61.drop 6 = .region id (opsD (c61.drop 6)) true :: c61.drop 7 := ⟨_, rfl⟩

theorem rig_EY : explored (withF E0 rig_F) 400 (opsD (c61.drop 6)) rig_T 48 7 rig_L (rig_H kY vY) rig_ms (List.replicate 13 true) = true := by decide +kernel
theorem rig_EN : explored (withF E0 rig_F) 400 (opsD (c61.drop 6)) rig_T 48 7 rig_L (rig_H kN kN) rig_ms (List.replicate 13 true) = true := by decide +kernel
theorem rig_XY : runsL (withF E0 rig_F) 400 ((c61.drop 7).take 10) (frOf 48 (rig_L (List.replicate 13 true))) (hOf 7 (rig_H kY vY (List.replicate 13 true))) .r {} 48 [(4, .b true)] 0 [] = true := by decide +kernel
theorem rig_XN : runsL (withF E0 rig_F) 400 ((c61.drop 7).take 10) (frOf 48 (rig_L (List.replicate 13 true))) (hOf 7 (rig_H kN kN (List.replicate 13 true))) .r {} 48 [(4, .b true)] 0 [] = true := by decide +kernel

/-- An object's values, in memory, with room behind. -/
def IsValT (w : World) (p : O × Value) : Prop := ∃ r c, p.2 = .slice (some ⟨r, 0, none⟩) 1 1 ∧ w.heap[r]? = some (.cells c 70 (0, 0)) ∧ c.toList.take 4 = (valC p.1).toList
theorem IsVal.t {w : World} {p : O × Value} (h : IsVal w p) : IsValT w p := by
  obtain ⟨r, h1, h2⟩ := h
  exact ⟨r, _, h1, h2, List.take_of_length_le (by rw [Array.length_toList, valC_size]; exact Nat.le_refl _)⟩

theorem right_kv {n : Nat} {w : World} {ln : Value} {p : O × Value} {k v : V} (hkn : KN k v p.1)
    (hA : runsL (withF E0 rig_F) 400 (c61.take 6) ⟨48, load rig_args 0 .leaf⟩ (hOf 3 (rig_h k v)) .n rig_T 48 rig_L6 7 (rig_H6 k v) = true)
    (hE : explored (withF E0 rig_F) 400 (opsD (c61.drop 6)) rig_T 48 7 rig_L (rig_H k v) rig_ms (List.replicate 13 true) = true)
    (hX : runsL (withF E0 rig_F) 400 ((c61.drop 7).take 10) (frOf 48 (rig_L (List.replicate 13 true))) (hOf 7 (rig_H k v (List.replicate 13 true))) .r {} 48 [(4, .b true)] 0 [] = true)
    (hsch : IsSch w ln) (hval : IsValT w p) (hid : 1 ≤ p.1.id ∧ p.1.id ≤ 100000) (href : p.1.ref ≤ 100000) :
    CallsIn (W none) n Tryz.prog 61 #[.agg #[ln], oAgg p] w fun e w' => ∃ u, e = .returned u ∧ u = .bool true ∧ Grown w w' := by
  have hrf : 1 ≤ rf p.1 ∧ rf p.1 ≤ 100000 := by unfold rf; split <;> omega
  let y0 : Sym := mkY [0, 0, 0, 0, p.1.id, 0, rf p.1] [] [] []
  obtain ⟨φ1, h1, hy1, v1⟩ := hsch.add y0
  obtain ⟨r, c, hp2, hr, hc⟩ := hval
  have hc4 : 4 ≤ c.size := by have := congrArg List.length hc; simp [valC_size] at this; omega
  have s6 : φ1.s 6 = ((rf p.1 : Nat) : Int) := by simp only [Ren.s, hy1]; rfl
  have h2 := h1.add hr rfl (valB k v) (fun h => h) ⟨_, rfl, by
    show VRs φ1 _ (c.toList.take 4)
    rw [hc]; exact (hkn φ1 s6).1, hc4, rfl⟩
  have s4 : (up φ1 2 r c.size).s 4 = p.1.id := by show φ1.y.s 4 = _; rw [hy1]; rfl
  have hargs : VRs (up φ1 2 r c.size) rig_args [.agg #[ln], oAgg p] := by
    refine VRs.cons ?_ (VRs.cons ?_ VRs.nil)
    · simp only [VR]
      exact ⟨_, rfl, VRs.cons (VR.mono (le_up (fun s es => by have := (h1.dom _ _ es).1; exact absurd this (Nat.lt_irrefl _))) _ _ v1) VRs.nil⟩
    · simp only [VR]
      refine ⟨_, rfl, VRs.cons (by simp only [VR, s4]) (VRs.cons vI (VRs.cons vI (VRs.cons ?_ VRs.nil)))⟩
      show VR _ _ p.2
      rw [hp2]; exact vSl rfl (by decide)
  have hst := StAt.enter (nt := 48) h2 rfl (by show φ1.y.k = _; rw [hy1]; rfl) hargs (by decide)
  have hy0 : Ag rig_T y0 y0 := ⟨⟨rfl, rfl, trivial⟩, trivial, trivial, trivial⟩
  have hF : ∀ φ : Ren, φ.s = y0.s → BD (withF E0 rig_F) φ := fun φ hs => FactsOK.bd' (by
    have t4 : φ.s 4 = p.1.id := congrFun hs 4
    have t6 : φ.s 6 = rf p.1 := congrFun hs 6
    refine ⟨⟨⟨?_, ?_⟩, ⟨?_, ?_⟩, trivial⟩, trivial, trivial, trivial, trivial, trivial, trivial, trivial, trivial⟩
    · show (1 : Int) ≤ _; rw [t4]; omega
    · show _ ≤ (100000 : Int); rw [t4]; omega
    · show (1 : Int) ≤ _; rw [t6]; omega
    · show _ ≤ (100000 : Int); rw [t6]; omega)
  have e0 : φ1.y.s = y0.s := by rw [hy1]; rfl
  refine callIn (fn := Tryz.f61) (c := (Tryz.f61.body).getD .skip) Tryz.func61 rfl (wpIn_flat _ ?_)
  show wpCs none n E0.P _ c61 _ _
  refine StAt.runL (withF_ok E0_ok rig_F) rfl 6 hA hst (hF _ e0) rfl y0 (hy0.agreeS e0 (by show φ1.y.q = _; rw [hy1]; rfl) (by show φ1.y.w = _; rw [hy1]; rfl) (by show φ1.y.g = _; rw [hy1]; rfl)) fun φ a w1 hs hd hg _ n1 n2 n3 n4 => ?_
  show wpCs none n E0.P _ (c61.drop 6) a w1
  obtain ⟨id6, hr6⟩ := rig_r6
  rw [hr6]
  refine StAt.explore (withF_ok E0_ok rig_F) rfl E0_ok.mixed hE (L0 := rig_L6) (HB0 := rig_H6 k v) rfl rfl hs y0 hy0 n1 n2 n3 n4 (fun φ1 e _ _ _ => hF φ1 e) fun φ a2 w2 hs hd2 hg2 n1 n2 n3 n4 => ⟨rfl, ?_⟩
  show wpCs none n E0.P _ (c61.drop 7) a2 w2
  refine StAt.runL (withF_ok E0_ok rig_F) rfl 10 (cs := c61.drop 7) hX hs (hF _ n1) (by rw [hd2]; exact hd) y0 (Ag.agreeS (o := y0) ⟨trivial, trivial, trivial, trivial⟩ n1 n2 n3 n4) fun φ a3 w3 hs hd3 hg3 _ n1 n2 n3 n4 => ?_
  refine ⟨.inl rfl, hd3, ?_⟩
  obtain ⟨v, hv1, hv2⟩ := hs.leave E0_ok (fn := Tryz.f61) (l := [.b true]) rfl
  exact ⟨v, hv1, v, rfl, by simpa only [aRets, VR] using hv2, ((hg.trans hg2).trans hg3).grown⟩

theorem right_ok {n : Nat} {w : World} {ln : Value} {p : O × Value} (hsch : IsSch w ln) (hval : IsValT w p) (hid : 1 ≤ p.1.id ∧ p.1.id ≤ 100000) (href : p.1.ref ≤ 100000) :
    CallsIn (W none) n Tryz.prog 61 #[.agg #[ln], oAgg p] w fun e w' => ∃ u, e = .returned u ∧ u = .bool true ∧ Grown w w' := by
  by_cases h : p.1.ref = 0
  · exact right_kv (KN_N h) rig_AN rig_EN rig_XN hsch hval hid href
  · exact right_kv (KN_Y h) rig_AY rig_EY rig_XY hsch hval hid href

end Go.Ev
