/- The abstract machine, part Zc: a region that draws its order, looked through state by state. -/
import Derived.Test.YtcnckmkbidklgaaGreatDoorA13
import Derived.Maps.RangeRun
namespace Go.Ev

def isRdy (ops : Array Oper) (m : List Bool) (i : Nat) : Bool :=
  match ops[i]? with
  | some o => !(m.getD i true) && (deps o).all fun j => m.getD j false
  | none => false

def stepOK (E : Env) (k : Nat) (ops : Array Oper) (tb : Tab) (nt nb : Nat) (L : List Bool → List (Nat × V)) (HB : List Bool → List (Nat × Blk)) (m : List Bool) (i : Nat) : Bool :=
  match ops[i]? with
  | some o =>
    match aguard ops (frOf nt (L m)) o with
    | some true =>
      match astep E (callF E (exec E k)) (yieldF (exec E k)) (frOf nt (L m)) o.op (hOf nb (HB m)) with
      | some (x, h1) =>
        match o.dst with
        | none => (mAll tb (frOf nt (L m)) h1 nt (L (m.set i true)) nb (HB (m.set i true))).isSome
        | some d => Nat.blt d nt && (mAll tb ((frOf nt (L m)).set d x) h1 nt (L (m.set i true)) nb (HB (m.set i true))).isSome
      | none => false
    | _ => false
  | none => false

def sameM : List Bool → List Bool → Bool
  | [], [] => true
  | a :: az, b :: bs => (cond a b (!b)) && sameM az bs
  | _, _ => false
theorem sameM_ok : ∀ {a b : List Bool}, sameM a b = true → a = b
  | [], [], _ => rfl
  | a :: az, b :: bs, h => by
    simp only [sameM, Bool.and_eq_true] at h
    rw [b_eq h.1, sameM_ok h.2]
  | [], _ :: _, h => by cases h
  | _ :: _, [], h => by cases h

def maskOK (E : Env) (k : Nat) (ops : Array Oper) (tb : Tab) (nt nb : Nat) (L : List Bool → List (Nat × V)) (HB : List Bool → List (Nat × Blk)) (ms : List (List Bool)) (stop m : List Bool) : Bool :=
  sameM m stop || (((List.range ops.size).any (isRdy ops m)) && (List.range ops.size).all fun i => !(isRdy ops m i) || (ms.any (sameM (m.set i true)) && stepOK E k ops tb nt nb L HB m i))

def explored (E : Env) (k : Nat) (ops : Array Oper) (tb : Tab) (nt nb : Nat) (L : List Bool → List (Nat × V)) (HB : List Bool → List (Nat × Blk)) (ms : List (List Bool)) (stop : List Bool) : Bool :=
  plainT tb && ms.any (sameM (List.replicate ops.size false)) && ms.all fun m => maskOK E k ops tb nt nb L HB ms stop m

/-- Which states there are. -/
def grow (ops : Array Oper) (stop : List Bool) : Nat → List (List Bool) → List (List Bool) → List (List Bool)
  | 0, _, acc => acc
  | f + 1, fr, acc =>
    let nx := fr.flatMap fun m => cond (sameM m stop) [] ((List.range ops.size).filterMap fun i => cond (isRdy ops m i) (some (m.set i true)) none)
    let nx := nx.foldl (fun a m => cond (a.any (sameM m)) a (m :: a)) []
    match nx with
    | [] => acc
    | _ => grow ops stop f nx (nx ++ acc)

theorem isRdy_iff {ops : Array Oper} {listed : Array Bool} (hsz : listed.size = ops.size) {i : Nat} : isRdy ops listed.toList i = true ↔ i ∈ Region.ready .any ops listed := by
  have hget : ∀ j d, listed.toList.getD j d = listed.getD j d := fun j d => by
    rw [Array.getD_eq_getD_getElem?, List.getD_eq_getElem?_getD]; simp
  constructor
  · intro h
    unfold isRdy at h
    split at h
    · rename_i o ho
      simp only [Bool.and_eq_true, Bool.not_eq_true', List.all_eq_true, hget] at h
      have hi : i < ops.size := (Array.getElem?_eq_some_iff.1 ho).1
      simp only [Region.ready, List.mem_filter, List.mem_range, Bool.and_eq_true, Bool.not_eq_true']
      refine ⟨hi, h.1, ?_⟩
      rw [ho]
      simp only [Option.map_some, Option.getD_some, Array.all_eq_true', Bool.or_eq_true, Bool.not_eq_true']
      intro e he
      cases hb : Region.binds .any e with
      | false => exact .inl rfl
      | true =>
        refine .inr (h.2 e.on ?_)
        simp only [deps, List.mem_filterMap]
        exact ⟨e, by simpa using he, by rw [hb]; rfl⟩
    · cases h
  · intro h
    obtain ⟨o, ho, hn, hd⟩ := mem_ready h
    unfold isRdy
    rw [ho]
    simp only [Bool.and_eq_true, Bool.not_eq_true', List.all_eq_true, hget]
    exact ⟨hn, fun j hj => hd j hj⟩

theorem any_sameM {m : List Bool} {ms : List (List Bool)} (h : ms.any (sameM m) = true) : m ∈ ms := by
  obtain ⟨x, hx, e⟩ := List.any_eq_true.1 h
  rw [sameM_ok e]; exact hx

/-- **A region that draws its order, up to a state that every order comes to.** -/
theorem StAt.explore {E : Env} (hE : E.OK) (hng : E.ng = 0) (hm : E.P.follows .mixedOrders = true) {k : Nat} {ops : Array Oper} {tb : Tab} {nt nb : Nat} {L : List Bool → List (Nat × V)} {HB : List Bool → List (Nat × Blk)} {ms : List (List Bool)} {stop : List Bool}
    (hc : explored E k ops tb nt nb L HB ms stop = true) {φ : Ren} {B : Nat} {a : Act} {w : World} {n id : Nat} {Q : Exit → Act → World → Prop} {L0 : List (Nat × V)} {HB0 : List (Nat × Blk)} (hL : L (List.replicate ops.size false) = L0) (hH : HB (List.replicate ops.size false) = HB0)
    (hs : StAt φ B (frOf nt L0) (hOf nb HB0) a w) (y : Sym) (hy : Ag tb y y) (n1 : φ.s = y.s) (n2 : φ.q = y.q) (n3 : φ.w = y.w) (n4 : φ.g = y.g)
    (hF : ∀ φ1, φ1.s = y.s → φ1.q = y.q → φ1.w = y.w → φ1.g = y.g → BD E φ1)
    (hQ : ∀ φ' a' w', StAt φ' B (frOf nt (L stop)) (hOf nb (HB stop)) a' w' → a'.defers = a.defers → GB B w w' → φ'.s = y.s → φ'.q = y.q → φ'.w = y.w → φ'.g = y.g → wpAnyIn (W none) n E.P .any ops Q (left stop.toArray) stop.toArray a' w') :
    (Code.region id ops true).wpIn (W none) n E.P Q a w := by
  subst hL; subst hH
  simp only [explored, Bool.and_eq_true] at hc
  obtain ⟨⟨hp, h0⟩, hall⟩ := hc
  refine wpIn_region_any hm ?_
  have key : ∀ (fuel : Nat) (listed : Array Bool) (φ1 : Ren) (a1 : Act) (w1 : World), left listed = fuel → listed.size = ops.size → listed.toList ∈ ms → StAt φ1 B (frOf nt (L listed.toList)) (hOf nb (HB listed.toList)) a1 w1 →
      a1.defers = a.defers → GB B w w1 → φ1.s = y.s → φ1.q = y.q → φ1.w = y.w → φ1.g = y.g → wpAnyIn (W none) n E.P .any ops Q fuel listed a1 w1 := by
    intro fuel
    induction fuel with
    | zero =>
      intro listed φ1 a1 w1 hl hsz hmem hs1 hd1 hg1 e1 e2 e3 e4
      have hok := List.all_eq_true.1 hall _ hmem
      simp only [maskOK, Bool.or_eq_true, Bool.and_eq_true] at hok
      rcases hok with hst | ⟨hany, _⟩
      · have := sameM_ok hst
        have hq := hQ φ1 a1 w1 (by rw [← this]; exact hs1) hd1 hg1 e1 e2 e3 e4
        rw [← this, Array.toArray_toList, hl] at hq
        exact hq
      · obtain ⟨i, hi, hr⟩ := List.any_eq_true.1 hany
        obtain ⟨o, ho, hn, _⟩ := mem_ready ((isRdy_iff hsz).1 hr)
        have hlt : i < listed.size := by rw [hsz]; exact List.mem_range.1 hi
        exact absurd (left_zero hl i hlt) (getD_true hn)
    | succ fuel ih =>
      intro listed φ1 a1 w1 hl hsz hmem hs1 hd1 hg1 e1 e2 e3 e4
      have hok := List.all_eq_true.1 hall _ hmem
      simp only [maskOK, Bool.or_eq_true, Bool.and_eq_true] at hok
      rcases hok with hst | ⟨hany, hstep⟩
      · have := sameM_ok hst
        have hq := hQ φ1 a1 w1 (by rw [← this]; exact hs1) hd1 hg1 e1 e2 e3 e4
        rw [← this, Array.toArray_toList, hl] at hq
        exact hq
      · refine ⟨fun hr => ?_, fun i hi => ?_⟩
        · obtain ⟨i, hi, hr'⟩ := List.any_eq_true.1 hany
          have := (isRdy_iff hsz).1 hr'
          rw [hr] at this; cases this
        · obtain ⟨o, ho, hn, _⟩ := mem_ready hi
          have hlt : i < ops.size := (Array.getElem?_eq_some_iff.1 ho).1
          have h1 := List.all_eq_true.1 hstep i (List.mem_range.2 hlt)
          simp only [Bool.or_eq_true, Bool.not_eq_true', (isRdy_iff hsz).2 hi, Bool.and_eq_true, Bool.true_eq_false, false_or] at h1
          obtain ⟨hmem', hst⟩ := h1
          have hmem' := any_sameM hmem'
          have hset : (listed.setIfInBounds i true).toList = listed.toList.set i true := by simp
          unfold stepOK at hst
          rw [ho] at hst
          simp only at hst
          split at hst
          · rename_i hgd
            have hwant := aguard_ok hs1.fr hgd
            split at hst
            · rename_i x h1 hastep
              unfold wpOpIn
              rw [ho]
              simp only [hwant, if_true]
              refine astep_ok hE (callF_ok hE (exec_ok hE k).1) (yieldF_ok (exec_ok hE k).1) (by rw [hng]; exact fun g hg => by omega) (hF φ1 e1 e2 e3 e4) hs1.fr hs1.hr none n o hastep fun φ2 v w2 hx hv hr2 => ?_
              obtain ⟨hgb, hloc⟩ := hs1.after hx hr2
              have hagr : ∀ h, Agree tb φ2 h w2 y := fun h => (hy.agreeS (o' := φ2.y) (by rw [hx.le.yy]; exact e1) (by rw [hx.le.yy]; exact e2) (by rw [hx.le.yy]; exact e3) (by rw [hx.le.yy]; exact e4)).agree hp rfl h w2
              have hleft : left (listed.setIfInBounds i true) = fuel := by have := left_set hn; omega
              split at hst
              · rename_i hdst
                cases e : mAll tb (frOf nt (L listed.toList)) h1 nt (L (listed.toList.set i true)) nb (HB (listed.toList.set i true)) with
                | none => rw [e] at hst; cases hst
                | some σ =>
                  have hst2 := conv_ok (a := a1.put o.dst v) e (by rw [hdst]; exact hs1.fr.mono hx.le) hr2 hloc (Nat.le_trans hs1.bz hx.size) y (hagr _)
                  exact ih _ _ _ _ hleft (by simpa using hsz) (by rw [hset]; exact hmem') (by rw [hset]; exact hst2) (by rw [hdst]; exact hd1) (hg1.trans hgb) rfl rfl rfl rfl
              · rename_i d hdst
                simp only [Bool.and_eq_true] at hst
                cases e : mAll tb ((frOf nt (L listed.toList)).set d x) h1 nt (L (listed.toList.set i true)) nb (HB (listed.toList.set i true)) with
                | none => rw [e] at hst; cases hst.2
                | some σ =>
                  have hst2 := conv_ok (a := a1.put o.dst v) e (by rw [hdst]; exact (hs1.fr.mono hx.le).put (blt_iff.1 hst.1) hv) hr2 hloc (Nat.le_trans hs1.bz hx.size) y (hagr _)
                  exact ih _ _ _ _ hleft (by simpa using hsz) (by rw [hset]; exact hmem') (by rw [hset]; exact hst2) (by rw [hdst]; exact hd1) (hg1.trans hgb) rfl rfl rfl rfl
            · cases hst
          · cases hst
  refine key ops.size _ φ a _ ?_ (by simp) (by simpa using any_sameM h0) ?_ rfl ?_ n1 n2 n3 n4
  · unfold left
    simp [List.countP_replicate]
  · have : (Array.replicate ops.size false).toList = List.replicate ops.size false := by simp
    rw [this]
    exact ⟨hs.fr, hs.hr.drew _, hs.loc, hs.kf, hs.bz⟩
  · exact ⟨Nat.le_refl _, fun _ _ => rfl, rfl, rfl, rfl⟩

end Go.Ev

/- Chains, part R: 'bench.world', its runs. -/
namespace Go.Ev
open Go.Proofs

noncomputable def c25 : List Code := flatL ((Tryz.f25.body).getD .skip)
def wor_B : Blk := .rc [.sl (some (1, 0)) 1 (.kn 1), .q 5, .q 3, .q 4, .y .i64 3] 106
def wor_h : List (Nat × Blk) := [(2, wor_B), (1, schL), (0, schF)]
def wor_args : List V := [.p (some (2, 0))]
def opsD : List Code → Array Oper
  | .region _ ops _ :: _ => ops
  | _ => #[]
def zW : Blk := .cells [.sl none 0 (.kn 0), .sl none 0 (.kn 0), .sl none 0 (.kn 0), .i .i64 0] 30 false
def wor_LA : List (Nat × V) := [(0, .p (some (2, 0))), (2, .p (some (3, 0)))]
def wor_HA : List (Nat × Blk) := (3, zW) :: wor_h
def wor_TA : Tab := { s := [(3, .y 3)], q := [(5, .q 5), (3, .q 3), (4, .q 4)] }
theorem wor_A : runsL (withF E0 {}) 100 (c25.take 1) ⟨59, load wor_args 0 .leaf⟩ (hOf 3 wor_h) .n wor_TA 59 wor_LA 7 wor_HA = true := by decide +kernel
/-- The states of the first region that draws its order. -/
def opt {α : Type} (m : List Bool) (i : Nat) (l : List α) : List α := cond (m.getD i false) l []
def wor_R : List Nat := [8, 9, 10, 11, 12, 13, 14, 15, 16, 17, 3]
def wor_V : List V := [.p (some (2, 0)), .p (some (2, 0)), .p (some (2, 0)), .a [.sl (some (1, 0)) 1 (.kn 1)], .a [.sl (some (4, 0)) 1 (.kn 1)], .p (some (2, 0)), .p (some (2, 0)), .p (some (2, 4)), .y .i64 3,
  .a [.sl (some (4, 0)) 1 (.kn 1), .sl none 0 (.kn 0), .sl none 0 (.kn 0), .y .i64 3], .p (some (6, 0))]
def pickL : List Bool → List Nat → List V → List (Nat × V)
  | true :: m, t :: ts, v :: vs => (t, v) :: pickL m ts vs
  | false :: m, _ :: ts, _ :: vs => pickL m ts vs
  | _, _, _ => []
def wor_L (m : List Bool) : List (Nat × V) := wor_LA ++ pickL m wor_R wor_V
def wor_W : Blk := .cells [.sl (some (4, 0)) 1 (.kn 1), .sl none 0 (.kn 0), .sl none 0 (.kn 0), .y .i64 3] 30 false
def wor_S : List (Nat × Blk) := [(4, .cells [.s cName, .sl (some (5, 0)) 1 (.kn 1), .sl none 0 (.kn 0)] 68 false), (5, .cells [.s nextName, .i .i64 3, .i .i64 0, .b false] 65 false)]
def wor_H (m : List Bool) : List (Nat × Blk) := wor_HA ++ opt m 4 wor_S ++ opt m 10 [(6, cond (m.getD 11 false) wor_W zW)]
noncomputable def wor_ms : List (List Bool) := grow (opsD (c25.drop 1)) (List.replicate 12 true) 20 [List.replicate 12 false] [List.replicate 12 false]
theorem wor_E : explored (withF E0 {}) 300 (opsD (c25.drop 1)) wor_TA 59 7 wor_L wor_H wor_ms (List.replicate 12 true) = true := by decide +kernel
theorem wor_r1 : ∃ id, c25.drop 1 = .region id (opsD (c25.drop 1)) true :: c25.drop 2 := ⟨_, rfl⟩

/-! ### The first loop -/
def nl : V := .sl none 0 (.kn 0)
def wor_bench : Blk := .rc [.top, .top, .q 3, .q 4, .top] 106
def wor_C (x r : V) : Blk := .cells [.q 6, x, r, .y .i64 3] 30 false
def wor_LB : List (Nat × V) := [(0, .p (some (0, 0))), (2, .p (some (1, 0))), (3, .p (some (2, 0)))]
def wor_H0 : List (Nat × Blk) := [(0, wor_bench), (1, zW), (2, wor_C nl nl)]
/-- The new schema is named. -/
def wor_TB : Tab := { s := [(3, .y 3)], q := [(3, .q 3), (4, .q 4), (6, .sl (some (4, 0)) 1 (.kn 1))] }
theorem wor_B0 : (mAll wor_TB (frOf 59 (wor_L (List.replicate 12 true))) (hOf 7 (wor_H (List.replicate 12 true))) 59 wor_LB 3 wor_H0).isSome = true := by decide +kernel
def wor_T2 : Tab := { s := [(3, .y 3)], q := [(3, .q 3), (4, .q 4), (6, .q 6)] }
def wor_L2 : List (Nat × V) := (21, .q 3) :: wor_LB
theorem wor_r2 : ∃ id, c25.drop 2 = .region id (opsD (c25.drop 2)) false :: c25.drop 3 := ⟨_, rfl⟩
theorem wor_R2 : runsO (withF E0 {}) 100 (opsD (c25.drop 2)) ((opsD (c25.drop 2)).toList.take 4) (frOf 59 wor_LB) (hOf 3 wor_H0) wor_T2 59 wor_L2 3 wor_H0 = true := by decide +kernel
theorem wor_S2 : selfOK wor_T2 59 wor_L2 3 wor_H0 = true := by decide +kernel
def wor_L0 : List (Nat × V) := (22, .q 8) :: wor_LB
def wor_T0 : Tab := { s := [(3, .y 3)], q := [(3, .q 3), (4, .q 4), (6, .q 6), (8, .q 8)] }
theorem wor_C0 : (mAll wor_T0 (frOf 59 ((22, .q 8) :: wor_L2)) (hOf 3 wor_H0) 59 wor_L0 3 wor_H0).isSome = true := by decide +kernel
theorem wor_S0 : selfOK wor_T0 59 wor_L0 3 wor_H0 = true := by decide +kernel
def wor_H1 : List (Nat × Blk) := [(0, wor_bench), (1, zW), (2, wor_C (.sr 3 2 0 4) nl), (3, .row 2 [] 36)]
def wor_T1 : Tab := { s := [(3, .y 3)], q := [(3, .q 3), (4, .q 4), (6, .q 6), (8, .q 8)], w := [(2, .same 2)] }
theorem wor_S1 : selfOK wor_T1 59 wor_L0 4 wor_H1 = true := by decide +kernel
/-- What a round does first: the step, and whether there was one more. -/
noncomputable def wor_rd : List Code := roundOf (c25.drop 3)
theorem wor_r3 : ∃ id, wor_rd = .region id (opsD wor_rd) false :: wor_rd.drop 1 := ⟨_, rfl⟩
def wor_LN (l : List V) : List (Nat × V) := (23, .t l) :: wor_L0
def wor_LI (b : Bool) : List (Nat × V) := (24, .b b) :: wor_L0
theorem wor_N0 : runsO (withF E0 {}) 100 (opsD wor_rd) (((opsD wor_rd).toList.drop 1).take 100) (frOf 59 (wor_LN [.b true, .top, .top])) (hOf 3 wor_H0) wor_T0 59 (wor_LI true) 3 wor_H0 = true := by decide +kernel
theorem wor_N1 : runsO (withF E0 {}) 100 (opsD wor_rd) (((opsD wor_rd).toList.drop 1).take 100) (frOf 59 (wor_LN [.b true, .top, .top])) (hOf 4 wor_H1) wor_T1 59 (wor_LI true) 4 wor_H1 = true := by decide +kernel
theorem wor_NE : runsO (withF E0 {}) 100 (opsD wor_rd) (((opsD wor_rd).toList.drop 1).take 100) (frOf 59 (wor_LN [.b false])) (hOf 4 wor_H1) wor_T1 59 (wor_LI false) 4 wor_H1 = true := by decide +kernel
theorem wor_I0 : runsL (withF E0 {}) 100 ((wor_rd.drop 1).take 1) (frOf 59 (wor_LI true)) (hOf 3 wor_H0) .n wor_T0 59 wor_L0 3 wor_H0 = true := by decide +kernel
theorem wor_I1 : runsL (withF E0 {}) 100 ((wor_rd.drop 1).take 1) (frOf 59 (wor_LI true)) (hOf 4 wor_H1) .n wor_T1 59 wor_L0 4 wor_H1 = true := by decide +kernel
theorem wor_IE : runsL (withF E0 {}) 100 ((wor_rd.drop 1).take 1) (frOf 59 (wor_LI false)) (hOf 4 wor_H1) (.e 0) wor_T1 59 wor_L0 4 wor_H1 = true := by decide +kernel
/-- The block within a round. -/
def blkOf : List Code → List Code
  | .block _ c :: _ => flatL c
  | _ => []
noncomputable def wor_bk : List Code := blkOf (wor_rd.drop 2)
theorem wor_b1 : ∃ id c, wor_rd.drop 2 = [.block id c] ∧ flatL c = wor_bk := ⟨_, _, rfl, rfl⟩
theorem wor_r4 : ∃ id, wor_bk = .region id (opsD wor_bk) false :: wor_bk.drop 1 := ⟨_, rfl⟩
def wor_o (b : Nat) : List V := [.y .i64 4, .i .i64 0, .i .i64 0, .sl (some (b, 0)) 1 (.kn 1)]
def wor_LE (b : Nat) : List (Nat × V) := (25, .t [.top, .a (wor_o b)]) :: wor_L0
def wor_LO (b : Nat) : List (Nat × V) := (5, .p (some (b, 0))) :: wor_L0
def valB (k v : V) : Blk := .rc [k, v, .s [], .sl none 0 (.kn 0)] 70
def valB' (k v : V) : Blk := .cells [k, v, .s [], .sl none 0 (.kn 0)] 70 false
def kY : V := .i .i64 3
def vY : V := .y .i64 6
def kN : V := .i .i64 0
def wor_TE (w : List (Nat × WV)) : Tab := { s := [(3, .y 3), (4, .y 4), (6, .y 6), (7, .y 7)], q := [(3, .q 3), (4, .q 4), (6, .q 6), (8, .q 8)], w := w }
def wor_HE (b : Nat) (k v : V) (H : List (Nat × Blk)) : List (Nat × Blk) := (b + 1, .cells (wor_o b) 36 false) :: (b, valB k v) :: H
theorem wor_E0Y : runsO (withF E0 {}) 100 (opsD wor_bk) (((opsD wor_bk).toList.drop 1).take 100) (frOf 59 (wor_LE 3)) (hOf 4 ((3, valB kY vY) :: wor_H0)) (wor_TE []) 59 (wor_LO 4) 5 (wor_HE 3 kY vY wor_H0) = true := by decide +kernel
theorem wor_E0N : runsO (withF E0 {}) 100 (opsD wor_bk) (((opsD wor_bk).toList.drop 1).take 100) (frOf 59 (wor_LE 3)) (hOf 4 ((3, valB kN kN) :: wor_H0)) (wor_TE []) 59 (wor_LO 4) 5 (wor_HE 3 kN kN wor_H0) = true := by decide +kernel
theorem wor_E1Y : runsO (withF E0 {}) 100 (opsD wor_bk) (((opsD wor_bk).toList.drop 1).take 100) (frOf 59 (wor_LE 4)) (hOf 5 ((4, valB kY vY) :: wor_H1)) (wor_TE [(2, .same 2)]) 59 (wor_LO 5) 6 (wor_HE 4 kY vY wor_H1) = true := by decide +kernel
theorem wor_E1N : runsO (withF E0 {}) 100 (opsD wor_bk) (((opsD wor_bk).toList.drop 1).take 100) (frOf 59 (wor_LE 4)) (hOf 5 ((4, valB kN kN) :: wor_H1)) (wor_TE [(2, .same 2)]) 59 (wor_LO 5) 6 (wor_HE 4 kN kN wor_H1) = true := by decide +kernel
def wor_F0 : Facts := { bd := [(4, 1, 100000), (6, 1, 100000)] }
def wor_F1 : Facts := { bd := [(4, 1, 100000), (6, 1, 100000), (7, 0, 100000)], rz := [(2, 4)], rl := [(2, 0, 7)] }
def wor_G0 (k v : V) : List (Nat × Blk) := [(0, wor_bench), (1, zW), (2, wor_C (.sl (some (4, 0)) 1 (.un 4)) nl), (4, .cells (wor_o 5) 36 true), (5, valB' k v)]
def wor_G1 (k v : V) : List (Nat × Blk) := [(0, wor_bench), (1, zW), (2, wor_C (.sr 4 2 1 4) nl), (4, .row 2 (wor_o 5) 36), (5, valB' k v)]
theorem wor_O0Y : runsL (withF E0 wor_F0) 400 ((wor_bk.drop 1).take 1) (frOf 59 (wor_LO 4)) (hOf 5 (wor_HE 3 kY vY wor_H0)) .n (wor_TE []) 59 wor_L0 6 (wor_G0 kY vY) = true := by decide +kernel
theorem wor_O0N : runsL (withF E0 wor_F0) 400 ((wor_bk.drop 1).take 1) (frOf 59 (wor_LO 4)) (hOf 5 (wor_HE 3 kN kN wor_H0)) .n (wor_TE []) 59 wor_L0 6 (wor_G0 kN kN) = true := by decide +kernel
theorem wor_O1Y : runsL (withF E0 wor_F1) 400 ((wor_bk.drop 1).take 1) (frOf 59 (wor_LO 5)) (hOf 6 (wor_HE 4 kY vY wor_H1)) .n (wor_TE [(2, .same 2)]) 59 wor_L0 6 (wor_G1 kY vY) = true := by decide +kernel
theorem wor_O1N : runsL (withF E0 wor_F1) 400 ((wor_bk.drop 1).take 1) (frOf 59 (wor_LO 5)) (hOf 6 (wor_HE 4 kN kN wor_H1)) .n (wor_TE [(2, .same 2)]) 59 wor_L0 6 (wor_G1 kN kN) = true := by decide +kernel
def wor_TC : Tab := { s := [(3, .y 3)], q := [(3, .q 3), (4, .q 4), (6, .q 6), (8, .q 8)], w := [(2, .fold 4)] }
theorem wor_C0Y : (mAll wor_TC (frOf 59 wor_L0) (hOf 6 (wor_G0 kY vY)) 59 wor_L0 4 wor_H1).isSome = true := by decide +kernel
theorem wor_C0N : (mAll wor_TC (frOf 59 wor_L0) (hOf 6 (wor_G0 kN kN)) 59 wor_L0 4 wor_H1).isSome = true := by decide +kernel
theorem wor_C1Y : (mAll wor_TC (frOf 59 wor_L0) (hOf 6 (wor_G1 kY vY)) 59 wor_L0 4 wor_H1).isSome = true := by decide +kernel
theorem wor_C1N : (mAll wor_TC (frOf 59 wor_L0) (hOf 6 (wor_G1 kN kN)) 59 wor_L0 4 wor_H1).isSome = true := by decide +kernel

end Go.Ev

/- Chains, part S: 'bench.world', runs of its second loop and its end. -/
namespace Go.Ev
open Go.Proofs

/-- The objects' row is named. -/
def wr_LB : List (Nat × V) := [(0, .p (some (0, 0))), (2, .p (some (1, 0))), (3, .p (some (2, 0)))]
def wr_H0 : List (Nat × Blk) := [(0, wor_bench), (1, zW), (2, wor_C (.q 7) nl)]
def wr_TB : Tab := { s := [(3, .y 3)], q := [(3, .q 3), (4, .q 4), (6, .q 6), (7, .sr 3 2 0 4)] }
theorem wr_B0 : (mAll wr_TB (frOf 59 wor_L0) (hOf 4 wor_H1) 59 wr_LB 3 wr_H0).isSome = true := by decide +kernel
def wr_T2 : Tab := { s := [(3, .y 3)], q := [(3, .q 3), (4, .q 4), (6, .q 6), (7, .q 7)] }
def wr_L2 : List (Nat × V) := (37, .q 4) :: wr_LB
theorem wr_r2 : ∃ id, c25.drop 4 = .region id (opsD (c25.drop 4)) false :: c25.drop 5 := ⟨_, rfl⟩
theorem wr_R2 : runsO (withF E0 {}) 100 (opsD (c25.drop 4)) ((opsD (c25.drop 4)).toList.take 4) (frOf 59 wr_LB) (hOf 3 wr_H0) wr_T2 59 wr_L2 3 wr_H0 = true := by decide +kernel
theorem wr_S2 : selfOK wr_T2 59 wr_L2 3 wr_H0 = true := by decide +kernel
def wr_L0 : List (Nat × V) := (38, .q 9) :: wr_LB
def wr_T0 : Tab := { s := [(3, .y 3)], q := [(3, .q 3), (4, .q 4), (6, .q 6), (7, .q 7), (9, .q 9)] }
theorem wr_C0 : (mAll wr_T0 (frOf 59 ((38, .q 9) :: wr_L2)) (hOf 3 wr_H0) 59 wr_L0 3 wr_H0).isSome = true := by decide +kernel
theorem wr_S0 : selfOK wr_T0 59 wr_L0 3 wr_H0 = true := by decide +kernel
def wr_H1 : List (Nat × Blk) := [(0, wor_bench), (1, zW), (2, wor_C (.q 7) (.sr 3 2 0 2)), (3, .row 2 [] 72)]
def wr_T1 : Tab := { s := [(3, .y 3)], q := [(3, .q 3), (4, .q 4), (6, .q 6), (7, .q 7), (9, .q 9)], w := [(2, .same 2)] }
theorem wr_S1 : selfOK wr_T1 59 wr_L0 4 wr_H1 = true := by decide +kernel
noncomputable def wr_rd : List Code := roundOf (c25.drop 5)
theorem wr_r3 : ∃ id, wr_rd = .region id (opsD wr_rd) false :: wr_rd.drop 1 := ⟨_, rfl⟩
def wr_LN (l : List V) : List (Nat × V) := (39, .t l) :: wr_L0
def wr_LI (b : Bool) : List (Nat × V) := (40, .b b) :: wr_L0
theorem wr_N0 : runsO (withF E0 {}) 100 (opsD wr_rd) (((opsD wr_rd).toList.drop 1).take 100) (frOf 59 (wr_LN [.b true, .top, .top])) (hOf 3 wr_H0) wr_T0 59 (wr_LI true) 3 wr_H0 = true := by decide +kernel
theorem wr_N1 : runsO (withF E0 {}) 100 (opsD wr_rd) (((opsD wr_rd).toList.drop 1).take 100) (frOf 59 (wr_LN [.b true, .top, .top])) (hOf 4 wr_H1) wr_T1 59 (wr_LI true) 4 wr_H1 = true := by decide +kernel
theorem wr_NE : runsO (withF E0 {}) 100 (opsD wr_rd) (((opsD wr_rd).toList.drop 1).take 100) (frOf 59 (wr_LN [.b false])) (hOf 4 wr_H1) wr_T1 59 (wr_LI false) 4 wr_H1 = true := by decide +kernel
theorem wr_I0 : runsL (withF E0 {}) 100 ((wr_rd.drop 1).take 1) (frOf 59 (wr_LI true)) (hOf 3 wr_H0) .n wr_T0 59 wr_L0 3 wr_H0 = true := by decide +kernel
theorem wr_I1 : runsL (withF E0 {}) 100 ((wr_rd.drop 1).take 1) (frOf 59 (wr_LI true)) (hOf 4 wr_H1) .n wr_T1 59 wr_L0 4 wr_H1 = true := by decide +kernel
theorem wr_IE : runsL (withF E0 {}) 100 ((wr_rd.drop 1).take 1) (frOf 59 (wr_LI false)) (hOf 4 wr_H1) (.e 2) wr_T1 59 wr_L0 4 wr_H1 = true := by decide +kernel
noncomputable def wr_bk : List Code := blkOf (wr_rd.drop 2)
theorem wr_b1 : ∃ id c, wr_rd.drop 2 = [.block id c] ∧ flatL c = wr_bk := ⟨_, _, rfl, rfl⟩
theorem wr_r4 : ∃ id, wr_bk = .region id (opsD wr_bk) false :: wr_bk.drop 1 := ⟨_, rfl⟩
def wr_LE : List (Nat × V) := (41, .t [.q 10, .y .i64 4]) :: wr_L0
def wr_LO : List (Nat × V) := (6, .q 10) :: (7, .y .i64 4) :: wr_L0
def wr_TE (w : List (Nat × WV)) : Tab := { s := [(3, .y 3), (4, .y 4), (7, .y 7)], q := [(3, .q 3), (4, .q 4), (6, .q 6), (7, .q 7), (9, .q 9), (10, .q 10)], w := w }
theorem wr_E0 : runsO (withF E0 {}) 100 (opsD wr_bk) (((opsD wr_bk).toList.drop 1).take 100) (frOf 59 wr_LE) (hOf 3 wr_H0) (wr_TE []) 59 wr_LO 3 wr_H0 = true := by decide +kernel
theorem wr_E1 : runsO (withF E0 {}) 100 (opsD wr_bk) (((opsD wr_bk).toList.drop 1).take 100) (frOf 59 wr_LE) (hOf 4 wr_H1) (wr_TE [(2, .same 2)]) 59 wr_LO 4 wr_H1 = true := by decide +kernel
def wr_F1 : Facts := { bd := [(7, 0, 100000)], rz := [(2, 2)], rl := [(2, 0, 7)] }
def wr_G0 : List (Nat × Blk) := [(0, wor_bench), (1, zW), (2, wor_C (.q 7) (.sl (some (3, 0)) 1 (.un 2))), (3, .cells [.q 10, .y .i64 4] 72 true)]
def wr_G1 : List (Nat × Blk) := [(0, wor_bench), (1, zW), (2, wor_C (.q 7) (.sr 3 2 1 2)), (3, .row 2 [.q 10, .y .i64 4] 72)]
theorem wr_O0 : runsL (withF E0 {}) 400 ((wr_bk.drop 1).take 1) (frOf 59 wr_LO) (hOf 3 wr_H0) .n (wr_TE []) 59 wr_L0 4 wr_G0 = true := by decide +kernel
theorem wr_O1 : runsL (withF E0 wr_F1) 400 ((wr_bk.drop 1).take 1) (frOf 59 wr_LO) (hOf 4 wr_H1) .n (wr_TE [(2, .same 2)]) 59 wr_L0 4 wr_G1 = true := by decide +kernel
def wr_TC : Tab := { s := [(3, .y 3)], q := [(3, .q 3), (4, .q 4), (6, .q 6), (7, .q 7), (9, .q 9)], w := [(2, .fold 3)] }
theorem wr_C0' : (mAll wr_TC (frOf 59 wr_L0) (hOf 4 wr_G0) 59 wr_L0 4 wr_H1).isSome = true := by decide +kernel
theorem wr_C1 : (mAll wr_TC (frOf 59 wr_L0) (hOf 4 wr_G1) 59 wr_L0 4 wr_H1).isSome = true := by decide +kernel
/-! ### The end -/
def we_L : List (Nat × V) := [(2, .p (some (0, 0))), (3, .p (some (1, 0)))]
def we_H : List (Nat × Blk) := [(0, zW), (1, wor_C (.q 7) (.q 11))]
def we_TB : Tab := { s := [(3, .y 3)], q := [(6, .q 6), (7, .q 7), (11, .sr 3 2 0 2)] }
theorem we_B : (mAll we_TB (frOf 59 wr_L0) (hOf 4 wr_H1) 59 we_L 2 we_H).isSome = true := by decide +kernel
def we_T : Tab := { s := [(3, .y 3)], q := [(6, .q 6), (7, .q 7), (11, .q 11)] }
theorem we_r6 : ∃ id, c25.drop 6 = .region id (opsD (c25.drop 6)) false :: c25.drop 7 := ⟨_, rfl⟩
theorem we_r7 : ∃ id, c25.drop 7 = .region id (opsD (c25.drop 7)) false :: c25.drop 8 := ⟨_, rfl⟩
theorem we_R6 : runsO (withF E0 {}) 100 (opsD (c25.drop 6)) ((opsD (c25.drop 6)).toList.take 2) (frOf 59 we_L) (hOf 2 we_H) we_T 59 ((53, .q 7) :: we_L) 2 we_H = true := by decide +kernel
theorem we_R7 : runsO (withF E0 {}) 100 (opsD (c25.drop 7)) ((opsD (c25.drop 7)).toList.take 2) (frOf 59 we_L) (hOf 2 we_H) we_T 59 ((56, .q 11) :: we_L) 2 we_H = true := by decide +kernel
theorem we_S6 : selfOK we_T 59 ((53, .q 7) :: we_L) 2 we_H = true := by decide +kernel
theorem we_S7 : selfOK we_T 59 ((56, .q 11) :: we_L) 2 we_H = true := by decide +kernel
theorem we_C6 : (mAll we_T (frOf 59 ((54, .top) :: (53, .q 7) :: we_L)) (hOf 2 we_H) 59 we_L 2 we_H).isSome = true := by decide +kernel
theorem we_C7 : (mAll we_T (frOf 59 ((57, .top) :: (56, .q 11) :: we_L)) (hOf 2 we_H) 59 we_L 2 we_H).isSome = true := by decide +kernel
def we_HX : List (Nat × Blk) := [(0, wor_C (.q 7) (.q 11))]
theorem we_X : runsL (withF E0 {}) 100 ((c25.drop 8).take 2) (frOf 59 we_L) (hOf 2 we_H) .r we_T 59 [(2, .p (some (0, 0)))] 1 we_HX = true := by decide +kernel

end Go.Ev

/- The abstract machine, part Zd: a range over a map, step by step. -/
namespace Go.Ev

/-- An operation that yields a value, by its run. -/
theorem val_op {P : Program} {n : Nat} {ops : Array Oper} {Q : Exit → Act → World → Prop} {o : Oper} {rest : List Oper} {a : Act} {w w' : World} {v : Value} (hgd : o.guard = none) (hop : ∀ c, o.op ≠ .defer c)
    (e : (execOp a.eval o).run P w = .ok (.value v) w') (h : wpListIn (W none) n P ops Q rest (a.put o.dst v) w') : wpListIn (W none) n P ops Q (o :: rest) a w := by
  have hw : Region.wanted o (yielded ops a.tmps) = true := by simp [Region.wanted, hgd]
  simp only [wpListIn, hw, if_true]
  refine ⟨fun _ _ => trivial, ?_⟩
  rw [Oper.semAt_eq _ _ _ hop, e]
  exact h

theorem StAt.evq {φ : Ren} {B : Nat} {fr : Fr} {h : H} {a : Act} {w : World} (hs : StAt φ B fr h a w) {x : Operand} {z : Nat} (e : ev 0 fr x = .q z) : a.eval x = φ.q z := by
  have := ev_ok (ng := 0) (fun g hg => by omega) hs.fr x
  rw [e] at this
  simp only [VR] at this
  exact this.1

theorem StAt.rangeO {φ : Ren} {B : Nat} {fr : Fr} {h : H} {a : Act} {w : World} (hs : StAt φ B fr h a w) {P : Program} {n : Nat} {ops : Array Oper} {Q : Exit → Act → World → Prop} {l : List Oper} {o : Oper} {rest : List Oper} (hl : l = o :: rest) {t k e : TypeId} {x : Operand} (hop : o.op = .range t x) (hgd : o.guard = none)
    {z : Nat} (hev : ev 0 fr x = .q z) {bm : Nat} (hz : φ.q z = .map (some bm)) {es : Array MapEntry} {clock : Nat} (ht : P.underlying t = some (.map k e)) (hb : w.heap[bm]? = some (.map es clock))
    (hq : Grown w (w.alloc (.mapIter (some bm) clock #[] clock)) → (w.alloc (.mapIter (some bm) clock #[] clock)).heap[w.heap.size]? = some (.mapIter (some bm) clock #[] clock) → wpListIn (W none) n P ops Q rest (a.put o.dst (.pointer (some ⟨w.heap.size, 0, none⟩))) (w.alloc (.mapIter (some bm) clock #[] clock))) : wpListIn (W none) n P ops Q l a w := by
  subst hl
  have hx := (hs.evq hev).trans hz
  refine val_op hgd (fun c e => by rw [hop] at e; cases e) (v := .pointer (some ⟨w.heap.size, 0, none⟩)) (w' := w.alloc (.mapIter (some bm) clock #[] clock)) ?_
    (hq ⟨by simp, fun r hr => (MapKept.heap_alloc w _).2 r hr, rfl, rfl, rfl⟩ (MapKept.heap_alloc w _).1)
  simp [execOp, hop, hx, run_range_map w t k e bm es clock ht hb]

theorem StAt.nextO {φ : Ren} {B : Nat} {fr : Fr} {h : H} {a : Act} {w : World} (hs : StAt φ B fr h a w) {P : Program} {n : Nat} {ops : Array Oper} {Q : Exit → Act → World → Prop} {l : List Oper} {o : Oper} {rest : List Oper} (hl : l = o :: rest) {x : Operand} (hop : o.op = .next x false) (hgd : o.guard = none)
    {z : Nat} (hev : ev 0 fr x = .q z) {ri bm since c0 : Nat} {seen : Array Nat} (hz : φ.q z = .pointer (some ⟨ri, 0, none⟩)) {es : Array MapEntry} {clock : Nat} (hi : w.heap[ri]? = some (.mapIter (some bm) since seen c0)) (hb : w.heap[bm]? = some (.map es clock)) (hold : ∀ x ∈ es.toList, x.born < since) (hsc : since ≤ c0) (hB : B ≤ ri)
    (hE : (leftOf es seen).size = 0 → wpListIn (W none) n P ops Q rest (a.put o.dst (.tuple #[.bool false])) w)
    (hN : ∀ e ∈ (leftOf es seen).toList, ∀ φ' w', StAt φ' B fr h a w' → φ'.s = φ.s → φ'.q = φ.q → φ'.w = φ.w → φ'.g = φ.g → GB B w w' → (∀ i, i ≠ ri → w'.heap[i]? = w.heap[i]?) → w'.heap[ri]? = some (.mapIter (some bm) since (seen.push e.born) clock) → wpListIn (W none) n P ops Q rest (a.put o.dst (.tuple #[.bool true, e.key, e.val])) w') : wpListIn (W none) n P ops Q l a w := by
  subst hl
  have hx := (hs.evq hev).trans hz
  rcases run_next_at (P := P) w o.type ri bm since c0 seen es clock hi hb hold hsc with ⟨h0, hrun⟩ | ⟨e, he, w1, hal, hrun⟩
  · refine val_op hgd (fun c e => by rw [hop] at e; cases e) ?_ (hE h0)
    simp [execOp, hop, hx, hrun]
  · have hi1 : w1.heap[ri]? = some (.mapIter (some bm) since seen c0) := by rcases hal with rfl | rfl <;> exact hi
    have hw1 : w1.heap = w.heap ∧ w1.os = w.os ∧ w1.tape = w.tape ∧ w1.output = w.output := by rcases hal with rfl | rfl <;> exact ⟨rfl, rfl, rfl, rfl⟩
    have hset := MapKept.heap_set (o' := .mapIter (some bm) since (seen.push e.born) clock) hi1
    have hsame : ∀ i, i ≠ ri → (ChangeMaps.setBlock w1 ri (.mapIter (some bm) since (seen.push e.born) clock)).heap[i]? = w.heap[i]? := fun i hne => by rw [← hw1.1]; exact hset.2 i hne
    have hsz : (ChangeMaps.setBlock w1 ri (.mapIter (some bm) since (seen.push e.born) clock)).heap.size = w.heap.size := by simp [ChangeMaps.setBlock, hw1.1]
    obtain ⟨φ', hs', e1, e2, e3, e4, _, _⟩ := hs.other (w' := ChangeMaps.setBlock w1 ri (.mapIter (some bm) since (seen.push e.born) clock)) (r := ri) (fun b eb hl => by
      obtain ⟨ob, g1, g2⟩ := hs.hr.blk b ri eb hl
      rw [hi] at g1; cases g1
      exact noIt_ok hl g2) hsz hsame
    refine val_op hgd (fun c e => by rw [hop] at e; cases e) ?_ (hN e he φ' _ hs' e1 e2 e3 e4 ⟨by rw [hsz]; exact Nat.le_refl _, fun r hr => hsame r (by omega), hw1.2.1, hw1.2.2.1, hw1.2.2.2⟩ hsame hset.1)
    simp [execOp, hop, hx, hrun]

theorem StAt.entryO {φ : Ren} {B : Nat} {fr : Fr} {h : H} {a : Act} {w : World} (hs : StAt φ B fr h a w) {P : Program} {n : Nat} {ops : Array Oper} {Q : Exit → Act → World → Prop} {l : List Oper} {o : Oper} {rest : List Oper} (hl : l = o :: rest) {x : Operand} (hop : o.op = .entry x) (hgd : o.guard = none)
    {z : Nat} (hev : ev 0 fr x = .q z) {ri bm since : Nat} {seen : Array Nat} (hz : φ.q z = .pointer (some ⟨ri, 0, none⟩)) {es : Array MapEntry} {clock : Nat} {e : MapEntry} (hi : w.heap[ri]? = some (.mapIter (some bm) since (seen.push e.born) clock)) (hb : w.heap[bm]? = some (.map es clock)) (he : e ∈ es.toList) (hn : (es.toList.map (·.born)).Nodup)
    (hN : wpListIn (W none) n P ops Q rest (a.put o.dst (.tuple #[e.key, e.val])) w) : wpListIn (W none) n P ops Q l a w := by
  subst hl
  have hx := (hs.evq hev).trans hz
  refine val_op hgd (fun c e => by rw [hop] at e; cases e) ?_ hN
  simp [execOp, hop, hx, run_entry_at w ri bm since seen es clock e hi hb he hn]

/-- A block that is left by its end alone. -/
theorem wpCs_block {n : Nat} {P : Program} {Q : Exit → Act → World → Prop} {id : Nat} {c : Code} {rest : List Code} {a : Act} {w : World} (h : wpCs none n P (fun e a' w' => e = .normal ∧ wpCs none n P Q rest a' w') (flatL c) a w) : wpCs none n P Q (.block id c :: rest) a w := by
  refine wpIn_block (wpIn_mono (wpIn_flat c h) ?_)
  rintro e a' w' ⟨rfl, hq⟩
  exact hq

/-! ### Which entries have come out -/
theorem sub_perm {α : Type} : ∀ (l m : List α), l.Nodup → (∀ x ∈ l, x ∈ m) → ∃ r, (l ++ r).Perm m
  | [], m, _, _ => ⟨m, List.Perm.refl _⟩
  | x :: xs, m, hn, hs => by
    obtain ⟨s, t, rfl⟩ := List.append_of_mem (hs x List.mem_cons_self)
    obtain ⟨hx, hn'⟩ := List.nodup_cons.1 hn
    obtain ⟨r, hr⟩ := sub_perm xs (s ++ t) hn' fun y hy => by
      have := hs y (List.mem_cons_of_mem _ hy)
      rcases List.mem_append.1 this with h | h
      · exact List.mem_append_left _ h
      · rcases List.mem_cons.1 h with rfl | h
        · exact absurd hy hx
        · exact List.mem_append_right _ h
    exact ⟨r, (List.Perm.cons x hr).trans List.perm_middle.symm⟩
theorem sub_length {α : Type} {l m : List α} (hn : l.Nodup) (hs : ∀ x ∈ l, x ∈ m) : l.length ≤ m.length := by
  obtain ⟨r, hr⟩ := sub_perm l m hn hs
  have := hr.length_eq
  simp at this
  omega
theorem sub_perm_of {α : Type} {l m : List α} (hn : l.Nodup) (hs : ∀ x ∈ l, x ∈ m) (hl : m.length ≤ l.length) : l.Perm m := by
  obtain ⟨r, hr⟩ := sub_perm l m hn hs
  have := hr.length_eq
  simp at this
  have : r = [] := List.eq_nil_of_length_eq_zero (by omega)
  subst this
  simpa using hr
theorem nodup_of_map {α β : Type} (f : α → β) : ∀ {l : List α}, (l.map f).Nodup → l.Nodup
  | [], _ => List.nodup_nil
  | x :: xs, h => by
    rw [List.map_cons, List.nodup_cons] at h
    exact List.nodup_cons.2 ⟨fun hx => h.1 (List.mem_map.2 ⟨x, hx, rfl⟩), nodup_of_map f h.2⟩
structure Came (es : Array MapEntry) (de : List MapEntry) : Prop where
  nd : de.Nodup
  sub : ∀ e ∈ de, e ∈ es.toList
theorem Came.nil (es : Array MapEntry) : Came es [] := ⟨List.nodup_nil, fun _ h => by cases h⟩
theorem born_eq {es : Array MapEntry} (hn : (es.toList.map (·.born)).Nodup) {e e' : MapEntry} (h : e ∈ es.toList) (h' : e' ∈ es.toList) (hb : e.born = e'.born) : e = e' := by
  have h1 := find_born e es.toList hn h
  have h2 := find_born e' es.toList hn h'
  rw [hb] at h1
  exact Option.some.inj (h1.symm.trans h2)
theorem Came.snoc {es : Array MapEntry} {de : List MapEntry} (h : Came es de) {e : MapEntry} (he : e ∈ (leftOf es (de.map (·.born)).toArray).toList) : Came es (de ++ [e]) ∧ e ∈ es.toList := by
  obtain ⟨h1, h2⟩ := mem_left he
  refine ⟨⟨?_, fun x hx => ?_⟩, h1⟩
  · rw [List.nodup_append]
    refine ⟨h.nd, by simp, fun x hx y hy hxy => ?_⟩
    simp at hy
    subst hy; subst hxy
    have : (de.map (·.born)).toArray.contains x.born = true := by
      simp only [List.contains_toArray, List.contains_iff_mem]
      exact List.mem_map.2 ⟨x, hx, rfl⟩
    rw [this] at h2; cases h2
  · rcases List.mem_append.1 hx with hx | hx
    · exact h.sub x hx
    · simp at hx; subst hx; exact h1
theorem Came.length_le {es : Array MapEntry} {de : List MapEntry} (h : Came es de) : de.length ≤ es.size := by
  simpa using sub_length h.nd h.sub
theorem Came.perm {es : Array MapEntry} {de : List MapEntry} (h : Came es de) (hl : es.size ≤ de.length) : de.Perm es.toList :=
  sub_perm_of h.nd h.sub (by simpa using hl)
theorem Came.none {es : Array MapEntry} (hn : (es.toList.map (·.born)).Nodup) {de : List MapEntry} (h : Came es de) (h0 : (leftOf es (de.map (·.born)).toArray).size = 0) : es.size ≤ de.length := by
  have hall := all_seen es _ h0
  have hsub : ∀ x ∈ es.toList, x ∈ de := fun x hx => by
    have := hall x hx
    simp only [List.contains_toArray, List.contains_iff_mem, List.mem_map] at this
    obtain ⟨y, hy, e⟩ := this
    rw [← born_eq hn (h.sub y hy) hx e]; exact hy
  simpa using sub_length (nodup_of_map _ hn) hsub

end Go.Ev

/- Chains, part U: 'bench.world', its first loop. -/
namespace Go.Ev
open Go.Proofs

theorem noFacts {P : Program} {φ : Ren} : FactsOK P {} φ := ⟨trivial, trivial, trivial, trivial, trivial, trivial, trivial, trivial, trivial⟩

/-! ### What is kept -/
def mT : List Nat := [65, 68, 70]
theorem KeptC.refl (w : World) (Ts : List Nat) : KeptC w w Ts := fun _ _ _ _ h => h
theorem KeptC.trans {w w' w'' : World} {Ts : List Nat} (h : KeptC w w' Ts) (h' : KeptC w' w'' Ts) : KeptC w w'' Ts := fun r c T hm ho => h' r c T hm (h r c T hm ho)
theorem KeepT.keptC {HB : List (Nat × Blk)} {w w' : World} (h : KeepT HB w w') {Ts : List Nat} (hT : Ts.all (fun T => noT T (muts HB)) = true) : KeptC w w' Ts := fun r c T hm ho => h.c r c T (List.all_eq_true.1 hT T hm) ho
theorem KeptC.other {w w' : World} {ri : Nat} {mb : Option Nat} {s l : Nat} {se : Array Nat} (hi : w.heap[ri]? = some (.mapIter mb s se l)) (hsame : ∀ i, i ≠ ri → w'.heap[i]? = w.heap[i]?) (Ts : List Nat) : KeptC w w' Ts :=
  fun r c T _ ho => by rw [hsame r (by rintro rfl; rw [hi] at ho; cases ho)]; exact ho
theorem IsVal.keptC {w w' : World} {p : O × Value} (h : IsVal w p) {Ts : List Nat} (hk : KeptC w w' Ts) (hm : 70 ∈ Ts) : IsVal w' p := h.kept fun r c ho => hk r c 70 hm ho
theorem IsSch.keptC {w w' : World} {v : Value} (h : IsSch w v) {Ts : List Nat} (hk : KeptC w w' Ts) (h1 : 65 ∈ Ts) (h2 : 68 ∈ Ts) : IsSch w' v := by
  obtain ⟨rl, rf, cl, cf, g1, g2, g3, g4⟩ := h
  exact ⟨rl, rf, cl, cf, g1, hk _ _ _ h1 g2, hk _ _ _ h2 g3, g4⟩

/-! ### The map of some objects -/
def omL (ps : List (O × Value)) : Array MapEntry × Nat := ((ps.mapIdx oent).toArray, ps.length)
def oAt (ps : List (O × Value)) (e : MapEntry) : O × Value := (ps[e.born]?).getD (⟨0, 0⟩, .bool false)
theorem omL_at {ps : List (O × Value)} {e : MapEntry} (h : e ∈ (omL ps).1.toList) : e.key = .int .i64 (oAt ps e).1.id ∧ e.val = oAgg (oAt ps e) ∧ oAt ps e ∈ ps ∧ e.born < ps.length := by
  simp only [omL, List.mem_mapIdx] at h
  obtain ⟨i, hi, rfl⟩ := h
  have : oAt ps (oent i ps[i]) = ps[i] := by simp [oAt, oent, hi]
  rw [this]
  exact ⟨rfl, rfl, List.getElem_mem hi, hi⟩
theorem omL_map (ps : List (O × Value)) : (omL ps).1.toList.map (oAt ps) = ps := by
  apply List.ext_getElem?
  intro i
  simp only [omL, List.getElem?_map, List.getElem?_mapIdx]
  rcases Nat.lt_or_ge i ps.length with h | h
  · simp [oAt, oent, h]
  · simp [List.getElem?_eq_none h]
theorem omL_born (ps : List (O × Value)) : ((omL ps).1.toList.map (·.born)).Nodup := by
  have : ((omL ps).1.toList.map (·.born)) = List.range ps.length := by
    apply List.ext_getElem?
    intro i
    simp only [omL, List.getElem?_map, List.getElem?_mapIdx]
    rcases Nat.lt_or_ge i ps.length with h | h
    · rw [List.getElem?_eq_getElem h, List.getElem?_range h]; rfl
    · rw [List.getElem?_eq_none h, List.getElem?_eq_none (by simpa using h)]; rfl
  rw [this]; exact List.nodup_range
theorem omL_size (ps : List (O × Value)) : (omL ps).1.size = ps.length := by simp [omL]

/-! ### Rounds of a range over a map -/
theorem Ag.self' {tb : Tab} {φ : Ren} {y : Sym} (hy : Ag tb y y) (hn : Named φ y) : AgreeS tb φ.y y := hy.agreeS hn.1 hn.2.1 hn.2.2.1 hn.2.2.2

theorem Ag.self'' {tb : Tab} {o o' y : Sym} (hy : Ag tb o y) (hs : o'.s = o.s) (hq : o'.q = o.q) (hw : o'.w = o.w) (hg : o'.g = o.g) : Ag tb o' y := by
  refine ⟨?_, ?_, ?_, ?_⟩
  · rw [hs]; exact hy.s
  · have : AgQ o' = AgQ o := by
      funext a v
      cases a <;> simp only [AgQ, hs, hq]
    rw [this]; exact hy.q
  · rw [hw]; exact hy.w
  · rw [hg]; exact hy.g
theorem range_round {n : Nat} {rd bk : List Code} {L0 : List (Nat × V)} {d1 d2 di nt z : Nat} {x1 x2 : Operand} {o1 o2 : Oper} {l1 l2 : List Oper} {tb : Tab} {nb : Nat} {HB : List (Nat × Blk)}
    (hr : ∃ id, rd = .region id (opsD rd) false :: rd.drop 1) (hb : ∃ id c, rd.drop 2 = [.block id c] ∧ flatL c = bk) (hbk : ∃ id, bk = .region id (opsD bk) false :: bk.drop 1)
    (hl1 : (opsD rd).toList = o1 :: l1) (p1 : o1.op = .next x1 false) (g1 : o1.guard = none) (t1 : o1.dst = some d1) (hd1 : d1 < nt) (e1 : ev 0 (frOf nt L0) x1 = .q z)
    (hl2 : (opsD bk).toList = o2 :: l2) (p2 : o2.op = .entry x2) (g2 : o2.guard = none) (t2 : o2.dst = some d2) (e2 : ev 0 (frOf nt L0) x2 = .q z)
    (hN : runsO (withF E0 {}) 100 (opsD rd) (l1.take 100) (frOf nt ((d1, .t [.b true, .top, .top]) :: L0)) (hOf nb HB) tb nt ((di, .b true) :: L0) nb HB = true) (hN1 : l1.drop 100 = [])
    (hI : runsL (withF E0 {}) 100 ((rd.drop 1).take 1) (frOf nt ((di, .b true) :: L0)) (hOf nb HB) .n tb nt L0 nb HB = true) {Ts : List Nat} (hT : Ts.all (fun T => noT T (muts HB)) = true)
    {φ : Ren} {B : Nat} {a : Act} {w' : World} (hs : StAt φ B (frOf nt L0) (hOf nb HB) a w') (hd : a.defers = []) {y : Sym} (hy : Ag tb y y) (hn : Named φ y) {ri bm : Nat} (hz : y.q z = .pointer (some ⟨ri, 0, none⟩)) {es : Array MapEntry} {clock : Nat} {seen : Array Nat}
    (hit : w'.heap[ri]? = some (.mapIter (some bm) clock seen clock)) (hm : w'.heap[bm]? = some (.map es clock)) (hmb : bm < B) (hold : ∀ x ∈ es.toList, x.born < clock) (hnd : (es.toList.map (·.born)).Nodup) (hB : B ≤ ri) (hne : (leftOf es seen).size ≠ 0) {Q : Exit → Act → World → Prop}
    (hQ : ∀ e ∈ (leftOf es seen).toList, ∀ φ' a' w'', StAt φ' B (frOf nt L0) (hOf nb HB) a' w'' → a'.defers = [] → Named φ' y → GB B w' w'' → KeptC w' w'' Ts → w''.heap[ri]? = some (.mapIter (some bm) clock (seen.push e.born) clock) →
      wpListIn (W none) n E0.P (opsD bk) (Exit.then (wpCs none n E0.P (fun ex a3 w3 => ex = .normal ∧ Q .normal a3 w3) (bk.drop 1)) (fun ex a3 w3 => ex = .normal ∧ Q .normal a3 w3)) l2 (a'.put (some d2) (.tuple #[e.key, e.val])) w'') : wpCs none n E0.P Q rd a w' := by
  obtain ⟨id1, hr⟩ := hr
  rw [hr]
  refine wpCs_region ?_
  refine hs.nextO hl1 p1 g1 e1 (ri := ri) (by rw [hn.2.1]; exact hz) hit hm hold (Nat.le_refl _) hB (fun h0 => absurd h0 hne) ?_
  intro e he φ1 w1 hs1 n1 n2 n3 n4 hg1 hsame hit1
  have hn1 : Named φ1 y := ⟨n1.trans hn.1, n2.trans hn.2.1, n3.trans hn.2.2.1, n4.trans hn.2.2.2⟩
  rw [t1]
  have hs2 := hs1.put (d := d1) hd1 (x := .t [.b true, .top, .top]) (v := .tuple #[.bool true, e.key, e.val]) (by
    simp only [VR]
    exact ⟨_, rfl, VRs.cons vB (VRs.cons (by simp only [VR]) (VRs.cons (by simp only [VR]) VRs.nil))⟩)
  refine StAt.runO (withF_ok E0_ok {}) rfl 100 hN hs2 noFacts.bd' y (hy.self' hn1) fun φ3 a3 w3 hs3 hd3 hg3 hk3 m1 m2 m3 m4 => ?_
  rw [hN1]
  show wpCs none n E0.P _ (rd.drop 1) a3 w3
  have hd3' : a3.defers = [] := by rw [hd3]; exact hd
  refine StAt.runL (withF_ok E0_ok {}) rfl 1 hI hs3 noFacts.bd' hd3' y (hy.self' ⟨m1, m2, m3, m4⟩) fun φ4 a4 w4 hs4 hd4 hg4 hk4 m1 m2 m3 m4 => ?_
  show wpCs none n E0.P Q ((rd.drop 1).drop 1) a4 w4
  rw [List.drop_drop]
  obtain ⟨idb, c, hb1, hb2⟩ := hb
  rw [hb1]
  refine wpCs_block ?_
  rw [hb2]
  obtain ⟨id2, hbk⟩ := hbk
  rw [hbk]
  refine wpCs_region ?_
  have hit4 := hk4.i ri _ _ _ _ (hk3.i ri _ _ _ _ hit1)
  have hbB : ∀ {u u' : World}, GB B u u' → u'.heap[bm]? = u.heap[bm]? := fun h => h.same bm hmb
  have hm4 : w4.heap[bm]? = some (.map es clock) := by rw [hbB hg4, hbB hg3, hbB hg1, hm]
  refine hs4.entryO hl2 p2 g2 e2 (ri := ri) (by rw [m2]; exact hz) hit4 hm4 (mem_left he).1 hnd ?_
  rw [t2]
  exact hQ e he φ4 a4 w4 hs4 hd4 ⟨m1, m2, m3, m4⟩ ((hg1.trans hg3).trans hg4) (((KeptC.other hit hsame Ts).trans (hk3.keptC hT)).trans (hk4.keptC hT)) hit4

theorem range_end {n : Nat} {rd : List Code} {L0 : List (Nat × V)} {d1 di nt z id : Nat} {x1 : Operand} {o1 : Oper} {l1 : List Oper} {tb : Tab} {nb : Nat} {HB : List (Nat × Blk)}
    (hr : ∃ id, rd = .region id (opsD rd) false :: rd.drop 1)
    (hl1 : (opsD rd).toList = o1 :: l1) (p1 : o1.op = .next x1 false) (g1 : o1.guard = none) (t1 : o1.dst = some d1) (hd1 : d1 < nt) (e1 : ev 0 (frOf nt L0) x1 = .q z)
    (hN : runsO (withF E0 {}) 100 (opsD rd) (l1.take 100) (frOf nt ((d1, .t [.b false]) :: L0)) (hOf nb HB) tb nt ((di, .b false) :: L0) nb HB = true) (hN1 : l1.drop 100 = [])
    (hI : runsL (withF E0 {}) 100 ((rd.drop 1).take 1) (frOf nt ((di, .b false) :: L0)) (hOf nb HB) (.e id) tb nt L0 nb HB = true) {Ts : List Nat} (hT : Ts.all (fun T => noT T (muts HB)) = true)
    {φ : Ren} {B : Nat} {a : Act} {w' : World} (hs : StAt φ B (frOf nt L0) (hOf nb HB) a w') (hd : a.defers = []) {y : Sym} (hy : Ag tb y y) (hn : Named φ y) {ri bm : Nat} (hz : y.q z = .pointer (some ⟨ri, 0, none⟩)) {es : Array MapEntry} {clock : Nat} {seen : Array Nat}
    (hit : w'.heap[ri]? = some (.mapIter (some bm) clock seen clock)) (hm : w'.heap[bm]? = some (.map es clock)) (hold : ∀ x ∈ es.toList, x.born < clock) (hB : B ≤ ri) (hne : ∀ e, e ∉ (leftOf es seen).toList) {Q : Act → World → Prop}
    (hQ : ∀ φ' a' w'', StAt φ' B (frOf nt L0) (hOf nb HB) a' w'' → a'.defers = [] → Named φ' y → GB B w' w'' → KeptC w' w'' Ts → Q a' w'') : wpCs none n E0.P (fun e a' w'' => e = .exit id ∧ Q a' w'') rd a w' := by
  obtain ⟨id1, hr⟩ := hr
  rw [hr]
  refine wpCs_region ?_
  refine hs.nextO hl1 p1 g1 e1 (ri := ri) (by rw [hn.2.1]; exact hz) hit hm hold (Nat.le_refl _) hB (fun h0 => ?_) (fun e he => absurd he (hne e))
  rw [t1]
  have hs2 := hs.put (d := d1) hd1 (x := .t [.b false]) (v := .tuple #[.bool false]) (by
    simp only [VR]
    exact ⟨_, rfl, VRs.cons vB VRs.nil⟩)
  refine StAt.runO (withF_ok E0_ok {}) rfl 100 hN hs2 noFacts.bd' y (hy.self' hn) fun φ3 a3 w3 hs3 hd3 hg3 hk3 m1 m2 m3 m4 => ?_
  rw [hN1]
  show wpCs none n E0.P _ (rd.drop 1) a3 w3
  have hd3' : a3.defers = [] := by rw [hd3]; exact hd
  refine StAt.runL (withF_ok E0_ok {}) rfl 1 hI hs3 noFacts.bd' hd3' y (hy.self' ⟨m1, m2, m3, m4⟩) fun φ4 a4 w4 hs4 hd4 hg4 hk4 m1 m2 m3 m4 => ?_
  exact ⟨rfl, hQ φ4 a4 w4 hs4 hd4 ⟨m1, m2, m3, m4⟩ (hg3.trans hg4) ((hk3.keptC hT).trans (hk4.keptC hT))⟩

end Go.Ev

/- Chains, part V: 'bench.world', its first loop, rounds. -/
namespace Go.Ev
open Go.Proofs

def wY (ro rr next ri : Nat) (ln : Value) (i id ref : Nat) (row : List Value) : Sym :=
  mkY [0, 0, 0, next, id, 0, ref, i] [.bool false, .bool false, .bool false, .map (some ro), .map (some rr), .bool false, ln, .bool false, .pointer (some ⟨ri, 0, none⟩)] [[], [], row] []

theorem wor_TE_ok {ro rr next ri : Nat} {ln : Value} (h1 : ln.oneCell' = true) {i id ref : Nat} {row : List Value} {wt : List (Nat × WV)} (hw : wt = [] ∨ wt = [(2, .same 2)]) : Ag (wor_TE wt) (wY ro rr next ri ln i id ref row) (wY ro rr next ri ln i id ref row) := by
  refine ⟨⟨rfl, rfl, rfl, rfl, trivial⟩, ⟨⟨rfl, rfl⟩, ⟨rfl, rfl⟩, ⟨rfl, h1⟩, ⟨rfl, rfl⟩, trivial⟩, ?_, trivial⟩
  rcases hw with rfl | rfl
  · exact trivial
  · exact ⟨rfl, trivial⟩

/-- What is found behind an object that was put behind a row. -/
theorem wor_row {φ : Ren} {nb : Nat} {HB : List (Nat × Blk)} {w : World} (hr : HR φ (hOf nb HB) w) {k v : V} {p : O × Value} (hkn : KN k v p.1) (s6 : φ.s 6 = ((rf p.1 : Nat) : Int)) (s4 : φ.s 4 = p.1.id) (h5 : lkB HB 5 = valB' k v) {vs : List Value} (hv : VRs φ (wor_o 5) vs) :
    ∃ r, vs = oCells (p.1, .slice (some ⟨r, 0, none⟩) 1 1) ∧ IsVal w (p.1, .slice (some ⟨r, 0, none⟩) 1 1) := by
  simp only [wor_o, VRs, VR] at hv
  obtain ⟨_, _, rfl, rfl, _, _, rfl, rfl, _, _, rfl, rfl, _, _, rfl, ⟨r, hr5, _, rfl⟩, rfl⟩ := hv
  obtain ⟨c, g, vc, _, z, _⟩ := hr.cellsL hr5 (l := [k, v, .s [], .sl none 0 (.kn 0)]) h5
  have z := z rfl
  have hc : c = valC p.1 := by
    have := (hkn φ s6).2 _ vc
    rw [List.take_of_length_le (by rw [Array.length_toList, z]; exact Nat.le_refl _)] at this
    exact Array.toList_inj.1 this
  subst hc
  exact ⟨r, by rw [s4]; rfl, r, rfl, g⟩

theorem wor_body1 {n : Nat} {k v : V} {p : O × Value} (hkn : KN k v p.1)
    (hE : runsO (withF E0 {}) 100 (opsD wor_bk) (((opsD wor_bk).toList.drop 1).take 100) (frOf 59 (wor_LE 4)) (hOf 5 ((4, valB k v) :: wor_H1)) (wor_TE [(2, .same 2)]) 59 (wor_LO 5) 6 (wor_HE 4 k v wor_H1) = true)
    (hO : runsL (withF E0 wor_F1) 400 ((wor_bk.drop 1).take 1) (frOf 59 (wor_LO 5)) (hOf 6 (wor_HE 4 k v wor_H1)) .n (wor_TE [(2, .same 2)]) 59 wor_L0 6 (wor_G1 k v) = true)
    (hC : (mAll wor_TC (frOf 59 wor_L0) (hOf 6 (wor_G1 k v)) 59 wor_L0 4 wor_H1).isSome = true)
    {φ : Ren} {B : Nat} {a : Act} {w' : World} (hs : StAt φ B (frOf 59 wor_L0) (hOf 4 wor_H1) a w') (hd : a.defers = []) {ro rr next ri : Nat} {ln : Value} {lc : List (O × Value)} (hn : Named φ (wY ro rr next ri ln 0 0 0 (oRow lc))) (h1 : ln.oneCell' = true)
    (hval : IsVal w' p) (hid : 1 ≤ p.1.id ∧ p.1.id ≤ 100000) (href : p.1.ref ≤ 100000) (hlc : lc.length ≤ 100000) (key : Value) {Q : Act → World → Prop}
    (hQ : ∀ φ' a' w'' r, StAt φ' B (frOf 59 wor_L0) (hOf 4 wor_H1) a' w'' → a'.defers = [] → Named φ' (wY ro rr next ri ln 0 0 0 (oRow (lc ++ [(p.1, .slice (some ⟨r, 0, none⟩) 1 1)]))) → GB B w' w'' → KeptC w' w'' mT → (∀ (x : Nat) mb s se l, w'.heap[x]? = some (.mapIter mb s se l) → w''.heap[x]? = some (.mapIter mb s se l)) →
      IsVal w'' (p.1, .slice (some ⟨r, 0, none⟩) 1 1) → Q a' w'') :
    wpListIn (W none) n E0.P (opsD wor_bk) (Exit.then (wpCs none n E0.P (fun ex a3 w3 => ex = .normal ∧ Q a3 w3) (wor_bk.drop 1)) (fun ex a3 w3 => ex = .normal ∧ Q a3 w3)) ((opsD wor_bk).toList.drop 1) (a.put (some 25) (.tuple #[key, oAgg p])) w' := by
  obtain ⟨n1, n2, n3, n4⟩ := hn
  have hrf : 1 ≤ rf p.1 ∧ rf p.1 ≤ 100000 := by unfold rf; split <;> omega
  obtain ⟨φ1, hs1, m1, m2, m3, m4⟩ := hs.resym wor_S1 (y := wY ro rr next ri ln lc.length p.1.id (rf p.1) (oRow lc))
    ⟨⟨(congrFun n1 3).symm, trivial⟩, ⟨⟨(congrFun n2 3).symm, rfl⟩, ⟨(congrFun n2 4).symm, rfl⟩, ⟨(congrFun n2 6).symm, h1⟩, ⟨(congrFun n2 8).symm, rfl⟩, trivial⟩, ⟨(congrFun n3 2).symm, trivial⟩, trivial⟩
  obtain ⟨r, hp2, hr⟩ := hval
  have s6 : φ1.s 6 = ((rf p.1 : Nat) : Int) := congrFun m1 6
  have hst := hs1.reveal hr rfl 99 .top (valB k v) (fun h => h) ⟨_, rfl, by
    rw [List.take_of_length_le (by rw [Array.length_toList, valC_size]; exact Nat.le_refl 4)]
    exact (hkn φ1 s6).1, by rw [valC_size]; exact Nat.le_refl 4, rfl⟩ (by simp only [VR])
  have s4 : (up φ1 4 r (valC p.1).size).s 4 = p.1.id := congrFun m1 4
  have hst2 := StAt.put (L := wor_L0) hst (d := 25) (by decide) (x := .t [.top, .a (wor_o 4)]) (v := .tuple #[key, oAgg p]) (by
    simp only [VR]
    refine ⟨_, rfl, VRs.cons (by simp only [VR]) (VRs.cons ?_ VRs.nil)⟩
    simp only [VR]
    refine ⟨_, rfl, VRs.cons (by simp only [VR, s4]) (VRs.cons vI (VRs.cons vI (VRs.cons ?_ VRs.nil)))⟩
    show VR _ _ p.2
    rw [hp2]; exact vSl rfl (by decide))
  have hte := wor_TE_ok (ro := ro) (rr := rr) (next := next) (ri := ri) (i := lc.length) (id := p.1.id) (ref := rf p.1) (row := oRow lc) h1 (wt := [(2, .same 2)]) (.inr rfl)
  refine StAt.runO (withF_ok E0_ok {}) rfl 100 hE hst2 noFacts.bd' _ (hte.self' ⟨m1, m2, m3, m4⟩) fun φ3 a3 w3 hs3 hd3 hg3 hk3 m1 m2 m3 m4 => ?_
  show wpCs none n E0.P _ (wor_bk.drop 1) a3 w3
  have hd3' : a3.defers = [] := by rw [hd3]; exact hd
  refine StAt.runL (withF_ok E0_ok wor_F1) rfl 1 hO hs3 (FactsOK.bd' ?_) hd3' _ (hte.self' ⟨m1, m2, m3, m4⟩) fun φ' a' w'' hs' hd' hg' hk' e1 e2 e3 e4 => ⟨rfl, ?_⟩
  · have t4 : φ3.y.s 4 = p.1.id := congrFun m1 4
    have t6 : φ3.y.s 6 = rf p.1 := congrFun m1 6
    have t7 : φ3.y.s 7 = lc.length := congrFun m1 7
    have hw : φ3.y.w 2 = oRow lc := congrFun m3 2
    refine ⟨⟨⟨?_, ?_⟩, ⟨?_, ?_⟩, ⟨?_, ?_⟩, trivial⟩, trivial, trivial, ⟨⟨lc.length, by decide, ?_, t7⟩, trivial⟩, trivial, trivial, trivial, trivial, trivial⟩
    · show (1 : Int) ≤ _; simp only [Ren.s, t4]; omega
    · show _ ≤ (100000 : Int); simp only [Ren.s, t4]; omega
    · show (1 : Int) ≤ _; simp only [Ren.s, t6]; omega
    · show _ ≤ (100000 : Int); simp only [Ren.s, t6]; omega
    · show (0 : Int) ≤ _; simp only [Ren.s, t7]; omega
    · show _ ≤ (100000 : Int); simp only [Ren.s, t7]; omega
    · show lc.length * 4 = (φ3.y.w 2).length
      rw [hw, oRow_len]
  · obtain ⟨r2, h2⟩ := hs'.ptr 3 rfl
    obtain ⟨c2, _, v2, _⟩ := hs'.hr.cellsL h2 (l := [.q 6, .sr 4 2 1 4, nl, .y .i64 3]) rfl
    simp only [VRs, VR] at v2
    obtain ⟨_, _, _, _, _, _, _, ⟨r4, nn, cap, h4, _⟩, _⟩ := v2
    obtain ⟨c4, vs, g4, v4, t4, z4, _⟩ := hs'.hr.rowL h4 (x := 2) (l := wor_o 5) rfl
    obtain ⟨r5, rfl, hv5⟩ := wor_row hs'.hr hkn (congrFun e1 6) (congrFun e1 4) rfl v4
    have hw : φ'.w 2 = oRow lc := congrFun e3 2
    have hag : Agree wor_TC φ' (hOf 6 (wor_G1 k v)) w'' (wY ro rr next ri ln 0 0 0 (oRow (lc ++ [(p.1, .slice (some ⟨r5, 0, none⟩) 1 1)]))) := by
      refine mkAgree ⟨(congrFun e1 3).symm, trivial⟩ ⟨?_, ?_, ?_, ?_, trivial⟩ ⟨?_, trivial⟩ trivial
      · simp only [VR]; exact ⟨(congrFun e2 3).symm, rfl⟩
      · simp only [VR]; exact ⟨(congrFun e2 4).symm, rfl⟩
      · simp only [VR]; exact ⟨(congrFun e2 6).symm, h1⟩
      · simp only [VR]; exact ⟨(congrFun e2 8).symm, rfl⟩
      · intro r cs e hr hcs
        rw [h4] at hr; cases hr
        rw [g4] at hcs; cases hcs
        refine ⟨fun z l e h => ?_, fun l' e g h => ?_⟩
        · rw [hOf_get] at h; cases h
          rw [t4, hw]
          show oRow (lc ++ [_]) = _
          simp [oRow]
        · rw [hOf_get] at h; cases h
    obtain ⟨φ2, hs2, j1, j2, j3, j4⟩ := hs'.conv hC _ hag
    exact hQ φ2 a' w'' r5 hs2 hd' ⟨j1, j2, j3, j4⟩ (hg3.trans hg') ((hk3.keptC rfl).trans (hk'.keptC rfl)) (fun x mb s se l h => hk'.i x mb s se l (hk3.i x mb s se l h)) hv5

theorem wor_body0 {n : Nat} {k v : V} {p : O × Value} (hkn : KN k v p.1)
    (hE : runsO (withF E0 {}) 100 (opsD wor_bk) (((opsD wor_bk).toList.drop 1).take 100) (frOf 59 (wor_LE 3)) (hOf 4 ((3, valB k v) :: wor_H0)) (wor_TE []) 59 (wor_LO 4) 5 (wor_HE 3 k v wor_H0) = true)
    (hO : runsL (withF E0 wor_F0) 400 ((wor_bk.drop 1).take 1) (frOf 59 (wor_LO 4)) (hOf 5 (wor_HE 3 k v wor_H0)) .n (wor_TE []) 59 wor_L0 6 (wor_G0 k v) = true)
    (hC : (mAll wor_TC (frOf 59 wor_L0) (hOf 6 (wor_G0 k v)) 59 wor_L0 4 wor_H1).isSome = true)
    {φ : Ren} {B : Nat} {a : Act} {w' : World} (hs : StAt φ B (frOf 59 wor_L0) (hOf 3 wor_H0) a w') (hd : a.defers = []) {ro rr next ri : Nat} {ln : Value} (hn : Named φ (wY ro rr next ri ln 0 0 0 [])) (h1 : ln.oneCell' = true)
    (hval : IsVal w' p) (hid : 1 ≤ p.1.id ∧ p.1.id ≤ 100000) (href : p.1.ref ≤ 100000) (key : Value) {Q : Act → World → Prop}
    (hQ : ∀ φ' a' w'' r, StAt φ' B (frOf 59 wor_L0) (hOf 4 wor_H1) a' w'' → a'.defers = [] → Named φ' (wY ro rr next ri ln 0 0 0 (oRow [(p.1, .slice (some ⟨r, 0, none⟩) 1 1)])) → GB B w' w'' → KeptC w' w'' mT → (∀ (x : Nat) mb s se l, w'.heap[x]? = some (.mapIter mb s se l) → w''.heap[x]? = some (.mapIter mb s se l)) →
      IsVal w'' (p.1, .slice (some ⟨r, 0, none⟩) 1 1) → Q a' w'') :
    wpListIn (W none) n E0.P (opsD wor_bk) (Exit.then (wpCs none n E0.P (fun ex a3 w3 => ex = .normal ∧ Q a3 w3) (wor_bk.drop 1)) (fun ex a3 w3 => ex = .normal ∧ Q a3 w3)) ((opsD wor_bk).toList.drop 1) (a.put (some 25) (.tuple #[key, oAgg p])) w' := by
  obtain ⟨n1, n2, n3, n4⟩ := hn
  have hrf : 1 ≤ rf p.1 ∧ rf p.1 ≤ 100000 := by unfold rf; split <;> omega
  obtain ⟨φ1, hs1, m1, m2, m3, m4⟩ := hs.resym wor_S0 (y := wY ro rr next ri ln 0 p.1.id (rf p.1) [])
    ⟨⟨(congrFun n1 3).symm, trivial⟩, ⟨⟨(congrFun n2 3).symm, rfl⟩, ⟨(congrFun n2 4).symm, rfl⟩, ⟨(congrFun n2 6).symm, h1⟩, ⟨(congrFun n2 8).symm, rfl⟩, trivial⟩, trivial, trivial⟩
  obtain ⟨r, hp2, hr⟩ := hval
  have s6 : φ1.s 6 = ((rf p.1 : Nat) : Int) := congrFun m1 6
  have hst := hs1.reveal hr rfl 99 .top (valB k v) (fun h => h) ⟨_, rfl, by
    rw [List.take_of_length_le (by rw [Array.length_toList, valC_size]; exact Nat.le_refl 4)]
    exact (hkn φ1 s6).1, by rw [valC_size]; exact Nat.le_refl 4, rfl⟩ (by simp only [VR])
  have s4 : (up φ1 3 r (valC p.1).size).s 4 = p.1.id := congrFun m1 4
  have hst2 := StAt.put (L := wor_L0) hst (d := 25) (by decide) (x := .t [.top, .a (wor_o 3)]) (v := .tuple #[key, oAgg p]) (by
    simp only [VR]
    refine ⟨_, rfl, VRs.cons (by simp only [VR]) (VRs.cons ?_ VRs.nil)⟩
    simp only [VR]
    refine ⟨_, rfl, VRs.cons (by simp only [VR, s4]) (VRs.cons vI (VRs.cons vI (VRs.cons ?_ VRs.nil)))⟩
    show VR _ _ p.2
    rw [hp2]; exact vSl rfl (by decide))
  have hte := wor_TE_ok (ro := ro) (rr := rr) (next := next) (ri := ri) (i := 0) (id := p.1.id) (ref := rf p.1) (row := []) h1 (wt := []) (.inl rfl)
  refine StAt.runO (withF_ok E0_ok {}) rfl 100 hE hst2 noFacts.bd' _ (hte.self' ⟨m1, m2, m3, m4⟩) fun φ3 a3 w3 hs3 hd3 hg3 hk3 m1 m2 m3 m4 => ?_
  show wpCs none n E0.P _ (wor_bk.drop 1) a3 w3
  have hd3' : a3.defers = [] := by rw [hd3]; exact hd
  refine StAt.runL (withF_ok E0_ok wor_F0) rfl 1 hO hs3 (FactsOK.bd' ?_) hd3' _ (hte.self' ⟨m1, m2, m3, m4⟩) fun φ' a' w'' hs' hd' hg' hk' e1 e2 e3 e4 => ⟨rfl, ?_⟩
  · have t4 : φ3.y.s 4 = p.1.id := congrFun m1 4
    have t6 : φ3.y.s 6 = rf p.1 := congrFun m1 6
    refine ⟨⟨⟨?_, ?_⟩, ⟨?_, ?_⟩, trivial⟩, trivial, trivial, trivial, trivial, trivial, trivial, trivial, trivial⟩
    · show (1 : Int) ≤ _; simp only [Ren.s, t4]; omega
    · show _ ≤ (100000 : Int); simp only [Ren.s, t4]; omega
    · show (1 : Int) ≤ _; simp only [Ren.s, t6]; omega
    · show _ ≤ (100000 : Int); simp only [Ren.s, t6]; omega
  · obtain ⟨r2, h2⟩ := hs'.ptr 3 rfl
    obtain ⟨c2, _, v2, _⟩ := hs'.hr.cellsL h2 (l := [.q 6, .sl (some (4, 0)) 1 (.un 4), nl, .y .i64 3]) rfl
    simp only [VRs, VR] at v2
    obtain ⟨_, _, _, _, _, _, _, ⟨r4, cap, h4, _⟩, _⟩ := v2
    obtain ⟨c4, g4, v4, z4, _, _⟩ := hs'.hr.cellsL h4 (l := wor_o 5) rfl
    obtain ⟨r5, hv4, hv5⟩ := wor_row hs'.hr hkn (congrFun e1 6) (congrFun e1 4) rfl v4
    have hag : Agree wor_TC φ' (hOf 6 (wor_G0 k v)) w'' (wY ro rr next ri ln 0 0 0 (oRow [(p.1, .slice (some ⟨r5, 0, none⟩) 1 1)])) := by
      refine mkAgree ⟨(congrFun e1 3).symm, trivial⟩ ⟨?_, ?_, ?_, ?_, trivial⟩ ⟨?_, trivial⟩ trivial
      · simp only [VR]; exact ⟨(congrFun e2 3).symm, rfl⟩
      · simp only [VR]; exact ⟨(congrFun e2 4).symm, rfl⟩
      · simp only [VR]; exact ⟨(congrFun e2 6).symm, h1⟩
      · simp only [VR]; exact ⟨(congrFun e2 8).symm, rfl⟩
      · intro r cs e hr hcs
        rw [h4] at hr; cases hr
        rw [g4] at hcs; cases hcs
        refine ⟨fun z l e h => ?_, fun l' e g h => ?_⟩
        · rw [hOf_get] at h; cases h
        · rw [hOf_get] at h; cases h
          rw [hv4]
          show oRow [_] = _
          simp [oRow]
    obtain ⟨φ2, hs2, j1, j2, j3, j4⟩ := hs'.conv hC _ hag
    exact hQ φ2 a' w'' r5 hs2 hd' ⟨j1, j2, j3, j4⟩ (hg3.trans hg') ((hk3.keptC rfl).trans (hk'.keptC rfl)) (fun x mb s se l h => hk'.i x mb s se l (hk3.i x mb s se l h)) hv5

end Go.Ev

/- Chains, part W: 'bench.world', its first loop. -/
namespace Go.Ev
open Go.Proofs

structure WCom (w w' : World) (bm ri : Nat) (m : Array MapEntry × Nat) (ln : Value) (de : List MapEntry) : Prop where
  gb : GB w.heap.size w w'
  it : w'.heap[ri]? = some (.mapIter (some bm) m.2 (de.map (·.born)).toArray m.2)
  sch : IsSch w' ln
  came : Came m.1 de
def WInv1 (w : World) (ps : List (O × Value)) (ro rr ri next : Nat) (ln : Value) : Nat → Act → World → Prop
  | 0, a, w' => ∃ φ, StAt φ w.heap.size (frOf 59 wor_L0) (hOf 3 wor_H0) a w' ∧ a.defers = [] ∧ Named φ (wY ro rr next ri ln 0 0 0 []) ∧ WCom w w' ro ri (omL ps) ln []
  | i + 1, a, w' => ∃ φ de lc, StAt φ w.heap.size (frOf 59 wor_L0) (hOf 4 wor_H1) a w' ∧ a.defers = [] ∧ Named φ (wY ro rr next ri ln 0 0 0 (oRow lc)) ∧ WCom w w' ro ri (omL ps) ln de ∧ de.length = i + 1 ∧ lc.map (·.1) = de.map (fun e => (oAt ps e).1) ∧ ∀ p ∈ lc, IsVal w' p

structure WCtx (w : World) (ps : List (O × Value)) (ro ri : Nat) : Prop where
  map : w.heap[ro]? = some (.map (omL ps).1 (omL ps).2)
  ri : w.heap.size ≤ ri
  vals : ∀ p ∈ ps, IsVal w p
  ids : ∀ p ∈ ps, 1 ≤ p.1.id ∧ p.1.id ≤ 100000
  refs : ∀ p ∈ ps, p.1.ref ≤ 100000
  ln : ps.length ≤ 100000

theorem push_map (de : List MapEntry) (e : MapEntry) : ((de.map (·.born)).toArray).push e.born = ((de ++ [e]).map (·.born)).toArray := by simp
theorem GB.isVal {B : Nat} {w w' : World} (h : GB B w w') (hb : B = w.heap.size) {p : O × Value} (hv : IsVal w p) : IsVal w' p := hv.kept fun _ _ ho => h.at_ hb ho

theorem wor_loop1 {n : Nat} {w : World} {ps : List (O × Value)} {ro rr ri next : Nat} {ln : Value} (C : WCtx w ps ro ri) (h1 : ln.oneCell' = true) (hne : ps ≠ []) {Q : Exit → Act → World → Prop} {a : Act} {w' : World} (h0 : WInv1 w ps ro rr ri next ln 0 a w')
    (hQ : ∀ φ' a' w'' lc, StAt φ' w.heap.size (frOf 59 wor_L0) (hOf 4 wor_H1) a' w'' → a'.defers = [] → Named φ' (wY ro rr next ri ln 0 0 0 (oRow lc)) → GB w.heap.size w w'' → IsSch w'' ln → (lc.map (·.1)).Perm (ps.map (·.1)) → (∀ p ∈ lc, IsVal w'' p) → wpCs none n E0.P Q (c25.drop 4) a' w'') : wpCs none n E0.P Q (c25.drop 3) a w' := by
  have hro : ro < w.heap.size := (Array.getElem?_eq_some_iff.1 C.map).1
  have hold : ∀ x ∈ (omL ps).1.toList, x.born < (omL ps).2 := fun x hx => (omL_at hx).2.2.2
  refine for_loop (id := 0) (b := (match c25.drop 3 with | .block _ (.loop b) :: _ => b | _ => .skip)) (rest := c25.drop 4) ps.length (WInv1 w ps ro rr ri next ln) ?_ ?_ h0
  · intro i a w' hi hinv
    show wpCs none n E0.P _ wor_rd a w'
    cases i with
    | zero =>
      obtain ⟨φ, hs, hd, hn, hc⟩ := hinv
      refine range_round (d1 := 23) (di := 24) (d2 := 25) (nt := 59) (z := 8) (L0 := wor_L0) (bk := wor_bk) (l2 := (opsD wor_bk).toList.drop 1) wor_r3 wor_b1 wor_r4 rfl rfl rfl rfl (by decide) rfl rfl rfl rfl rfl rfl wor_N0 rfl wor_I0 (Ts := mT) rfl hs hd (y := wY ro rr next ri ln 0 0 0 [])
        ⟨⟨rfl, trivial⟩, ⟨⟨rfl, rfl⟩, ⟨rfl, rfl⟩, ⟨rfl, h1⟩, ⟨rfl, rfl⟩, trivial⟩, trivial, trivial⟩ hn rfl hc.it (hc.gb.at_ rfl C.map) hro hold (omL_born ps) C.ri (fun h0 => ?_) ?_
      · have := hc.came.none (omL_born ps) h0
        rw [omL_size] at this
        exact hne (List.eq_nil_of_length_eq_zero (Nat.le_zero.1 this))
      · intro e he φ1 a1 w1 hs1 hd1 hn1 hg1 hk1 hit1
        obtain ⟨hcm, hem⟩ := hc.came.snoc he
        obtain ⟨ek, ev', ep, eb⟩ := omL_at hem
        have hval1 : IsVal w1 (oAt ps e) := (hc.gb.trans hg1).isVal rfl (C.vals _ ep)
        have fin : ∀ a' w'' r φ', StAt φ' w.heap.size (frOf 59 wor_L0) (hOf 4 wor_H1) a' w'' → a'.defers = [] → Named φ' (wY ro rr next ri ln 0 0 0 (oRow [((oAt ps e).1, .slice (some ⟨r, 0, none⟩) 1 1)])) → GB w.heap.size w1 w'' → KeptC w1 w'' mT → (∀ (x : Nat) mb s se l, w1.heap[x]? = some (.mapIter mb s se l) → w''.heap[x]? = some (.mapIter mb s se l)) →
            IsVal w'' ((oAt ps e).1, .slice (some ⟨r, 0, none⟩) 1 1) → WInv1 w ps ro rr ri next ln 1 a' w'' := fun a' w'' r φ' hs' hd' hn' hg' hk' hi' hv' =>
          ⟨φ', [e], [((oAt ps e).1, .slice (some ⟨r, 0, none⟩) 1 1)], hs', hd', hn', ⟨(hc.gb.trans hg1).trans hg', hi' _ _ _ _ _ hit1, (hc.sch.keptC hk1 (by decide) (by decide)).keptC hk' (by decide) (by decide), hcm⟩, rfl, rfl, fun p hp => by
            simp only [List.mem_singleton] at hp; subst hp; exact hv'⟩
        rw [ev']
        by_cases href : (oAt ps e).1.ref = 0
        · exact wor_body0 (KN_N href) wor_E0N wor_O0N wor_C0N hs1 hd1 hn1 h1 hval1 (C.ids _ ep) (C.refs _ ep) e.key (Q := fun a3 w3 => Exit.normal = .normal ∧ WInv1 w ps ro rr ri next ln (0 + 1) a3 w3) fun φ' a' w'' r hs' hd' hn' hg' hk' hi' hv' => ⟨rfl, fin a' w'' r φ' hs' hd' hn' hg' hk' hi' hv'⟩
        · exact wor_body0 (KN_Y href) wor_E0Y wor_O0Y wor_C0Y hs1 hd1 hn1 h1 hval1 (C.ids _ ep) (C.refs _ ep) e.key (Q := fun a3 w3 => Exit.normal = .normal ∧ WInv1 w ps ro rr ri next ln (0 + 1) a3 w3) fun φ' a' w'' r hs' hd' hn' hg' hk' hi' hv' => ⟨rfl, fin a' w'' r φ' hs' hd' hn' hg' hk' hi' hv'⟩
    | succ i =>
      obtain ⟨φ, de, lc, hs, hd, hn, hc, hdl, hlc, hvs⟩ := hinv
      have hlen : lc.length = i + 1 := by have := congrArg List.length hlc; simpa [hdl] using this
      refine range_round (d1 := 23) (di := 24) (d2 := 25) (nt := 59) (z := 8) (L0 := wor_L0) (bk := wor_bk) (l2 := (opsD wor_bk).toList.drop 1) wor_r3 wor_b1 wor_r4 rfl rfl rfl rfl (by decide) rfl rfl rfl rfl rfl rfl wor_N1 rfl wor_I1 (Ts := mT) rfl hs hd (y := wY ro rr next ri ln 0 0 0 (oRow lc))
        ⟨⟨rfl, trivial⟩, ⟨⟨rfl, rfl⟩, ⟨rfl, rfl⟩, ⟨rfl, h1⟩, ⟨rfl, rfl⟩, trivial⟩, ⟨rfl, trivial⟩, trivial⟩ hn rfl hc.it (hc.gb.at_ rfl C.map) hro hold (omL_born ps) C.ri (fun h0 => ?_) ?_
      · have := hc.came.none (omL_born ps) h0
        rw [omL_size] at this
        omega
      · intro e he φ1 a1 w1 hs1 hd1 hn1 hg1 hk1 hit1
        obtain ⟨hcm, hem⟩ := hc.came.snoc he
        obtain ⟨ek, ev', ep, eb⟩ := omL_at hem
        have hval1 : IsVal w1 (oAt ps e) := (hc.gb.trans hg1).isVal rfl (C.vals _ ep)
        have hlcb : lc.length ≤ 100000 := by have := C.ln; omega
        have fin : ∀ a' w'' r φ', StAt φ' w.heap.size (frOf 59 wor_L0) (hOf 4 wor_H1) a' w'' → a'.defers = [] → Named φ' (wY ro rr next ri ln 0 0 0 (oRow (lc ++ [((oAt ps e).1, .slice (some ⟨r, 0, none⟩) 1 1)]))) → GB w.heap.size w1 w'' → KeptC w1 w'' mT → (∀ (x : Nat) mb s se l, w1.heap[x]? = some (.mapIter mb s se l) → w''.heap[x]? = some (.mapIter mb s se l)) →
            IsVal w'' ((oAt ps e).1, .slice (some ⟨r, 0, none⟩) 1 1) → WInv1 w ps ro rr ri next ln (i + 1 + 1) a' w'' := fun a' w'' r φ' hs' hd' hn' hg' hk' hi' hv' =>
          ⟨φ', de ++ [e], lc ++ [((oAt ps e).1, .slice (some ⟨r, 0, none⟩) 1 1)], hs', hd', hn', ⟨(hc.gb.trans hg1).trans hg', by rw [← push_map]; exact hi' _ _ _ _ _ hit1, (hc.sch.keptC hk1 (by decide) (by decide)).keptC hk' (by decide) (by decide), hcm⟩, by simp [hdl], by simp [hlc], fun p hp => by
            rcases List.mem_append.1 hp with hp | hp
            · exact ((hvs p hp).keptC hk1 (by decide)).keptC hk' (by decide)
            · simp only [List.mem_singleton] at hp; subst hp; exact hv'⟩
        rw [ev']
        by_cases href : (oAt ps e).1.ref = 0
        · exact wor_body1 (KN_N href) wor_E1N wor_O1N wor_C1N hs1 hd1 hn1 h1 hval1 (C.ids _ ep) (C.refs _ ep) hlcb e.key (Q := fun a3 w3 => Exit.normal = .normal ∧ WInv1 w ps ro rr ri next ln (i + 1 + 1) a3 w3) fun φ' a' w'' r hs' hd' hn' hg' hk' hi' hv' => ⟨rfl, fin a' w'' r φ' hs' hd' hn' hg' hk' hi' hv'⟩
        · exact wor_body1 (KN_Y href) wor_E1Y wor_O1Y wor_C1Y hs1 hd1 hn1 h1 hval1 (C.ids _ ep) (C.refs _ ep) hlcb e.key (Q := fun a3 w3 => Exit.normal = .normal ∧ WInv1 w ps ro rr ri next ln (i + 1 + 1) a3 w3) fun φ' a' w'' r hs' hd' hn' hg' hk' hi' hv' => ⟨rfl, fin a' w'' r φ' hs' hd' hn' hg' hk' hi' hv'⟩
  · intro a w' hinv
    show wpCs none n E0.P _ wor_rd a w'
    obtain ⟨m, hm⟩ : ∃ m, ps.length = m + 1 := ⟨ps.length - 1, by have := List.length_pos_iff.2 hne; omega⟩
    rw [hm] at hinv
    obtain ⟨φ, de, lc, hs, hd, hn, hc, hdl, hlc, hvs⟩ := hinv
    refine range_end (d1 := 23) (di := 24) (nt := 59) (z := 8) (id := 0) (L0 := wor_L0) wor_r3 rfl rfl rfl rfl (by decide) rfl wor_NE rfl wor_IE (Ts := mT) rfl hs hd (y := wY ro rr next ri ln 0 0 0 (oRow lc))
        ⟨⟨rfl, trivial⟩, ⟨⟨rfl, rfl⟩, ⟨rfl, rfl⟩, ⟨rfl, h1⟩, ⟨rfl, rfl⟩, trivial⟩, ⟨rfl, trivial⟩, trivial⟩ hn rfl hc.it (hc.gb.at_ rfl C.map) hold C.ri (fun e he => ?_) ?_
    · have h1 := (hc.came.snoc he).1.length_le
      rw [omL_size] at h1
      simp at h1
      omega
    · intro φ' a' w'' hs' hd' hn' hg' hk'
      refine hQ φ' a' w'' lc hs' hd' hn' (hc.gb.trans hg') (hc.sch.keptC hk' (by decide) (by decide)) ?_ fun p hp => (hvs p hp).keptC hk' (by decide)
      have hperm := hc.came.perm (by rw [omL_size]; omega)
      rw [hlc]
      have := (hperm.map (oAt ps)).map (·.1)
      rw [omL_map, List.map_map] at this
      exact this

end Go.Ev
