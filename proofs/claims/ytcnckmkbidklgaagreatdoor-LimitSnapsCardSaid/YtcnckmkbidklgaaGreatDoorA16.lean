/- Chains, part Ac: the evaluator with obj.Right told by its contract. -/
import Derived.Test.YtcnckmkbidklgaaGreatDoorA15
import Derived.Test.YtcnckmkbidklgaaGreatDoorA14
namespace Go.Ev
open Go.Proofs

def cellsB (T : TypeId) : Blk → Option (List V)
  | .cells l e _ => cond (Nat.beq e T) (some l) none
  | .rc l e => cond (Nat.beq e T) (some l) none
  | _ => none
theorem cellsB_ok {φ : Ren} {h : H} {w : World} (hr : HR φ h w) {b r : Nat} (hb : φ b = some r) {T : TypeId} {l : List V} (e : cellsB T (h.get b) = some l) : ∃ c, w.heap[r]? = some (.cells c T (0, 0)) ∧ VRs φ l (c.toList.take l.length) := by
  cases hg : h.get b with
  | cells l' e' g =>
    rw [hg] at e
    simp only [cellsB] at e
    cases hq : Nat.beq e' T with
    | false => rw [hq] at e; cases e
    | true =>
      rw [hq] at e
      simp only [cond, Option.some.injEq] at e
      subst e
      have := Nat.eq_of_beq_eq_true hq
      subst this
      obtain ⟨o, h1, h2⟩ := hr.blk b r hb (by rw [hg]; trivial)
      rw [hg] at h2
      obtain ⟨c, rfl, h3, _⟩ := h2
      exact ⟨c, h1, h3⟩
  | rc l' e' =>
    rw [hg] at e
    simp only [cellsB] at e
    cases hq : Nat.beq e' T with
    | false => rw [hq] at e; cases e
    | true =>
      rw [hq] at e
      simp only [cond, Option.some.injEq] at e
      subst e
      have := Nat.eq_of_beq_eq_true hq
      subst this
      obtain ⟨o, h1, h2⟩ := hr.blk b r hb (by rw [hg]; trivial)
      rw [hg] at h2
      obtain ⟨c, rfl, h3, _⟩ := h2
      exact ⟨c, h1, h3⟩
  | _ => rw [hg] at e; cases e

/-- A slice of one, over a block of one of a type. -/
def oneB (T : TypeId) (h : H) : V → Option (List V)
  | .sl (some (b, o)) n (.kn c) => cond (Nat.beq o 0 && Nat.beq n 1 && Nat.beq c 1) (cellsB T (h.get b)) none
  | _ => none
theorem oneB_ok {φ : Ren} {h : H} {w : World} (hr : HR φ h w) {T : TypeId} {x : V} {l : List V} (e : oneB T h x = some l) {u : Value} (hu : VR φ x u) : ∃ r c, u = .slice (some ⟨r, 0, none⟩) 1 1 ∧ w.heap[r]? = some (.cells c T (0, 0)) ∧ VRs φ l (c.toList.take l.length) := by
  unfold oneB at e
  split at e
  · rename_i b o n c
    cases hq : Nat.beq o 0 && Nat.beq n 1 && Nat.beq c 1 with
    | false => rw [hq] at e; cases e
    | true =>
      rw [hq] at e
      simp only [Bool.and_eq_true] at hq
      have h1 := Nat.eq_of_beq_eq_true hq.1.1
      have h2 := Nat.eq_of_beq_eq_true hq.1.2
      have h3 := Nat.eq_of_beq_eq_true hq.2
      subst h1; subst h2; subst h3
      simp only [VR] at hu
      obtain ⟨r, hb, _, rfl⟩ := hu
      obtain ⟨c, g1, g2⟩ := cellsB_ok hr hb e
      exact ⟨r, c, rfl, g1, g2⟩
  · cases e

def nlV : V := .sl none 0 (.kn 0)
def isFld (h : H) (x : V) : Bool :=
  match oneB 65 h x with
  | some [a, b, c, d] => same a (.s nextName) && same b (.i .i64 3) && same c (.i .i64 0) && same d (.b false)
  | _ => false
def isSchV (h : H) (x : V) : Bool :=
  match oneB 68 h x with
  | some [a, b, c] => same a (.s cName) && isFld h b && same c nlV
  | _ => false
theorem isSchV_ok {φ : Ren} {h : H} {w : World} (hr : HR φ h w) {x : V} (e : isSchV h x = true) {u : Value} (hu : VR φ x u) : IsSch w u := by
  unfold isSchV at e
  split at e
  · rename_i a b c e1
    simp only [Bool.and_eq_true] at e
    obtain ⟨r1, c1, rfl, g1, v1⟩ := oneB_ok hr e1 hu
    have ea := same_ok _ _ e.1.1
    have ec := same_ok _ _ e.2
    subst ea; subst ec
    simp only [nlV, VRs, VR] at v1
    obtain ⟨_, _, q1, ⟨rfl, _⟩, ub, _, rfl, hb, _, _, rfl, ⟨_, rfl⟩, rfl⟩ := v1
    have e2 := e.1.2
    unfold isFld at e2
    split at e2
    · rename_i a2 b2 c2 d2 e3
      obtain ⟨r0, c0, rfl, g0, v0⟩ := oneB_ok hr e3 hb
      simp only [Bool.and_eq_true] at e2
      have f1 := same_ok _ _ e2.1.1.1
      have f2 := same_ok _ _ e2.1.1.2
      have f3 := same_ok _ _ e2.1.2
      have f4 := same_ok _ _ e2.2
      subst f1; subst f2; subst f3; subst f4
      simp only [VRs, VR] at v0
      obtain ⟨_, _, q0, ⟨rfl, _⟩, _, _, rfl, rfl, _, _, rfl, rfl, _, _, rfl, rfl, rfl⟩ := v0
      exact ⟨r1, r0, c1, c0, rfl, g0, g1, q0, q1⟩
    · cases e2
  · cases e

def bdY (bd : Nat → Option (Int × Int)) : V → Bool
  | .y k x => same (.y k x) (.y .i64 x) &&
    match bd x with
    | some (lo, hi) => sameI lo 1 && sameI hi 100000
    | none => false
  | _ => false
theorem bdY_ok {bd : Nat → Option (Int × Int)} {φ : Ren} (hbd : ∀ x lo hi, bd x = some (lo, hi) → lo ≤ φ.s x ∧ φ.s x ≤ hi) {x : V} (e : bdY bd x = true) {u : Value} (hu : VR φ x u) : ∃ n : Nat, u = .int .i64 n ∧ 1 ≤ n ∧ n ≤ 100000 := by
  unfold bdY at e
  split at e
  · rename_i k x
    simp only [Bool.and_eq_true] at e
    have ek := same_ok _ _ e.1
    cases ek
    simp only [VR] at hu
    have e2 := e.2
    split at e2
    · rename_i lo hi hb
      simp only [Bool.and_eq_true] at e2
      have := hbd _ _ _ hb
      rw [sameI_ok e2.1, sameI_ok e2.2] at this
      refine ⟨(φ.s x).toNat, ?_, by omega, by omega⟩
      rw [hu]; congr 1; omega
    · cases e2
  · cases e
def isValV (bd : Nat → Option (Int × Int)) (h : H) (x : V) : Bool :=
  match oneB 70 h x with
  | some [k, v, s, z] => same s (.s []) && same z nlV && ((same k (.i .i64 0) && same v (.i .i64 0)) || (same k (.i .i64 3) && bdY bd v))
  | _ => false
theorem isValV_ok {bd : Nat → Option (Int × Int)} {φ : Ren} (hbd : ∀ x lo hi, bd x = some (lo, hi) → lo ≤ φ.s x ∧ φ.s x ≤ hi) {h : H} {w : World} (hr : HR φ h w) {x : V} (e : isValV bd h x = true) {u : Value} (hu : VR φ x u) (id : Nat) : ∃ ref, ref ≤ 100000 ∧ IsValT w (⟨id, ref⟩, u) := by
  unfold isValV at e
  split at e
  · rename_i k v s z e1
    obtain ⟨r, c, rfl, g, vs⟩ := oneB_ok hr e1 hu
    simp only [Bool.and_eq_true, Bool.or_eq_true] at e
    have f1 := same_ok _ _ e.1.1
    have f2 := same_ok _ _ e.1.2
    subst f1; subst f2
    simp only [nlV, VRs] at vs
    obtain ⟨uk, _, q, hk, uv, _, rfl, hv, us, _, rfl, hs, uz, _, rfl, hz, rfl⟩ := vs
    simp only [VR] at hs hz
    obtain ⟨rfl, _⟩ := hs
    obtain ⟨_, rfl⟩ := hz
    rcases e.2 with h2 | h2
    · have f3 := same_ok _ _ h2.1
      have f4 := same_ok _ _ h2.2
      subst f3; subst f4
      simp only [VR] at hk hv
      subst hk; subst hv
      exact ⟨0, Nat.zero_le _, r, c, rfl, g, by simpa [valC] using q⟩
    · have f3 := same_ok _ _ h2.1
      subst f3
      simp only [VR] at hk
      subst hk
      obtain ⟨m, rfl, hm1, hm2⟩ := bdY_ok hbd h2.2 hv
      refine ⟨m, hm2, r, c, rfl, g, ?_⟩
      have : m ≠ 0 := by omega
      simpa [valC, this] using q
  · cases e

def qh1 (bd : Nat → Option (Int × Int)) (f : FuncId) (args : List V) (h : H) : Option V :=
  cond (Nat.beq f 61)
    (match args with
     | [.a [s], .a [x, c, v, vals]] => cond (isSchV h s && bdY bd x && same c (.i .i64 0) && same v (.i .i64 0) && isValV bd h vals) (some (.b true)) none
     | _ => none) none
noncomputable def E1 : Env := { E0 with qh := qh1 }
theorem E1_ok : E1.OK := by
  refine ⟨E0_ok.ty, E0_ok.fn, E0_ok.mixed, E0_ok.hl, ?_, E0_ok.eh⟩
  intro bd f args h v e0 φ w args' hbd ha hr
  have e : qh1 bd f args h = some v := e0
  clear e0
  unfold qh1 at e
  cases hf : Nat.beq f 61 with
  | false => rw [hf] at e; cases e
  | true =>
    rw [hf] at e
    have := Nat.eq_of_beq_eq_true hf
    subst this
    refine ⟨⟨_, _, Tryz.func61, rfl, rfl⟩, fun n => ?_⟩
    simp only [cond] at e
    split at e
    · rename_i s x c v' vals
      cases hq : isSchV h s && bdY bd x && same c (.i .i64 0) && same v' (.i .i64 0) && isValV bd h vals with
      | false => rw [hq] at e; cases e
      | true =>
        rw [hq] at e
        cases e
        simp only [Bool.and_eq_true] at hq
        obtain ⟨⟨⟨⟨q1, q2⟩, q3⟩, q4⟩, q5⟩ := hq
        have f3 := same_ok _ _ q3
        have f4 := same_ok _ _ q4
        subst f3; subst f4
        simp only [VRs, VR] at ha
        obtain ⟨_, _, rfl, ⟨cs, rfl, us, _, e1, hus, rfl⟩, _, _, rfl, ⟨cs2, rfl, ux, _, e2, hux, _, _, rfl, rfl, _, _, rfl, rfl, uv, _, rfl, huv, rfl⟩, rfl⟩ := ha
        obtain ⟨m, rfl, hm1, hm2⟩ := bdY_ok hbd q2 hux
        obtain ⟨ref, hr1, hr2⟩ := isValV_ok hbd hr q5 huv m
        have hcs : cs = #[us] := Array.toList_inj.1 e1
        have hcs2 : cs2 = (oCells (⟨m, ref⟩, uv)).toArray := Array.toList_inj.1 e2
        subst hcs; subst hcs2
        refine (right_ok (n := n) (p := (⟨m, ref⟩, uv)) (isSchV_ok hr q1 hus) hr2 ⟨hm1, hm2⟩ hr1).mono ?_
        rintro e w' ⟨u, rfl, rfl, hg⟩
        exact ⟨_, rfl, by simp only [VR], hg⟩
    · cases e

end Go.Ev

/- The abstract machine, part Ze: runs that tell where some blocks lie; growth that keeps where blocks lie. -/
namespace Go.Ev

def idsOK (σ : Bd) : List (Nat × Nat) → Bool
  | [] => true
  | (b, c) :: l => (match lk σ b with | some c' => Nat.beq c' c | none => false) && idsOK σ l
theorem idsOK_ok {σ : Bd} : ∀ {l : List (Nat × Nat)}, idsOK σ l = true → ∀ p ∈ l, lk σ p.1 = some p.2
  | (b, c) :: l, h, p, hp => by
    simp only [idsOK, Bool.and_eq_true] at h
    rcases List.mem_cons.1 hp with rfl | hp
    · have h1 := h.1
      split at h1
      · rename_i c' hc
        rw [Nat.eq_of_beq_eq_true h1] at hc
        exact hc
      · cases h1
    · exact idsOK_ok h.2 p hp

def runsLk (E : Env) (k : Nat) (cs : List Code) (fr : Fr) (h : H) (x : X) (tb : Tab) (nt : Nat) (L : List (Nat × V)) (nb : Nat) (HB : List (Nat × Blk)) (ids : List (Nat × Nat)) : Bool :=
  plainT tb &&
  match execX E k cs fr h with
  | some (x', fr', h') => sameX x x' &&
    match mAll tb fr' h' nt L nb HB with
    | some σ => idsOK σ ids
    | none => false
  | none => false

/-- **Some statements, from a state to a state**; some blocks lie where they lay. -/
theorem StAt.runLk {E : Env} (hE : E.OK) (hng : E.ng = 0) (m : Nat) {k : Nat} {cs : List Code} {fr : Fr} {nb0 : Nat} {HB0 : List (Nat × Blk)} {x : X} {tb : Tab} {nt : Nat} {L : List (Nat × V)} {nb : Nat} {HB : List (Nat × Blk)} {ids : List (Nat × Nat)} (hc : runsLk E k (cs.take m) fr (hOf nb0 HB0) x tb nt L nb HB ids = true)
    {φ : Ren} {B : Nat} {a : Act} {w : World} {n : Nat} (hs : StAt φ B fr (hOf nb0 HB0) a w) (hbd : BD E φ) (hd : a.defers = []) (y : Sym) (hy : AgreeS tb φ.y y) {Q : Exit → Act → World → Prop}
    (hQ : ∀ φ' a' w', StAt φ' B (frOf nt L) (hOf nb HB) a' w' → a'.defers = [] → GB B w w' → KeepT HB0 w w' → φ'.s = y.s → φ'.q = y.q → φ'.w = y.w → φ'.g = y.g → (∀ p ∈ ids, ∀ r, φ p.2 = some r → φ' p.1 = some r) → Exit.then (wpCs none n E.P Q (cs.drop m)) Q x.exit a' w') : wpCs none n E.P Q cs a w := by
  simp only [runsLk, Bool.and_eq_true] at hc
  obtain ⟨hp, hc⟩ := hc
  split at hc
  · rename_i x' fr' h' hex
    simp only [Bool.and_eq_true] at hc
    have hx := sameX_ok hc.1
    subst hx
    have hc2 := hc.2
    split at hc2
    · rename_i σ e
      have := execX_ok hE (n := n) (Q := Q) (cs.drop m) (cs.take m) fr (hOf nb0 HB0) x fr' h' hex φ a w (by rw [hng]; exact fun g hg => by omega) hbd hs.fr hd hs.hr fun φ' a' w' hxt hf' hd' hr' => by
        obtain ⟨hgb, hloc⟩ := hs.after hxt hr'
        have hst := conv_ok e hf' hr' hloc (Nat.le_trans hs.bz hxt.size) y (hy.agree hp hxt.le.yy h' w')
        refine hQ _ a' w' hst hd' hgb (hs.keepT hxt hr') rfl rfl rfl rfl fun p hp r hr => ?_
        show (lk σ p.1).bind φ'.f = some r
        rw [idsOK_ok hc2 p hp]
        exact (hxt.le.at_ _ _ hr).1
      rwa [List.take_append_drop] at this
    · cases hc2
  · cases hc

/-- Memory grows, and blocks lie where they lay. -/
theorem StAt.growE {φ : Ren} {B : Nat} {fr : Fr} {h : H} {a : Act} {w w' : World} (hs : StAt φ B fr h a w) (hg : Grown w w') :
    ∃ φ', StAt φ' B fr h a w' ∧ φ'.s = φ.s ∧ φ'.q = φ.q ∧ φ'.w = φ.w ∧ φ'.g = φ.g ∧ (∀ b, φ' b = φ b) ∧ φ'.n = φ.n := by
  let φ' : Ren := { φ with y := { φ.y with k := fun x => if x < w.heap.size then φ.y.k x else w'.heap[x]? } }
  have hq : Eqv φ φ' := ⟨rfl, rfl, rfl, rfl, rfl, rfl⟩
  refine ⟨φ', ⟨hq.frr hs.fr, ⟨hs.hr.cnt, fun b s es => ?_, fun b s es hl => ?_, hs.hr.inj, fun s o hk => ?_⟩, hs.loc, fun s hs' => ?_, Nat.le_trans hs.bz hg.size⟩, rfl, rfl, rfl, rfl, fun _ => rfl, rfl⟩
  · have := hs.hr.dom b s es
    exact ⟨this.1, Nat.lt_of_lt_of_le this.2 hg.size⟩
  · obtain ⟨o, h1, h2⟩ := hs.hr.blk b s es hl
    refine ⟨o, ?_, hq.br h2⟩
    rw [hg.same s (hs.hr.dom b s es).2]; exact h1
  · have hk : (if s < w.heap.size then φ.y.k s else w'.heap[s]?) = some o := hk
    by_cases hlt : s < w.heap.size
    · rw [if_pos hlt] at hk
      have := hs.hr.kp s o hk
      exact ⟨by rw [hg.same s hlt]; exact this.1, this.2⟩
    · rw [if_neg hlt] at hk
      refine ⟨hk, fun b es hm => ?_⟩
      exact hlt (hs.hr.dom b s es).2
  · show (if s < w.heap.size then φ.y.k s else w'.heap[s]?) = _
    by_cases hlt : s < w.heap.size
    · rw [if_pos hlt, hg.same s hlt]; exact hs.kf s hs'
    · rw [if_neg hlt]

end Go.Ev

/- Chains, part Ad: 'Apply', the rounds of its loop. -/
namespace Go.Ev
open Go.Proofs

def app_HH (vw ob rt : Blk) : List (Nat × Blk) := [(9, .rw 3 45), (8, app_ways), (7, ben_bench), (6, ben_book), (5, rt), (4, ob), (3, vw), (2, ben_L), (1, ben_F), (0, zW)]
def ob0 : Blk := .smp 1 (.int .i64) []
def rt0 : Blk := .smp 2 .string []
def app_vw : List (Nat × Blk) := [(10, .cells [.s cName, .sl (some (12, 0)) 1 (.kn 1), .sl none 0 (.kn 0)] 68 false), (11, .cells [.s cName, .sl (some (12, 0)) 1 (.kn 1), .sl none 0 (.kn 0)] 68 false), (12, .cells [.s nextName, .i .i64 3, .i .i64 0, .b false] 65 false)]
def app_view : Blk := .mp [(.a [.i .i64 0, .i .i64 0], .a [.b true, .sl (some (10, 0)) 1 (.kn 1), .sl (some (11, 0)) 1 (.kn 1)], 0)] 1
def app_HE (ob rt : Blk) : List (Nat × Blk) := app_HH (.mp [] 0) ob rt
def app_HF (ob rt : Blk) : List (Nat × Blk) := app_HH app_view ob rt ++ app_vw
theorem app_H0_eq : app_H0 = app_HE ob0 rt0 := rfl
theorem app_S1 : selfOK app_T0 77 app_L0 13 (app_HF ob0 rt0) = true := by decide +kernel
/-- An object is put. -/
def obP (b : Nat) : Blk := .smp 1 (.int .i64) [(.y .i64 4, some (.a (wor_o b)))]
def app_GP (k v : V) : List (Nat × Blk) := app_HF (obP 13) rt0 ++ [(13, valB k v)]
def app_TP : Tab := { s := [(0, .y 9), (1, .y 1), (3, .y 7), (4, .y 4), (6, .y 6)], w := [(3, .same 3)], g := [(1, .same 1), (2, .same 2)] }
theorem app_PEY : runsLk (withF E1 (app_FP 10)) 400 (app_rd.take 100) (frOf 77 app_L0) (hOf 11 ((10, valB kY vY) :: app_HE ob0 rt0)) .n app_TP 77 app_L0 14 (app_GP kY vY) [(13, 10)] = true := by decide +kernel
theorem app_PEN : runsLk (withF E1 (app_FP 10)) 400 (app_rd.take 100) (frOf 77 app_L0) (hOf 11 ((10, valB kN kN) :: app_HE ob0 rt0)) .n app_TP 77 app_L0 14 (app_GP kN kN) [(13, 10)] = true := by decide +kernel
theorem app_PFY : runsLk (withF E1 (app_FP 13)) 400 (app_rd.take 100) (frOf 77 app_L0) (hOf 14 ((13, valB kY vY) :: app_HF ob0 rt0)) .n app_TP 77 app_L0 14 (app_GP kY vY) [(13, 13)] = true := by decide +kernel
theorem app_PFN : runsLk (withF E1 (app_FP 13)) 400 (app_rd.take 100) (frOf 77 app_L0) (hOf 14 ((13, valB kN kN) :: app_HF ob0 rt0)) .n app_TP 77 app_L0 14 (app_GP kN kN) [(13, 13)] = true := by decide +kernel
def app_TPc : Tab := { s := [(0, .y 0), (1, .y 1), (3, .y 3)], w := [(3, .same 3)], g := [(1, .fold 4), (2, .same 2)] }
theorem app_PCY : (mAll app_TPc (frOf 77 app_L0) (hOf 14 (app_GP kY vY)) 77 app_L0 13 (app_HF ob0 rt0)).isSome = true := by decide +kernel
theorem app_PCN : (mAll app_TPc (frOf 77 app_L0) (hOf 14 (app_GP kN kN)) 77 app_L0 13 (app_HF ob0 rt0)).isSome = true := by decide +kernel
/-- A root is set, or goes. -/
def app_FS : Facts := app_FR (recV (.i .i64 2) (.i .i64 0) nl (.y .i64 4) (.q 8)) [(4, 1, 100000)] [] [] [8] [(34, [.q 8], .b true)]
def app_FD : Facts := app_FR (recV (.i .i64 2) (.i .i64 0) nl (.i .i64 0) (.q 8)) [] [] [] [8] [(34, [.q 8], .b true)]
def app_FN : Facts := app_FR (recV (.i .i64 5) (.i .i64 0) nl (.y .i64 4) (.q 8)) [(4, 0, 1)] [] [] [8] [(34, [.q 8], .b true)]
def rtS : Blk := .smp 2 .string [(.q 8, some (.y .i64 4))]
def rtD : Blk := .smp 2 .string [(.q 8, none)]
def app_TR : Tab := { s := [(0, .y 9), (1, .y 1), (3, .y 3), (4, .y 4)], q := [(8, .q 8)], w := [(3, .same 3)], g := [(1, .same 1), (2, .same 2)] }
theorem app_SE : runsL (withF E1 app_FS) 400 (app_rd.take 100) (frOf 77 app_L0) (hOf 10 (app_HE ob0 rt0)) .n app_TR 77 app_L0 10 (app_HE ob0 rtS) = true := by decide +kernel
theorem app_SF : runsL (withF E1 app_FS) 400 (app_rd.take 100) (frOf 77 app_L0) (hOf 13 (app_HF ob0 rt0)) .n app_TR 77 app_L0 13 (app_HF ob0 rtS) = true := by decide +kernel
theorem app_DE : runsL (withF E1 app_FD) 400 (app_rd.take 100) (frOf 77 app_L0) (hOf 10 (app_HE ob0 rt0)) .n app_TR 77 app_L0 10 (app_HE ob0 rtD) = true := by decide +kernel
theorem app_DF : runsL (withF E1 app_FD) 400 (app_rd.take 100) (frOf 77 app_L0) (hOf 13 (app_HF ob0 rt0)) .n app_TR 77 app_L0 13 (app_HF ob0 rtD) = true := by decide +kernel
theorem app_NE : runsL (withF E1 app_FN) 400 (app_rd.take 100) (frOf 77 app_L0) (hOf 10 (app_HE ob0 rt0)) .n app_TR 77 app_L0 10 (app_HE ob0 rt0) = true := by decide +kernel
theorem app_NF : runsL (withF E1 app_FN) 400 (app_rd.take 100) (frOf 77 app_L0) (hOf 13 (app_HF ob0 rt0)) .n app_TR 77 app_L0 13 (app_HF ob0 rt0) = true := by decide +kernel
def app_TRc : Tab := { s := [(0, .y 0), (1, .y 1), (3, .y 3)], w := [(3, .same 3)], g := [(1, .same 1), (2, .fold 5)] }
theorem app_SEc : (mAll app_TRc (frOf 77 app_L0) (hOf 10 (app_HE ob0 rtS)) 77 app_L0 10 (app_HE ob0 rt0)).isSome = true := by decide +kernel
theorem app_SFc : (mAll app_TRc (frOf 77 app_L0) (hOf 13 (app_HF ob0 rtS)) 77 app_L0 13 (app_HF ob0 rt0)).isSome = true := by decide +kernel
theorem app_DEc : (mAll app_TRc (frOf 77 app_L0) (hOf 10 (app_HE ob0 rtD)) 77 app_L0 10 (app_HE ob0 rt0)).isSome = true := by decide +kernel
theorem app_DFc : (mAll app_TRc (frOf 77 app_L0) (hOf 13 (app_HF ob0 rtD)) 77 app_L0 13 (app_HF ob0 rt0)).isSome = true := by decide +kernel
/-- The loop's end. -/
def app_FX : Facts := { bin := [(.lss, .y .i64 0, .y .i64 1, .b false)] }
theorem app_XE : runsL (withF E1 app_FX) 100 (app_rd.take 100) (frOf 77 app_L0) (hOf 10 (app_HE ob0 rt0)) (.e 0) app_T0 77 app_L0 10 (app_HE ob0 rt0) = true := by decide +kernel
theorem app_XF : runsL (withF E1 app_FX) 100 (app_rd.take 100) (frOf 77 app_L0) (hOf 13 (app_HF ob0 rt0)) (.e 0) app_T0 77 app_L0 13 (app_HF ob0 rt0) = true := by decide +kernel

end Go.Ev

/- Chains, part Ae: records, and what they do to a bench. -/
namespace Go.Ev
open Go.Proofs

/-- A record: an object that is put, a root (none: 0), a snapshot. -/
inductive R where
  | put (o : O)
  | root (nm : ByteArray) (id : Nat)
  | snap (nm : ByteArray) (id : Nat)
def em : Value := .string (bytes [])
def ze : Value := .int .i64 0
def nilS : Value := .slice none 0 0
def recC (k : Int) (oid : Nat) (vals : Value) (id : Nat) (nm : Value) : List Value := [.int .i64 k, .int .i64 oid, ze, ze, vals, .int .i64 id, ze, nm, em, nilS, ze, em, em, em, ze, ze, em, em]
def recCells : R × Value → List Value
  | (.put o, v) => recC 1 o.id v 0 em
  | (.root nm id, _) => recC 2 0 nilS id (.string nm)
  | (.snap nm id, _) => recC 5 0 nilS id (.string nm)
def recRow (l : List (R × Value)) : List Value := l.flatMap recCells
theorem recCells_len (r : R × Value) : (recCells r).length = 18 := by
  obtain ⟨r, v⟩ := r
  cases r <;> rfl
theorem recRow_len (l : List (R × Value)) : (recRow l).length = l.length * 18 := flatMap_len recCells_len l
theorem recRow_at {l : List (R × Value)} {i : Nat} {p : R × Value} (h : l[i]? = some p) : ((recRow l).drop (i * 18)).take 18 = recCells p := flatMap_at recCells_len l i p h

/-- A record that is right. -/
def ROK (w : World) : R × Value → Prop
  | (.put o, v) => IsVal w (o, v) ∧ (1 ≤ o.id ∧ o.id ≤ 100000) ∧ o.ref ≤ 100000
  | (.root nm id, _) => RN nm ∧ id ≤ 100000
  | (.snap nm id, _) => RN nm ∧ id ≤ 1

def putO (l : List (O × Value)) (p : O × Value) : List (O × Value) := if p.1.id ∈ l.map (·.1.id) then l.map (fun q => if q.1.id = p.1.id then p else q) else l ++ [p]
def hasR (l : List (ByteArray × Nat)) (nm : ByteArray) : Bool := l.any fun q => decide (q.1 = nm)
theorem hasR_iff {l : List (ByteArray × Nat)} {nm : ByteArray} : hasR l nm = true ↔ nm ∈ l.map (·.1) := by
  simp [hasR, List.any_eq_true]
def setR (l : List (ByteArray × Nat)) (nm : ByteArray) (id : Nat) : List (ByteArray × Nat) := if hasR l nm = true then l.map (fun q => if q.1 = nm then (nm, id) else q) else l ++ [(nm, id)]
def delR (l : List (ByteArray × Nat)) (nm : ByteArray) : List (ByteArray × Nat) := l.filter (fun q => decide (q.1 ≠ nm))
structure Bst where
  objs : List (O × Value)
  roots : List (ByteArray × Nat)
  next : Nat
def Bst.step (s : Bst) : R × Value → Bst
  | (.put o, v) => ⟨putO s.objs (o, v), s.roots, max s.next (o.id + 1)⟩
  | (.root nm id, _) => ⟨s.objs, if id = 0 then delR s.roots nm else setR s.roots nm id, s.next⟩
  | (.snap _ _, _) => s
def Bst.run (s : Bst) (l : List (R × Value)) : Bst := l.foldl Bst.step s

structure BstOK (w : World) (s : Bst) : Prop where
  vals : ∀ p ∈ s.objs, IsVal w p
  ids : ∀ p ∈ s.objs, 1 ≤ p.1.id ∧ p.1.id ≤ 100000
  refs : ∀ p ∈ s.objs, p.1.ref ≤ 100000
  nd : (s.objs.map (·.1.id)).Nodup
  rnd : (s.roots.map (·.1)).Nodup
  rids : ∀ q ∈ s.roots, 1 ≤ q.2 ∧ q.2 ≤ 100000
  rn : ∀ q ∈ s.roots, RN q.1
  nx : 1 ≤ s.next ∧ s.next ≤ 100001
  lt : ∀ p ∈ s.objs, p.1.id < s.next

theorem putO_mem {l : List (O × Value)} {p q : O × Value} (h : q ∈ putO l p) : q = p ∨ q ∈ l := by
  unfold putO at h
  split at h
  · obtain ⟨x, hx, rfl⟩ := List.mem_map.1 h
    split
    · exact .inl rfl
    · exact .inr hx
  · rcases List.mem_append.1 h with h | h
    · exact .inr h
    · simp at h; exact .inl h
theorem putO_ids {l : List (O × Value)} {p : O × Value} : (putO l p).map (·.1.id) = if p.1.id ∈ l.map (·.1.id) then l.map (·.1.id) else l.map (·.1.id) ++ [p.1.id] := by
  unfold putO
  split
  · rw [List.map_map]
    apply List.map_congr_left
    intro x _
    simp only [Function.comp]
    split
    · rename_i h; exact h.symm
    · rfl
  · simp
theorem setR_mem {l : List (ByteArray × Nat)} {nm : ByteArray} {id : Nat} {q : ByteArray × Nat} (h : q ∈ setR l nm id) : q = (nm, id) ∨ q ∈ l := by
  unfold setR at h
  split at h
  · obtain ⟨x, hx, rfl⟩ := List.mem_map.1 h
    split
    · exact .inl rfl
    · exact .inr hx
  · rcases List.mem_append.1 h with h | h
    · exact .inr h
    · simp at h; exact .inl h
theorem setR_names {l : List (ByteArray × Nat)} {nm : ByteArray} {id : Nat} : (setR l nm id).map (·.1) = if hasR l nm = true then l.map (·.1) else l.map (·.1) ++ [nm] := by
  unfold setR
  split
  · rw [List.map_map]
    apply List.map_congr_left
    intro x _
    simp only [Function.comp]
    split
    · rename_i h; exact h.symm
    · rfl
  · simp
theorem nodup_add {α : Type} [DecidableEq α] {l : List α} (h : l.Nodup) (x : α) : (if x ∈ l then l else l ++ [x]).Nodup := by
  split
  · exact h
  · rename_i hx
    rw [List.nodup_append]
    refine ⟨h, by simp, fun a ha b hb e => ?_⟩
    simp at hb; subst hb; subst e
    exact hx ha
theorem BstOK.step {w : World} {s : Bst} (h : BstOK w s) {r : R × Value} (hr : ROK w r) : BstOK w (s.step r) := by
  obtain ⟨r, v⟩ := r
  cases r with
  | put o =>
    obtain ⟨h1, h2, h3⟩ := hr
    refine ⟨fun p hp => ?_, fun p hp => ?_, fun p hp => ?_, ?_, h.rnd, h.rids, h.rn, ?_, fun p hp => ?_⟩
    · rcases putO_mem hp with rfl | hp
      · exact h1
      · exact h.vals p hp
    · rcases putO_mem hp with rfl | hp
      · exact h2
      · exact h.ids p hp
    · rcases putO_mem hp with rfl | hp
      · exact h3
      · exact h.refs p hp
    · show ((putO s.objs (o, v)).map (·.1.id)).Nodup
      rw [putO_ids]; exact nodup_add h.nd _
    · have := h.nx
      show 1 ≤ max s.next (o.id + 1) ∧ max s.next (o.id + 1) ≤ 100001
      omega
    · show p.1.id < max s.next (o.id + 1)
      rcases putO_mem hp with rfl | hp
      · show o.id < _; omega
      · have := h.lt p hp; omega
  | root nm id =>
    obtain ⟨h1, h2⟩ := hr
    by_cases h0 : id = 0
    · have e : s.step (.root nm id, v) = ⟨s.objs, delR s.roots nm, s.next⟩ := by simp [Bst.step, h0]
      rw [e]
      refine ⟨h.vals, h.ids, h.refs, h.nd, ?_, fun q hq => h.rids q (List.mem_filter.1 hq).1, fun q hq => h.rn q (List.mem_filter.1 hq).1, h.nx, h.lt⟩
      exact h.rnd.sublist ((List.filter_sublist (l := s.roots)).map _)
    · have e : s.step (.root nm id, v) = ⟨s.objs, setR s.roots nm id, s.next⟩ := by simp [Bst.step, h0]
      rw [e]
      refine ⟨h.vals, h.ids, h.refs, h.nd, ?_, fun q hq => ?_, fun q hq => ?_, h.nx, h.lt⟩
      · show ((setR s.roots nm id).map (·.1)).Nodup
        rw [setR_names]
        split
        · exact h.rnd
        · rename_i hx
          rw [List.nodup_append]
          refine ⟨h.rnd, by simp, fun a ha b hb hab => ?_⟩
          simp at hb; subst hb; subst hab
          exact hx (hasR_iff.2 ha)
      · rcases setR_mem hq with rfl | hq
        · exact ⟨by show 1 ≤ id; omega, h2⟩
        · exact h.rids q hq
      · rcases setR_mem hq with rfl | hq
        · exact h1
        · exact h.rn q hq
  | snap nm id => exact h
theorem BstOK.run {w : World} : ∀ {l : List (R × Value)} {s : Bst}, BstOK w s → (∀ r ∈ l, ROK w r) → BstOK w (s.run l)
  | [], _, h, _ => h
  | r :: l, s, h, hl => BstOK.run (l := l) (h.step (hl r List.mem_cons_self)) fun r' h' => hl r' (List.mem_cons_of_mem _ h')
theorem run_snoc (s : Bst) (l : List (R × Value)) (r : R × Value) : s.run (l ++ [r]) = (s.run l).step r := by simp [Bst.run]

/-! ### The maps -/
theorem nodup_at {α β : Type} {f : α → β} {l : List α} (h : (l.map f).Nodup) {i j : Nat} {x y : α} (hi : l[i]? = some x) (hj : l[j]? = some y) (e : f x = f y) : i = j := by
  have hi' : i < l.length := (List.getElem?_eq_some_iff.1 hi).1
  exact (List.getElem?_inj (l := l.map f) (i := i) (j := j) (by simpa using hi') h).1 (by simp [hi, hj, e])
theorem omL_mset {l : List (O × Value)} (h : (l.map (·.1.id)).Nodup) (p : O × Value) : mset (.int .i64) (omL l) (.int .i64 p.1.id) (oAgg p) = omL (putO l p) := by
  unfold mset
  rcases MapKept.findNow_spec (d := .int .i64) (k := .int .i64 p.1.id) rfl (omL l).1.toList 0 (fun x hx => by rw [(omL_at hx).1]; exact rfl) with ⟨h1, h2⟩ | ⟨j, e, h1, h2, h3⟩
  · rw [h1]
    have hn : p.1.id ∉ l.map (·.1.id) := fun hm => by
      obtain ⟨q, hq, e⟩ := List.mem_map.1 hm
      obtain ⟨i, hi, rfl⟩ := List.getElem_of_mem hq
      exact h2 (oent i l[i]) (by simp only [omL, List.mem_mapIdx]; exact ⟨i, hi, rfl⟩) (by simp [oent, e])
    simp [putO, hn, omL, List.mapIdx_append, oent]
  · rw [h1]
    have h2' : (l.mapIdx oent)[j]? = some e := h2
    rw [List.getElem?_mapIdx] at h2'
    cases hj : l[j]? with
    | none => rw [hj] at h2'; cases h2'
    | some q =>
      rw [hj] at h2'
      cases h2'
      simp only [oent, Value.int.injEq, true_and, Int.natCast_inj] at h3
      have hm : p.1.id ∈ l.map (·.1.id) := List.mem_map.2 ⟨q, List.mem_of_getElem? hj, h3⟩
      simp only [putO, hm, if_true, Nat.zero_add]
      unfold omL
      refine Prod.ext ?_ (by simp)
      apply Array.ext_getElem?
      intro i
      simp only [Array.getElem?_modify, List.getElem?_toArray, List.getElem?_mapIdx, List.getElem?_map]
      cases hi : l[i]? with
      | none => simp
      | some x =>
        by_cases hij : j = i
        · subst hij
          rw [hj] at hi; cases hi
          simp [h3, oent]
        · have : x.1.id ≠ p.1.id := fun e => hij (nodup_at h hj hi (by rw [h3, e]))
          simp [hij, this]

/-! ### The map of roots -/
theorem RM.key {m : Array MapEntry × Nat} {rs : List (ByteArray × Nat)} (M : RM m rs) : ∀ x ∈ m.1.toList, MapKept.IsKey .string x.key := fun x hx => by rw [(M.at_ hx).1]; trivial
theorem RM.get {m : Array MapEntry × Nat} {rs : List (ByteArray × Nat)} (M : RM m rs) {j : Nat} {e : MapEntry} (h : m.1.toList[j]? = some e) : rs[j]? = some (rAt e) := by
  have := congrArg (·[j]?) M.map
  simp only [List.getElem?_map, h, Option.map_some] at this
  exact this.symm
theorem RM.set {m : Array MapEntry × Nat} {rs : List (ByteArray × Nat)} (M : RM m rs) (hn : (rs.map (·.1)).Nodup) (nm : ByteArray) (id : Nat) : RM (mset .string m (.string nm) (.int .i64 id)) (setR rs nm id) := by
  unfold mset
  rcases MapKept.findNow_spec (d := .string) (k := .string nm) trivial m.1.toList 0 M.key with ⟨h1, h2⟩ | ⟨j, e, h1, h2, h3⟩
  · rw [h1]
    have hno : hasR rs nm ≠ true := fun hm => by
      obtain ⟨q, hq, e⟩ := List.mem_map.1 (hasR_iff.1 hm)
      rw [← M.map] at hq
      obtain ⟨x, hx, rfl⟩ := List.mem_map.1 hq
      exact h2 x hx (by rw [(M.at_ hx).1, e])
    refine ⟨?_, fun x hx => ?_, ?_⟩
    · rw [Array.toList_push, List.map_append, M.ent, setR, if_neg hno, List.map_append]
      rfl
    · simp only [Array.toList_push, List.mem_append, List.mem_singleton] at hx
      show x.born < m.2 + 1
      rcases hx with hx | rfl
      · have := M.old x hx; omega
      · exact Nat.lt_succ_self _
    · simp only [Array.toList_push, List.map_append, List.nodup_append]
      refine ⟨M.nd, by simp, fun a ha b hb e => ?_⟩
      obtain ⟨x, hx, rfl⟩ := List.mem_map.1 ha
      simp at hb
      have := M.old x hx
      omega
  · rw [h1]
    simp only [Nat.zero_add]
    have hj := M.get h2
    have hr : (rAt e).1 = nm := by
      have := (M.at_ (List.mem_of_getElem? h2)).1
      rw [h3] at this
      exact (Value.string.inj this).symm
    have hyes : hasR rs nm = true := hasR_iff.2 (List.mem_map.2 ⟨_, List.mem_of_getElem? hj, hr⟩)
    have hl : (m.1.modify j fun e => { e with key := .string nm, val := .int .i64 id }).toList = m.1.toList.modify j (fun e => { e with key := .string nm, val := .int .i64 id }) := by simp
    have hat : ∀ i, (m.1.toList.modify j (fun e => { e with key := .string nm, val := .int .i64 (id : Int) }))[i]? = (m.1.toList[i]?).map fun e => if j = i then { e with key := .string nm, val := .int .i64 id } else e := fun i => by
      rw [List.getElem?_modify]
      by_cases hij : j = i
      · simp [hij]
      · simp only [hij, if_false]; cases m.1.toList[i]? <;> rfl
    refine ⟨?_, fun x hx => ?_, ?_⟩
    · rw [hl]
      apply List.ext_getElem?
      intro i
      simp only [setR, hyes, if_true, List.getElem?_map, hat]
      have hent := congrArg (·[i]?) M.ent
      simp only [List.getElem?_map] at hent
      cases hi : m.1.toList[i]? with
      | none =>
        rw [hi] at hent
        cases hri : rs[i]? with
        | none => rfl
        | some q => rw [hri] at hent; cases hent
      | some x =>
        have hxi := M.get hi
        rw [hxi]
        simp only [Option.map_some]
        by_cases hij : j = i
        · subst hij
          rw [h2] at hi; cases hi
          simp [hr, rPair]
        · have hne : (rAt x).1 ≠ nm := fun e => hij (nodup_at hn hj hxi (by rw [hr, e]))
          simp only [hij, if_false, hne]
          rw [hi, hxi] at hent
          exact hent
    · rw [hl] at hx
      obtain ⟨i, hi⟩ := List.getElem?_of_mem hx
      rw [hat] at hi
      cases hmi : m.1.toList[i]? with
      | none => rw [hmi] at hi; cases hi
      | some z =>
        rw [hmi] at hi
        have := M.old z (List.mem_of_getElem? hmi)
        simp only [Option.map_some, Option.some.injEq] at hi
        subst hi
        split <;> exact this
    · rw [hl]
      have : (m.1.toList.modify j (fun e => { e with key := .string nm, val := .int .i64 (id : Int) })).map (·.born) = m.1.toList.map (·.born) := by
        apply List.ext_getElem?
        intro i
        rw [List.getElem?_map, List.getElem?_map, hat]
        cases m.1.toList[i]? with
        | none => rfl
        | some z =>
          simp only [Option.map_some]
          split <;> rfl
      rw [this]; exact M.nd
theorem filter_erase {α : Type} {l : List α} {p : α → Bool} {j : Nat} (hj : ∀ i x, l[i]? = some x → (p x = true ↔ i ≠ j)) : l.filter p = l.eraseIdx j := by
  induction l generalizing j with
  | nil => rfl
  | cons a l ih =>
    cases j with
    | zero =>
      have h0 : p a = false := by
        have := hj 0 a rfl
        cases hp : p a with
        | false => rfl
        | true => exact absurd rfl (this.1 hp)
      rw [List.filter_cons_of_neg (by simp [h0])]
      simp only [List.eraseIdx_cons_zero]
      rw [List.filter_eq_self]
      intro x hx
      obtain ⟨i, hi⟩ := List.getElem?_of_mem hx
      exact (hj (i + 1) x (by simpa using hi)).2 (by omega)
    | succ j =>
      have h0 : p a = true := (hj 0 a rfl).2 (by omega)
      rw [List.filter_cons_of_pos h0, List.eraseIdx_cons_succ, ih]
      intro i x hi
      have := hj (i + 1) x (by simpa using hi)
      rw [this]; omega
theorem map_erase {α β : Type} (f : α → β) : ∀ (l : List α) (j : Nat), (l.eraseIdx j).map f = (l.map f).eraseIdx j
  | [], _ => rfl
  | _ :: _, 0 => rfl
  | a :: l, j + 1 => by simp [map_erase f l j]
theorem RM.del {m : Array MapEntry × Nat} {rs : List (ByteArray × Nat)} (M : RM m rs) (hn : (rs.map (·.1)).Nodup) (nm : ByteArray) : RM (mdel .string m (.string nm)) (delR rs nm) := by
  unfold mdel
  rcases MapKept.findNow_spec (d := .string) (k := .string nm) trivial m.1.toList 0 M.key with ⟨h1, h2⟩ | ⟨j, e, h1, h2, h3⟩
  · rw [h1]
    have : delR rs nm = rs := by
      unfold delR
      rw [List.filter_eq_self]
      intro q hq
      simp only [decide_eq_true_eq]
      intro hqe
      rw [← M.map] at hq
      obtain ⟨x, hx, rfl⟩ := List.mem_map.1 hq
      exact h2 x hx (by rw [(M.at_ hx).1, hqe])
    rw [this]; exact M
  · rw [h1]
    simp only [Nat.zero_add]
    have hj := M.get h2
    have hr : (rAt e).1 = nm := by
      have := (M.at_ (List.mem_of_getElem? h2)).1
      rw [h3] at this
      exact (Value.string.inj this).symm
    have hd : delR rs nm = rs.eraseIdx j := filter_erase fun i x hi => by
      simp only [decide_eq_true_eq]
      constructor
      · rintro h rfl
        rw [hj] at hi; cases hi
        exact h hr
      · intro h e'
        exact h (nodup_at hn hi hj (by rw [e', hr]))
    have hl : (m.1.eraseIdxIfInBounds j).toList = m.1.toList.eraseIdx j := by
      have hlt : j < m.1.size := by simpa using (List.getElem?_eq_some_iff.1 h2).1
      rw [Array.eraseIdxIfInBounds, dif_pos hlt]; simp
    have hsub : List.Sublist (m.1.toList.eraseIdx j) m.1.toList := List.eraseIdx_sublist _ _
    refine ⟨?_, fun x hx => ?_, ?_⟩
    · rw [hl, hd, map_erase, map_erase, M.ent]
    · rw [hl] at hx
      exact M.old x (hsub.subset hx)
    · rw [hl]
      exact M.nd.sublist (hsub.map _)

end Go.Ev

/- Chains, part Af: 'Apply', its loop. -/
namespace Go.Ev
open Go.Proofs

def aY (i n next : Nat) (row : List Value) (mo mr : Array MapEntry × Nat) : Sym := mkY [i, n, 0, next] [] [[], [], [], row] [(#[], 0), mo, mr]
def aYx (i n next id ref : Nat) (nm : Value) (row : List Value) (mo mr : Array MapEntry × Nat) : Sym :=
  mkY [i, n, 0, next, id, (id + 1 : Nat), ref, (max next (id + 1) : Nat), 0, (i + 1 : Nat)] [.bool false, .bool false, .bool false, .bool false, .bool false, .bool false, .bool false, .bool false, nm] [[], [], [], row] [(#[], 0), mo, mr]

theorem app_FR_ok {φ : Ren} {rl : List (R × Value)} {i : Nat} {r : R × Value} (hri : rl[i]? = some r) (hn : rl.length ≤ 100000) (s0 : φ.y.s 0 = i) (s1 : φ.y.s 1 = rl.length) (s9 : φ.y.s 9 = (i + 1 : Nat)) (hw : φ.w 3 = recRow rl) {rv : List V} (hrv : VRs φ rv (recCells r)) (hlen : rv.length = 18)
    {bd : List (Nat × Int × Int)} {bn : List (BinOp × V × V × V)} {mx : List (V × V × V)} {qs : List Nat} {qc : List (FuncId × List V × V)}
    (h1 : AllL (fun e : Nat × Int × Int => e.2.1 ≤ φ.s e.1 ∧ φ.s e.1 ≤ e.2.2) bd) (h2 : AllL (fun e : BinOp × V × V × V => BinF φ.y e.1 e.2.1 e.2.2.1 e.2.2.2) bn)
    (h3 : AllL (fun e : V × V × V => ∃ k x y, ival φ.y e.1 = some (k, x) ∧ ival φ.y e.2.1 = some (k, y) ∧ ival φ.y e.2.2 = some (k, if y > x then y else x)) mx) (h4 : AllL (fun x => ∃ s, φ.q x = .string s) qs)
    (h5 : AllL (fun e : FuncId × List V × V => ∀ φ', Le φ φ' → ∀ args', VRs φ' e.2.1 args' → Quiet Tryz.prog φ.y.k e.1 args' fun u => VR φ' e.2.2 u) qc) : FactsOK Tryz.prog (app_FR rv bd bn mx qs qc) φ := by
  have hi : i < rl.length := (List.getElem?_eq_some_iff.1 hri).1
  refine ⟨h1, ⟨?_, ?_, h2⟩, h3, trivial, ⟨⟨(by show 0 < 18; decide), hlen, i, s0, ?_, ?_⟩, trivial⟩, h4, trivial, trivial, h5⟩
  · exact .lss (k := .i64) (x := i) (y := rl.length) (by simp only [ival, s0]) (by simp only [ival, s1]) (by simp; omega)
  · exact .add (k := .i64) (x := i) (y := 1) (by simp only [ival, s0]) rfl (by simp only [ival, s9]; rfl) (i64_in (by omega))
  · show (i + 1) * 18 ≤ (φ.w 3).length
    rw [hw, recRow_len]; omega
  · show VRs φ rv (((φ.w 3).drop (i * 18)).take 18)
    rw [hw, recRow_at hri]; exact hrv

theorem vrec {φ : Ren} {k oid vals id nm : V} {k' : Int} {oid' : Nat} {vals' : Value} {id' : Nat} {nm' : Value} (h1 : VR φ k (.int .i64 k')) (h2 : VR φ oid (.int .i64 oid')) (h3 : VR φ vals vals') (h4 : VR φ id (.int .i64 id')) (h5 : VR φ nm nm') : VRs φ (recV k oid vals id nm) (recC k' oid' vals' id' nm') :=
  VRs.cons h1 (VRs.cons h2 (VRs.cons vI (VRs.cons vI (VRs.cons h3 (VRs.cons h4 (VRs.cons vI (VRs.cons h5 (VRs.cons (vS (by simp)) (VRs.cons vN (VRs.cons vI (VRs.cons (vS (by simp)) (VRs.cons (vS (by simp)) (VRs.cons (vS (by simp)) (VRs.cons vI (VRs.cons vI (VRs.cons (vS (by simp)) (VRs.cons (vS (by simp)) VRs.nil)))))))))))))))))

theorem app_put {n : Nat} {w : World} {rl : List (R × Value)} {s : Bst} {i : Nat} {o : O} {v : Value} {k vV : V} {nb : Nat} {HB : List (Nat × Blk)} (hself : selfOK app_T0 77 app_L0 nb HB = true) (hsub : subH 99 .top HB = HB) (hno : noT 70 HB = true) (hkn : KN k vV o)
    (hrun : runsLk (withF E1 (app_FP nb)) 400 (app_rd.take 100) (frOf 77 app_L0) (hOf (nb + 1) ((nb, valB k vV) :: HB)) .n app_TP 77 app_L0 14 (app_GP k vV) [(13, nb)] = true)
    (hconv : (mAll app_TPc (frOf 77 app_L0) (hOf 14 (app_GP k vV)) 77 app_L0 13 (app_HF ob0 rt0)).isSome = true) (hri : rl[i]? = some (.put o, v)) (hn : rl.length ≤ 100000) (hval : IsVal w (o, v)) (hid : 1 ≤ o.id ∧ o.id ≤ 100000) (href : o.ref ≤ 100000) (hnx : s.next ≤ 100001) (hnd : (s.objs.map (·.1.id)).Nodup)
    {φ : Ren} {mr : Array MapEntry × Nat} {a : Act} {w' : World} (hs : StAt φ w.heap.size (frOf 77 app_L0) (hOf nb HB) a w') (hd : a.defers = []) (hg : GB w.heap.size w w') (hnm : Named φ (aY i rl.length s.next (recRow rl) (omL s.objs) mr)) {Q : Act → World → Prop}
    (hQ : ∀ φ' a' w'', StAt φ' w.heap.size (frOf 77 app_L0) (hOf 13 (app_HF ob0 rt0)) a' w'' → a'.defers = [] → GB w.heap.size w w'' → Named φ' (aY (i + 1) rl.length (max s.next (o.id + 1)) (recRow rl) (omL (putO s.objs (o, v))) mr) → Q a' w'') :
    wpCs none n E0.P (fun e a' w'' => e = .normal ∧ Q a' w'') app_rd a w' := by
  obtain ⟨n1, n2, n3, n4⟩ := hnm
  have hrf : 1 ≤ rf o ∧ rf o ≤ 100000 := by unfold rf; split <;> omega
  obtain ⟨φ1, hs1, m1, m2, m3, m4⟩ := hs.resym hself (y := aYx i rl.length s.next o.id (rf o) (.bool false) (recRow rl) (omL s.objs) mr)
    ⟨⟨(congrFun n1 0).symm, (congrFun n1 1).symm, (congrFun n1 3).symm, trivial⟩, trivial, ⟨(congrFun n3 3).symm, trivial⟩, ⟨(congrFun n4 1).symm, (congrFun n4 2).symm, trivial⟩⟩
  obtain ⟨r, hp2, hr⟩ := hval
  have hr' := hg.at_ rfl hr
  have s6 : φ1.s 6 = ((rf o : Nat) : Int) := congrFun m1 6
  have hst := hs1.reveal hr' hno 99 .top (valB k vV) (fun h => h) ⟨_, rfl, by
    rw [List.take_of_length_le (by rw [Array.length_toList, valC_size]; exact Nat.le_refl 4)]
    exact (hkn φ1 s6).1, by rw [valC_size]; exact Nat.le_refl 4, rfl⟩ (by simp only [VR])
  rw [hsub] at hst
  have hup : (up φ1 nb r (valC o).size) nb = some r := by simp [up]
  refine StAt.runLk (withF_ok E1_ok (app_FP nb)) rfl 100 (cs := app_rd) hrun hst (FactsOK.bd' ?_) hd (mkY [(i + 1 : Nat), rl.length, 0, (max s.next (o.id + 1) : Nat), o.id, 0, rf o] [] [[], [], [], recRow rl] [(#[], 0), omL s.objs, mr]) ?_ fun φ' a' w'' hs' hd' hg' hk' e1 e2 e3 e4 hids => ⟨rfl, ?_⟩
  · have t3 : φ1.y.s 3 = s.next := congrFun m1 3
    have t4 : φ1.y.s 4 = o.id := congrFun m1 4
    have t5 : φ1.y.s 5 = ((o.id + 1 : Nat) : Int) := congrFun m1 5
    have t7 : φ1.y.s 7 = ((max s.next (o.id + 1) : Nat) : Int) := congrFun m1 7
    refine app_FR_ok (φ := up φ1 nb r (valC o).size) hri hn (congrFun m1 0) (congrFun m1 1) (congrFun m1 9) (congrFun m3 3) (vrec vI (by simp only [VR]; exact congrArg _ t4.symm) ?_ vI (vS (by simp))) rfl ⟨⟨?_, ?_⟩, ⟨?_, ?_⟩, trivial⟩ ⟨?_, trivial⟩ ⟨⟨.i64, s.next, (o.id + 1 : Nat), ?_, ?_, ?_⟩, trivial⟩ trivial trivial
    · show VR _ _ v
      have hp2' : v = .slice (some ⟨r, 0, none⟩) 1 1 := hp2
      rw [hp2']; exact vSl hup (by decide)
    · show (1 : Int) ≤ φ1.y.s 4; rw [t4]; omega
    · show φ1.y.s 4 ≤ (100000 : Int); rw [t4]; omega
    · show (1 : Int) ≤ φ1.y.s 6; have : φ1.y.s 6 = ((rf o : Nat) : Int) := s6
      rw [this]; omega
    · show φ1.y.s 6 ≤ (100000 : Int); have : φ1.y.s 6 = ((rf o : Nat) : Int) := s6
      rw [this]; omega
    · exact .add (k := .i64) (x := o.id) (y := 1) (by show some (IntKind.i64, φ1.y.s 4) = _; rw [t4]) rfl (by show some (IntKind.i64, φ1.y.s 5) = _; rw [t5]; rfl) (i64_in (by omega))
    · show some (IntKind.i64, φ1.y.s 3) = _; rw [t3]
    · show some (IntKind.i64, φ1.y.s 5) = _; rw [t5]
    · show some (IntKind.i64, φ1.y.s 7) = _
      rw [t7]
      congr 2
      split <;> omega
  · exact Ag.agreeS (o := aYx i rl.length s.next o.id (rf o) (.bool false) (recRow rl) (omL s.objs) mr) ⟨⟨rfl, rfl, rfl, rfl, rfl, trivial⟩, trivial, ⟨rfl, trivial⟩, ⟨rfl, rfl, trivial⟩⟩ m1 m2 m3 m4
  · have h13 : φ' 13 = some r := hids (13, nb) (by simp) r hup
    have hag : Agree app_TPc φ' (hOf 14 (app_GP k vV)) w'' (aY (i + 1) rl.length (max s.next (o.id + 1)) (recRow rl) (omL (putO s.objs (o, v))) mr) := by
      refine mkAgree ⟨(congrFun e1 0).symm, (congrFun e1 1).symm, (congrFun e1 3).symm, trivial⟩ trivial ⟨(congrFun e3 3).symm, trivial⟩ ⟨?_, (congrFun e4 2).symm, trivial⟩
      intro r4 es m hr4 hes
      obtain ⟨es', c', g7, mu, _⟩ := hs'.hr.smpL hr4 (x := 1) (d := .int .i64) (us := [(.y .i64 4, some (.a (wor_o 13)))]) rfl
      rw [hes] at g7; cases g7
      simp only [MU, wor_o, VR, VRs] at mu
      obtain ⟨_, _, rfl, ⟨cs, rfl, _, _, q1, rfl, _, _, rfl, rfl, _, _, rfl, rfl, _, _, rfl, ⟨r13, hr13, _, rfl⟩, rfl⟩, _, mu⟩ := mu
      rw [h13] at hr13; cases hr13
      rw [mu]
      have g1 : φ'.g 1 = omL s.objs := congrFun e4 1
      have t4 : φ'.s 4 = o.id := congrFun e1 4
      rw [t4] at q1
      rw [g1, t4]
      show omL (putO s.objs (o, v)) = _
      rw [← omL_mset hnd]
      have hp2' : v = .slice (some ⟨r, 0, none⟩) 1 1 := hp2
      have : cs = (oCells (o, v)).toArray := Array.toList_inj.1 (by rw [q1, hp2']; rfl)
      rw [this]
      rfl
    obtain ⟨φ2, hs2, j1, j2, j3, j4⟩ := hs'.conv hconv _ hag
    exact hQ φ2 a' w'' hs2 hd' (hg.trans hg') ⟨j1, j2, j3, j4⟩

theorem quietN {φ : Ren} {nm : ByteArray} (h : RN nm) (hq : φ.q 8 = .string nm) : AllL (fun e : FuncId × List V × V => ∀ φ', Le φ φ' → ∀ args', VRs φ' e.2.1 args' → Quiet Tryz.prog φ.y.k e.1 args' fun u => VR φ' e.2.2 u) [(34, [.q 8], .b true)] := by
  refine ⟨fun φ' hle args' ha => ?_, trivial⟩
  simp only [VRs, VR] at ha
  obtain ⟨_, _, rfl, ⟨rfl, _⟩, rfl⟩ := ha
  rw [hle.qy, hq]
  exact quietE (h _) fun v hv => by simp only [VR]; exact hv

theorem app_rt {n : Nat} {w : World} {rl : List (R × Value)} {s : Bst} {i : Nat} {r : R × Value} {nb : Nat} {HB HB' : List (Nat × Blk)} {id : Nat} {nm : ByteArray} {rv : List V} {bd : List (Nat × Int × Int)} (hself : selfOK app_T0 77 app_L0 nb HB = true)
    (hrun : runsL (withF E1 (app_FR rv bd [] [] [8] [(34, [.q 8], .b true)])) 400 (app_rd.take 100) (frOf 77 app_L0) (hOf nb HB) .n app_TR 77 app_L0 nb HB' = true) (hri : rl[i]? = some r) (hn : rl.length ≤ 100000) (hrn : RN nm)
    (hrv : ∀ φ : Ren, φ.s 4 = id → φ.q 8 = .string nm → VRs φ rv (recCells r)) (hlen : rv.length = 18) (hbd : ∀ φ : Ren, φ.s 4 = id → AllL (fun e : Nat × Int × Int => e.2.1 ≤ φ.s e.1 ∧ φ.s e.1 ≤ e.2.2) bd)
    {φ : Ren} {mr : Array MapEntry × Nat} {a : Act} {w' : World} (hs : StAt φ w.heap.size (frOf 77 app_L0) (hOf nb HB) a w') (hd : a.defers = []) (hg : GB w.heap.size w w') (hnm : Named φ (aY i rl.length s.next (recRow rl) (omL s.objs) mr)) {Q : Act → World → Prop}
    (hQ : ∀ φ' a' w'', StAt φ' w.heap.size (frOf 77 app_L0) (hOf nb HB') a' w'' → a'.defers = [] → GB w.heap.size w w'' → Named φ' (mkY [(i + 1 : Nat), rl.length, 0, s.next, id] [.bool false, .bool false, .bool false, .bool false, .bool false, .bool false, .bool false, .bool false, .string nm] [[], [], [], recRow rl] [(#[], 0), omL s.objs, mr]) → Q a' w'') :
    wpCs none n E0.P (fun e a' w'' => e = .normal ∧ Q a' w'') app_rd a w' := by
  obtain ⟨n1, n2, n3, n4⟩ := hnm
  obtain ⟨φ1, hs1, m1, m2, m3, m4⟩ := hs.resym hself (y := aYx i rl.length s.next id 0 (.string nm) (recRow rl) (omL s.objs) mr)
    ⟨⟨(congrFun n1 0).symm, (congrFun n1 1).symm, (congrFun n1 3).symm, trivial⟩, trivial, ⟨(congrFun n3 3).symm, trivial⟩, ⟨(congrFun n4 1).symm, (congrFun n4 2).symm, trivial⟩⟩
  have q8 : φ1.q 8 = .string nm := congrFun m2 8
  have s4 : φ1.s 4 = id := congrFun m1 4
  refine StAt.runL (withF_ok E1_ok _) rfl 100 (cs := app_rd) hrun hs1 (FactsOK.bd' (app_FR_ok hri hn (congrFun m1 0) (congrFun m1 1) (congrFun m1 9) (congrFun m3 3) (hrv φ1 s4 q8) hlen (hbd φ1 s4) trivial trivial ⟨⟨nm, q8⟩, trivial⟩ (quietN hrn q8))) hd _ ?_ fun φ' a' w'' hs' hd' hg' hk' e1 e2 e3 e4 => ⟨rfl, hQ φ' a' w'' hs' hd' (hg.trans hg') ⟨e1, e2, e3, e4⟩⟩
  exact Ag.agreeS (o := aYx i rl.length s.next id 0 (.string nm) (recRow rl) (omL s.objs) mr) ⟨⟨rfl, rfl, rfl, rfl, trivial⟩, ⟨⟨rfl, rfl⟩, trivial⟩, ⟨rfl, trivial⟩, ⟨rfl, rfl, trivial⟩⟩ m1 m2 m3 m4

/-- The roots' map is named anew. -/
theorem app_fold {B : Nat} {nb : Nat} {HB HB' : List (Nat × Blk)} {us : List (V × Option V)} (h5 : lkB HB' 5 = .smp 2 .string us) (hconv : (mAll app_TRc (frOf 77 app_L0) (hOf nb HB') 77 app_L0 nb HB).isSome = true) {φ : Ren} {a : Act} {w : World} (hs : StAt φ B (frOf 77 app_L0) (hOf nb HB') a w) {i n next : Nat} {id : Int} {nm : Value} {row : List Value} {mo mr mr' : Array MapEntry × Nat}
    (hn : Named φ (mkY [i, n, 0, next, id] [.bool false, .bool false, .bool false, .bool false, .bool false, .bool false, .bool false, .bool false, nm] [[], [], [], row] [(#[], 0), mo, mr])) (hmu : ∀ m, MU φ .string mr us m → m = mr') :
    ∃ φ', StAt φ' B (frOf 77 app_L0) (hOf nb HB) a w ∧ Named φ' (aY i n next row mo mr') := by
  obtain ⟨n1, n2, n3, n4⟩ := hn
  have hag : Agree app_TRc φ (hOf nb HB') w (aY i n next row mo mr') := by
    refine mkAgree ⟨(congrFun n1 0).symm, (congrFun n1 1).symm, (congrFun n1 3).symm, trivial⟩ trivial ⟨(congrFun n3 3).symm, trivial⟩ ⟨(congrFun n4 1).symm, ?_, trivial⟩
    intro r es m hr hes
    obtain ⟨es', c', g7, mu, _⟩ := hs.hr.smpL hr (x := 2) (d := .string) (us := us) h5
    rw [hes] at g7; cases g7
    have g2 : φ.g 2 = mr := congrFun n4 2
    rw [g2] at mu
    exact (hmu _ mu).symm
  obtain ⟨φ2, hs2, j1, j2, j3, j4⟩ := hs.conv hconv _ hag
  exact ⟨φ2, hs2, j1, j2, j3, j4⟩

def AInv (w : World) (rl : List (R × Value)) (s0 : Bst) (i : Nat) (a : Act) (w' : World) : Prop :=
  ∃ φ mr, (StAt φ w.heap.size (frOf 77 app_L0) (hOf 10 (app_HE ob0 rt0)) a w' ∨ StAt φ w.heap.size (frOf 77 app_L0) (hOf 13 (app_HF ob0 rt0)) a w') ∧ a.defers = [] ∧ GB w.heap.size w w' ∧
    Named φ (aY i rl.length (s0.run (rl.take i)).next (recRow rl) (omL (s0.run (rl.take i)).objs) mr) ∧ RM mr (s0.run (rl.take i)).roots

theorem app_step {n : Nat} {w : World} {rl : List (R × Value)} {s0 : Bst} (hok : BstOK w s0) (hrl : ∀ r ∈ rl, ROK w r) (hn : rl.length ≤ 100000) {i : Nat} (hi : i < rl.length) {a : Act} {w' : World} (h : AInv w rl s0 i a w') :
    wpCs none n E0.P (fun e a' w'' => e = .normal ∧ AInv w rl s0 (i + 1) a' w'') app_rd a w' := by
  obtain ⟨φ, mr, hst, hd, hg, hnm, M⟩ := h
  obtain ⟨r, hri⟩ : ∃ r, rl[i]? = some r := ⟨rl[i], List.getElem?_eq_getElem hi⟩
  have hB : BstOK w (s0.run (rl.take i)) := hok.run fun r hr => hrl r (List.mem_of_mem_take hr)
  have hs1 : s0.run (rl.take (i + 1)) = (s0.run (rl.take i)).step r := by
    rw [List.take_add_one, hri]; exact run_snoc _ _ _
  have hr := hrl r (List.mem_of_getElem? hri)
  unfold AInv
  rw [hs1]
  generalize s0.run (rl.take i) = s at *
  obtain ⟨r, v⟩ := r
  cases r with
  | put o =>
    obtain ⟨h1, h2, h3⟩ := hr
    have fin : ∀ φ' a' w'', StAt φ' w.heap.size (frOf 77 app_L0) (hOf 13 (app_HF ob0 rt0)) a' w'' → a'.defers = [] → GB w.heap.size w w'' → Named φ' (aY (i + 1) rl.length (max s.next (o.id + 1)) (recRow rl) (omL (putO s.objs (o, v))) mr) → ∃ φ mr, (StAt φ w.heap.size (frOf 77 app_L0) (hOf 10 (app_HE ob0 rt0)) a' w'' ∨ StAt φ w.heap.size (frOf 77 app_L0) (hOf 13 (app_HF ob0 rt0)) a' w'') ∧ a'.defers = [] ∧ GB w.heap.size w w'' ∧
        Named φ (aY (i + 1) rl.length (s.step (.put o, v)).next (recRow rl) (omL (s.step (.put o, v)).objs) mr) ∧ RM mr (s.step (.put o, v)).roots := fun φ' a' w'' hs' hd' hg' hn' => ⟨φ', mr, .inr hs', hd', hg', hn', M⟩
    by_cases h0 : o.ref = 0
    · rcases hst with hs | hs
      · exact app_put app_S0 rfl rfl (KN_N h0) app_PEN app_PCN hri hn h1 h2 h3 hB.nx.2 hB.nd hs hd hg hnm fin
      · exact app_put app_S1 rfl rfl (KN_N h0) app_PFN app_PCN hri hn h1 h2 h3 hB.nx.2 hB.nd hs hd hg hnm fin
    · rcases hst with hs | hs
      · exact app_put app_S0 rfl rfl (KN_Y h0) app_PEY app_PCY hri hn h1 h2 h3 hB.nx.2 hB.nd hs hd hg hnm fin
      · exact app_put app_S1 rfl rfl (KN_Y h0) app_PFY app_PCY hri hn h1 h2 h3 hB.nx.2 hB.nd hs hd hg hnm fin
  | root nm id =>
    obtain ⟨h1, h2⟩ := hr
    by_cases h0 : id = 0
    · have est : s.step (.root nm id, v) = ⟨s.objs, delR s.roots nm, s.next⟩ := by simp [Bst.step, h0]
      rw [est]
      have hrv : ∀ φ : Ren, φ.s 4 = ((id : Nat) : Int) → φ.q 8 = .string nm → VRs φ (recV (.i .i64 2) (.i .i64 0) nl (.i .i64 0) (.q 8)) (recCells (.root nm id, v)) := fun φ _ hq => vrec vI vI vN (by rw [h0]; exact vI) (by simp only [VR]; exact ⟨hq.symm, rfl⟩)
      have hmu : ∀ (φ : Ren), φ.q 8 = .string nm → ∀ m, MU φ .string mr [(.q 8, none)] m → m = mdel .string mr (.string nm) := fun φ hq m mu => by
        simp only [MU, VR] at mu
        obtain ⟨_, ⟨rfl, _⟩, _, rfl⟩ := mu
        rw [hq]
      rcases hst with hs | hs
      · refine app_rt app_S0 app_DE hri hn h1 hrv rfl (fun _ _ => trivial) hs hd hg hnm fun φ' a' w'' hs' hd' hg' hn' => ?_
        obtain ⟨φ2, hs2, hn2⟩ := app_fold rfl app_DEc hs' hn' (hmu φ' (congrFun hn'.2.1 8))
        exact ⟨φ2, _, .inl hs2, hd', hg', hn2, M.del hB.rnd nm⟩
      · refine app_rt app_S1 app_DF hri hn h1 hrv rfl (fun _ _ => trivial) hs hd hg hnm fun φ' a' w'' hs' hd' hg' hn' => ?_
        obtain ⟨φ2, hs2, hn2⟩ := app_fold rfl app_DFc hs' hn' (hmu φ' (congrFun hn'.2.1 8))
        exact ⟨φ2, _, .inr hs2, hd', hg', hn2, M.del hB.rnd nm⟩
    · have est : s.step (.root nm id, v) = ⟨s.objs, setR s.roots nm id, s.next⟩ := by simp [Bst.step, h0]
      rw [est]
      have hrv : ∀ φ : Ren, φ.s 4 = ((id : Nat) : Int) → φ.q 8 = .string nm → VRs φ (recV (.i .i64 2) (.i .i64 0) nl (.y .i64 4) (.q 8)) (recCells (.root nm id, v)) := fun φ hs4 hq => vrec vI vI vN (by simp only [VR, hs4]) (by simp only [VR]; exact ⟨hq.symm, rfl⟩)
      have hbd : ∀ φ : Ren, φ.s 4 = ((id : Nat) : Int) → AllL (fun e : Nat × Int × Int => e.2.1 ≤ φ.s e.1 ∧ φ.s e.1 ≤ e.2.2) [(4, 1, 100000)] := fun φ hs4 => ⟨⟨by show (1 : Int) ≤ _; rw [hs4]; omega, by show _ ≤ (100000 : Int); rw [hs4]; omega⟩, trivial⟩
      have hmu : ∀ (φ : Ren), φ.q 8 = .string nm → φ.s 4 = ((id : Nat) : Int) → ∀ m, MU φ .string mr [(.q 8, some (.y .i64 4))] m → m = mset .string mr (.string nm) (.int .i64 id) := fun φ hq hs4 m mu => by
        simp only [MU, VR] at mu
        obtain ⟨_, _, ⟨rfl, _⟩, rfl, _, rfl⟩ := mu
        rw [hq, hs4]
      rcases hst with hs | hs
      · refine app_rt app_S0 app_SE hri hn h1 hrv rfl hbd hs hd hg hnm fun φ' a' w'' hs' hd' hg' hn' => ?_
        obtain ⟨φ2, hs2, hn2⟩ := app_fold rfl app_SEc hs' hn' (hmu φ' (congrFun hn'.2.1 8) (congrFun hn'.1 4))
        exact ⟨φ2, _, .inl hs2, hd', hg', hn2, M.set hB.rnd nm id⟩
      · refine app_rt app_S1 app_SF hri hn h1 hrv rfl hbd hs hd hg hnm fun φ' a' w'' hs' hd' hg' hn' => ?_
        obtain ⟨φ2, hs2, hn2⟩ := app_fold rfl app_SFc hs' hn' (hmu φ' (congrFun hn'.2.1 8) (congrFun hn'.1 4))
        exact ⟨φ2, _, .inr hs2, hd', hg', hn2, M.set hB.rnd nm id⟩
  | snap nm id =>
    obtain ⟨h1, h2⟩ := hr
    have hrv : ∀ φ : Ren, φ.s 4 = ((id : Nat) : Int) → φ.q 8 = .string nm → VRs φ (recV (.i .i64 5) (.i .i64 0) nl (.y .i64 4) (.q 8)) (recCells (.snap nm id, v)) := fun φ hs4 hq => vrec vI vI vN (by simp only [VR, hs4]) (by simp only [VR]; exact ⟨hq.symm, rfl⟩)
    have hbd : ∀ φ : Ren, φ.s 4 = ((id : Nat) : Int) → AllL (fun e : Nat × Int × Int => e.2.1 ≤ φ.s e.1 ∧ φ.s e.1 ≤ e.2.2) [(4, 0, 1)] := fun φ hs4 => ⟨⟨by show (0 : Int) ≤ _; rw [hs4]; omega, by show _ ≤ (1 : Int); rw [hs4]; omega⟩, trivial⟩
    have hmu : ∀ (φ : Ren) m, MU φ .string mr [] m → m = mr := fun φ m mu => mu
    rcases hst with hs | hs
    · refine app_rt app_S0 app_NE hri hn h1 hrv rfl hbd hs hd hg hnm fun φ' a' w'' hs' hd' hg' hn' => ?_
      obtain ⟨φ2, hs2, hn2⟩ := app_fold (HB := app_HE ob0 rt0) rfl (by decide +kernel) hs' hn' (hmu φ')
      exact ⟨φ2, _, .inl hs2, hd', hg', hn2, M⟩
    · refine app_rt app_S1 app_NF hri hn h1 hrv rfl hbd hs hd hg hnm fun φ' a' w'' hs' hd' hg' hn' => ?_
      obtain ⟨φ2, hs2, hn2⟩ := app_fold (HB := app_HF ob0 rt0) rfl (by decide +kernel) hs' hn' (hmu φ')
      exact ⟨φ2, _, .inr hs2, hd', hg', hn2, M⟩

end Go.Ev

/- Chains, part Ag: 'Apply', runs of its end. -/
namespace Go.Ev
open Go.Proofs

/-- No records: the loop does nothing. -/
def app_N0 : List (Nat × V) := [(1, nl), (4, .p (some (0, 0))), (8, .p (some (7, 0)))]
theorem app_G0 : runsL (withF E0 {}) 100 ((c10.drop 6).take 2) (frOf 77 (subL 4 nl app_LE)) (hOf 9 (subH 4 nl ((8, app_ways) :: ben_H))) .n { s := [(3, .y 3)], g := [(1, .same 1), (2, .same 2)] } 77 app_N0 8 ben_H = true := by decide +kernel
/-- What is kept behind the loop. -/
def app_L8 (x : V) : List (Nat × V) := [(1, x), (4, .p (some (0, 0))), (8, .q 5)]
def app_H8 : List (Nat × Blk) := [(0, zW), (1, .rw 3 45)]
def app_T8 : Tab := { s := [(1, .y 1)], q := [(5, .p (some (7, 0)))], w := [(3, .same 3)] }
def app_T8n : Tab := { q := [(5, .p (some (7, 0)))] }
theorem app_8E : (mAll app_T8 (frOf 77 app_L0) (hOf 10 (app_HE ob0 rt0)) 77 (app_L8 (.sr 1 3 0 18)) 2 app_H8).isSome = true := by decide +kernel
theorem app_8F : (mAll app_T8 (frOf 77 app_L0) (hOf 13 (app_HF ob0 rt0)) 77 (app_L8 (.sr 1 3 0 18)) 2 app_H8).isSome = true := by decide +kernel
theorem app_8N : (mAll app_T8n (frOf 77 app_N0) (hOf 8 ben_H) 77 (app_L8 nl) 1 [(0, zW)]).isSome = true := by decide +kernel
theorem app_r8 : ∃ id, c10.drop 8 = .region id (opsD (c10.drop 8)) false :: c10.drop 9 := ⟨_, rfl⟩
def app_L9 (x : V) : List (Nat × V) := [(1, x), (4, .p (some (0, 0))), (64, .q 5)]
def app_T9 : Tab := { s := [(1, .y 1)], q := [(5, .q 5)], w := [(3, .same 3)] }
theorem app_9R : runsO (withF E0 {}) 100 (opsD (c10.drop 8)) ((opsD (c10.drop 8)).toList.take 1) (frOf 77 (app_L8 (.sr 1 3 0 18))) (hOf 2 app_H8) app_T9 77 (app_L9 (.sr 1 3 0 18)) 2 app_H8 = true := by decide +kernel
theorem app_9N : runsO (withF E0 {}) 100 (opsD (c10.drop 8)) ((opsD (c10.drop 8)).toList.take 1) (frOf 77 (app_L8 nl)) (hOf 1 [(0, zW)]) app_T9 77 (app_L9 nl) 1 [(0, zW)] = true := by decide +kernel
theorem app_S9R : selfOK app_T9 77 (app_L9 (.sr 1 3 0 18)) 2 app_H8 = true := by decide +kernel
theorem app_S9N : selfOK app_T9 77 (app_L9 nl) 1 [(0, zW)] = true := by decide +kernel
/-- Behind 'world'. -/
def app_LK (x : V) : List (Nat × V) := (65, .a [.q 0, .q 1, .q 2, .y .i64 3]) :: app_L9 x
def app_LM (x : V) : List (Nat × V) := [(1, x), (4, .p (some (0, 0))), (15, .p (some (2, 0)))]
def app_TM : Tab := { s := [(1, .y 1), (3, .y 3)], q := [(0, .q 0), (1, .q 1), (2, .q 2)], w := [(3, .same 3)] }
theorem app_MR : runsO (withF E0 {}) 100 (opsD (c10.drop 8)) (((opsD (c10.drop 8)).toList.drop 2).take 100) (frOf 77 (app_LK (.sr 1 3 0 18))) (hOf 2 app_H8) app_TM 77 (app_LM (.sr 1 3 0 18)) 3 ((2, Rea_B) :: app_H8) = true := by decide +kernel
theorem app_MN : runsO (withF E0 {}) 100 (opsD (c10.drop 8)) (((opsD (c10.drop 8)).toList.drop 2).take 100) (frOf 77 (app_LK nl)) (hOf 1 [(0, zW)]) app_TM 77 (app_LM nl) 3 [(2, Rea_B), (0, zW)] = true := by decide +kernel
def app_FZ : Facts := { qc := [(16, w_args, .i .i64 0)], rz := [(3, 18)], rl := [(3, 0, 1)] }
def app_FZn : Facts := { qc := [(16, w_args, .i .i64 0)] }
def app_LZ (x : V) : List (Nat × V) := [(4, .p (some (0, 0))), (5, x), (6, .i .i64 0)]
theorem app_ZR : runsL (withF E0 app_FZ) 100 ((c10.drop 9).take 10) (frOf 77 (app_LM (.sr 1 3 0 18))) (hOf 3 ((2, Rea_B) :: app_H8)) .r app_TM 77 (app_LZ (.y .i64 1)) 1 [(0, Rea_B)] = true := by decide +kernel
theorem app_ZN : runsL (withF E0 app_FZn) 100 ((c10.drop 9).take 10) (frOf 77 (app_LM nl)) (hOf 3 [(2, Rea_B), (0, zW)]) .r app_TM 77 (app_LZ (.i .i64 0)) 1 [(0, Rea_B)] = true := by decide +kernel

/-- What is named alone is looked into, where nothing new is to be seen in memory. -/
theorem StAt.subst {φ : Ren} {B nt nb : Nat} {L : List (Nat × V)} {HB : List (Nat × Blk)} {a : Act} {w : World} (hs : StAt φ B (frOf nt L) (hOf nb HB) a w) (x : Nat) (p : V) (hp : VR φ p (φ.q x)) : StAt φ B (frOf nt (subL x p L)) (hOf nb (subH x p HB)) a w := by
  have hle := Le.refl φ
  have hget : ∀ b, (hOf nb (subH x p HB)).get b = subB x p ((hOf nb HB).get b) := fun b => by rw [hOf_get, hOf_get, subH_lk]
  refine ⟨⟨hs.fr.1, fun k => ?_⟩, ⟨hs.hr.cnt, hs.hr.dom, fun b r e hl => ?_, fun b b' r e e' hl hl' => ?_, fun r o hk => ⟨(hs.hr.kp r o hk).1, fun b e => ?_⟩⟩, fun b r e hm => ?_, fun r h => ?_, hs.bz⟩
  · rw [frOf_get, subL_lk]
    have := hs.fr.2 k
    rw [frOf_get] at this
    exact subV_ok hle hp _ _ this
  · rw [hget] at hl ⊢
    obtain ⟨o, h1, h2⟩ := hs.hr.blk b r e ((subB_live x p _).1.1 hl)
    exact ⟨o, h1, subB_ok hle hp _ h2⟩
  · rw [hget] at hl hl'
    exact hs.hr.inj b b' r e e' ((subB_live x p _).1.1 hl) ((subB_live x p _).1.1 hl')
  · rw [hget]
    exact fun hm => (hs.hr.kp r o hk).2 b e ((subB_live x p _).2.1 hm)
  · rw [hget] at hm
    exact hs.loc b r e ((subB_live x p _).2.1 hm)
  · exact hs.kf r fun b e hm => h b e (by rw [hget]; exact (subB_live x p _).2.2 hm)

end Go.Ev

/- Chains, part Ah: a bench is taken up. -/
namespace Go.Ev
open Go.Proofs

theorem not_cells_map {φ : Ren} {N : Nat} {l : List V} {e : TypeId} {g : Bool} {es : Array MapEntry} {c : Nat} : ¬ BR φ N (.cells l e g) (.map es c) := fun ⟨_, h, _⟩ => by cases h
theorem not_rc_map {φ : Ren} {N : Nat} {l : List V} {e : TypeId} {es : Array MapEntry} {c : Nat} : ¬ BR φ N (.rc l e) (.map es c) := fun ⟨_, h, _⟩ => by cases h
theorem not_cells_T {φ : Ren} {N : Nat} {l : List V} {e T : TypeId} {g : Bool} {c : Array Value} (h : e ≠ T) : ¬ BR φ N (.cells l e g) (.cells c T (0, 0)) := fun ⟨_, h', _⟩ => by cases h'; exact h rfl
theorem not_rc_T {φ : Ren} {N : Nat} {l : List V} {e T : TypeId} {c : Array Value} (h : e ≠ T) : ¬ BR φ N (.rc l e) (.cells c T (0, 0)) := fun ⟨_, h', _⟩ => by cases h'; exact h rfl
theorem not_mp_cells {φ : Ren} {N : Nat} {es : List (V × V × Nat)} {k : Nat} {c : Array Value} {T : TypeId} : ¬ BR φ N (.mp es k) (.cells c T (0, 0)) := fun ⟨_, h, _⟩ => by cases h
theorem not_smp_cells {φ : Ren} {N : Nat} {x : Nat} {d : TypeDesc} {us : List (V × Option V)} {c : Array Value} {T : TypeId} : ¬ BR φ N (.smp x d us) (.cells c T (0, 0)) := fun ⟨_, _, h, _⟩ => by cases h

/-- Where no block of a state lies. -/
theorem StAt.nowhere {φ : Ren} {B nt nb : Nat} {L : List (Nat × V)} {HB : List (Nat × Blk)} {a : Act} {w : World} (hs : StAt φ B (frOf nt L) (hOf nb HB) a w) {r : Nat} {ob : Obj} (ho : w.heap[r]? = some ob) (h : ∀ b, b < nb → φ b = some r → ¬ (∀ N, N = φ.n b → BR φ N (lkB HB b) ob) ∧ (lkB HB b).live) : ∀ b, φ b ≠ some r := fun b e => by
  have hb := (hs.hr.dom b r e).1
  obtain ⟨h1, h2⟩ := h b hb e
  obtain ⟨o, g1, g2⟩ := hs.hr.blk b r e (by rw [hOf_get]; exact h2)
  rw [ho] at g1; cases g1
  rw [hOf_get] at g2
  exact h1 fun N hN => by rw [hN]; exact g2

theorem StAt.bench {φ : Ren} {B : Nat} {L : List (Nat × V)} {a : Act} {w w' : World} (hs : StAt φ B (frOf 77 L) (hOf 1 [(0, zW)]) a w) (hsub : ∀ p, subL 99 p L = L) (hg : Grown w w') {ln : Value} {next rb rk rv ro rr : Nat} {mo mr : Array MapEntry × Nat} (hb : BenchAt w' w.heap.size ln next mo mr rb rk rv ro rr) (hsch : IsSch w' ln)
    (hs3 : φ.s 3 = next) (hg1 : φ.g 1 = mo) (hg2 : φ.g 2 = mr) (hk1 : ∀ e ∈ mo.1.toList, MapKept.IsKey (.int .i64) e.key) (hk2 : ∀ e ∈ mr.1.toList, MapKept.IsKey .string e.key) :
    ∃ φ', StAt φ' B (frOf 77 L) (hOf 8 ben_H) a w' ∧ φ'.s = φ.s ∧ φ'.q = φ.q ∧ φ'.w = φ.w ∧ φ'.g = φ.g ∧ φ' 7 = some rb := by
  have hBw := hs.bz
  obtain ⟨φ1, hs1, e1, e2, e3, e4, e5, _⟩ := hs.growE hg
  have hlow : ∀ b r, φ1 b = some r → r < w.heap.size := fun b r e => by rw [e5] at e; exact (hs.hr.dom b r e).2
  obtain ⟨rl, rf, cl, cf, rfl, h2, h3, h4, h5⟩ := hsch
  have l4 : 4 ≤ cf.size := by have := congrArg List.length h4; simp at this; omega
  have l5 : 3 ≤ cl.size := by have := congrArg List.length h5; simp at this; omega
  have hs2 := hs1.reveal h2 rfl 99 .top ben_F (fun h => h) ⟨_, rfl, by
    show VRs _ _ (cf.toList.take 4)
    rw [h4]; exact VRs.cons (vS (by decide)) (VRs.cons vI (VRs.cons vI (VRs.cons vB VRs.nil))), l4, rfl⟩ (by simp only [VR])
  rw [hsub] at hs2
  have u1 : (up φ1 1 rf cf.size) 1 = some rf := by simp [up]
  have hs3' := StAt.reveal (HB := [(1, ben_F), (0, zW)]) hs2 h3 rfl 99 .top ben_L (fun h => h) ⟨_, rfl, by
    show VRs _ _ (cl.toList.take 3)
    rw [h5]; exact VRs.cons (vS (by decide)) (VRs.cons (vSl u1 (by decide)) (VRs.cons vN VRs.nil)), l5, rfl⟩ (by simp only [VR])
  rw [hsub] at hs3'
  have u2 : (up (up φ1 1 rf cf.size) 2 rl cl.size) 2 = some rl := by simp [up]
  have u0 : ∀ r, (up (up φ1 1 rf cf.size) 2 rl cl.size) 0 = some r → r < w.heap.size := fun r e => hlow 0 r (by simpa [up] using e)
  have n1 : (up (up φ1 1 rf cf.size) 2 rl cl.size).s = φ.s := e1
  have n2 : (up (up φ1 1 rf cf.size) 2 rl cl.size).q = φ.q := e2
  have n3 : (up (up φ1 1 rf cf.size) 2 rl cl.size).w = φ.w := e3
  have n4 : (up (up φ1 1 rf cf.size) 2 rl cl.size).g = φ.g := e4
  generalize up (up φ1 1 rf cf.size) 2 rl cl.size = φ2 at hs3' u2 u0 n1 n2 n3 n4
  have hs3'' : StAt φ2 B (frOf 77 L) (hOf 3 [(2, ben_L), (1, ben_F), (0, zW)]) a w' := hs3'
  clear hs3'
  obtain ⟨ab1, ab2, ab3, ab4, ab5⟩ := hb.above
  have ap := hb.apart
  -- the views
  obtain ⟨φ3, t3, a3, _, o3, s3, q3, w3, g3⟩ := hs3''.adopt (N := 0) hb.views (by omega) (hs3''.nowhere hb.views fun b hb3 e => by
    have : b = 0 ∨ b = 1 ∨ b = 2 := by omega
    rcases this with rfl | rfl | rfl
    · exact ⟨fun h => not_cells_map (h _ rfl), trivial⟩
    · exact ⟨fun h => not_rc_map (h _ rfl), trivial⟩
    · exact ⟨fun h => not_rc_map (h _ rfl), trivial⟩) (.mp [] 0) trivial ⟨#[], rfl, by simp [ERs]⟩
  -- the objects
  obtain ⟨φ4, t4, a4, _, o4, s4, q4, w4, g4⟩ := t3.adopt (N := 0) hb.objs (by omega) (t3.nowhere hb.objs fun b hb3 e => by
    have : b = 0 ∨ b = 1 ∨ b = 2 ∨ b = 3 := by omega
    rcases this with rfl | rfl | rfl | rfl
    · exact ⟨fun h => not_cells_map (h _ rfl), trivial⟩
    · exact ⟨fun h => not_rc_map (h _ rfl), trivial⟩
    · exact ⟨fun h => not_rc_map (h _ rfl), trivial⟩
    · rw [a3] at e; cases e; exact absurd rfl ap.1) (.smp 1 (.int .i64) []) trivial ⟨_, _, rfl, by
      show (mo.1, mo.2) = φ3.g 1
      rw [g3, n4, hg1], hk1⟩
  -- the roots
  obtain ⟨φ5, t5, a5, _, o5, s5, q5, w5, g5⟩ := t4.adopt (N := 0) hb.roots (by omega) (t4.nowhere hb.roots fun b hb3 e => by
    have : b = 0 ∨ b = 1 ∨ b = 2 ∨ b = 3 ∨ b = 4 := by omega
    rcases this with rfl | rfl | rfl | rfl | rfl
    · exact ⟨fun h => not_cells_map (h _ rfl), trivial⟩
    · exact ⟨fun h => not_rc_map (h _ rfl), trivial⟩
    · exact ⟨fun h => not_rc_map (h _ rfl), trivial⟩
    · rw [o4 3 (by decide), a3] at e; cases e; exact absurd rfl ap.2.1
    · rw [a4] at e; cases e; exact absurd rfl ap.2.2) (.smp 2 .string []) trivial ⟨_, _, rfl, by
      show (mr.1, mr.2) = φ4.g 2
      rw [g4, g3, n4, hg2], hk2⟩
  have b2 : φ5 2 = some rl := by rw [o5 2 (by decide), o4 2 (by decide), o3 2 (by decide), u2]
  have b3 : φ5 3 = some rv := by rw [o5 3 (by decide), o4 3 (by decide), a3]
  have b4 : φ5 4 = some ro := by rw [o5 4 (by decide), a4]
  -- the book
  obtain ⟨φ6, t6, a6, _, o6, s6, q6, w6, g6⟩ := t5.adopt (N := 2) hb.book (by omega) (t5.nowhere hb.book fun b hb3 e => by
    have : b = 0 ∨ b = 1 ∨ b = 2 ∨ b = 3 ∨ b = 4 ∨ b = 5 := by omega
    rcases this with rfl | rfl | rfl | rfl | rfl | rfl
    · exact ⟨fun h => not_cells_T (by decide) (h _ rfl), trivial⟩
    · exact ⟨fun h => not_rc_T (by decide) (h _ rfl), trivial⟩
    · exact ⟨fun h => not_rc_T (by decide) (h _ rfl), trivial⟩
    · exact ⟨fun h => not_mp_cells (h _ rfl), trivial⟩
    · exact ⟨fun h => not_smp_cells (h _ rfl), trivial⟩
    · exact ⟨fun h => not_smp_cells (h _ rfl), trivial⟩) ben_book trivial ⟨_, rfl, by
      refine VRs.cons (vSl b2 (by decide)) (VRs.cons ?_ VRs.nil)
      simp only [VR]; exact ⟨rv, b3, rfl⟩, Nat.le_refl _, fun _ => rfl, rfl⟩
  -- the bench
  obtain ⟨φ7, t7, a7, _, o7, s7, q7, w7, g7⟩ := t6.adopt (N := 5) hb.bench (by omega) (t6.nowhere hb.bench fun b hb3 e => by
    have : b = 0 ∨ b = 1 ∨ b = 2 ∨ b = 3 ∨ b = 4 ∨ b = 5 ∨ b = 6 := by omega
    rcases this with rfl | rfl | rfl | rfl | rfl | rfl | rfl
    · exact ⟨fun h => not_cells_T (by decide) (h _ rfl), trivial⟩
    · exact ⟨fun h => not_rc_T (by decide) (h _ rfl), trivial⟩
    · exact ⟨fun h => not_rc_T (by decide) (h _ rfl), trivial⟩
    · exact ⟨fun h => not_mp_cells (h _ rfl), trivial⟩
    · exact ⟨fun h => not_smp_cells (h _ rfl), trivial⟩
    · exact ⟨fun h => not_smp_cells (h _ rfl), trivial⟩
    · exact ⟨fun h => not_cells_T (by decide) (h _ rfl), trivial⟩) ben_bench trivial ⟨_, rfl, by
      refine VRs.cons (vSl (by rw [o6 2 (by decide), b2]) (by decide)) (VRs.cons ?_ (VRs.cons ?_ (VRs.cons ?_ (VRs.cons ?_ VRs.nil))))
      · simp only [VR]; exact ⟨rk, a6, rfl⟩
      · simp only [VR]; exact ⟨ro, by rw [o6 4 (by decide), b4], rfl⟩
      · simp only [VR]; exact ⟨rr, by rw [o6 5 (by decide), a5], rfl⟩
      · simp only [VR]
        rw [s6, s5, s4, s3, n1, hs3], Nat.le_refl _, fun _ => rfl, rfl⟩
  exact ⟨φ7, t7, by rw [s7, s6, s5, s4, s3, n1], by rw [q7, q6, q5, q4, q3, n2], by rw [w7, w6, w5, w4, w3, n3], by rw [g7, g6, g5, g4, g3, n4], a7⟩

end Go.Ev

/- Chains, part Ai: 'Apply', what it comes to. -/
namespace Go.Ev
open Go.Proofs

theorem HR.isSchR {φ : Ren} {nb : Nat} {HB : List (Nat × Blk)} {w : World} (hr : HR φ (hOf nb HB) w) {b1 b0 : Nat} (h1 : lkB HB b1 = .rc [.s cName, .sl (some (b0, 0)) 1 (.kn 1), .sl none 0 (.kn 0)] 68) (h0 : lkB HB b0 = .rc [.s nextName, .i .i64 3, .i .i64 0, .b false] 65) {v : Value} (hv : VR φ (.sl (some (b1, 0)) 1 (.kn 1)) v) : IsSch w v := by
  simp only [VR] at hv
  obtain ⟨r1, hr1, _, rfl⟩ := hv
  obtain ⟨c1, g1, v1, z1, _⟩ := hr.rcL hr1 h1
  simp only [VRs, VR] at v1
  obtain ⟨_, _, e1, ⟨rfl, _⟩, _, _, rfl, ⟨r0, hr0, _, rfl⟩, _, _, rfl, ⟨_, rfl⟩, rfl⟩ := v1
  obtain ⟨c0, g0, v0, z0, _⟩ := hr.rcL hr0 h0
  simp only [VRs, VR] at v0
  obtain ⟨_, _, e0, ⟨rfl, _⟩, _, _, rfl, rfl, _, _, rfl, rfl, _, _, rfl, rfl, rfl⟩ := v0
  exact ⟨r1, r0, c1, c0, rfl, g0, g1, e0, e1⟩

theorem benchOut {φ : Ren} {nb : Nat} {HB : List (Nat × Blk)} {w : World} (hr : HR φ (hOf nb HB) w) (h7 : lkB HB 7 = ben_bench) (h5 : lkB HB 5 = rt0) (h4 : lkB HB 4 = ob0) (h2 : lkB HB 2 = ben_L) (h1 : lkB HB 1 = ben_F) {rb next : Nat} (hb : φ 7 = some rb) {mo mr : Array MapEntry × Nat} (hs : φ.s 3 = next) (g1 : φ.g 1 = mo) (g2 : φ.g 2 = mr) :
    ∃ ln kv ro rr, BenchW w ln kv next mo mr rb ro rr ∧ IsSch w ln := by
  obtain ⟨c, e, v, _, z, _⟩ := hr.cellsL hb h7
  have z := z rfl
  rw [List.take_of_length_le (by rw [Array.length_toList, z]; exact Nat.le_refl _)] at v
  simp only [VRs] at v
  obtain ⟨ln, _, q, hln, kv, _, rfl, hkv, ov, _, rfl, hov, rv, _, rfl, hrv, nv, _, rfl, hnv, rfl⟩ := v
  have hk1 : kv.oneCell' = true := atomV_ok hkv rfl
  simp only [VR] at hov hrv hnv
  obtain ⟨ro, ho, rfl⟩ := hov
  obtain ⟨rr, hrr, rfl⟩ := hrv
  rw [hs] at hnv
  subst hnv
  obtain ⟨es4, c4, q4, m4, _⟩ := hr.smpL ho h4
  obtain ⟨es5, c5, q5, m5, _⟩ := hr.smpL hrr h5
  simp only [MU] at m4 m5
  rw [g1] at m4
  rw [g2] at m5
  have hc : c = #[ln, kv, .map (some ro), .map (some rr), .int .i64 next] := Array.toList_inj.1 q
  subst hc
  exact ⟨ln, kv, ro, rr, ⟨e, hk1, by rw [q4, ← m4], by rw [q5, ← m5]⟩, hr.isSchR h2 h1 hln⟩

/-! ### Plain facts -/
/-- No reference that leads nowhere. -/
structure WholeS (objs : List (O × Value)) (roots : List (ByteArray × Nat)) : Prop where
  root : ∀ q ∈ roots, ∃ p ∈ objs, p.1.id = q.2
  ref : ∀ p ∈ objs, p.1.ref = 0 ∨ ∃ p' ∈ objs, p'.1.id = p.1.ref
theorem has_iff {l : List (O × Value)} {x : Nat} : Has l x ↔ ∃ p ∈ l, p.1.id = x := by
  constructor
  · rintro ⟨j, hj, rfl⟩
    exact ⟨l[j], List.getElem_mem hj, by simp [lastId, hj]⟩
  · rintro ⟨p, hp, rfl⟩
    obtain ⟨j, hj, rfl⟩ := List.getElem_of_mem hp
    exact ⟨j, hj, by simp [lastId, hj]⟩
theorem perm_id {l l' : List (O × Value)} (h : (l.map (·.1)).Perm (l'.map (·.1))) {x : O} (hx : ∃ p ∈ l', p.1 = x) : ∃ p ∈ l, p.1 = x := by
  obtain ⟨p, hp, rfl⟩ := hx
  have : p.1 ∈ l.map (·.1) := h.symm.subset (List.mem_map.2 ⟨p, hp, rfl⟩)
  obtain ⟨q, hq, e⟩ := List.mem_map.1 this
  exact ⟨q, hq, e⟩
theorem WholeS.perm {objs l : List (O × Value)} {roots rs : List (ByteArray × Nat)} (h : WholeS objs roots) (hl : (l.map (·.1)).Perm (objs.map (·.1))) (hr : rs.Perm roots) : Whole l rs := by
  have key : ∀ x, (∃ p ∈ objs, p.1.id = x) → Has l x := fun x ⟨p, hp, e⟩ => by
    obtain ⟨q, hq, e2⟩ := perm_id hl ⟨p, hp, rfl⟩
    exact has_iff.2 ⟨q, hq, by rw [e2, e]⟩
  refine ⟨fun q hq => key _ (h.root q (hr.mem_iff.1 hq)), fun p hp => ?_⟩
  obtain ⟨q, hq, e⟩ := perm_id hl.symm ⟨p, hp, rfl⟩
  rcases h.ref q hq with h0 | h0
  · exact .inl (by rw [← e, h0])
  · exact .inr (by rw [← e]; exact key _ h0)
theorem baInj {a b : ByteArray} (h : a.toList = b.toList) : a = b := by
  rw [Lib.toList_data, Lib.toList_data] at h
  exact ByteArray.ext (Array.toList_inj.1 h)

structure OutW (w : World) (s : Bst) (ln ov rv : Value) (l : List (O × Value)) (rs : List (ByteArray × Nat)) : Prop where
  gw : GW w ln ov rv s.next l rs
  whole : Whole l rs
  objs : (l.map (·.1)).Perm (s.objs.map (·.1))
  roots : rs.Perm s.roots

theorem out_of {w0 w : World} {s : Bst} (hok : BstOK w0 s) (hln : s.objs.length ≤ 100000) (hrl : s.roots.length ≤ 100000) (hW : WholeS s.objs s.roots) {ln ov rv : Value} {l : List (O × Value)} {rs : List (ByteArray × Nat)} (h1 : IsSch w ln) (h2 : IsRow w 36 4 ov (oRow l)) (h3 : IsRow w 72 2 rv (rRow rs)) (h4 : ∀ p ∈ l, IsVal w p)
    (h5 : (l.map (·.1)).Perm (s.objs.map (·.1))) (h6 : l.Pairwise (fun a b => ¬ b.1.id < a.1.id)) (h7 : rs.Perm s.roots) (h8 : rs.Pairwise (fun a b => Op.bytesLess b.1.toList a.1.toList = false)) : OutW w s ln ov rv l rs := by
  have hin : ∀ p ∈ l, ∃ q ∈ s.objs, q.1 = p.1 := fun p hp => perm_id h5.symm ⟨p, hp, rfl⟩
  have hnd : (l.map (·.1.id)).Nodup := by
    have := (h5.map O.id).nodup_iff.2 (by rw [List.map_map]; exact hok.nd)
    rwa [List.map_map] at this
  have hrnd : (rs.map (·.1)).Nodup := (h7.map (·.1)).nodup_iff.2 hok.rnd
  refine ⟨⟨h1, h2, h3, h4, fun i p hp => ⟨?_, ?_⟩, hok.nx, ?_, ?_, fun q hq => hok.rn q (h7.mem_iff.1 hq), fun i p q hp hq => ?_, fun p hp => ?_⟩, hW.perm h5 h7, h5, h7⟩
  · cases i with
    | zero =>
      obtain ⟨q, hq, e⟩ := hin p (List.mem_of_getElem? hp)
      have := hok.ids q hq
      rw [e] at this
      simp only [lastId]; omega
    | succ j =>
      have hj : j + 1 < l.length := (List.getElem?_eq_some_iff.1 hp).1
      have hjp : l[j]? = some l[j] := List.getElem?_eq_getElem (by omega)
      have e1 : l[j + 1] = p := by rw [List.getElem?_eq_getElem hj] at hp; exact Option.some.inj hp
      have := (List.pairwise_iff_getElem.1 h6) j (j + 1) (by omega) hj (by omega)
      rw [e1] at this
      have hne : l[j].1.id ≠ p.1.id := fun e => by have := nodup_at hnd hjp hp e; omega
      simp only [lastId, hjp, Option.map_some, Option.getD_some]
      omega
  · obtain ⟨q, hq, e⟩ := hin p (List.mem_of_getElem? hp)
    have := hok.lt q hq
    rwa [e] at this
  · have := h5.length_eq; simp at this; omega
  · have := h7.length_eq; omega
  · have hj : i + 1 < rs.length := (List.getElem?_eq_some_iff.1 hq).1
    have e0 : rs[i] = p := by rw [List.getElem?_eq_getElem (by omega)] at hp; exact Option.some.inj hp
    have e1 : rs[i + 1] = q := by rw [List.getElem?_eq_getElem hj] at hq; exact Option.some.inj hq
    have := (List.pairwise_iff_getElem.1 h8) i (i + 1) (by omega) hj (by omega)
    rw [e0, e1] at this
    rw [this, Bool.false_or]
    cases hb : (q.1.toList == p.1.toList) with
    | false => rfl
    | true =>
      have := baInj (eq_of_beq hb)
      have := nodup_at hrnd hq hp this
      omega
  · obtain ⟨q, hq, e⟩ := hin p hp
    have := hok.refs q hq
    rwa [e] at this

end Go.Ev
