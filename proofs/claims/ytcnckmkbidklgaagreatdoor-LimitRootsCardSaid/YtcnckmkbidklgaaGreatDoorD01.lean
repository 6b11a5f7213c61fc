/- Chains, part Dc: 'awake', its runs. -/
import Derived.Test.YtcnckmkbidklgaaGreatDoorA18
namespace Go.Ev
open Go.Proofs

noncomputable def c6 : List Code := flatL ((Tryz.f6.body).getD .skip)
def oneV : List V := recV (.i .i64 2) (.i .i64 0) nl (.i .i64 1) (.s [122])
def goneV : List V := recV (.i .i64 2) (.i .i64 0) nl (.i .i64 0) (.s [114, 48, 48])
def p201 (b : Nat) : List V := recV (.i .i64 1) (.i .i64 201) (.sl (some (b, 0)) 1 (.kn 1)) (.i .i64 0) (.s [])
def p200 (b : Nat) : List V := recV (.i .i64 1) (.i .i64 200) (.sl (some (b, 0)) 1 (.kn 1)) (.i .i64 0) (.s [])
def snapV : List V := recV (.i .i64 5) (.i .i64 0) nl (.i .i64 1) (.s [122])
def aw_L : List (Nat × V) := [(1, .p (some (0, 0))), (2, .p (some (1, 0)))]
def aw_H : List (Nat × Blk) := [(0, Rea_B), (1, .cells oneV 45 false)]
def aw_T : Tab := { s := [(3, .y 3)], q := [(0, .q 0), (1, .q 1), (2, .q 2)] }
def aw_T2 : Tab := { s := [(3, .y 3), (4, .y 4)], q := [(0, .q 0), (1, .q 1), (2, .q 2), (7, .q 7), (8, .q 8), (9, .q 9)] }
theorem aw_0 : runsL (withF E0 {}) 100 (c6.take 1) ⟨92, load [] 0 .leaf⟩ (hOf 0 []) .n {} 92 [] 0 [] = true := by decide +kernel
theorem aw_r1 : ∃ id, c6.drop 1 = .region id (opsD (c6.drop 1)) false :: c6.drop 2 := ⟨_, rfl⟩
theorem aw_1 : runsO (withF E0 {}) 100 (opsD (c6.drop 1)) (((opsD (c6.drop 1)).toList.drop 1).take 100) (frOf 92 [(15, wA)]) (hOf 0 []) aw_T 92 [(1, .p (some (0, 0)))] 1 [(0, Rea_B)] = true := by decide +kernel
theorem aw_2 : runsL (withF E0 {}) 100 ((c6.drop 2).take 1) (frOf 92 [(1, .p (some (0, 0)))]) (hOf 1 [(0, Rea_B)]) .n aw_T 92 aw_L 2 aw_H = true := by decide +kernel
def sl2 (m : Nat) : V := .sl (some (2, 0)) m (.kn m)
/-- The third statement. -/
theorem aw_r3 : ∃ id, c6.drop 3 = .region id (opsD (c6.drop 3)) false :: c6.drop 4 := ⟨_, rfl⟩
def aw_L3 : List (Nat × V) := (17, wA) :: (19, sl2 1) :: aw_L
def aw_H3 : List (Nat × Blk) := aw_H ++ [(2, .cells oneV 45 false)]
theorem aw_3 : runsO (withF E0 {}) 100 (opsD (c6.drop 3)) ((opsD (c6.drop 3)).toList.take 3) (frOf 92 aw_L) (hOf 2 aw_H) aw_T 92 aw_L3 3 aw_H3 = true := by decide +kernel
theorem aw_3c : (mAll aw_T (frOf 92 aw_L3) (hOf 3 aw_H3) 92 aw_L 2 aw_H).isSome = true := by decide +kernel
theorem aw_S : selfOK aw_T 92 aw_L 2 aw_H = true := by decide +kernel
def aw_A4 : List (Nat × V) := (3, .i .i64 251) :: aw_L
theorem aw_3z : runsO (withF E0 {}) 100 (opsD (c6.drop 3)) (((opsD (c6.drop 3)).toList.drop 4).take 100) (frOf 92 ((20, .i .i64 251) :: aw_L)) (hOf 2 aw_H) aw_T 92 aw_A4 2 aw_H = true := by decide +kernel
/-- The fourth. -/
theorem aw_r4 : ∃ id, c6.drop 4 = .region id (opsD (c6.drop 4)) false :: c6.drop 5 := ⟨_, rfl⟩
def aw_L4 : List (Nat × V) := (21, wA) :: (24, sl2 2) :: aw_A4
def aw_H4 : List (Nat × Blk) := aw_H ++ [(2, .cells (goneV ++ oneV) 45 false)]
theorem aw_4 : runsO (withF E0 {}) 100 (opsD (c6.drop 4)) ((opsD (c6.drop 4)).toList.take 4) (frOf 92 aw_A4) (hOf 2 aw_H) aw_T 92 aw_L4 3 aw_H4 = true := by decide +kernel
theorem aw_4c : (mAll aw_T (frOf 92 aw_L4) (hOf 3 aw_H4) 92 aw_A4 2 aw_H).isSome = true := by decide +kernel
theorem aw_S4 : selfOK aw_T 92 aw_A4 2 aw_H = true := by decide +kernel
def aw_A5 : List (Nat × V) := (4, .i .i64 0) :: aw_A4
theorem aw_4z : runsO (withF E0 {}) 100 (opsD (c6.drop 4)) (((opsD (c6.drop 4)).toList.drop 5).take 100) (frOf 92 ((25, .i .i64 0) :: aw_A4)) (hOf 2 aw_H) aw_T 92 aw_A5 2 aw_H = true := by decide +kernel
/-- The fifth. -/
theorem aw_r5 : ∃ id, c6.drop 5 = .region id (opsD (c6.drop 5)) false :: c6.drop 6 := ⟨_, rfl⟩
theorem aw_S5 : selfOK aw_T 92 aw_A5 2 aw_H = true := by decide +kernel
def aw_L5 : List (Nat × V) := (26, wB) :: (29, sl2 2) :: aw_A5
def aw_H5 : List (Nat × Blk) := aw_H ++ [(2, .cells (p201 3 ++ p200 4) 45 false), (3, valB' kN kN), (4, valB' kY (.i .i64 201))]
theorem aw_5 : runsO (withF E0 {}) 100 (opsD (c6.drop 5)) (((opsD (c6.drop 5)).toList.drop 1).take 3) (frOf 92 ((26, wB) :: aw_A5)) (hOf 2 aw_H) aw_T2 92 aw_L5 5 aw_H5 = true := by decide +kernel
theorem aw_5c : (mAll aw_T (frOf 92 aw_L5) (hOf 5 aw_H5) 92 aw_A5 2 aw_H).isSome = true := by decide +kernel
def aw_A6 : List (Nat × V) := (5, .i .i64 250) :: aw_A5
theorem aw_5z : runsO (withF E0 {}) 100 (opsD (c6.drop 5)) (((opsD (c6.drop 5)).toList.drop 5).take 100) (frOf 92 ((30, .i .i64 250) :: aw_A5)) (hOf 2 aw_H) aw_T 92 aw_A6 2 aw_H = true := by decide +kernel
/-- The sixth. -/
theorem aw_r6 : ∃ id, c6.drop 6 = .region id (opsD (c6.drop 6)) false :: c6.drop 7 := ⟨_, rfl⟩
theorem aw_S6 : selfOK aw_T 92 aw_A6 2 aw_H = true := by decide +kernel
def aw_L6 : List (Nat × V) := (31, wB) :: (33, sl2 1) :: aw_A6
def aw_H6 : List (Nat × Blk) := aw_H ++ [(2, .cells (p201 3) 45 false), (3, valB' kN kN)]
theorem aw_6 : runsO (withF E0 {}) 100 (opsD (c6.drop 6)) (((opsD (c6.drop 6)).toList.drop 1).take 2) (frOf 92 ((31, wB) :: aw_A6)) (hOf 2 aw_H) aw_T2 92 aw_L6 4 aw_H6 = true := by decide +kernel
theorem aw_6c : (mAll aw_T (frOf 92 aw_L6) (hOf 4 aw_H6) 92 aw_A6 2 aw_H).isSome = true := by decide +kernel
def aw_A7 : List (Nat × V) := (6, .i .i64 0) :: aw_A6
theorem aw_6z : runsO (withF E0 {}) 100 (opsD (c6.drop 6)) (((opsD (c6.drop 6)).toList.drop 4).take 100) (frOf 92 ((34, .i .i64 0) :: aw_A6)) (hOf 2 aw_H) aw_T 92 aw_A7 5 aw_H = true := by decide +kernel
/-- The end. -/
def aw_A8 : List (Nat × V) := (7, .i .i64 252) :: aw_A7
theorem aw_Z : runsL (withF E2 {}) 3000 ((c6.drop 8).take 10) (frOf 92 aw_A8) (hOf 2 aw_H) .r {} 92 [(0, .b true)] 0 [] = true := by decide +kernel
/-- The seventh, which draws its order. -/
theorem aw_r7 : ∃ id, c6.drop 7 = .region id (opsD (c6.drop 7)) true :: c6.drop 8 := ⟨_, rfl⟩
def sName (i : Nat) : List Nat := [115, 48 + i / 10 % 10, 48 + i % 10]
def aw_ints : Blk := .cells [.i .i64 0, .i .i64 1, .i .i64 2, .i .i64 3, .i .i64 4, .i .i64 5, .i .i64 6, .i .i64 7] 3 false
def aw_snaps : Blk := .cells ((List.range 8).flatMap fun i => [.s (sName i), .i .i64 (i + 1 : Nat)]) 57 true
def aw_R : List Nat := [35, 36, 37, 38, 39]
def aw_V : List V := [wA, .sl (some (2, 0)) 8 (.kn 8), .sl (some (3, 0)) 8 (.un 2), .a snapV, .sl (some (4, 0)) 1 (.kn 1)]
def aw_L7 (m : List Bool) : List (Nat × V) := aw_A7 ++ pickL m aw_R aw_V
def aw_H7 (m : List Bool) : List (Nat × Blk) := aw_H ++ opt m 1 [(2, aw_ints)] ++ opt m 2 [(3, aw_snaps)] ++ opt m 4 [(4, .cells snapV 45 false)]
def aw_stop : List Bool := [true, true, true, true, true, false, false]
noncomputable def aw_ms : List (List Bool) := grow (opsD (c6.drop 7)) aw_stop 20 [List.replicate 7 false] [List.replicate 7 false]

end Go.Ev

/- Chains, part Dd: 'awake', what is done in it, plain. -/
namespace Go.Ev
open Go.Proofs

theorem aw_E7 : explored (withF E0 {}) 1000 (opsD (c6.drop 7)) aw_T 92 5 aw_L7 aw_H7 aw_ms aw_stop = true := by decide +kernel
theorem aw_T7 : (aw_ms.all fun m => wT.all fun T => noT T (muts (aw_H7 m))) = true := by decide +kernel
theorem aw_7c : (mAll aw_T (frOf 92 (aw_L7 aw_stop)) (hOf 5 (aw_H7 aw_stop)) 92 aw_A7 2 aw_H).isSome = true := by decide +kernel
theorem aw_S7 : selfOK aw_T 92 aw_A7 2 aw_H = true := by decide +kernel
theorem aw_7z : runsO (withF E0 {}) 100 (opsD (c6.drop 7)) (((opsD (c6.drop 7)).toList.drop 6).take 100) (frOf 92 ((40, .i .i64 252) :: aw_A7)) (hOf 2 aw_H) aw_T 92 aw_A8 2 aw_H = true := by decide +kernel
theorem aw_rd5 : Region.ready .any (opsD (c6.drop 7)) aw_stop.toArray = [5] := by decide +kernel
theorem aw_rd6 : Region.ready .any (opsD (c6.drop 7)) (aw_stop.toArray.setIfInBounds 5 true) = [6] := by decide +kernel
theorem aw_rd7 : Region.ready .any (opsD (c6.drop 7)) ((aw_stop.toArray.setIfInBounds 5 true).setIfInBounds 6 true) = [] := by decide +kernel

def zN : ByteArray := bytes [122]
def r00N : ByteArray := bytes [114, 48, 48]
theorem rn_z : RN zN := rn_of (by decide +kernel)
theorem rn_r00 : RN r00N := rn_of (by decide +kernel)
def snaps8 : List (ByteArray × Nat) := (List.range 8).map fun i => (bytes (sName i), i + 1)
theorem len21 : (setR (rootsL 20) zN 1).length = 21 := by decide +kernel
theorem len20 : (setR (delR (rootsL 20) r00N) zN 1).length = 20 := by decide +kernel
theorem len9 : (namesOf snaps8 [(.snap zN 1, nilS)]).length = 9 := by decide +kernel

theorem setR_ids {l : List (ByteArray × Nat)} {k : Nat} (h : ∀ q ∈ l, q.2 = k) (nm : ByteArray) : ∀ q ∈ setR l nm k, q.2 = k := fun q hq => by
  rcases setR_mem hq with rfl | hq
  · rfl
  · exact h q hq
theorem rootsL_ids {m : Nat} : ∀ q ∈ rootsL m, q.2 = 1 := fun q hq => by obtain ⟨i, _, rfl⟩ := rootsL_mem hq; rfl
theorem ne_of_len {α : Type} {l : List α} {k : Nat} (h : l.length = k) (hk : k ≠ 0) : l ≠ [] := by rintro rfl; exact hk h.symm

/-- A chain, with other roots. -/
theorem HasChain.reroot {l : List (O × Value)} {rs rs' : List (ByteArray × Nat)} {next N k k' : Nat} (h : HasChain ⟨l, rs, next⟩ N k) (h1 : ∀ q ∈ rs', q.2 = k') (h2 : rs' ≠ []) (hk : 1 ≤ k' ∧ k' ≤ N) : HasChain ⟨l, rs', next⟩ N k' := ⟨h.sub, h.refs, h1, h2, hk, h.N⟩

theorem chain_id {l : List (O × Value)} {N : Nat} (hl : l.map (·.1) = chainL N) {p : O × Value} (hp : p ∈ l) : 1 ≤ p.1.id ∧ p.1.id ≤ N := by
  have : p.1 ∈ chainL N := by rw [← hl]; exact List.mem_map.2 ⟨p, hp, rfl⟩
  obtain ⟨i, hi, e⟩ := chainL_mem.1 this
  rw [e]; simp only [chO]; omega
theorem put_new {l : List (O × Value)} {N : Nat} (hl : l.map (·.1) = chainL N) {p : O × Value} (hp : N < p.1.id) : putO l p = l ++ [p] := by
  unfold putO
  rw [if_neg]
  intro hm
  obtain ⟨q, hq, e⟩ := List.mem_map.1 hm
  have := chain_id hl hq
  omega
/-- One object more, that nothing refers to. -/
theorem chain_more {l : List (O × Value)} {N m next : Nat} (hl : l.map (·.1) = chainL N) (hN : 1 ≤ N ∧ N ≤ 90000) (hm : 1 ≤ m) (v : Value) : HasChain ⟨l ++ [(⟨N + 1, 0⟩, v)], rootsL m, next⟩ N 1 := by
  have h := hasChain0 (next := next) hl hN hm
  refine ⟨fun o ho => ?_, fun p hp => ?_, h.roots, h.rne, h.k, h.N⟩
  · have := h.sub o ho
    rw [List.map_append]; exact List.mem_append_left _ this
  · rcases List.mem_append.1 hp with hp | hp
    · exact h.refs p hp
    · simp only [List.mem_singleton] at hp; subst hp; exact Nat.zero_le _
/-- One object more, behind the last one. -/
theorem chain_long {l : List (O × Value)} {N m next : Nat} (hl : l.map (·.1) = chainL N) (hN : 1 ≤ N ∧ N + 1 ≤ 90000) (hm : 1 ≤ m) (v1 v2 : Value) : HasChain ⟨putO (l ++ [(⟨N + 1, 0⟩, v1)]) (⟨N, N + 1⟩, v2), rootsL m, next⟩ (N + 1) 1 ∧ (putO (l ++ [(⟨N + 1, 0⟩, v1)]) (⟨N, N + 1⟩, v2)).length = l.length + 1 := by
  have h := hasChain0 (next := next) hl ⟨hN.1, by omega⟩ hm
  have hmem : N ∈ (l ++ [((⟨N + 1, 0⟩ : O), v1)]).map (·.1.id) := by
    obtain ⟨p, hp, e⟩ := h.id (x := N) (by omega)
    refine List.mem_map.2 ⟨p, List.mem_append_left _ hp, ?_⟩
    rw [e]; simp only [chO]; omega
  have hput : putO (l ++ [(⟨N + 1, 0⟩, v1)]) (⟨N, N + 1⟩, v2) = (l ++ [((⟨N + 1, 0⟩ : O), v1)]).map (fun q : O × Value => if q.1.id = N then ((⟨N, N + 1⟩ : O), v2) else q) := by
    unfold putO
    rw [if_pos hmem]
  rw [hput]
  refine ⟨⟨fun o ho => ?_, fun p hp => ?_, h.roots, h.rne, by omega, hN.2⟩, by simp⟩
  · obtain ⟨i, hi, rfl⟩ := chainL_mem.1 ho
    rw [List.map_map]
    by_cases h1 : i = N
    · subst h1
      refine List.mem_map.2 ⟨(⟨i + 1, 0⟩, v1), by simp, ?_⟩
      simp [chO]
    · obtain ⟨p, hp, e⟩ := h.id (x := i + 1) (by omega)
      refine List.mem_map.2 ⟨p, List.mem_append_left _ hp, ?_⟩
      have e' : p.1 = chO N i := by rw [e]; simp
      simp only [Function.comp]
      by_cases h2 : i + 1 = N
      · have : p.1.id = N := by rw [e']; exact h2
        rw [if_pos this]
        simp only [chO]
        rw [if_neg (by omega)]
        congr 1
        · omega
        · omega
      · have : p.1.id ≠ N := by rw [e']; exact h2
        rw [if_neg this, e']
        simp only [chO]
        rw [if_neg h2, if_neg (by omega)]
  · obtain ⟨q, hq, rfl⟩ := List.mem_map.1 hp
    split
    · exact Nat.le_refl _
    · rcases List.mem_append.1 hq with hq | hq
      · have := h.refs q hq; show q.1.ref ≤ N + 1; omega
      · simp only [List.mem_singleton] at hq; subst hq; exact Nat.zero_le _

theorem after_call {φ : Ren} {B nt nb : Nat} {L : List (Nat × V)} {HB : List (Nat × Blk)} {a : Act} {w w' : World} (hs : StAt φ B (frOf nt L) (hOf nb HB) a w) (hg : Grown w w') {L' : List (Nat × V)} {nb' : Nat} {HB' : List (Nat × Blk)} {tb : Tab} (hm : (mAll tb (frOf nt L) (hOf nb HB) nt L' nb' HB').isSome = true) (hp : plainT tb = true) (hself : selfOK tb nt L' nb' HB' = true) {y : Sym} (hy : Ag tb y y) (hn : Named φ y) {d : Nat} (hd : d < nt) (c : Nat) :
    ∃ φ', StAt φ' B (frOf nt ((d, .i .i64 c) :: L')) (hOf nb' HB') (a.put (some d) (.int .i64 c)) w' ∧ Named φ' y := by
  obtain ⟨φ1, hs1, n1, n2, n3, n4⟩ := hs.conv hm y ((hy.self' hn).agree hp rfl _ _)
  obtain ⟨φ2, hs2, m1, m2, m3, m4⟩ := hs1.grow hg hself (y := y) (hy.self'' n1 n2 n3 n4)
  exact ⟨φ2, hs2.put hd vI, m1, m2, m3, m4⟩
theorem vW {φ : Ren} {lines ov rv : Value} {next : Nat} (h0 : φ.q 0 = lines) (h1 : φ.q 1 = ov) (h2 : φ.q 2 = rv) (h3 : φ.s 3 = next) (o0 : lines.oneCell' = true) (o1 : ov.oneCell' = true) (o2 : rv.oneCell' = true) : VR φ wA (wV lines ov rv next) := by
  have := w_args_ok (φ := φ) h0 h1 h2 h3 o0 o1 o2
  simp only [w_args, VRs] at this
  obtain ⟨_, _, e, h, rfl⟩ := this
  simp only [List.cons.injEq, and_true] at e
  rw [e]; exact h
theorem vW_eq {φ : Ren} {lines ov rv : Value} {next : Nat} (h0 : φ.q 0 = lines) (h1 : φ.q 1 = ov) (h2 : φ.q 2 = rv) (h3 : φ.s 3 = next) {v : Value} (h : VR φ wA v) : v = wV lines ov rv next := by
  have := w_args_eq (φ := φ) h0 h1 h2 h3 (args := [v]) (VRs.cons h VRs.nil)
  simpa using this
theorem vB_eq {φ : Ren} {lines ov rv : Value} {next : Nat} (h0 : φ.q 7 = lines) (h1 : φ.q 8 = ov) (h2 : φ.q 9 = rv) (h3 : φ.s 4 = next) {v : Value} (h : VR φ wB v) : v = wV lines ov rv next := by
  simp only [wB, VR, VRs] at h
  obtain ⟨cs, rfl, _, _, e1, ⟨rfl, _⟩, _, _, rfl, ⟨rfl, _⟩, _, _, rfl, ⟨rfl, _⟩, _, _, rfl, rfl, rfl⟩ := h
  rw [h0, h1, h2, h3] at e1
  unfold wV
  congr 1
  exact Array.toList_inj.1 e1
theorem vWB {φ : Ren} {lines ov rv : Value} {next : Nat} (h7 : φ.q 7 = lines) (h8 : φ.q 8 = ov) (h9 : φ.q 9 = rv) (h4 : φ.s 4 = next) (p0 : lines.oneCell' = true) (p1 : ov.oneCell' = true) (p2 : rv.oneCell' = true) : VR φ wB (wV lines ov rv next) := by
  simp only [wB, VR]
  refine ⟨_, rfl, VRs.cons ?_ (VRs.cons ?_ (VRs.cons ?_ (VRs.cons ?_ VRs.nil)))⟩
  · simp only [VR]; exact ⟨h7.symm, p0⟩
  · simp only [VR]; exact ⟨h8.symm, p1⟩
  · simp only [VR]; exact ⟨h9.symm, p2⟩
  · simp only [VR, h4]
theorem vnl_eq {φ : Ren} {v : Value} (h : VR φ nl v) : v = nilS := by simp only [nl, VR] at h; exact h.2

end Go.Ev

/- Chains, part De: 'awake'. -/
namespace Go.Ev
open Go.Proofs

def yA (ln ov rv : Value) : Sym := mkY [0, 0, 0, 4] [ln, ov, rv] [] []
def yB (ln ov rv ln2 ov2 rv2 : Value) : Sym := mkY [0, 0, 0, 4, 201] [ln, ov, rv, .bool false, .bool false, .bool false, .bool false, ln2, ov2, rv2] [] []

theorem snapsV_ok {φ : Ren} : ∀ (ks : List Nat) (vs : List Value), VRs φ (ks.flatMap fun i => [V.s (sName i), V.i .i64 ((i + 1 : Nat) : Int)]) vs → vs = rRow (ks.map fun i => (bytes (sName i), i + 1))
  | [], vs, h => by
    simp only [List.flatMap_nil, VRs] at h
    rw [h]; rfl
  | k :: ks, vs, h => by
    simp only [List.flatMap_cons, List.cons_append, List.nil_append, VRs, VR] at h
    obtain ⟨_, _, rfl, ⟨rfl, _⟩, _, _, rfl, rfl, h⟩ := h
    rw [snapsV_ok ks _ h]
    simp [rRow, rCells]

theorem awake_ok (n : Nat) (w : World) : CallsIn (W none) n Tryz.prog 6 #[] w fun e w' => ∃ v, e = .returned v ∧ v = .bool true ∧ Grown w w' := by
  let y0 : Sym := mkY [] [] [] []
  have hst := StAt.enter (nt := 92) (φ0_hr y0 w) rfl rfl (vs := []) (args := []) VRs.nil (by decide)
  refine callIn (fn := Tryz.f6) (c := (Tryz.f6.body).getD .skip) (args := []) Tryz.func6 rfl (wpIn_flat _ ?_)
  show wpCs none n E0.P _ c6 _ _
  refine StAt.runL (withF_ok E0_ok {}) rfl 1 aw_0 hst noFacts.bd' rfl y0 (Ag.agreeS (o := y0) ⟨trivial, trivial, trivial, trivial⟩ rfl rfl rfl rfl) fun φ a w1 hs hd1 hg1 _ n1 n2 n3 n4 => ?_
  show wpCs none n E0.P _ (c6.drop 1) a w1
  -- Chain(3, 20)
  obtain ⟨id1, hr1⟩ := aw_r1
  rw [hr1]
  refine wpCs_region ?_
  refine hs.callO (l := (opsD (c6.drop 1)).toList) (o := (opsD (c6.drop 1)).toList.headD default) (rest := (opsD (c6.drop 1)).toList.drop 1) rfl rfl rfl rfl rfl Tryz.func8 rfl rfl (Vs := [.i .i64 3, .i .i64 20]) rfl ?_
  intro args' ha
  have : args' = [.int .i64 (3 : Nat), .int .i64 (20 : Nat)] := by
    simp only [VRs, VR] at ha
    obtain ⟨_, _, rfl, rfl, _, _, rfl, rfl, rfl⟩ := ha
    rfl
  subst this
  refine (chain_ok (n := n - 1) (N := 3) (m := 20) ⟨by decide, by decide⟩ ⟨by decide, by decide⟩ cha_Z20).mono ?_
  rintro e w2 ⟨v, rfl, ⟨ln, ov, rv, l, rfl, G2, hl⟩, hgr2⟩
  refine ⟨_, rfl, ?_⟩
  have o0 := G2.sch.one
  have o1 := G2.objs.one
  have o2 := G2.roots.one
  have hc0 := hasChain0 (next := 4) hl ⟨by decide, by decide⟩ (m := 20) (by decide)
  have hll := chain_len hl
  have g02 := hg1.trans (hgr2.gb hg1.size)
  have hyA : Ag aw_T (yA ln ov rv) (yA ln ov rv) := ⟨⟨rfl, trivial⟩, ⟨⟨rfl, o0⟩, ⟨rfl, o1⟩, ⟨rfl, o2⟩, trivial⟩, trivial, trivial⟩
  obtain ⟨φ, hs, n1, n2, n3, n4⟩ := hs.grow hgr2 (tb := {}) (by decide +kernel) (y := yA ln ov rv) ⟨trivial, trivial, trivial, trivial⟩
  have hs := hs.put (d := 15) (by decide) (x := wA) (v := wV ln ov rv (3 + 1)) (vW (congrFun n2 0) (congrFun n2 1) (congrFun n2 2) (congrFun n1 3) o0 o1 o2)
  refine StAt.runO (withF_ok E0_ok {}) rfl 100 aw_1 hs noFacts.bd' _ (hyA.self' ⟨n1, n2, n3, n4⟩) fun φ a3 w3 hs hd3 hg3 hk3 n1 n2 n3 n4 => ?_
  show wpCs none n E0.P _ (c6.drop 2) a3 w3
  have hd3' : a3.defers = [] := by rw [hd3]; exact hd1
  refine StAt.runL (withF_ok E0_ok {}) rfl 1 (cs := c6.drop 2) aw_2 hs noFacts.bd' hd3' _ (hyA.self' ⟨n1, n2, n3, n4⟩) fun φ a4 w4 hs hd4 hg4 hk4 n1 n2 n3 n4 => ?_
  show wpCs none n E0.P _ (c6.drop 3) a4 w4
  have g04 := (g02.trans hg3).trans hg4
  have G4 : GW w4 ln ov rv 4 l (rootsL 20) := G2.keptC ((hk3.keptC rfl).trans (hk4.keptC rfl))
  -- one root more
  obtain ⟨id3, hr3⟩ := aw_r3
  rw [hr3]
  refine wpCs_region ?_
  refine StAt.runO (withF_ok E0_ok {}) rfl 3 aw_3 hs noFacts.bd' _ (hyA.self' ⟨n1, n2, n3, n4⟩) fun φ a5 w5 hs hd5 hg5 hk5 n1 n2 n3 n4 => ?_
  have G5 := G4.keptC (hk5.keptC rfl)
  refine hs.callO (l := (opsD (c6.drop 3)).toList.drop 3) (o := ((opsD (c6.drop 3)).toList.drop 3).headD default) (rest := (opsD (c6.drop 3)).toList.drop 4) rfl rfl rfl rfl rfl Tryz.func9 rfl rfl (Vs := [wA, nl, sl2 1]) rfl ?_
  intro args' ha
  simp only [VRs] at ha
  obtain ⟨uw, _, rfl, huw, us, _, rfl, hus, ur, _, rfl, hur, rfl⟩ := ha
  have e1 := vW_eq (next := 4) (congrFun n2 0) (congrFun n2 1) (congrFun n2 2) (congrFun n1 3) huw
  have e2 := vnl_eq hus
  subst e1; subst e2
  have one_eq : ∀ (φ : Ren) (vs : List Value), VRs φ oneV vs → vs = recCells (.root zN 1, nilS) := fun φ vs hv => by
    obtain ⟨v, nm, h1, h2, rfl⟩ := rec_eq hv (k' := 2) (oid' := 0) (id' := 1) vI_eq vI_eq vI_eq
    simp only [VR] at h2
    rw [vnl_eq h1, h2.1]; rfl
  have hrec5 : IsRecs w5 ur [(.root zN 1, nilS)] := recsOf hs.hr (cs := oneV) rfl hur (fun vs hv => by rw [one_eq φ vs hv]; simp [recRow]) rfl
  refine (limit_chain (n := n - 1) (c := 251) G5 hc0 (sl := []) (.inl ⟨rfl, rfl⟩) (by decide) hrec5 (fun r hr => by simp only [List.mem_singleton] at hr; subst hr; exact ⟨rn_z, by decide⟩) (by decide) (s := ⟨l, setR (rootsL 20) zN 1, 4⟩) rfl (by show l.length ≤ _; omega) (by rw [len21]; decide) (hc0.reroot (setR_ids rootsL_ids zN) (ne_of_len len21 (by decide)) ⟨by decide, by decide⟩) (by rw [len21]; rfl)).mono ?_
  rintro e w6 ⟨v, rfl, rfl, hgr6⟩
  refine ⟨_, rfl, ?_⟩
  obtain ⟨φ, hs, hnm⟩ := after_call hs hgr6 aw_3c rfl aw_S hyA ⟨n1, n2, n3, n4⟩ (d := 20) (by decide) 251
  have g06 := (g04.trans hg5).trans (hgr6.gb (Nat.le_trans g04.size hg5.size))
  have G6 := G5.keptC (KeptC.grown hgr6 wT)
  refine StAt.runO (withF_ok E0_ok {}) rfl 100 aw_3z hs noFacts.bd' _ (hyA.self' hnm) fun φ a7 w7 hs hd7 hg7 hk7 n1 n2 n3 n4 => ?_
  show wpCs none n E0.P _ (c6.drop 4) a7 w7
  have hd7' : a7.defers = [] := by rw [hd7]; show a5.defers = []; rw [hd5, hd4]
  have G7 := G6.keptC (hk7.keptC rfl)
  have g07 := g06.trans hg7
  -- one root goes, one comes
  obtain ⟨id4, hr4⟩ := aw_r4
  rw [hr4]
  refine wpCs_region ?_
  refine StAt.runO (withF_ok E0_ok {}) rfl 4 aw_4 hs noFacts.bd' _ (hyA.self' ⟨n1, n2, n3, n4⟩) fun φ a8 w8 hs hd8 hg8 hk8 n1 n2 n3 n4 => ?_
  have G8 := G7.keptC (hk8.keptC rfl)
  refine hs.callO (l := (opsD (c6.drop 4)).toList.drop 4) (o := ((opsD (c6.drop 4)).toList.drop 4).headD default) (rest := (opsD (c6.drop 4)).toList.drop 5) rfl rfl rfl rfl rfl Tryz.func9 rfl rfl (Vs := [wA, nl, sl2 2]) rfl ?_
  intro args' ha
  simp only [VRs] at ha
  obtain ⟨uw, _, rfl, huw, us, _, rfl, hus, ur, _, rfl, hur, rfl⟩ := ha
  have e1 := vW_eq (next := 4) (congrFun n2 0) (congrFun n2 1) (congrFun n2 2) (congrFun n1 3) huw
  have e2 := vnl_eq hus
  subst e1; subst e2
  have hrec8 : IsRecs w8 ur [(.root r00N 0, nilS), (.root zN 1, nilS)] := recsOf hs.hr (cs := goneV ++ oneV) rfl hur (fun vs hv => by
    obtain ⟨v1, v2, rfl, h1, h2⟩ := hv.split
    obtain ⟨v, nm, h3, h4, rfl⟩ := rec_eq h1 (k' := 2) (oid' := 0) (id' := 0) vI_eq vI_eq vI_eq
    simp only [VR] at h4
    rw [one_eq φ v2 h2, vnl_eq h3, h4.1]
    simp only [recRow, List.flatMap_cons, List.flatMap_nil, List.append_nil]
    rfl) rfl
  refine (limit_chain (n := n - 1) (c := 0) G8 hc0 (sl := []) (.inl ⟨rfl, rfl⟩) (by decide) hrec8 (fun r hr => by
    simp only [List.mem_cons, List.not_mem_nil, or_false] at hr
    rcases hr with rfl | rfl
    · exact ⟨rn_r00, by decide⟩
    · exact ⟨rn_z, by decide⟩) (by decide) (s := ⟨l, setR (delR (rootsL 20) r00N) zN 1, 4⟩) rfl (by show l.length ≤ _; omega) (by rw [len20]; decide) (hc0.reroot (setR_ids (fun q hq => rootsL_ids q (List.mem_filter.1 hq).1) zN) (ne_of_len len20 (by decide)) ⟨by decide, by decide⟩) (by rw [len20]; rfl)).mono ?_
  rintro e w9 ⟨v, rfl, rfl, hgr9⟩
  refine ⟨_, rfl, ?_⟩
  obtain ⟨φ, hs, hnm⟩ := after_call hs hgr9 aw_4c rfl aw_S4 hyA ⟨n1, n2, n3, n4⟩ (d := 25) (by decide) 0
  have g09 := (g07.trans hg8).trans (hgr9.gb (Nat.le_trans g07.size hg8.size))
  have G9 := G8.keptC (KeptC.grown hgr9 wT)
  refine StAt.runO (withF_ok E0_ok {}) rfl 100 aw_4z hs noFacts.bd' _ (hyA.self' hnm) fun φ aa wa hs hda hga hka n1 n2 n3 n4 => ?_
  show wpCs none n E0.P _ (c6.drop 5) aa wa
  have hda' : aa.defers = [] := by rw [hda]; show a8.defers = []; rw [hd8, hd7']
  have Ga := G9.keptC (hka.keptC rfl)
  have g0a := g09.trans hga
  -- an object more behind the last one
  obtain ⟨id5, hr5⟩ := aw_r5
  rw [hr5]
  refine wpCs_region ?_
  refine hs.callO (l := (opsD (c6.drop 5)).toList) (o := (opsD (c6.drop 5)).toList.headD default) (rest := (opsD (c6.drop 5)).toList.drop 1) rfl rfl rfl rfl rfl Tryz.func8 rfl rfl (Vs := [.i .i64 200, .i .i64 1]) rfl ?_
  intro args' ha
  have : args' = [.int .i64 (200 : Nat), .int .i64 (1 : Nat)] := by
    simp only [VRs, VR] at ha
    obtain ⟨_, _, rfl, rfl, _, _, rfl, rfl, rfl⟩ := ha
    rfl
  subst this
  refine (chain_ok (n := n - 1) (N := 200) (m := 1) ⟨by decide, by decide⟩ ⟨by decide, by decide⟩ cha_Z1).mono ?_
  rintro e wb ⟨v, rfl, ⟨ln2, ov2, rv2, l2, rfl, Gb2, hl2⟩, hgrb⟩
  refine ⟨_, rfl, ?_⟩
  have p0 := Gb2.sch.one
  have p1 := Gb2.objs.one
  have p2 := Gb2.roots.one
  have Gb := Ga.keptC (KeptC.grown hgrb wT)
  have g0b := g0a.trans (hgrb.gb g0a.size)
  have hll2 := chain_len hl2
  have hyB : Ag aw_T2 (yB ln ov rv ln2 ov2 rv2) (yB ln ov rv ln2 ov2 rv2) := ⟨⟨rfl, rfl, trivial⟩, ⟨⟨rfl, o0⟩, ⟨rfl, o1⟩, ⟨rfl, o2⟩, ⟨rfl, p0⟩, ⟨rfl, p1⟩, ⟨rfl, p2⟩, trivial⟩, trivial, trivial⟩
  obtain ⟨φ, hs, n1, n2, n3, n4⟩ := hs.grow hgrb aw_S5 (y := yB ln ov rv ln2 ov2 rv2) ⟨⟨(congrFun n1 3).symm, trivial⟩, ⟨⟨(congrFun n2 0).symm, o0⟩, ⟨(congrFun n2 1).symm, o1⟩, ⟨(congrFun n2 2).symm, o2⟩, trivial⟩, trivial, trivial⟩
  have hs := hs.put (d := 26) (by decide) (x := wB) (v := wV ln2 ov2 rv2 (200 + 1)) (vWB (congrFun n2 7) (congrFun n2 8) (congrFun n2 9) (congrFun n1 4) p0 p1 p2)
  refine StAt.runO (withF_ok E0_ok {}) rfl 3 aw_5 hs noFacts.bd' _ (hyB.self' ⟨n1, n2, n3, n4⟩) fun φ ac wc hs hdc hgc hkc n1 n2 n3 n4 => ?_
  have Gc := Gb.keptC (hkc.keptC rfl)
  have Gc2 := Gb2.keptC (hkc.keptC rfl)
  have g0c := g0b.trans hgc
  refine hs.callO (l := ((opsD (c6.drop 5)).toList.drop 1).drop 3) (o := ((opsD (c6.drop 5)).toList.drop 4).headD default) (rest := (opsD (c6.drop 5)).toList.drop 5) rfl rfl rfl rfl rfl Tryz.func9 rfl rfl (Vs := [wB, nl, sl2 2]) rfl ?_
  intro args' ha
  simp only [VRs] at ha
  obtain ⟨uw, _, rfl, huw, us, _, rfl, hus, ur, _, rfl, hur, rfl⟩ := ha
  have e1 := vB_eq (next := 201) (congrFun n2 7) (congrFun n2 8) (congrFun n2 9) (congrFun n1 4) huw
  have e2 := vnl_eq hus
  subst e1; subst e2
  -- where the values lie
  have valN : ∀ (φ : Ren) (HB : List (Nat × Blk)) (nb : Nat) (w : World), HR φ (hOf nb HB) w → lkB HB 3 = valB' kN kN → ∀ r, φ 3 = some r → IsVal w (⟨201, 0⟩, .slice (some ⟨r, 0, none⟩) 1 1) := fun φ HB nb w hr h3 r h => by
    obtain ⟨c, g, vc, _, z, _⟩ := hr.cellsL h (l := [kN, kN, .s [], .sl none 0 (.kn 0)]) h3
    have z := z rfl
    rw [List.take_of_length_le (by rw [Array.length_toList, z]; exact Nat.le_refl _)] at vc
    simp only [kN, VRs, VR] at vc
    obtain ⟨_, _, q, rfl, _, _, rfl, rfl, _, _, rfl, ⟨rfl, _⟩, _, _, rfl, ⟨_, rfl⟩, rfl⟩ := vc
    exact ⟨r, rfl, by rw [g]; congr 2; exact Array.toList_inj.1 q⟩
  have p201_eq : ∀ (φ : Ren) (vs : List Value), VRs φ (p201 3) vs → ∃ r, φ 3 = some r ∧ vs = recCells (.put ⟨201, 0⟩, .slice (some ⟨r, 0, none⟩) 1 1) := fun φ vs hv => by
    obtain ⟨v, nm, h1, h2, rfl⟩ := rec_eq hv (k' := 1) (oid' := 201) (id' := 0) vI_eq vI_eq vI_eq
    simp only [VR] at h1 h2
    obtain ⟨r, hr, _, rfl⟩ := h1
    exact ⟨r, hr, by rw [h2.1]; rfl⟩
  obtain ⟨r3, r4, hr3', hr4', hrec⟩ : ∃ r3 r4, φ 3 = some r3 ∧ φ 4 = some r4 ∧ IsRecs wc ur [(.put ⟨201, 0⟩, .slice (some ⟨r3, 0, none⟩) 1 1), (.put ⟨200, 201⟩, .slice (some ⟨r4, 0, none⟩) 1 1)] := by
    have hv2 : ∃ r, φ 2 = some r := by simp only [sl2, VR] at hur; exact ⟨_, hur.choose_spec.1⟩
    obtain ⟨r2, h2⟩ := hv2
    obtain ⟨c, g, vc, _, z, _⟩ := hs.hr.cellsL h2 (l := p201 3 ++ p200 4) rfl
    have z := z rfl
    rw [List.take_of_length_le (by rw [Array.length_toList, z]; exact Nat.le_refl _)] at vc
    have vc' := vc
    obtain ⟨v1, v2, _, h3, h4⟩ := vc.split
    obtain ⟨r3, hr3, _⟩ := p201_eq φ v1 h3
    obtain ⟨v, nm, h5, h6, _⟩ := rec_eq h4 (k' := 1) (oid' := 200) (id' := 0) vI_eq vI_eq vI_eq
    simp only [VR] at h5
    obtain ⟨r4, hr4, _, _⟩ := h5
    refine ⟨r3, r4, hr3, hr4, recsOf hs.hr (cs := p201 3 ++ p200 4) rfl hur (fun vs hv => ?_) rfl⟩
    obtain ⟨v1, v2, rfl, h3, h4⟩ := hv.split
    obtain ⟨r3', hr3', rfl⟩ := p201_eq φ v1 h3
    obtain ⟨v, nm, h5, h6, rfl⟩ := rec_eq h4 (k' := 1) (oid' := 200) (id' := 0) vI_eq vI_eq vI_eq
    simp only [VR] at h5 h6
    obtain ⟨r4', hr4', _, rfl⟩ := h5
    rw [hr3] at hr3'; cases hr3'
    rw [hr4] at hr4'; cases hr4'
    rw [h6.1]
    simp only [recRow, List.flatMap_cons, List.flatMap_nil, List.append_nil]
    rfl
  have hval3 := valN φ _ _ wc hs.hr rfl r3 hr3'
  have hval4 : IsVal wc (⟨200, 201⟩, .slice (some ⟨r4, 0, none⟩) 1 1) := by
    obtain ⟨c, g, vc, _, z, _⟩ := hs.hr.cellsL hr4' (l := [kY, .i .i64 201, .s [], .sl none 0 (.kn 0)]) rfl
    have z := z rfl
    rw [List.take_of_length_le (by rw [Array.length_toList, z]; exact Nat.le_refl _)] at vc
    simp only [kY, VRs, VR] at vc
    obtain ⟨_, _, q, rfl, _, _, rfl, rfl, _, _, rfl, ⟨rfl, _⟩, _, _, rfl, ⟨_, rfl⟩, rfl⟩ := vc
    exact ⟨r4, rfl, by rw [g]; congr 2; exact Array.toList_inj.1 q⟩
  have hc2 := hasChain0 (next := 201) hl2 ⟨by decide, by decide⟩ (m := 1) (by decide)
  have hlong := chain_long (next := 202) hl2 ⟨by decide, by decide⟩ (m := 1) (by decide) (.slice (some ⟨r3, 0, none⟩) 1 1) (.slice (some ⟨r4, 0, none⟩) 1 1)
  refine (limit_chain (n := n - 1) (c := 250) Gc2 hc2 (sl := []) (.inl ⟨rfl, rfl⟩) (by decide) hrec (fun r hr => by
    simp only [List.mem_cons, List.not_mem_nil, or_false] at hr
    rcases hr with rfl | rfl
    · exact ⟨hval3, ⟨by decide, by decide⟩, by decide⟩
    · exact ⟨hval4, ⟨by decide, by decide⟩, by decide⟩) (by show 2 ≤ 1000; decide) (s := ⟨putO (l2 ++ [(⟨201, 0⟩, .slice (some ⟨r3, 0, none⟩) 1 1)]) (⟨200, 201⟩, .slice (some ⟨r4, 0, none⟩) 1 1), rootsL 1, 202⟩) (by
      simp only [Bst.run, List.foldl_cons, List.foldl_nil, Bst.step]
      rw [put_new hl2 (p := (⟨201, 0⟩, .slice (some ⟨r3, 0, none⟩) 1 1)) (by show 200 < 201; decide)]
      rfl) (by show (putO _ _).length ≤ _; rw [hlong.2]; omega) (by show (rootsL 1).length ≤ 100000; decide) hlong.1 rfl).mono ?_
  rintro e wd ⟨v, rfl, rfl, hgrd⟩
  refine ⟨_, rfl, ?_⟩
  have yAB : ∀ φ : Ren, Named φ (yB ln ov rv ln2 ov2 rv2) → Agree aw_T φ (hOf 5 aw_H5) wc (yA ln ov rv) := fun φ h => by
    refine mkAgree ⟨(congrFun h.1 3).symm, trivial⟩ ⟨?_, ?_, ?_, trivial⟩ trivial trivial
    · simp only [VR]; exact ⟨(congrFun h.2.1 0).symm, o0⟩
    · simp only [VR]; exact ⟨(congrFun h.2.1 1).symm, o1⟩
    · simp only [VR]; exact ⟨(congrFun h.2.1 2).symm, o2⟩
  obtain ⟨φ, hs, n1, n2, n3, n4⟩ := hs.conv aw_5c (yA ln ov rv) (yAB φ ⟨n1, n2, n3, n4⟩)
  obtain ⟨φ, hs, n1, n2, n3, n4⟩ := hs.grow hgrd aw_S5 (y := yA ln ov rv) (hyA.self'' n1 n2 n3 n4)
  have hs := hs.put (d := 30) (by decide) (x := .i .i64 250) (v := .int .i64 250) vI
  have g0d := g0c.trans (hgrd.gb g0c.size)
  have Gd := Gc.keptC (KeptC.grown hgrd wT)
  refine StAt.runO (withF_ok E0_ok {}) rfl 100 aw_5z hs noFacts.bd' _ (hyA.self' ⟨n1, n2, n3, n4⟩) fun φ ae we hs hde hge hke n1 n2 n3 n4 => ?_
  show wpCs none n E0.P _ (c6.drop 6) ae we
  have hde' : ae.defers = [] := by rw [hde]; show ac.defers = []; rw [hdc]; exact hda'
  have Ge := Gd.keptC (hke.keptC rfl)
  have g0e := g0d.trans hge
  -- an object more that is not reached
  obtain ⟨id6, hr6⟩ := aw_r6
  rw [hr6]
  refine wpCs_region ?_
  refine hs.callO (l := (opsD (c6.drop 6)).toList) (o := (opsD (c6.drop 6)).toList.headD default) (rest := (opsD (c6.drop 6)).toList.drop 1) rfl rfl rfl rfl rfl Tryz.func8 rfl rfl (Vs := [.i .i64 200, .i .i64 1]) rfl ?_
  intro args' ha
  have : args' = [.int .i64 (200 : Nat), .int .i64 (1 : Nat)] := by
    simp only [VRs, VR] at ha
    obtain ⟨_, _, rfl, rfl, _, _, rfl, rfl, rfl⟩ := ha
    rfl
  subst this
  refine (chain_ok (n := n - 1) (N := 200) (m := 1) ⟨by decide, by decide⟩ ⟨by decide, by decide⟩ cha_Z1).mono ?_
  rintro e wf ⟨v, rfl, ⟨ln3, ov3, rv3, l3, rfl, Gf3, hl3⟩, hgrf⟩
  refine ⟨_, rfl, ?_⟩
  have t0 := Gf3.sch.one
  have t1 := Gf3.objs.one
  have t2 := Gf3.roots.one
  have Gf := Ge.keptC (KeptC.grown hgrf wT)
  have g0f := g0e.trans (hgrf.gb g0e.size)
  have hll3 := chain_len hl3
  have hyC : Ag aw_T2 (yB ln ov rv ln3 ov3 rv3) (yB ln ov rv ln3 ov3 rv3) := ⟨⟨rfl, rfl, trivial⟩, ⟨⟨rfl, o0⟩, ⟨rfl, o1⟩, ⟨rfl, o2⟩, ⟨rfl, t0⟩, ⟨rfl, t1⟩, ⟨rfl, t2⟩, trivial⟩, trivial, trivial⟩
  obtain ⟨φ, hs, n1, n2, n3, n4⟩ := hs.grow hgrf aw_S6 (y := yB ln ov rv ln3 ov3 rv3) ⟨⟨(congrFun n1 3).symm, trivial⟩, ⟨⟨(congrFun n2 0).symm, o0⟩, ⟨(congrFun n2 1).symm, o1⟩, ⟨(congrFun n2 2).symm, o2⟩, trivial⟩, trivial, trivial⟩
  have hs := hs.put (d := 31) (by decide) (x := wB) (v := wV ln3 ov3 rv3 (200 + 1)) (vWB (congrFun n2 7) (congrFun n2 8) (congrFun n2 9) (congrFun n1 4) t0 t1 t2)
  refine StAt.runO (withF_ok E0_ok {}) rfl 2 aw_6 hs noFacts.bd' _ (hyC.self' ⟨n1, n2, n3, n4⟩) fun φ ag wg hs hdg hgg hkg n1 n2 n3 n4 => ?_
  have Gg := Gf.keptC (hkg.keptC rfl)
  have Gg3 := Gf3.keptC (hkg.keptC rfl)
  have g0g := g0f.trans hgg
  refine hs.callO (l := ((opsD (c6.drop 6)).toList.drop 1).drop 2) (o := ((opsD (c6.drop 6)).toList.drop 3).headD default) (rest := (opsD (c6.drop 6)).toList.drop 4) rfl rfl rfl rfl rfl Tryz.func9 rfl rfl (Vs := [wB, nl, sl2 1]) rfl ?_
  intro args' ha
  simp only [VRs] at ha
  obtain ⟨uw, _, rfl, huw, us, _, rfl, hus, ur, _, rfl, hur, rfl⟩ := ha
  have e1 := vB_eq (next := 201) (congrFun n2 7) (congrFun n2 8) (congrFun n2 9) (congrFun n1 4) huw
  have e2 := vnl_eq hus
  subst e1; subst e2
  obtain ⟨r3, hr3', hrec⟩ : ∃ r3, φ 3 = some r3 ∧ IsRecs wg ur [(.put ⟨201, 0⟩, .slice (some ⟨r3, 0, none⟩) 1 1)] := by
    have hv2 : ∃ r, φ 2 = some r := by simp only [sl2, VR] at hur; exact ⟨_, hur.choose_spec.1⟩
    obtain ⟨r2, h2⟩ := hv2
    obtain ⟨c, g, vc, _, z, _⟩ := hs.hr.cellsL h2 (l := p201 3) rfl
    have z := z rfl
    rw [List.take_of_length_le (by rw [Array.length_toList, z]; exact Nat.le_refl _)] at vc
    obtain ⟨r3, hr3, _⟩ := p201_eq φ _ vc
    refine ⟨r3, hr3, recsOf hs.hr (cs := p201 3) rfl hur (fun vs hv => ?_) rfl⟩
    obtain ⟨r3', hr3', rfl⟩ := p201_eq φ vs hv
    rw [hr3] at hr3'; cases hr3'
    simp [recRow]
  have hval3 := valN φ _ _ wg hs.hr rfl r3 hr3'
  have hc3 := hasChain0 (next := 201) hl3 ⟨by decide, by decide⟩ (m := 1) (by decide)
  refine (limit_chain (n := n - 1) (c := 0) Gg3 hc3 (sl := []) (.inl ⟨rfl, rfl⟩) (by decide) hrec (fun r hr => by
    simp only [List.mem_singleton] at hr
    subst hr
    exact ⟨hval3, ⟨by decide, by decide⟩, by decide⟩) (by show 1 ≤ 1000; decide) (s := ⟨l3 ++ [(⟨201, 0⟩, .slice (some ⟨r3, 0, none⟩) 1 1)], rootsL 1, 202⟩) (by
      simp only [Bst.run, List.foldl_cons, List.foldl_nil, Bst.step]
      rw [put_new hl3 (p := (⟨201, 0⟩, .slice (some ⟨r3, 0, none⟩) 1 1)) (by show 200 < 201; decide)]
      rfl) (by show (l3 ++ [((⟨201, 0⟩ : O), _)]).length ≤ _; rw [List.length_append, hll3]; show 200 + 1 ≤ 100000; decide) (by show (rootsL 1).length ≤ 100000; decide) (chain_more hl3 ⟨by decide, by decide⟩ (by decide) _) rfl).mono ?_
  rintro e wh ⟨v, rfl, rfl, hgrh⟩
  refine ⟨_, rfl, ?_⟩
  obtain ⟨φ, hs, n1, n2, n3, n4⟩ := hs.conv aw_6c (yA ln ov rv) (by
    refine mkAgree ⟨(congrFun n1 3).symm, trivial⟩ ⟨?_, ?_, ?_, trivial⟩ trivial trivial
    · simp only [VR]; exact ⟨(congrFun n2 0).symm, o0⟩
    · simp only [VR]; exact ⟨(congrFun n2 1).symm, o1⟩
    · simp only [VR]; exact ⟨(congrFun n2 2).symm, o2⟩)
  obtain ⟨φ, hs, n1, n2, n3, n4⟩ := hs.grow hgrh aw_S6 (y := yA ln ov rv) (hyA.self'' n1 n2 n3 n4)
  have hs := hs.put (d := 34) (by decide) (x := .i .i64 0) (v := .int .i64 0) vI
  have g0h := g0g.trans (hgrh.gb g0g.size)
  have Gh := Gg.keptC (KeptC.grown hgrh wT)
  refine StAt.runO (withF_ok E0_ok {}) rfl 100 aw_6z hs noFacts.bd' _ (hyA.self' ⟨n1, n2, n3, n4⟩) fun φ ai wi hs hdi hgi hki n1 n2 n3 n4 => ?_
  show wpCs none n E0.P _ (c6.drop 7) ai wi
  have hdi' : ai.defers = [] := by rw [hdi]; show ag.defers = []; rw [hdg]; exact hde'
  have Gi := Gh.keptC (hki.keptC rfl)
  have g0i := g0h.trans hgi
  -- snapshots
  obtain ⟨id7, hr7⟩ := aw_r7
  rw [hr7]
  refine StAt.exploreK (Ts := wT) (withF_ok E0_ok {}) rfl E0_ok.mixed aw_E7 aw_T7 (L0 := aw_A7) (HB0 := aw_H) rfl rfl hs (yA ln ov rv) hyA n1 n2 n3 n4 (fun φ1 _ _ _ _ => noFacts.bd') fun φ aj wj hs hdj hgj hkj n1 n2 n3 n4 => ?_
  refine any_step (fuel := 1) aw_rd5 (o := ((opsD (c6.drop 7)).toList.drop 5).headD default) rfl (l := (opsD (c6.drop 7)).toList.drop 6) (fun a w h => any_step (fuel := 0) aw_rd6 (o := ((opsD (c6.drop 7)).toList.drop 6).headD default) rfl (l := []) (fun a w h => any_done aw_rd7 h) h) ?_
  have Gj := Gi.keptC hkj
  have g0j := g0i.trans hgj
  refine hs.callO (o := ((opsD (c6.drop 7)).toList.drop 5).headD default) (rest := (opsD (c6.drop 7)).toList.drop 6) rfl rfl rfl rfl rfl Tryz.func9 rfl rfl (Vs := [wA, .sl (some (3, 0)) 8 (.un 2), .sl (some (4, 0)) 1 (.kn 1)]) rfl ?_
  intro args' ha
  simp only [VRs] at ha
  obtain ⟨uw, _, rfl, huw, us, _, rfl, hus, ur, _, rfl, hur, rfl⟩ := ha
  have e1 := vW_eq (next := 4) (congrFun n2 0) (congrFun n2 1) (congrFun n2 2) (congrFun n1 3) huw
  subst e1
  have hsn : IsSnaps wj us snaps8 := by
    simp only [VR] at hus
    obtain ⟨r3, cap, h3, h7, h8, rfl⟩ := hus
    obtain ⟨c6, g6, v6, l6, _, z6⟩ := hs.hr.cellsL h3 (l := (List.range 8).flatMap fun i => [.s (sName i), .i .i64 (i + 1 : Nat)]) rfl
    have := snapsV_ok _ _ v6
    refine .inr ⟨r3, 8, cap, c6, rfl, by decide, by decide, h7, by omega, g6, ?_⟩
    exact this
  have hrec : IsRecs wj ur [(.snap zN 1, nilS)] := recsOf hs.hr (cs := snapV) rfl hur (fun vs hv => by
    obtain ⟨v, nm, h1, h2, rfl⟩ := rec_eq hv (k' := 5) (oid' := 0) (id' := 1) vI_eq vI_eq vI_eq
    simp only [VR] at h2
    rw [vnl_eq h1, h2.1]; rfl) rfl
  refine (limit_chain (n := n - 1) (c := 252) Gj hc0 hsn (by decide) hrec (fun r hr => by simp only [List.mem_singleton] at hr; subst hr; exact ⟨rn_z, by decide⟩) (by decide) (s := ⟨l, rootsL 20, 4⟩) rfl (by show l.length ≤ _; omega) (by show (rootsL 20).length ≤ 100000; decide) hc0 (by rw [len9]; rfl)).mono ?_
  rintro e wk ⟨v, rfl, rfl, hgrk⟩
  refine ⟨_, rfl, ?_⟩
  obtain ⟨φ, hs, hnm⟩ := after_call hs hgrk aw_7c rfl aw_S7 hyA ⟨n1, n2, n3, n4⟩ (d := 40) (by decide) 252
  have g0k := g0j.trans (hgrk.gb g0j.size)
  refine StAt.runO (l := (opsD (c6.drop 7)).toList.drop 6) (withF_ok E0_ok {}) rfl 100 aw_7z hs noFacts.bd' _ (hyA.self' hnm) fun φ al wl hs hdl hgl hkl n1 n2 n3 n4 => ?_
  show wpCs none n E0.P _ (c6.drop 8) al wl
  have hdl' : al.defers = [] := by rw [hdl]; show aj.defers = []; rw [hdj]; exact hdi'
  -- the end
  refine StAt.runL (withF_ok E2_ok {}) rfl 10 (cs := c6.drop 8) aw_Z hs noFacts.bd' hdl' y0 (Ag.agreeS (o := yA ln ov rv) ⟨trivial, trivial, trivial, trivial⟩ n1 n2 n3 n4) fun φ am wm hs hdm hgm _ _ _ _ _ => ⟨.inl rfl, hdm, ?_⟩
  obtain ⟨v, hv1, hv2⟩ := hs.leave E0_ok (fn := Tryz.f6) (l := [.b true]) rfl
  exact ⟨v, hv1, v, rfl, by simpa only [aRets, VR] using hv2, ((g0k.trans hgl).trans hgm).grown⟩

end Go.Ev

/- Chains, part Ea: 'pick'. -/
namespace Go.Proofs
open Go.Shelf Go.RowKit Go.Ev

theorem wrap_in {n : Int} (h : -9223372036854775808 ≤ n ∧ n ≤ 9223372036854775807) : IntKind.i64.wrap n = n := by
  simp [IntKind.wrap, IntKind.bits, IntKind.signed]
  omega

set_option maxHeartbeats 1000000 in
theorem Tryz.pick7 (c : Int) (N : Nat) (hN : 1 ≤ N ∧ N ≤ 100000) (hc : -9223372036854775808 ≤ c ∧ c ≤ 9223372036854775807) (w : World) :
    Calls Tryz.prog 7 #[.int .i64 c, .int .i64 N] w fun e w' => (∃ r : Nat, r < N ∧ e = .returned (.int .i64 r)) ∧ w' = w := by
  have hN0 : (N : Int) ≠ 0 := by omega
  go_enter Tryz.func7, Tryz.ntmps7
  go_wp2
  · go_ret
    have h1 : 0 ≤ -(c + 1) := by omega
    have e : -(c + 1).tmod (N : Int) = (-(c + 1)) % (N : Int) := by
      rw [← Int.neg_tmod, Int.tmod_eq_emod_of_nonneg h1]
    have h2 := Int.emod_nonneg (-(c + 1)) hN0
    have h3 := Int.emod_lt_of_pos (-(c + 1)) (show (0 : Int) < N by omega)
    refine ⟨⟨((-(c + 1)) % (N : Int)).toNat, by omega, ?_⟩, rfl⟩
    rw [e, Int.toNat_of_nonneg h2]; rfl
  · go_ret
    have h2 := Int.emod_nonneg c hN0
    have h3 := Int.emod_lt_of_pos c (show (0 : Int) < N by omega)
    refine ⟨⟨(c % (N : Int)).toNat, by omega, ?_⟩, rfl⟩
    rw [Int.toNat_of_nonneg h2]; rfl

theorem pick_ok {n : Nat} {c : Int} {N : Nat} (hN : 1 ≤ N ∧ N ≤ 100000) (hc : -9223372036854775808 ≤ c ∧ c ≤ 9223372036854775807) (w : World) :
    CallsIn (Go.Ev.W none) n Tryz.prog 7 #[.int .i64 c, .int .i64 N] w fun e w' => ∃ v, e = .returned v ∧ (∃ r : Nat, r < N ∧ v = .int .i64 r) ∧ Go.Ev.Grown w w' := by
  refine CallsIn.mono (callsIn_wide.2 (Tryz.pick7 c N hN hc w) : CallsIn (Go.Ev.W none) n _ _ _ _ _) ?_
  rintro e w' ⟨⟨r, hr, rfl⟩, rfl⟩
  exact ⟨_, rfl, ⟨r, hr, rfl⟩, Go.Ev.Grown.refl _⟩

end Go.Proofs

/- Chains, part Eb: 'LimitObjs', its runs. -/
namespace Go.Ev
open Go.Proofs

noncomputable def c3 : List Code := flatL ((Tryz.f3.body).getD .skip)
def lo_L0 : List (Nat × V) := [(0, .y .i64 0), (1, .y .i64 1), (5, .b true)]
def lo_F : Facts := { qc := [(6, [], .b true)] }
def lo_Tn : List (Nat × SV) := [(0, .y 0), (1, .y 1)]
theorem lo_0 : runsL (withF E0 lo_F) 100 (c3.take 2) ⟨97, load [.y .i64 0, .y .i64 1] 0 .leaf⟩ (hOf 0 []) .n { s := lo_Tn } 97 lo_L0 0 [] = true := by decide +kernel
theorem lo_r2 : ∃ id, c3.drop 2 = .region id (opsD (c3.drop 2)) false :: c3.drop 3 := ⟨_, rfl⟩
theorem lo_2 : runsO (withF E0 {}) 100 (opsD (c3.drop 2)) ((opsD (c3.drop 2)).toList.take 1) (frOf 97 lo_L0) (hOf 0 []) { s := lo_Tn } 97 ((18, .y .i64 0) :: lo_L0) 0 [] = true := by decide +kernel
theorem lo_2s : selfOK { s := lo_Tn } 97 ((18, .y .i64 0) :: lo_L0) 0 [] = true := by decide +kernel
def lo_F2 : Facts := { bin := [(.add, .i .i64 190, .y .i64 2, .y .i64 10)] }
def lo_L3 : List (Nat × V) := (6, .y .i64 10) :: [(1, .y .i64 1), (5, .b true)]
def lo_T3 : Tab := { s := [(1, .y 1), (10, .y 10)] }
theorem lo_2z : runsO (withF E0 lo_F2) 100 (opsD (c3.drop 2)) (((opsD (c3.drop 2)).toList.drop 2).take 100) (frOf 97 ((19, .y .i64 2) :: (18, .y .i64 0) :: lo_L0)) (hOf 0 []) lo_T3 97 lo_L3 0 [] = true := by decide +kernel
theorem lo_r3 : ∃ id, c3.drop 3 = .region id (opsD (c3.drop 3)) false :: c3.drop 4 := ⟨_, rfl⟩
theorem lo_3 : runsO (withF E0 {}) 100 (opsD (c3.drop 3)) ((opsD (c3.drop 3)).toList.take 1) (frOf 97 lo_L3) (hOf 0 []) lo_T3 97 ((21, .y .i64 10) :: lo_L3) 0 [] = true := by decide +kernel
theorem lo_3s : selfOK lo_T3 97 ((21, .y .i64 10) :: lo_L3) 0 [] = true := by decide +kernel
def lo_TW : Tab := { s := [(1, .y 1), (3, .y 3), (10, .y 10)], q := [(0, .q 0), (1, .q 1), (2, .q 2)] }
def lo_L4 : List (Nat × V) := (7, .p (some (0, 0))) :: lo_L3
theorem lo_3z : runsO (withF E0 {}) 100 (opsD (c3.drop 3)) (((opsD (c3.drop 3)).toList.drop 2).take 100) (frOf 97 ((22, wA) :: (21, .y .i64 10) :: lo_L3)) (hOf 0 []) lo_TW 97 lo_L4 1 [(0, Rea_B)] = true := by decide +kernel
/-- The first check. -/
theorem lo_r4 : ∃ id, c3.drop 4 = .region id (opsD (c3.drop 4)) false :: c3.drop 5 := ⟨_, rfl⟩
theorem lo_4 : runsO (withF E0 {}) 100 (opsD (c3.drop 4)) ((opsD (c3.drop 4)).toList.take 1) (frOf 97 lo_L4) (hOf 1 [(0, Rea_B)]) lo_TW 97 ((23, wA) :: lo_L4) 1 [(0, Rea_B)] = true := by decide +kernel
theorem lo_4s : selfOK lo_TW 97 ((23, wA) :: lo_L4) 1 [(0, Rea_B)] = true := by decide +kernel
def lo_T5 : Tab := { s := [(1, .y 1), (3, .y 3), (5, .y 5), (10, .y 10)], q := [(0, .q 0), (1, .q 1), (2, .q 2)] }
def lo_L5 : List (Nat × V) := (8, .y .i64 5) :: lo_L4
theorem lo_4z : runsO (withF E0 {}) 100 (opsD (c3.drop 4)) (((opsD (c3.drop 4)).toList.drop 2).take 100) (frOf 97 ((24, .y .i64 5) :: (23, wA) :: lo_L4)) (hOf 1 [(0, Rea_B)]) lo_T5 97 lo_L5 1 [(0, Rea_B)] = true := by decide +kernel
/-- The place. -/
theorem lo_r5 : ∃ id, c3.drop 5 = .region id (opsD (c3.drop 5)) false :: c3.drop 6 := ⟨_, rfl⟩
def lo_L5a : List (Nat × V) := (25, .y .i64 1) :: (26, .y .i64 10) :: lo_L5
theorem lo_5 : runsO (withF E0 {}) 100 (opsD (c3.drop 5)) ((opsD (c3.drop 5)).toList.take 2) (frOf 97 lo_L5) (hOf 1 [(0, Rea_B)]) lo_T5 97 lo_L5a 1 [(0, Rea_B)] = true := by decide +kernel
theorem lo_5s : selfOK lo_T5 97 lo_L5a 1 [(0, Rea_B)] = true := by decide +kernel
def lo_F5 : Facts := { bin := [(.add, .i .i64 1, .y .i64 6, .y .i64 7)] }
def lo_T6 : Tab := { s := [(3, .y 3), (5, .y 5), (7, .y 7), (10, .y 10)], q := [(0, .q 0), (1, .q 1), (2, .q 2)] }
def lo_L6 : List (Nat × V) := (9, .y .i64 7) :: [(8, .y .i64 5), (7, .p (some (0, 0))), (6, .y .i64 10), (5, .b true)]
theorem lo_5z : runsO (withF E0 lo_F5) 100 (opsD (c3.drop 5)) (((opsD (c3.drop 5)).toList.drop 3).take 100) (frOf 97 ((27, .y .i64 6) :: lo_L5a)) (hOf 1 [(0, Rea_B)]) lo_T6 97 lo_L6 1 [(0, Rea_B)] = true := by decide +kernel
def rootV : List V := recV (.i .i64 2) (.i .i64 0) nl (.y .i64 7) (.s [114, 48, 48])
def lo_L7 : List (Nat × V) := (10, .p (some (1, 0))) :: lo_L6
def lo_H7 : List (Nat × Blk) := [(0, Rea_B), (1, .cells rootV 45 false)]
theorem lo_6 : runsL (withF E0 {}) 100 ((c3.drop 6).take 1) (frOf 97 lo_L6) (hOf 1 [(0, Rea_B)]) .n lo_T6 97 lo_L7 2 lo_H7 = true := by decide +kernel
/-- The second check. -/
theorem lo_r7 : ∃ id, c3.drop 7 = .region id (opsD (c3.drop 7)) false :: c3.drop 8 := ⟨_, rfl⟩
def lo_L7a : List (Nat × V) := (31, wA) :: (33, sl2 1) :: lo_L7
def lo_H7a : List (Nat × Blk) := lo_H7 ++ [(2, .cells rootV 45 false)]
theorem lo_7 : runsO (withF E0 {}) 100 (opsD (c3.drop 7)) ((opsD (c3.drop 7)).toList.take 3) (frOf 97 lo_L7) (hOf 2 lo_H7) lo_T6 97 lo_L7a 3 lo_H7a = true := by decide +kernel
theorem lo_7c : (mAll lo_T6 (frOf 97 lo_L7a) (hOf 3 lo_H7a) 97 lo_L7 2 lo_H7).isSome = true := by decide +kernel
theorem lo_7s : selfOK lo_T6 97 lo_L7 2 lo_H7 = true := by decide +kernel
def lo_T8 : Tab := { s := [(3, .y 3), (5, .y 5), (7, .y 7), (8, .y 8), (10, .y 10)], q := [(0, .q 0), (1, .q 1), (2, .q 2)] }
def lo_L8 : List (Nat × V) := (11, .y .i64 8) :: lo_L7
theorem lo_7z : runsO (withF E0 {}) 100 (opsD (c3.drop 7)) (((opsD (c3.drop 7)).toList.drop 4).take 100) (frOf 97 ((34, .y .i64 8) :: lo_L7)) (hOf 2 lo_H7) lo_T8 97 lo_L8 2 lo_H7 = true := by decide +kernel
/-- 'Apply'. -/
theorem lo_r8 : ∃ id, c3.drop 8 = .region id (opsD (c3.drop 8)) false :: c3.drop 9 := ⟨_, rfl⟩
def lo_L8a : List (Nat × V) := (36, wA) :: (38, sl2 1) :: lo_L8
theorem lo_8 : runsO (withF E0 {}) 100 (opsD (c3.drop 8)) ((opsD (c3.drop 8)).toList.take 3) (frOf 97 lo_L8) (hOf 2 lo_H7) lo_T8 97 lo_L8a 3 lo_H7a = true := by decide +kernel
def lo_L9 : List (Nat × V) := [(5, .b true), (6, .y .i64 10), (8, .y .i64 5), (9, .y .i64 7), (11, .y .i64 8)]
def lo_T9 : Tab := { s := [(5, .y 5), (7, .y 7), (8, .y 8), (10, .y 10)] }
theorem lo_8c : (mAll lo_T9 (frOf 97 lo_L8a) (hOf 3 lo_H7a) 97 lo_L9 0 []).isSome = true := by decide +kernel
theorem lo_8s : selfOK lo_T9 97 lo_L9 0 [] = true := by decide +kernel
def lo_TB : Tab := { s := [(4, .y 4), (5, .y 5), (7, .y 7), (8, .y 8), (10, .y 10)], q := [(7, .q 7), (8, .q 8), (9, .q 9)] }
def lo_LA : List (Nat × V) := (12, .p (some (0, 0))) :: (14, .i .i64 0) :: lo_L9
theorem lo_8z : runsO (withF E0 {}) 100 (opsD (c3.drop 8)) (((opsD (c3.drop 8)).toList.drop 4).take 100) (frOf 97 ((39, .t [wB, .i .i64 1, .i .i64 0]) :: lo_L9)) (hOf 0 []) lo_TB 97 lo_LA 1 [(0, lim_W)] = true := by decide +kernel
/-- 'Reach'. -/
theorem lo_r9 : ∃ id, c3.drop 9 = .region id (opsD (c3.drop 9)) false :: c3.drop 10 := ⟨_, rfl⟩
theorem lo_9 : runsO (withF E0 {}) 100 (opsD (c3.drop 9)) ((opsD (c3.drop 9)).toList.take 1) (frOf 97 lo_LA) (hOf 1 [(0, lim_W)]) lo_TB 97 ((44, wB) :: lo_LA) 1 [(0, lim_W)] = true := by decide +kernel
def lo_LB : List (Nat × V) := (14, .i .i64 0) :: lo_L9
theorem lo_9c : (mAll lo_T9 (frOf 97 ((44, wB) :: lo_LA)) (hOf 1 [(0, lim_W)]) 97 lo_LB 0 []).isSome = true := by decide +kernel
theorem lo_9s : selfOK lo_T9 97 lo_LB 0 [] = true := by decide +kernel
def lo_TC : Tab := { s := [(5, .y 5), (7, .y 7), (8, .y 8), (10, .y 10)], q := [(5, .q 5)] }
def lo_LC : List (Nat × V) := (15, .q 5) :: (16, .i .i64 0) :: lo_LB
theorem lo_9z : runsO (withF E0 {}) 100 (opsD (c3.drop 9)) (((opsD (c3.drop 9)).toList.drop 2).take 100) (frOf 97 ((45, .t [.q 5, .i .i64 0]) :: lo_LB)) (hOf 0 []) lo_TC 97 lo_LC 0 [] = true := by decide +kernel
theorem lo_Cs : selfOK lo_TC 97 lo_LC 0 [] = true := by decide +kernel
/-- The end. -/
def lo_FZ (e1 m2 e2 m3 : Bool) : Facts := { bin := [(.eql, .y .i64 5, .i .i64 0, .b e1), (.leq, .y .i64 10, .i .i64 200, .b m2), (.eql, .y .i64 5, .i .i64 250, .b (!e1)), (.sub, .y .i64 10, .y .i64 7, .y .i64 11), (.add, .y .i64 11, .i .i64 1, .y .i64 12), (.eql, .y .i64 12, .y .i64 12, .b true),
  (.eql, .y .i64 8, .i .i64 0, .b e2), (.leq, .y .i64 12, .i .i64 200, .b m3), (.eql, .y .i64 8, .i .i64 250, .b (!e2))], rz := [(0, 1)], rl := [(0, 0, 12)] }
noncomputable def lo_Z (a b : Bool) : Bool := runsL (withF E0 (lo_FZ a a b b)) 200 ((c3.drop 10).take 2) (frOf 97 (subL 5 (.sr 0 0 0 1) lo_LC)) (hOf 1 ((0, .rw 0 3) :: subH 5 (.sr 0 0 0 1) [])) .r {} 97 [(4, .b true)] 0 []
theorem lo_Ztt : lo_Z true true = true := by decide +kernel
theorem lo_Zft : lo_Z false true = true := by decide +kernel
theorem lo_Zff : lo_Z false false = true := by decide +kernel

end Go.Ev

/- Chains, part Ec: 'LimitObjs', joined. -/
namespace Go.Ev
open Go.Proofs

theorem rootsL1 : rootsL 1 = [(r00N, 1)] := by decide +kernel
theorem setR1 (k : Nat) : setR (rootsL 1) r00N k = [(r00N, k)] := by
  rw [rootsL1]
  simp [setR, hasR]
def yO (c d : Int) (r nx nx2 e r2 k f m g h : Nat) (ln ov rv uv ln2 ov2 rv2 : Value) (row : List Value) : Sym :=
  mkY [c, d, r, nx, nx2, e, r2, k, f, 0, m, g, h] [ln, ov, rv, .bool false, .bool false, uv, .bool false, ln2, ov2, rv2] [row] []
theorem rootV_eq {φ : Ren} {k : Nat} (hk : φ.s 7 = k) {vs : List Value} (h : VRs φ rootV vs) : vs = recCells (.root r00N k, nilS) := by
  obtain ⟨v, nm, h1, h2, rfl⟩ := rec_eq h (k' := 2) (oid' := 0) (id' := k) vI_eq vI_eq (fun v hv => by simp only [VR] at hv; rw [hv, hk])
  simp only [VR] at h2
  rw [vnl_eq h1, h2.1]; rfl

theorem limitObjs_ok (n : Nat) (c d : Int) (hc : -9223372036854775808 ≤ c ∧ c ≤ 9223372036854775807) (hd : -9223372036854775808 ≤ d ∧ d ≤ 9223372036854775807) (w : World) :
    CallsIn (W none) n Tryz.prog 3 #[.int .i64 c, .int .i64 d] w fun e w' => ∃ v, e = .returned v ∧ v = .bool true ∧ Grown w w' := by
  let bf : Value := .bool false
  let y0 : Sym := yO c d 0 0 0 0 0 0 0 0 0 0 bf bf bf bf bf bf bf []
  have hst := StAt.enter (nt := 97) (φ0_hr y0 w) rfl rfl (vs := [.y .i64 0, .y .i64 1]) (args := [.int .i64 c, .int .i64 d]) (VRs.cons (by simp only [VR]; rfl) (VRs.cons (by simp only [VR]; rfl) VRs.nil)) (by decide)
  refine callIn (fn := Tryz.f3) (c := (Tryz.f3.body).getD .skip) (args := [.int .i64 c, .int .i64 d]) Tryz.func3 rfl (wpIn_flat _ ?_)
  show wpCs none n E0.P _ c3 _ _
  have hy0 : Ag { s := lo_Tn } y0 y0 := ⟨⟨rfl, rfl, trivial⟩, trivial, trivial, trivial⟩
  refine StAt.runL (withF_ok E0_ok lo_F) rfl 2 lo_0 hst (FactsOK.bd' ?_) rfl y0 (hy0.agreeS rfl rfl rfl rfl) fun φ a1 w1 hs hd1 hg1 _ n1 n2 n3 n4 => ?_
  · refine ⟨trivial, trivial, trivial, trivial, trivial, trivial, trivial, trivial, ⟨?_, trivial⟩⟩
    intro φ' hle args' ha
    simp only [VRs] at ha
    subst ha
    refine ⟨⟨_, _, Tryz.func6, rfl, rfl⟩, fun n w' hk => ?_⟩
    refine (awake_ok n w').mono ?_
    rintro e w'' ⟨v, h1, rfl, h3⟩
    exact ⟨_, h1, by simp only [VR], h3⟩
  show wpCs none n E0.P _ (c3.drop 2) a1 w1
  -- how many
  obtain ⟨id2, hr2⟩ := lo_r2
  rw [hr2]
  refine wpCs_region ?_
  refine StAt.runO (withF_ok E0_ok {}) rfl 1 lo_2 hs noFacts.bd' _ (hy0.self' ⟨n1, n2, n3, n4⟩) fun φ a2 w2 hs hd2 hg2 hk2 n1 n2 n3 n4 => ?_
  refine hs.callO (l := (opsD (c3.drop 2)).toList.drop 1) (o := ((opsD (c3.drop 2)).toList.drop 1).headD default) (rest := (opsD (c3.drop 2)).toList.drop 2) rfl rfl rfl rfl rfl Tryz.func7 rfl rfl (Vs := [.y .i64 0, .i .i64 20]) rfl ?_
  intro args' ha
  have : args' = [.int .i64 c, .int .i64 (20 : Nat)] := by
    simp only [VRs, VR] at ha
    obtain ⟨_, _, rfl, rfl, _, _, rfl, rfl, rfl⟩ := ha
    rw [show φ.s 0 = c from congrFun n1 0]; rfl
  subst this
  refine (pick_ok (n := n - 1) (N := 20) ⟨by decide, by decide⟩ hc w2).mono ?_
  rintro e w3 ⟨v, rfl, ⟨r, hr, rfl⟩, hgr3⟩
  refine ⟨_, rfl, ?_⟩
  have g03 := (hg1.trans hg2).trans (hgr3.gb (Nat.le_trans hg1.size hg2.size))
  obtain ⟨m, hm⟩ : ∃ m : Nat, m = 190 + r := ⟨_, rfl⟩
  let y1 : Sym := yO c d r 0 0 0 0 0 0 m 0 0 bf bf bf bf bf bf bf []
  obtain ⟨φ, hs, n1, n2, n3, n4⟩ := hs.grow hgr3 lo_2s (y := y1) ⟨⟨(congrFun n1 0).symm, (congrFun n1 1).symm, trivial⟩, trivial, trivial, trivial⟩
  have hs := hs.put (d := 19) (by decide) (x := .y .i64 2) (v := .int .i64 r) (by simp only [VR]; rw [show φ.s 2 = r from congrFun n1 2])
  have hy1 : Ag lo_T3 y1 y1 := ⟨⟨rfl, rfl, trivial⟩, trivial, trivial, trivial⟩
  refine StAt.runO (l := (opsD (c3.drop 2)).toList.drop 2) (withF_ok E0_ok lo_F2) rfl 100 lo_2z hs (FactsOK.bd' ?_) _ (hy1.self' ⟨n1, n2, n3, n4⟩) fun φ a4 w4 hs hd4 hg4 hk4 n1 n2 n3 n4 => ?_
  · have t2 : φ.y.s 2 = r := congrFun n1 2
    have t10 : φ.y.s 10 = m := congrFun n1 10
    refine ⟨trivial, ⟨.add (k := .i64) (x := 190) (y := r) rfl (by simp only [ival, t2]) (by simp only [ival, t10]; rw [hm]; rfl) ?_, trivial⟩, trivial, trivial, trivial, trivial, trivial, trivial, trivial⟩
    exact i64_in (by omega)
  show wpCs none n E0.P _ (c3.drop 3) a4 w4
  have hd4' : a4.defers = [] := by rw [hd4]; show a2.defers = []; rw [hd2]; exact hd1
  have g04 := g03.trans hg4
  -- the chain
  obtain ⟨id3, hr3⟩ := lo_r3
  rw [hr3]
  refine wpCs_region ?_
  refine StAt.runO (withF_ok E0_ok {}) rfl 1 lo_3 hs noFacts.bd' _ (hy1.self' ⟨n1, n2, n3, n4⟩) fun φ a5 w5 hs hd5 hg5 hk5 n1 n2 n3 n4 => ?_
  have g05 := g04.trans hg5
  refine hs.callO (l := (opsD (c3.drop 3)).toList.drop 1) (o := ((opsD (c3.drop 3)).toList.drop 1).headD default) (rest := (opsD (c3.drop 3)).toList.drop 2) rfl rfl rfl rfl rfl Tryz.func8 rfl rfl (Vs := [.y .i64 10, .i .i64 1]) rfl ?_
  intro args' ha
  have : args' = [.int .i64 m, .int .i64 (1 : Nat)] := by
    simp only [VRs, VR] at ha
    obtain ⟨_, _, rfl, rfl, _, _, rfl, rfl, rfl⟩ := ha
    rw [show φ.s 10 = m from congrFun n1 10]; rfl
  subst this
  refine (chain_ok (n := n - 1) (N := m) (m := 1) ⟨by omega, by omega⟩ ⟨by decide, by decide⟩ cha_Z1).mono ?_
  rintro e w6 ⟨v, rfl, ⟨ln, ov, rv, l, rfl, G6, hl⟩, hgr6⟩
  refine ⟨_, rfl, ?_⟩
  have o0 := G6.sch.one
  have o1 := G6.objs.one
  have o2 := G6.roots.one
  have hc0 := hasChain0 (next := m + 1) hl ⟨by omega, by omega⟩ (m := 1) (by decide)
  have hll := chain_len hl
  have g06 := g05.trans (hgr6.gb g05.size)
  obtain ⟨e1, he1⟩ : ∃ e1 : Nat, e1 = lim m 1 0 := ⟨_, rfl⟩
  let y2 : Sym := yO c d r (m + 1) 0 e1 0 0 0 m 0 0 ln ov rv bf bf bf bf []
  obtain ⟨φ, hs, n1, n2, n3, n4⟩ := hs.grow hgr6 lo_3s (y := y2) ⟨⟨(congrFun n1 1).symm, (congrFun n1 10).symm, trivial⟩, trivial, trivial, trivial⟩
  have hs := hs.put (d := 22) (by decide) (x := wA) (v := wV ln ov rv (m + 1)) (vW (congrFun n2 0) (congrFun n2 1) (congrFun n2 2) (congrFun n1 3) o0 o1 o2)
  have hy2 : Ag lo_TW y2 y2 := ⟨⟨rfl, rfl, rfl, trivial⟩, ⟨⟨rfl, o0⟩, ⟨rfl, o1⟩, ⟨rfl, o2⟩, trivial⟩, trivial, trivial⟩
  refine StAt.runO (l := (opsD (c3.drop 3)).toList.drop 2) (withF_ok E0_ok {}) rfl 100 lo_3z hs noFacts.bd' _ (hy2.self' ⟨n1, n2, n3, n4⟩) fun φ a7 w7 hs hd7 hg7 hk7 n1 n2 n3 n4 => ?_
  show wpCs none n E0.P _ (c3.drop 4) a7 w7
  have hd7' : a7.defers = [] := by rw [hd7]; show a5.defers = []; rw [hd5]; exact hd4'
  have g07 := g06.trans hg7
  -- the first check
  obtain ⟨id4, hr4⟩ := lo_r4
  rw [hr4]
  refine wpCs_region ?_
  refine StAt.runO (withF_ok E0_ok {}) rfl 1 lo_4 hs noFacts.bd' _ (hy2.self' ⟨n1, n2, n3, n4⟩) fun φ a8 w8 hs hd8 hg8 hk8 n1 n2 n3 n4 => ?_
  have g08 := g07.trans hg8
  have G8 : GW w8 ln ov rv (m + 1) l (rootsL 1) := G6.keptC ((hk7.keptC rfl).trans (hk8.keptC rfl))
  refine hs.callO (l := (opsD (c3.drop 4)).toList.drop 1) (o := ((opsD (c3.drop 4)).toList.drop 1).headD default) (rest := (opsD (c3.drop 4)).toList.drop 2) rfl rfl rfl rfl rfl Tryz.func9 rfl rfl (Vs := [wA, nl, nl]) rfl ?_
  intro args' ha
  simp only [VRs] at ha
  obtain ⟨uw, _, rfl, huw, us, _, rfl, hus, ur, _, rfl, hur, rfl⟩ := ha
  have t1 := vW_eq (next := m + 1) (congrFun n2 0) (congrFun n2 1) (congrFun n2 2) (congrFun n1 3) huw
  have t2 := vnl_eq hus
  have t3 := vnl_eq hur
  subst t1; subst t2; subst t3
  refine (limit_chain (n := n - 1) (c := e1) G8 hc0 (sl := []) (rl := []) (.inl ⟨rfl, rfl⟩) (by decide) (.inl ⟨rfl, rfl⟩) (fun r hr => by cases hr) (by decide) (s := ⟨l, rootsL 1, m + 1⟩) rfl (by show l.length ≤ _; omega) (by show (rootsL 1).length ≤ 100000; decide) hc0 (by rw [he1]; show lim (m + 1 - 1) _ _ = _; rw [Nat.add_sub_cancel]; rfl)).mono ?_
  rintro e w9 ⟨v, rfl, rfl, hgr9⟩
  refine ⟨_, rfl, ?_⟩
  have g09 := g08.trans (hgr9.gb g08.size)
  have G9 := G8.keptC (KeptC.grown hgr9 wT)
  obtain ⟨φ, hs, n1, n2, n3, n4⟩ := hs.grow hgr9 lo_4s (y := y2) (hy2.self'' n1 n2 n3 n4)
  have hs := hs.put (d := 24) (by decide) (x := .y .i64 5) (v := .int .i64 e1) (by simp only [VR]; rw [show φ.s 5 = e1 from congrFun n1 5])
  have hy2' : Ag lo_T5 y2 y2 := ⟨⟨rfl, rfl, rfl, rfl, trivial⟩, ⟨⟨rfl, o0⟩, ⟨rfl, o1⟩, ⟨rfl, o2⟩, trivial⟩, trivial, trivial⟩
  refine StAt.runO (l := (opsD (c3.drop 4)).toList.drop 2) (withF_ok E0_ok {}) rfl 100 lo_4z hs noFacts.bd' _ (hy2'.self' ⟨n1, n2, n3, n4⟩) fun φ aa wa hs hda hga hka n1 n2 n3 n4 => ?_
  show wpCs none n E0.P _ (c3.drop 5) aa wa
  have hda' : aa.defers = [] := by rw [hda]; show a8.defers = []; rw [hd8]; exact hd7'
  have g0a := g09.trans hga
  have Ga := G9.keptC (hka.keptC rfl)
  -- the place
  obtain ⟨id5, hr5⟩ := lo_r5
  rw [hr5]
  refine wpCs_region ?_
  refine StAt.runO (withF_ok E0_ok {}) rfl 2 lo_5 hs noFacts.bd' _ (hy2'.self' ⟨n1, n2, n3, n4⟩) fun φ ab wb hs hdb hgb hkb n1 n2 n3 n4 => ?_
  have g0b := g0a.trans hgb
  have Gb := Ga.keptC (hkb.keptC rfl)
  refine hs.callO (l := (opsD (c3.drop 5)).toList.drop 2) (o := ((opsD (c3.drop 5)).toList.drop 2).headD default) (rest := (opsD (c3.drop 5)).toList.drop 3) rfl rfl rfl rfl rfl Tryz.func7 rfl rfl (Vs := [.y .i64 1, .y .i64 10]) rfl ?_
  intro args' ha
  have : args' = [.int .i64 d, .int .i64 m] := by
    simp only [VRs, VR] at ha
    obtain ⟨_, _, rfl, rfl, _, _, rfl, rfl, rfl⟩ := ha
    rw [show φ.s 1 = d from congrFun n1 1, show φ.s 10 = m from congrFun n1 10]
  subst this
  refine (pick_ok (n := n - 1) (N := m) ⟨by omega, by omega⟩ hd wb).mono ?_
  rintro e wc ⟨v, rfl, ⟨r2, hr2', rfl⟩, hgrc⟩
  refine ⟨_, rfl, ?_⟩
  have g0c := g0b.trans (hgrc.gb g0b.size)
  have Gc := Gb.keptC (KeptC.grown hgrc wT)
  obtain ⟨k, hk⟩ : ∃ k : Nat, k = 1 + r2 := ⟨_, rfl⟩
  obtain ⟨e2, he2⟩ : ∃ e2 : Nat, e2 = lim (m + 1 - k) 1 0 := ⟨_, rfl⟩
  let y3 : Sym := yO c d r (m + 1) 0 e1 r2 k e2 m 0 0 ln ov rv bf bf bf bf []
  obtain ⟨φ, hs, n1, n2, n3, n4⟩ := hs.grow hgrc lo_5s (y := y3) ⟨⟨(congrFun n1 1).symm, (congrFun n1 3).symm, (congrFun n1 5).symm, (congrFun n1 10).symm, trivial⟩, ⟨⟨(congrFun n2 0).symm, o0⟩, ⟨(congrFun n2 1).symm, o1⟩, ⟨(congrFun n2 2).symm, o2⟩, trivial⟩, trivial, trivial⟩
  have hs := hs.put (d := 27) (by decide) (x := .y .i64 6) (v := .int .i64 r2) (by simp only [VR]; rw [show φ.s 6 = r2 from congrFun n1 6])
  have hy3 : Ag lo_T6 y3 y3 := ⟨⟨rfl, rfl, rfl, rfl, trivial⟩, ⟨⟨rfl, o0⟩, ⟨rfl, o1⟩, ⟨rfl, o2⟩, trivial⟩, trivial, trivial⟩
  refine StAt.runO (l := (opsD (c3.drop 5)).toList.drop 3) (withF_ok E0_ok lo_F5) rfl 100 lo_5z hs (FactsOK.bd' ?_) _ (hy3.self' ⟨n1, n2, n3, n4⟩) fun φ ad wd hs hdd hgd hkd n1 n2 n3 n4 => ?_
  · have t6 : φ.y.s 6 = r2 := congrFun n1 6
    have t7 : φ.y.s 7 = k := congrFun n1 7
    refine ⟨trivial, ⟨.add (k := .i64) (x := 1) (y := r2) rfl (by simp only [ival, t6]) (by simp only [ival, t7]; rw [hk]; rfl) ?_, trivial⟩, trivial, trivial, trivial, trivial, trivial, trivial, trivial⟩
    exact i64_in (by omega)
  show wpCs none n E0.P _ (c3.drop 6) ad wd
  have hdd' : ad.defers = [] := by rw [hdd]; show ab.defers = []; rw [hdb]; exact hda'
  have g0d := g0c.trans hgd
  have Gd := Gc.keptC (hkd.keptC rfl)
  -- the root
  refine StAt.runL (withF_ok E0_ok {}) rfl 1 (cs := c3.drop 6) lo_6 hs noFacts.bd' hdd' _ (hy3.self' ⟨n1, n2, n3, n4⟩) fun φ ae we hs hde hge hke n1 n2 n3 n4 => ?_
  show wpCs none n E0.P _ (c3.drop 7) ae we
  have g0e := g0d.trans hge
  have Ge := Gd.keptC (hke.keptC rfl)
  -- the second check
  obtain ⟨id7, hr7⟩ := lo_r7
  rw [hr7]
  refine wpCs_region ?_
  refine StAt.runO (withF_ok E0_ok {}) rfl 3 lo_7 hs noFacts.bd' _ (hy3.self' ⟨n1, n2, n3, n4⟩) fun φ af wf hs hdf hgf hkf n1 n2 n3 n4 => ?_
  have g0f := g0e.trans hgf
  have Gf := Ge.keptC (hkf.keptC rfl)
  refine hs.callO (l := (opsD (c3.drop 7)).toList.drop 3) (o := ((opsD (c3.drop 7)).toList.drop 3).headD default) (rest := (opsD (c3.drop 7)).toList.drop 4) rfl rfl rfl rfl rfl Tryz.func9 rfl rfl (Vs := [wA, nl, sl2 1]) rfl ?_
  intro args' ha
  simp only [VRs] at ha
  obtain ⟨uw, _, rfl, huw, us, _, rfl, hus, ur, _, rfl, hur, rfl⟩ := ha
  have t1 := vW_eq (next := m + 1) (congrFun n2 0) (congrFun n2 1) (congrFun n2 2) (congrFun n1 3) huw
  have t2 := vnl_eq hus
  subst t1; subst t2
  have hkk : 1 ≤ k ∧ k ≤ m := by omega
  have hrec : IsRecs wf ur [(.root r00N k, nilS)] := recsOf hs.hr (cs := rootV) rfl hur (fun vs hv => by rw [rootV_eq (k := k) (congrFun n1 7) hv]; simp [recRow]) rfl
  have hrok : ∀ w, ∀ r ∈ [((.root r00N k : R), nilS)], ROK w r := fun w r hr => by
    simp only [List.mem_singleton] at hr; subst hr; exact ⟨rn_r00, by omega⟩
  have hrun : (⟨l, [(r00N, k)], m + 1⟩ : Bst) = (⟨l, rootsL 1, m + 1⟩ : Bst).run [(.root r00N k, nilS)] := by
    simp only [Bst.run, List.foldl_cons, List.foldl_nil, Bst.step]
    rw [if_neg (by omega), setR1]
  have hck : HasChain ⟨l, [(r00N, k)], m + 1⟩ m k := hc0.reroot (fun q hq => by simp only [List.mem_singleton] at hq; subst hq; rfl) (by simp) hkk
  refine (limit_chain (n := n - 1) (c := e2) Gf hc0 (sl := []) (.inl ⟨rfl, rfl⟩) (by decide) hrec (hrok _) (by show 1 ≤ 1000; decide) hrun (by show l.length ≤ _; omega) (by show 1 ≤ 100000; decide) hck (by rw [he2]; rfl)).mono ?_
  rintro e wg ⟨v, rfl, rfl, hgrg⟩
  refine ⟨_, rfl, ?_⟩
  have g0g := g0f.trans (hgrg.gb g0f.size)
  have Gg := Gf.keptC (KeptC.grown hgrg wT)
  obtain ⟨φ, hs, n1, n2, n3, n4⟩ := hs.conv lo_7c y3 ((hy3.self' ⟨n1, n2, n3, n4⟩).agree rfl rfl _ _)
  obtain ⟨φ, hs, n1, n2, n3, n4⟩ := hs.grow hgrg lo_7s (y := y3) (hy3.self'' n1 n2 n3 n4)
  have hs := hs.put (d := 34) (by decide) (x := .y .i64 8) (v := .int .i64 e2) (by simp only [VR]; rw [show φ.s 8 = e2 from congrFun n1 8])
  have hy3' : Ag lo_T8 y3 y3 := ⟨⟨rfl, rfl, rfl, rfl, rfl, trivial⟩, ⟨⟨rfl, o0⟩, ⟨rfl, o1⟩, ⟨rfl, o2⟩, trivial⟩, trivial, trivial⟩
  refine StAt.runO (l := (opsD (c3.drop 7)).toList.drop 4) (withF_ok E0_ok {}) rfl 100 lo_7z hs noFacts.bd' _ (hy3'.self' ⟨n1, n2, n3, n4⟩) fun φ ah wh hs hdh hgh hkh n1 n2 n3 n4 => ?_
  show wpCs none n E0.P _ (c3.drop 8) ah wh
  have hdh' : ah.defers = [] := by rw [hdh]; show af.defers = []; rw [hdf]; exact hde
  have g0h := g0g.trans hgh
  have Gh := Gg.keptC (hkh.keptC rfl)
  -- 'Apply'
  obtain ⟨id8, hr8⟩ := lo_r8
  rw [hr8]
  refine wpCs_region ?_
  refine StAt.runO (withF_ok E0_ok {}) rfl 3 lo_8 hs noFacts.bd' _ (hy3'.self' ⟨n1, n2, n3, n4⟩) fun φ ai wi hs hdi hgi hki n1 n2 n3 n4 => ?_
  have g0i := g0h.trans hgi
  have Gi := Gh.keptC (hki.keptC rfl)
  refine hs.callO (l := (opsD (c3.drop 8)).toList.drop 3) (o := ((opsD (c3.drop 8)).toList.drop 3).headD default) (rest := (opsD (c3.drop 8)).toList.drop 4) rfl rfl rfl rfl rfl Tryz.func10 rfl rfl (Vs := [wA, sl2 1]) rfl ?_
  intro args' ha
  simp only [VRs] at ha
  obtain ⟨uw, _, rfl, huw, ur, _, rfl, hur, rfl⟩ := ha
  have t1 := vW_eq (next := m + 1) (congrFun n2 0) (congrFun n2 1) (congrFun n2 2) (congrFun n1 3) huw
  subst t1
  have hrec : IsRecs wi ur [(.root r00N k, nilS)] := recsOf hs.hr (cs := rootV) rfl hur (fun vs hv => by rw [rootV_eq (k := k) (congrFun n1 7) hv]; simp [recRow]) rfl
  refine (apply_ok (n := n - 1) Gi (hc0.whole.perm (List.Perm.refl _) (List.Perm.refl _)) hc0.ne hrec (hrok _) (by show 1 ≤ 100000; decide) hrun hck.whole (by show l.length ≤ _; omega) (by show 1 ≤ 100000; decide) hck.ne hck.rne).mono ?_
  rintro e wj ⟨v, rfl, ⟨ln2, ov2, rv2, l2, rs2, rfl, hout⟩, hgrj⟩
  refine ⟨_, rfl, ?_⟩
  have p0 := hout.gw.sch.one
  have p1 := hout.gw.objs.one
  have p2 := hout.gw.roots.one
  have g0j := g0i.trans (hgrj.gb g0i.size)
  obtain ⟨φ, hs, n1, n2, n3, n4⟩ := hs.conv lo_8c y3 (by
    refine mkAgree ⟨(congrFun n1 5).symm, (congrFun n1 7).symm, (congrFun n1 8).symm, (congrFun n1 10).symm, trivial⟩ trivial trivial trivial)
  let y4 : Sym := yO 0 0 0 0 (m + 1) e1 0 k e2 m 0 0 bf bf bf bf ln2 ov2 rv2 []
  obtain ⟨φ, hs, n1, n2, n3, n4⟩ := hs.grow hgrj lo_8s (y := y4) ⟨⟨(congrFun n1 5).symm, (congrFun n1 7).symm, (congrFun n1 8).symm, (congrFun n1 10).symm, trivial⟩, trivial, trivial, trivial⟩
  have hs := hs.put (d := 39) (by decide) (x := .t [wB, .i .i64 1, .i .i64 0]) (v := .tuple #[wV ln2 ov2 rv2 (m + 1), .int .i64 1, .int .i64 0]) (by
    simp only [VR]
    exact ⟨_, rfl, VRs.cons (vWB (congrFun n2 7) (congrFun n2 8) (congrFun n2 9) (congrFun n1 4) p0 p1 p2) (VRs.cons vI (VRs.cons vI VRs.nil))⟩)
  have hy4 : Ag lo_TB y4 y4 := ⟨⟨rfl, rfl, rfl, rfl, rfl, trivial⟩, ⟨⟨rfl, p0⟩, ⟨rfl, p1⟩, ⟨rfl, p2⟩, trivial⟩, trivial, trivial⟩
  refine StAt.runO (l := (opsD (c3.drop 8)).toList.drop 4) (withF_ok E0_ok {}) rfl 100 lo_8z hs noFacts.bd' _ (hy4.self' ⟨n1, n2, n3, n4⟩) fun φ ak wk hs hdk hgk hkk' n1 n2 n3 n4 => ?_
  show wpCs none n E0.P _ (c3.drop 9) ak wk
  have hdk' : ak.defers = [] := by rw [hdk]; show ai.defers = []; rw [hdi]; exact hdh'
  have g0k := g0j.trans hgk
  -- 'Reach'
  obtain ⟨id9, hr9⟩ := lo_r9
  rw [hr9]
  refine wpCs_region ?_
  refine StAt.runO (withF_ok E0_ok {}) rfl 1 lo_9 hs noFacts.bd' _ (hy4.self' ⟨n1, n2, n3, n4⟩) fun φ al wl hs hdl hgl hkl n1 n2 n3 n4 => ?_
  have g0l := g0k.trans hgl
  have hout' : OutW wl ⟨l, [(r00N, k)], m + 1⟩ ln2 ov2 rv2 l2 rs2 := ⟨hout.gw.keptC ((hkk'.keptC rfl).trans (hkl.keptC rfl)), hout.whole, hout.objs, hout.roots⟩
  refine hs.callO (l := (opsD (c3.drop 9)).toList.drop 1) (o := ((opsD (c3.drop 9)).toList.drop 1).headD default) (rest := (opsD (c3.drop 9)).toList.drop 2) rfl rfl rfl rfl rfl Tryz.func11 rfl rfl (Vs := [wB]) rfl ?_
  intro args' ha
  simp only [VRs] at ha
  obtain ⟨uw, _, rfl, huw, rfl⟩ := ha
  have t1 := vB_eq (next := m + 1) (congrFun n2 7) (congrFun n2 8) (congrFun n2 9) (congrFun n1 4) huw
  subst t1
  refine (hck.reach (n := n - 1) hout').mono ?_
  rintro e wm ⟨v, rfl, ⟨uv, row, rfl, hrow, hu⟩, hgrm⟩
  refine ⟨_, rfl, ?_⟩
  have p5 := hu.one
  have g0m := g0l.trans (hgrm.gb g0l.size)
  obtain ⟨φ, hs, n1, n2, n3, n4⟩ := hs.conv lo_9c y4 (by
    refine mkAgree ⟨(congrFun n1 5).symm, (congrFun n1 7).symm, (congrFun n1 8).symm, (congrFun n1 10).symm, trivial⟩ trivial trivial trivial)
  let y5 : Sym := yO 0 0 0 0 0 e1 0 k e2 m (m - k) (m + 1 - k) bf bf bf uv bf bf bf row
  obtain ⟨φ, hs, n1, n2, n3, n4⟩ := hs.grow hgrm lo_9s (y := y5) ⟨⟨(congrFun n1 5).symm, (congrFun n1 7).symm, (congrFun n1 8).symm, (congrFun n1 10).symm, trivial⟩, trivial, trivial, trivial⟩
  have hs := hs.put (d := 45) (by decide) (x := .t [.q 5, .i .i64 0]) (v := .tuple #[uv, .int .i64 0]) (by
    simp only [VR]
    refine ⟨_, rfl, VRs.cons ?_ (VRs.cons vI VRs.nil)⟩
    simp only [VR]; exact ⟨(congrFun n2 5).symm, p5⟩)
  have hy5 : Ag lo_TC y5 y5 := ⟨⟨rfl, rfl, rfl, rfl, trivial⟩, ⟨⟨rfl, p5⟩, trivial⟩, trivial, trivial⟩
  refine StAt.runO (l := (opsD (c3.drop 9)).toList.drop 2) (withF_ok E0_ok {}) rfl 100 lo_9z hs noFacts.bd' _ (hy5.self' ⟨n1, n2, n3, n4⟩) fun φ an wn hs hdn hgn hkn n1 n2 n3 n4 => ?_
  show wpCs none n E0.P _ (c3.drop 10) an wn
  have hdn' : an.defers = [] := by rw [hdn]; show al.defers = []; rw [hdl]; exact hdk'
  have g0n := g0m.trans hgn
  have kcn : KeptC wm wn [3] := hkn.keptC rfl
  obtain ⟨φB, hsB, hyB⟩ := hs.revealRow (hu.keptC kcn (by decide)) rfl 5 0 (congrFun n2 5) (congrFun n3 0)
  have cs : φB.y.s = y5.s := by rw [hyB]; exact n1
  have cw : φB.y.w = y5.w := by rw [hyB]; exact n3
  have s5 : φB.y.s 5 = e1 := by rw [cs]; rfl
  have s7 : φB.y.s 7 = k := by rw [cs]; rfl
  have s8 : φB.y.s 8 = e2 := by rw [cs]; rfl
  have s10 : φB.y.s 10 = m := by rw [cs]; rfl
  have s11 : φB.y.s 11 = (m - k : Nat) := by rw [cs]; rfl
  have s12 : φB.y.s 12 = (m + 1 - k : Nat) := by rw [cs]; rfl
  have fin : ∀ a b : Bool, decide (m ≤ 200) = a → decide (m + 1 - k ≤ 200) = b → lo_Z a b = true →
      wpCs none n E0.P (fun e a' w' => (e = .ret ∨ e = .normal) ∧ a'.defers = [] ∧ ∃ v, (results Tryz.f3 a'.tmps).run Tryz.prog w' = .ok v w' ∧ ∃ u, Ending.returned v = .returned u ∧ u = .bool true ∧ Grown w w') (c3.drop 10) an wn := fun a b ha hb hrun => by
    have q1 : decide ((e1 : Int) = 0) = a := by
      rw [he1, ← ha]; unfold lim
      by_cases h : 200 < m
      · rw [if_pos h]; simp; omega
      · rw [if_neg h, if_neg (by decide), if_neg (by decide)]; simp; omega
    have q2 : decide ((e1 : Int) = 250) = !a := by
      rw [he1, ← ha]; unfold lim
      by_cases h : 200 < m
      · rw [if_pos h]; simp; omega
      · rw [if_neg h, if_neg (by decide), if_neg (by decide)]; simp; omega
    have q3 : decide ((e2 : Int) = 0) = b := by
      rw [he2, ← hb]; unfold lim
      by_cases h : 200 < m + 1 - k
      · rw [if_pos h]; simp; omega
      · rw [if_neg h, if_neg (by decide), if_neg (by decide)]; simp; omega
    have q4 : decide ((e2 : Int) = 250) = !b := by
      rw [he2, ← hb]; unfold lim
      by_cases h : 200 < m + 1 - k
      · rw [if_pos h]; simp; omega
      · rw [if_neg h, if_neg (by decide), if_neg (by decide)]; simp; omega
    refine StAt.runL (withF_ok E0_ok _) rfl 2 (cs := c3.drop 10) hrun hsB (FactsOK.bd' ?_) hdn' y5 (Ag.agreeS (o := φB.y) ⟨trivial, trivial, trivial, trivial⟩ rfl rfl rfl rfl) fun φ ao wo hs hdo hgo _ _ _ _ _ => ⟨.inl rfl, hdo, ?_⟩
    · refine ⟨trivial, ⟨.eql (k := .i64) (x := e1) (y := 0) (by simp only [ival, s5]) rfl q1, .leq (k := .i64) (x := m) (y := 200) (by simp only [ival, s10]) rfl (by rw [← ha]; simp; omega), .eql (k := .i64) (x := e1) (y := 250) (by simp only [ival, s5]) rfl q2,
        .sub (k := .i64) (x := m) (y := k) (by simp only [ival, s10]) (by simp only [ival, s7]) (by simp only [ival, s11]; congr 2; omega) (i64_in (by omega)),
        .add (k := .i64) (x := (m - k : Nat)) (y := 1) (by simp only [ival, s11]) rfl (by simp only [ival, s12]; congr 2; omega) (i64_in (by omega)),
        .eql (k := .i64) (x := (m + 1 - k : Nat)) (y := (m + 1 - k : Nat)) (by simp only [ival, s12]) (by simp only [ival, s12]) (by simp),
        .eql (k := .i64) (x := e2) (y := 0) (by simp only [ival, s8]) rfl q3, .leq (k := .i64) (x := (m + 1 - k : Nat)) (y := 200) (by simp only [ival, s12]) rfl (by rw [← hb]; simp; omega), .eql (k := .i64) (x := e2) (y := 250) (by simp only [ival, s8]) rfl q4, trivial⟩,
        trivial, ⟨⟨m + 1 - k, (by show 0 < 1; decide), ?_, ?_⟩, trivial⟩, trivial, trivial, trivial, trivial, trivial⟩
      · show (m + 1 - k) * 1 = (φB.y.w 0).length
        rw [cw, Nat.mul_one]; exact hrow.symm
      · show φB.y.s 12 = _
        rw [s12]; rfl
    obtain ⟨v, hv1, hv2⟩ := hs.leave E0_ok (fn := Tryz.f3) (l := [.b true]) rfl
    refine ⟨v, hv1, v, rfl, ?_, (g0n.trans hgo).grown⟩
    simpa only [aRets, VR] using hv2
  by_cases h1 : m ≤ 200
  · exact fin true true (by simp [h1]) (by simp; omega) lo_Ztt
  · by_cases h2 : m + 1 - k ≤ 200
    · exact fin false true (by simp; omega) (by simp [h2]) lo_Zft
    · exact fin false false (by simp; omega) (by simp; omega) lo_Zff

end Go.Ev
