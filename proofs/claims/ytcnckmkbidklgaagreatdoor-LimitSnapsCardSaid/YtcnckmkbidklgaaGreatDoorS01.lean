/- Chains, part Dc: 'awake', its runs. -/
import Derived.Test.YtcnckmkbidklgaaGreatDoorA18
namespace Go.Ev
open Go.Proofs

noncomputable def c6 : List Code := flatL ((Tryz.f6.body).getD .skip)
def oneV : List V := recV (.i .i64 2) (.i .i64 0) nl (.i .i64 1) (.s [122])
def goneV : List V := recV (.i .i64 2) (.i .i64 0) nl (.i .i64 0) (.s [114, 48, 48])
def p201 (b : Nat) : List V := recV (.i .i64 1) (.i .i64 201) (.sl (some (b, 0)) 1 (.kn 1)) (.i .i64 0) (.s [])
def p200 (b : Nat) : List V := recV (.i .i64 1) (.i .i64 200) (.sl (some (b, 0)) 1 (.kn 1)) (.i .i64 0) (.s [])
def snapV : List V := recV (.i .i64 5) (.i .i64 0) nl (.i .i64 1) (.s [122])
def aw_L : List (Nat × V) := [(1, .p (some (0, 0))), (2, .p (some (1, 0)))]
def aw_H : List (Nat × Blk) := [(0, Rea_B), (1, .cells oneV 45 false)]
def aw_T : Tab := { s := [(3, .y 3)], q := [(0, .q 0), (1, .q 1), (2, .q 2)] }
def aw_T2 : Tab := { s := [(3, .y 3), (4, .y 4)], q := [(0, .q 0), (1, .q 1), (2, .q 2), (7, .q 7), (8, .q 8), (9, .q 9)] }
theorem aw_0 : runsL (withF E0 {}) 100 (c6.take 1) ⟨92, load [] 0 .leaf⟩ (hOf 0 []) .n {} 92 [] 0 [] = true := by decide +kernel
theorem aw_r1 : ∃ id, c6.drop 1 = .region id (opsD (c6.drop 1)) false :: c6.drop 2 := ⟨_, rfl⟩
theorem aw_1 : runsO (withF E0 {}) 100 (opsD (c6.drop 1)) (((opsD (c6.drop 1)).toList.drop 1).take 100) (frOf 92 [(15, wA)]) (hOf 0 []) aw_T 92 [(1, .p (some (0, 0)))] 1 [(0, Rea_B)] = true := by decide +kernel
theorem aw_2 : runsL (withF E0 {}) 100 ((c6.drop 2).take 1) (frOf 92 [(1, .p (some (0, 0)))]) (hOf 1 [(0, Rea_B)]) .n aw_T 92 aw_L 2 aw_H = true := by decide +kernel
def sl2 (m : Nat) : V := .sl (some (2, 0)) m (.kn m)
/-- The third statement. -/
theorem aw_r3 : ∃ id, c6.drop 3 = .region id (opsD (c6.drop 3)) false :: c6.drop 4 := ⟨_, rfl⟩
def aw_L3 : List (Nat × V) := (17, wA) :: (19, sl2 1) :: aw_L
def aw_H3 : List (Nat × Blk) := aw_H ++ [(2, .cells oneV 45 false)]
theorem aw_3 : runsO (withF E0 {}) 100 (opsD (c6.drop 3)) ((opsD (c6.drop 3)).toList.take 3) (frOf 92 aw_L) (hOf 2 aw_H) aw_T 92 aw_L3 3 aw_H3 = true := by decide +kernel
theorem aw_3c : (mAll aw_T (frOf 92 aw_L3) (hOf 3 aw_H3) 92 aw_L 2 aw_H).isSome = true := by decide +kernel
theorem aw_S : selfOK aw_T 92 aw_L 2 aw_H = true := by decide +kernel
def aw_A4 : List (Nat × V) := (3, .i .i64 251) :: aw_L
theorem aw_3z : runsO (withF E0 {}) 100 (opsD (c6.drop 3)) (((opsD (c6.drop 3)).toList.drop 4).take 100) (frOf 92 ((20, .i .i64 251) :: aw_L)) (hOf 2 aw_H) aw_T 92 aw_A4 2 aw_H = true := by decide +kernel
/-- The fourth. -/
theorem aw_r4 : ∃ id, c6.drop 4 = .region id (opsD (c6.drop 4)) false :: c6.drop 5 := ⟨_, rfl⟩
def aw_L4 : List (Nat × V) := (21, wA) :: (24, sl2 2) :: aw_A4
def aw_H4 : List (Nat × Blk) := aw_H ++ [(2, .cells (goneV ++ oneV) 45 false)]
theorem aw_4 : runsO (withF E0 {}) 100 (opsD (c6.drop 4)) ((opsD (c6.drop 4)).toList.take 4) (frOf 92 aw_A4) (hOf 2 aw_H) aw_T 92 aw_L4 3 aw_H4 = true := by decide +kernel
theorem aw_4c : (mAll aw_T (frOf 92 aw_L4) (hOf 3 aw_H4) 92 aw_A4 2 aw_H).isSome = true := by decide +kernel
theorem aw_S4 : selfOK aw_T 92 aw_A4 2 aw_H = true := by decide +kernel
def aw_A5 : List (Nat × V) := (4, .i .i64 0) :: aw_A4
theorem aw_4z : runsO (withF E0 {}) 100 (opsD (c6.drop 4)) (((opsD (c6.drop 4)).toList.drop 5).take 100) (frOf 92 ((25, .i .i64 0) :: aw_A4)) (hOf 2 aw_H) aw_T 92 aw_A5 2 aw_H = true := by decide +kernel
/-- The fifth. -/
theorem aw_r5 : ∃ id, c6.drop 5 = .region id (opsD (c6.drop 5)) false :: c6.drop 6 := ⟨_, rfl⟩
theorem aw_S5 : selfOK aw_T 92 aw_A5 2 aw_H = true := by decide +kernel
def aw_L5 : List (Nat × V) := (26, wB) :: (29, sl2 2) :: aw_A5
def aw_H5 : List (Nat × Blk) := aw_H ++ [(2, .cells (p201 3 ++ p200 4) 45 false), (3, valB' kN kN), (4, valB' kY (.i .i64 201))]
theorem aw_5 : runsO (withF E0 {}) 100 (opsD (c6.drop 5)) (((opsD (c6.drop 5)).toList.drop 1).take 3) (frOf 92 ((26, wB) :: aw_A5)) (hOf 2 aw_H) aw_T2 92 aw_L5 5 aw_H5 = true := by decide +kernel
theorem aw_5c : (mAll aw_T (frOf 92 aw_L5) (hOf 5 aw_H5) 92 aw_A5 2 aw_H).isSome = true := by decide +kernel
def aw_A6 : List (Nat × V) := (5, .i .i64 250) :: aw_A5
theorem aw_5z : runsO (withF E0 {}) 100 (opsD (c6.drop 5)) (((opsD (c6.drop 5)).toList.drop 5).take 100) (frOf 92 ((30, .i .i64 250) :: aw_A5)) (hOf 2 aw_H) aw_T 92 aw_A6 2 aw_H = true := by decide +kernel
/-- The sixth. -/
theorem aw_r6 : ∃ id, c6.drop 6 = .region id (opsD (c6.drop 6)) false :: c6.drop 7 := ⟨_, rfl⟩
theorem aw_S6 : selfOK aw_T 92 aw_A6 2 aw_H = true := by decide +kernel
def aw_L6 : List (Nat × V) := (31, wB) :: (33, sl2 1) :: aw_A6
def aw_H6 : List (Nat × Blk) := aw_H ++ [(2, .cells (p201 3) 45 false), (3, valB' kN kN)]
theorem aw_6 : runsO (withF E0 {}) 100 (opsD (c6.drop 6)) (((opsD (c6.drop 6)).toList.drop 1).take 2) (frOf 92 ((31, wB) :: aw_A6)) (hOf 2 aw_H) aw_T2 92 aw_L6 4 aw_H6 = true := by decide +kernel
theorem aw_6c : (mAll aw_T (frOf 92 aw_L6) (hOf 4 aw_H6) 92 aw_A6 2 aw_H).isSome = true := by decide +kernel
def aw_A7 : List (Nat × V) := (6, .i .i64 0) :: aw_A6
theorem aw_6z : runsO (withF E0 {}) 100 (opsD (c6.drop 6)) (((opsD (c6.drop 6)).toList.drop 4).take 100) (frOf 92 ((34, .i .i64 0) :: aw_A6)) (hOf 2 aw_H) aw_T 92 aw_A7 5 aw_H = true := by decide +kernel
/-- The end. -/
def aw_A8 : List (Nat × V) := (7, .i .i64 252) :: aw_A7
theorem aw_Z : runsL (withF E2 {}) 3000 ((c6.drop 8).take 10) (frOf 92 aw_A8) (hOf 2 aw_H) .r {} 92 [(0, .b true)] 0 [] = true := by decide +kernel
/-- The seventh, which draws its order. -/
theorem aw_r7 : ∃ id, c6.drop 7 = .region id (opsD (c6.drop 7)) true :: c6.drop 8 := ⟨_, rfl⟩
def sName (i : Nat) : List Nat := [115, 48 + i / 10 % 10, 48 + i % 10]
def aw_ints : Blk := .cells [.i .i64 0, .i .i64 1, .i .i64 2, .i .i64 3, .i .i64 4, .i .i64 5, .i .i64 6, .i .i64 7] 3 false
def aw_snaps : Blk := .cells ((List.range 8).flatMap fun i => [.s (sName i), .i .i64 (i + 1 : Nat)]) 57 true
def aw_R : List Nat := [35, 36, 37, 38, 39]
def aw_V : List V := [wA, .sl (some (2, 0)) 8 (.kn 8), .sl (some (3, 0)) 8 (.un 2), .a snapV, .sl (some (4, 0)) 1 (.kn 1)]
def aw_L7 (m : List Bool) : List (Nat × V) := aw_A7 ++ pickL m aw_R aw_V
def aw_H7 (m : List Bool) : List (Nat × Blk) := aw_H ++ opt m 1 [(2, aw_ints)] ++ opt m 2 [(3, aw_snaps)] ++ opt m 4 [(4, .cells snapV 45 false)]
def aw_stop : List Bool := [true, true, true, true, true, false, false]
noncomputable def aw_ms : List (List Bool) := grow (opsD (c6.drop 7)) aw_stop 20 [List.replicate 7 false] [List.replicate 7 false]

end Go.Ev

/- Chains, part Dd: 'awake', what is done in it, plain. -/
namespace Go.Ev
open Go.Proofs

theorem aw_E7 : explored (withF E0 {}) 1000 (opsD (c6.drop 7)) aw_T 92 5 aw_L7 aw_H7 aw_ms aw_stop = true := by decide +kernel
theorem aw_T7 : (aw_ms.all fun m => wT.all fun T => noT T (muts (aw_H7 m))) = true := by decide +kernel
theorem aw_7c : (mAll aw_T (frOf 92 (aw_L7 aw_stop)) (hOf 5 (aw_H7 aw_stop)) 92 aw_A7 2 aw_H).isSome = true := by decide +kernel
theorem aw_S7 : selfOK aw_T 92 aw_A7 2 aw_H = true := by decide +kernel
theorem aw_7z : runsO (withF E0 {}) 100 (opsD (c6.drop 7)) (((opsD (c6.drop 7)).toList.drop 6).take 100) (frOf 92 ((40, .i .i64 252) :: aw_A7)) (hOf 2 aw_H) aw_T 92 aw_A8 2 aw_H = true := by decide +kernel
theorem aw_rd5 : Region.ready .any (opsD (c6.drop 7)) aw_stop.toArray = [5] := by decide +kernel
theorem aw_rd6 : Region.ready .any (opsD (c6.drop 7)) (aw_stop.toArray.setIfInBounds 5 true) = [6] := by decide +kernel
theorem aw_rd7 : Region.ready .any (opsD (c6.drop 7)) ((aw_stop.toArray.setIfInBounds 5 true).setIfInBounds 6 true) = [] := by decide +kernel

def zN : ByteArray := bytes [122]
def r00N : ByteArray := bytes [114, 48, 48]
theorem rn_z : RN zN := rn_of (by decide +kernel)
theorem rn_r00 : RN r00N := rn_of (by decide +kernel)
def snaps8 : List (ByteArray × Nat) := (List.range 8).map fun i => (bytes (sName i), i + 1)
theorem len21 : (setR (rootsL 20) zN 1).length = 21 := by decide +kernel
theorem len20 : (setR (delR (rootsL 20) r00N) zN 1).length = 20 := by decide +kernel
theorem len9 : (namesOf snaps8 [(.snap zN 1, nilS)]).length = 9 := by decide +kernel

theorem setR_ids {l : List (ByteArray × Nat)} {k : Nat} (h : ∀ q ∈ l, q.2 = k) (nm : ByteArray) : ∀ q ∈ setR l nm k, q.2 = k := fun q hq => by
  rcases setR_mem hq with rfl | hq
  · rfl
  · exact h q hq
theorem rootsL_ids {m : Nat} : ∀ q ∈ rootsL m, q.2 = 1 := fun q hq => by obtain ⟨i, _, rfl⟩ := rootsL_mem hq; rfl
theorem ne_of_len {α : Type} {l : List α} {k : Nat} (h : l.length = k) (hk : k ≠ 0) : l ≠ [] := by rintro rfl; exact hk h.symm

/-- A chain, with other roots. -/
theorem HasChain.reroot {l : List (O × Value)} {rs rs' : List (ByteArray × Nat)} {next N k k' : Nat} (h : HasChain ⟨l, rs, next⟩ N k) (h1 : ∀ q ∈ rs', q.2 = k') (h2 : rs' ≠ []) (hk : 1 ≤ k' ∧ k' ≤ N) : HasChain ⟨l, rs', next⟩ N k' := ⟨h.sub, h.refs, h1, h2, hk, h.N⟩

theorem chain_id {l : List (O × Value)} {N : Nat} (hl : l.map (·.1) = chainL N) {p : O × Value} (hp : p ∈ l) : 1 ≤ p.1.id ∧ p.1.id ≤ N := by
  have : p.1 ∈ chainL N := by rw [← hl]; exact List.mem_map.2 ⟨p, hp, rfl⟩
  obtain ⟨i, hi, e⟩ := chainL_mem.1 this
  rw [e]; simp only [chO]; omega
theorem put_new {l : List (O × Value)} {N : Nat} (hl : l.map (·.1) = chainL N) {p : O × Value} (hp : N < p.1.id) : putO l p = l ++ [p] := by
  unfold putO
  rw [if_neg]
  intro hm
  obtain ⟨q, hq, e⟩ := List.mem_map.1 hm
  have := chain_id hl hq
  omega
/-- One object more, that nothing refers to. -/
theorem chain_more {l : List (O × Value)} {N m next : Nat} (hl : l.map (·.1) = chainL N) (hN : 1 ≤ N ∧ N ≤ 90000) (hm : 1 ≤ m) (v : Value) : HasChain ⟨l ++ [(⟨N + 1, 0⟩, v)], rootsL m, next⟩ N 1 := by
  have h := hasChain0 (next := next) hl hN hm
  refine ⟨fun o ho => ?_, fun p hp => ?_, h.roots, h.rne, h.k, h.N⟩
  · have := h.sub o ho
    rw [List.map_append]; exact List.mem_append_left _ this
  · rcases List.mem_append.1 hp with hp | hp
    · exact h.refs p hp
    · simp only [List.mem_singleton] at hp; subst hp; exact Nat.zero_le _
/-- One object more, behind the last one. -/
theorem chain_long {l : List (O × Value)} {N m next : Nat} (hl : l.map (·.1) = chainL N) (hN : 1 ≤ N ∧ N + 1 ≤ 90000) (hm : 1 ≤ m) (v1 v2 : Value) : HasChain ⟨putO (l ++ [(⟨N + 1, 0⟩, v1)]) (⟨N, N + 1⟩, v2), rootsL m, next⟩ (N + 1) 1 ∧ (putO (l ++ [(⟨N + 1, 0⟩, v1)]) (⟨N, N + 1⟩, v2)).length = l.length + 1 := by
  have h := hasChain0 (next := next) hl ⟨hN.1, by omega⟩ hm
  have hmem : N ∈ (l ++ [((⟨N + 1, 0⟩ : O), v1)]).map (·.1.id) := by
    obtain ⟨p, hp, e⟩ := h.id (x := N) (by omega)
    refine List.mem_map.2 ⟨p, List.mem_append_left _ hp, ?_⟩
    rw [e]; simp only [chO]; omega
  have hput : putO (l ++ [(⟨N + 1, 0⟩, v1)]) (⟨N, N + 1⟩, v2) = (l ++ [((⟨N + 1, 0⟩ : O), v1)]).map (fun q : O × Value => if q.1.id = N then ((⟨N, N + 1⟩ : O), v2) else q) := by
    unfold putO
    rw [if_pos hmem]
  rw [hput]
  refine ⟨⟨fun o ho => ?_, fun p hp => ?_, h.roots, h.rne, by omega, hN.2⟩, by simp⟩
  · obtain ⟨i, hi, rfl⟩ := chainL_mem.1 ho
    rw [List.map_map]
    by_cases h1 : i = N
    · subst h1
      refine List.mem_map.2 ⟨(⟨i + 1, 0⟩, v1), by simp, ?_⟩
      simp [chO]
    · obtain ⟨p, hp, e⟩ := h.id (x := i + 1) (by omega)
      refine List.mem_map.2 ⟨p, List.mem_append_left _ hp, ?_⟩
      have e' : p.1 = chO N i := by rw [e]; simp
      simp only [Function.comp]
      by_cases h2 : i + 1 = N
      · have : p.1.id = N := by rw [e']; exact h2
        rw [if_pos this]
        simp only [chO]
        rw [if_neg (by omega)]
        congr 1
        · omega
        · omega
      · have : p.1.id ≠ N := by rw [e']; exact h2
        rw [if_neg this, e']
        simp only [chO]
        rw [if_neg h2, if_neg (by omega)]
  · obtain ⟨q, hq, rfl⟩ := List.mem_map.1 hp
    split
    · exact Nat.le_refl _
    · rcases List.mem_append.1 hq with hq | hq
      · have := h.refs q hq; show q.1.ref ≤ N + 1; omega
      · simp only [List.mem_singleton] at hq; subst hq; exact Nat.zero_le _

theorem after_call {φ : Ren} {B nt nb : Nat} {L : List (Nat × V)} {HB : List (Nat × Blk)} {a : Act} {w w' : World} (hs : StAt φ B (frOf nt L) (hOf nb HB) a w) (hg : Grown w w') {L' : List (Nat × V)} {nb' : Nat} {HB' : List (Nat × Blk)} {tb : Tab} (hm : (mAll tb (frOf nt L) (hOf nb HB) nt L' nb' HB').isSome = true) (hp : plainT tb = true) (hself : selfOK tb nt L' nb' HB' = true) {y : Sym} (hy : Ag tb y y) (hn : Named φ y) {d : Nat} (hd : d < nt) (c : Nat) :
    ∃ φ', StAt φ' B (frOf nt ((d, .i .i64 c) :: L')) (hOf nb' HB') (a.put (some d) (.int .i64 c)) w' ∧ Named φ' y := by
  obtain ⟨φ1, hs1, n1, n2, n3, n4⟩ := hs.conv hm y ((hy.self' hn).agree hp rfl _ _)
  obtain ⟨φ2, hs2, m1, m2, m3, m4⟩ := hs1.grow hg hself (y := y) (hy.self'' n1 n2 n3 n4)
  exact ⟨φ2, hs2.put hd vI, m1, m2, m3, m4⟩
theorem vW {φ : Ren} {lines ov rv : Value} {next : Nat} (h0 : φ.q 0 = lines) (h1 : φ.q 1 = ov) (h2 : φ.q 2 = rv) (h3 : φ.s 3 = next) (o0 : lines.oneCell' = true) (o1 : ov.oneCell' = true) (o2 : rv.oneCell' = true) : VR φ wA (wV lines ov rv next) := by
  have := w_args_ok (φ := φ) h0 h1 h2 h3 o0 o1 o2
  simp only [w_args, VRs] at this
  obtain ⟨_, _, e, h, rfl⟩ := this
  simp only [List.cons.injEq, and_true] at e
  rw [e]; exact h
theorem vW_eq {φ : Ren} {lines ov rv : Value} {next : Nat} (h0 : φ.q 0 = lines) (h1 : φ.q 1 = ov) (h2 : φ.q 2 = rv) (h3 : φ.s 3 = next) {v : Value} (h : VR φ wA v) : v = wV lines ov rv next := by
  have := w_args_eq (φ := φ) h0 h1 h2 h3 (args := [v]) (VRs.cons h VRs.nil)
  simpa using this
theorem vB_eq {φ : Ren} {lines ov rv : Value} {next : Nat} (h0 : φ.q 7 = lines) (h1 : φ.q 8 = ov) (h2 : φ.q 9 = rv) (h3 : φ.s 4 = next) {v : Value} (h : VR φ wB v) : v = wV lines ov rv next := by
  simp only [wB, VR, VRs] at h
  obtain ⟨cs, rfl, _, _, e1, ⟨rfl, _⟩, _, _, rfl, ⟨rfl, _⟩, _, _, rfl, ⟨rfl, _⟩, _, _, rfl, rfl, rfl⟩ := h
  rw [h0, h1, h2, h3] at e1
  unfold wV
  congr 1
  exact Array.toList_inj.1 e1
theorem vWB {φ : Ren} {lines ov rv : Value} {next : Nat} (h7 : φ.q 7 = lines) (h8 : φ.q 8 = ov) (h9 : φ.q 9 = rv) (h4 : φ.s 4 = next) (p0 : lines.oneCell' = true) (p1 : ov.oneCell' = true) (p2 : rv.oneCell' = true) : VR φ wB (wV lines ov rv next) := by
  simp only [wB, VR]
  refine ⟨_, rfl, VRs.cons ?_ (VRs.cons ?_ (VRs.cons ?_ (VRs.cons ?_ VRs.nil)))⟩
  · simp only [VR]; exact ⟨h7.symm, p0⟩
  · simp only [VR]; exact ⟨h8.symm, p1⟩
  · simp only [VR]; exact ⟨h9.symm, p2⟩
  · simp only [VR, h4]
theorem vnl_eq {φ : Ren} {v : Value} (h : VR φ nl v) : v = nilS := by simp only [nl, VR] at h; exact h.2

end Go.Ev

/- Chains, part De: 'awake'. -/
namespace Go.Ev
open Go.Proofs

def yA (ln ov rv : Value) : Sym := mkY [0, 0, 0, 4] [ln, ov, rv] [] []
def yB (ln ov rv ln2 ov2 rv2 : Value) : Sym := mkY [0, 0, 0, 4, 201] [ln, ov, rv, .bool false, .bool false, .bool false, .bool false, ln2, ov2, rv2] [] []

theorem snapsV_ok {φ : Ren} : ∀ (ks : List Nat) (vs : List Value), VRs φ (ks.flatMap fun i => [V.s (sName i), V.i .i64 ((i + 1 : Nat) : Int)]) vs → vs = rRow (ks.map fun i => (bytes (sName i), i + 1))
  | [], vs, h => by
    simp only [List.flatMap_nil, VRs] at h
    rw [h]; rfl
  | k :: ks, vs, h => by
    simp only [List.flatMap_cons, List.cons_append, List.nil_append, VRs, VR] at h
    obtain ⟨_, _, rfl, ⟨rfl, _⟩, _, _, rfl, rfl, h⟩ := h
    rw [snapsV_ok ks _ h]
    simp [rRow, rCells]

theorem awake_ok (n : Nat) (w : World) : CallsIn (W none) n Tryz.prog 6 #[] w fun e w' => ∃ v, e = .returned v ∧ v = .bool true ∧ Grown w w' := by
  let y0 : Sym := mkY [] [] [] []
  have hst := StAt.enter (nt := 92) (φ0_hr y0 w) rfl rfl (vs := []) (args := []) VRs.nil (by decide)
  refine callIn (fn := Tryz.f6) (c := (Tryz.f6.body).getD .skip) (args := []) Tryz.func6 rfl (wpIn_flat _ ?_)
  show wpCs none n E0.P _ c6 _ _
  refine StAt.runL (withF_ok E0_ok {}) rfl 1 aw_0 hst noFacts.bd' rfl y0 (Ag.agreeS (o := y0) ⟨trivial, trivial, trivial, trivial⟩ rfl rfl rfl rfl) fun φ a w1 hs hd1 hg1 _ n1 n2 n3 n4 => ?_
  show wpCs none n E0.P _ (c6.drop 1) a w1
  -- Chain(3, 20)
  obtain ⟨id1, hr1⟩ := aw_r1
  rw [hr1]
  refine wpCs_region ?_
  refine hs.callO (l := (opsD (c6.drop 1)).toList) (o := (opsD (c6.drop 1)).toList.headD default) (rest := (opsD (c6.drop 1)).toList.drop 1) rfl rfl rfl rfl rfl Tryz.func8 rfl rfl (Vs := [.i .i64 3, .i .i64 20]) rfl ?_
  intro args' ha
  have : args' = [.int .i64 (3 : Nat), .int .i64 (20 : Nat)] := by
    simp only [VRs, VR] at ha
    obtain ⟨_, _, rfl, rfl, _, _, rfl, rfl, rfl⟩ := ha
    rfl
  subst this
  refine (chain_ok (n := n - 1) (N := 3) (m := 20) ⟨by decide, by decide⟩ ⟨by decide, by decide⟩ cha_Z20).mono ?_
  rintro e w2 ⟨v, rfl, ⟨ln, ov, rv, l, rfl, G2, hl⟩, hgr2⟩
  refine ⟨_, rfl, ?_⟩
  have o0 := G2.sch.one
  have o1 := G2.objs.one
  have o2 := G2.roots.one
  have hc0 := hasChain0 (next := 4) hl ⟨by decide, by decide⟩ (m := 20) (by decide)
  have hll := chain_len hl
  have g02 := hg1.trans (hgr2.gb hg1.size)
  have hyA : Ag aw_T (yA ln ov rv) (yA ln ov rv) := ⟨⟨rfl, trivial⟩, ⟨⟨rfl, o0⟩, ⟨rfl, o1⟩, ⟨rfl, o2⟩, trivial⟩, trivial, trivial⟩
  obtain ⟨φ, hs, n1, n2, n3, n4⟩ := hs.grow hgr2 (tb := {}) (by decide +kernel) (y := yA ln ov rv) ⟨trivial, trivial, trivial, trivial⟩
  have hs := hs.put (d := 15) (by decide) (x := wA) (v := wV ln ov rv (3 + 1)) (vW (congrFun n2 0) (congrFun n2 1) (congrFun n2 2) (congrFun n1 3) o0 o1 o2)
  refine StAt.runO (withF_ok E0_ok {}) rfl 100 aw_1 hs noFacts.bd' _ (hyA.self' ⟨n1, n2, n3, n4⟩) fun φ a3 w3 hs hd3 hg3 hk3 n1 n2 n3 n4 => ?_
  show wpCs none n E0.P _ (c6.drop 2) a3 w3
  have hd3' : a3.defers = [] := by rw [hd3]; exact hd1
  refine StAt.runL (withF_ok E0_ok {}) rfl 1 (cs := c6.drop 2) aw_2 hs noFacts.bd' hd3' _ (hyA.self' ⟨n1, n2, n3, n4⟩) fun φ a4 w4 hs hd4 hg4 hk4 n1 n2 n3 n4 => ?_
  show wpCs none n E0.P _ (c6.drop 3) a4 w4
  have g04 := (g02.trans hg3).trans hg4
  have G4 : GW w4 ln ov rv 4 l (rootsL 20) := G2.keptC ((hk3.keptC rfl).trans (hk4.keptC rfl))
  -- one root more
  obtain ⟨id3, hr3⟩ := aw_r3
  rw [hr3]
  refine wpCs_region ?_
  refine StAt.runO (withF_ok E0_ok {}) rfl 3 aw_3 hs noFacts.bd' _ (hyA.self' ⟨n1, n2, n3, n4⟩) fun φ a5 w5 hs hd5 hg5 hk5 n1 n2 n3 n4 => ?_
  have G5 := G4.keptC (hk5.keptC rfl)
  refine hs.callO (l := (opsD (c6.drop 3)).toList.drop 3) (o := ((opsD (c6.drop 3)).toList.drop 3).headD default) (rest := (opsD (c6.drop 3)).toList.drop 4) rfl rfl rfl rfl rfl Tryz.func9 rfl rfl (Vs := [wA, nl, sl2 1]) rfl ?_
  intro args' ha
  simp only [VRs] at ha
  obtain ⟨uw, _, rfl, huw, us, _, rfl, hus, ur, _, rfl, hur, rfl⟩ := ha
  have e1 := vW_eq (next := 4) (congrFun n2 0) (congrFun n2 1) (congrFun n2 2) (congrFun n1 3) huw
  have e2 := vnl_eq hus
  subst e1; subst e2
  have one_eq : ∀ (φ : Ren) (vs : List Value), VRs φ oneV vs → vs = recCells (.root zN 1, nilS) := fun φ vs hv => by
    obtain ⟨v, nm, h1, h2, rfl⟩ := rec_eq hv (k' := 2) (oid' := 0) (id' := 1) vI_eq vI_eq vI_eq
    simp only [VR] at h2
    rw [vnl_eq h1, h2.1]; rfl
  have hrec5 : IsRecs w5 ur [(.root zN 1, nilS)] := recsOf hs.hr (cs := oneV) rfl hur (fun vs hv => by rw [one_eq φ vs hv]; simp [recRow]) rfl
  refine (limit_chain (n := n - 1) (c := 251) G5 hc0 (sl := []) (.inl ⟨rfl, rfl⟩) (by decide) hrec5 (fun r hr => by simp only [List.mem_singleton] at hr; subst hr; exact ⟨rn_z, by decide⟩) (by decide) (s := ⟨l, setR (rootsL 20) zN 1, 4⟩) rfl (by show l.length ≤ _; omega) (by rw [len21]; decide) (hc0.reroot (setR_ids rootsL_ids zN) (ne_of_len len21 (by decide)) ⟨by decide, by decide⟩) (by rw [len21]; rfl)).mono ?_
  rintro e w6 ⟨v, rfl, rfl, hgr6⟩
  refine ⟨_, rfl, ?_⟩
  obtain ⟨φ, hs, hnm⟩ := after_call hs hgr6 aw_3c rfl aw_S hyA ⟨n1, n2, n3, n4⟩ (d := 20) (by decide) 251
  have g06 := (g04.trans hg5).trans (hgr6.gb (Nat.le_trans g04.size hg5.size))
  have G6 := G5.keptC (KeptC.grown hgr6 wT)
  refine StAt.runO (withF_ok E0_ok {}) rfl 100 aw_3z hs noFacts.bd' _ (hyA.self' hnm) fun φ a7 w7 hs hd7 hg7 hk7 n1 n2 n3 n4 => ?_
  show wpCs none n E0.P _ (c6.drop 4) a7 w7
  have hd7' : a7.defers = [] := by rw [hd7]; show a5.defers = []; rw [hd5, hd4]
  have G7 := G6.keptC (hk7.keptC rfl)
  have g07 := g06.trans hg7
  -- one root goes, one comes
  obtain ⟨id4, hr4⟩ := aw_r4
  rw [hr4]
  refine wpCs_region ?_
  refine StAt.runO (withF_ok E0_ok {}) rfl 4 aw_4 hs noFacts.bd' _ (hyA.self' ⟨n1, n2, n3, n4⟩) fun φ a8 w8 hs hd8 hg8 hk8 n1 n2 n3 n4 => ?_
  have G8 := G7.keptC (hk8.keptC rfl)
  refine hs.callO (l := (opsD (c6.drop 4)).toList.drop 4) (o := ((opsD (c6.drop 4)).toList.drop 4).headD default) (rest := (opsD (c6.drop 4)).toList.drop 5) rfl rfl rfl rfl rfl Tryz.func9 rfl rfl (Vs := [wA, nl, sl2 2]) rfl ?_
  intro args' ha
  simp only [VRs] at ha
  obtain ⟨uw, _, rfl, huw, us, _, rfl, hus, ur, _, rfl, hur, rfl⟩ := ha
  have e1 := vW_eq (next := 4) (congrFun n2 0) (congrFun n2 1) (congrFun n2 2) (congrFun n1 3) huw
  have e2 := vnl_eq hus
  subst e1; subst e2
  have hrec8 : IsRecs w8 ur [(.root r00N 0, nilS), (.root zN 1, nilS)] := recsOf hs.hr (cs := goneV ++ oneV) rfl hur (fun vs hv => by
    obtain ⟨v1, v2, rfl, h1, h2⟩ := hv.split
    obtain ⟨v, nm, h3, h4, rfl⟩ := rec_eq h1 (k' := 2) (oid' := 0) (id' := 0) vI_eq vI_eq vI_eq
    simp only [VR] at h4
    rw [one_eq φ v2 h2, vnl_eq h3, h4.1]
    simp only [recRow, List.flatMap_cons, List.flatMap_nil, List.append_nil]
    rfl) rfl
  refine (limit_chain (n := n - 1) (c := 0) G8 hc0 (sl := []) (.inl ⟨rfl, rfl⟩) (by decide) hrec8 (fun r hr => by
    simp only [List.mem_cons, List.not_mem_nil, or_false] at hr
    rcases hr with rfl | rfl
    · exact ⟨rn_r00, by decide⟩
    · exact ⟨rn_z, by decide⟩) (by decide) (s := ⟨l, setR (delR (rootsL 20) r00N) zN 1, 4⟩) rfl (by show l.length ≤ _; omega) (by rw [len20]; decide) (hc0.reroot (setR_ids (fun q hq => rootsL_ids q (List.mem_filter.1 hq).1) zN) (ne_of_len len20 (by decide)) ⟨by decide, by decide⟩) (by rw [len20]; rfl)).mono ?_
  rintro e w9 ⟨v, rfl, rfl, hgr9⟩
  refine ⟨_, rfl, ?_⟩
  obtain ⟨φ, hs, hnm⟩ := after_call hs hgr9 aw_4c rfl aw_S4 hyA ⟨n1, n2, n3, n4⟩ (d := 25) (by decide) 0
  have g09 := (g07.trans hg8).trans (hgr9.gb (Nat.le_trans g07.size hg8.size))
  have G9 := G8.keptC (KeptC.grown hgr9 wT)
  refine StAt.runO (withF_ok E0_ok {}) rfl 100 aw_4z hs noFacts.bd' _ (hyA.self' hnm) fun φ aa wa hs hda hga hka n1 n2 n3 n4 => ?_
  show wpCs none n E0.P _ (c6.drop 5) aa wa
  have hda' : aa.defers = [] := by rw [hda]; show a8.defers = []; rw [hd8, hd7']
  have Ga := G9.keptC (hka.keptC rfl)
  have g0a := g09.trans hga
  -- an object more behind the last one
  obtain ⟨id5, hr5⟩ := aw_r5
  rw [hr5]
  refine wpCs_region ?_
  refine hs.callO (l := (opsD (c6.drop 5)).toList) (o := (opsD (c6.drop 5)).toList.headD default) (rest := (opsD (c6.drop 5)).toList.drop 1) rfl rfl rfl rfl rfl Tryz.func8 rfl rfl (Vs := [.i .i64 200, .i .i64 1]) rfl ?_
  intro args' ha
  have : args' = [.int .i64 (200 : Nat), .int .i64 (1 : Nat)] := by
    simp only [VRs, VR] at ha
    obtain ⟨_, _, rfl, rfl, _, _, rfl, rfl, rfl⟩ := ha
    rfl
  subst this
  refine (chain_ok (n := n - 1) (N := 200) (m := 1) ⟨by decide, by decide⟩ ⟨by decide, by decide⟩ cha_Z1).mono ?_
  rintro e wb ⟨v, rfl, ⟨ln2, ov2, rv2, l2, rfl, Gb2, hl2⟩, hgrb⟩
  refine ⟨_, rfl, ?_⟩
  have p0 := Gb2.sch.one
  have p1 := Gb2.objs.one
  have p2 := Gb2.roots.one
  have Gb := Ga.keptC (KeptC.grown hgrb wT)
  have g0b := g0a.trans (hgrb.gb g0a.size)
  have hll2 := chain_len hl2
  have hyB : Ag aw_T2 (yB ln ov rv ln2 ov2 rv2) (yB ln ov rv ln2 ov2 rv2) := ⟨⟨rfl, rfl, trivial⟩, ⟨⟨rfl, o0⟩, ⟨rfl, o1⟩, ⟨rfl, o2⟩, ⟨rfl, p0⟩, ⟨rfl, p1⟩, ⟨rfl, p2⟩, trivial⟩, trivial, trivial⟩
  obtain ⟨φ, hs, n1, n2, n3, n4⟩ := hs.grow hgrb aw_S5 (y := yB ln ov rv ln2 ov2 rv2) ⟨⟨(congrFun n1 3).symm, trivial⟩, ⟨⟨(congrFun n2 0).symm, o0⟩, ⟨(congrFun n2 1).symm, o1⟩, ⟨(congrFun n2 2).symm, o2⟩, trivial⟩, trivial, trivial⟩
  have hs := hs.put (d := 26) (by decide) (x := wB) (v := wV ln2 ov2 rv2 (200 + 1)) (vWB (congrFun n2 7) (congrFun n2 8) (congrFun n2 9) (congrFun n1 4) p0 p1 p2)
  refine StAt.runO (withF_ok E0_ok {}) rfl 3 aw_5 hs noFacts.bd' _ (hyB.self' ⟨n1, n2, n3, n4⟩) fun φ ac wc hs hdc hgc hkc n1 n2 n3 n4 => ?_
  have Gc := Gb.keptC (hkc.keptC rfl)
  have Gc2 := Gb2.keptC (hkc.keptC rfl)
  have g0c := g0b.trans hgc
  refine hs.callO (l := ((opsD (c6.drop 5)).toList.drop 1).drop 3) (o := ((opsD (c6.drop 5)).toList.drop 4).headD default) (rest := (opsD (c6.drop 5)).toList.drop 5) rfl rfl rfl rfl rfl Tryz.func9 rfl rfl (Vs := [wB, nl, sl2 2]) rfl ?_
  intro args' ha
  simp only [VRs] at ha
  obtain ⟨uw, _, rfl, huw, us, _, rfl, hus, ur, _, rfl, hur, rfl⟩ := ha
  have e1 := vB_eq (next := 201) (congrFun n2 7) (congrFun n2 8) (congrFun n2 9) (congrFun n1 4) huw
  have e2 := vnl_eq hus
  subst e1; subst e2
  -- where the values lie
  have valN : ∀ (φ : Ren) (HB : List (Nat × Blk)) (nb : Nat) (w : World), HR φ (hOf nb HB) w → lkB HB 3 = valB' kN kN → ∀ r, φ 3 = some r → IsVal w (⟨201, 0⟩, .slice (some ⟨r, 0, none⟩) 1 1) := fun φ HB nb w hr h3 r h => by
    obtain ⟨c, g, vc, _, z, _⟩ := hr.cellsL h (l := [kN, kN, .s [], .sl none 0 (.kn 0)]) h3
    have z := z rfl
    rw [List.take_of_length_le (by rw [Array.length_toList, z]; exact Nat.le_refl _)] at vc
    simp only [kN, VRs, VR] at vc
    obtain ⟨_, _, q, rfl, _, _, rfl, rfl, _, _, rfl, ⟨rfl, _⟩, _, _, rfl, ⟨_, rfl⟩, rfl⟩ := vc
    exact ⟨r, rfl, by rw [g]; congr 2; exact Array.toList_inj.1 q⟩
  have p201_eq : ∀ (φ : Ren) (vs : List Value), VRs φ (p201 3) vs → ∃ r, φ 3 = some r ∧ vs = recCells (.put ⟨201, 0⟩, .slice (some ⟨r, 0, none⟩) 1 1) := fun φ vs hv => by
    obtain ⟨v, nm, h1, h2, rfl⟩ := rec_eq hv (k' := 1) (oid' := 201) (id' := 0) vI_eq vI_eq vI_eq
    simp only [VR] at h1 h2
    obtain ⟨r, hr, _, rfl⟩ := h1
    exact ⟨r, hr, by rw [h2.1]; rfl⟩
  obtain ⟨r3, r4, hr3', hr4', hrec⟩ : ∃ r3 r4, φ 3 = some r3 ∧ φ 4 = some r4 ∧ IsRecs wc ur [(.put ⟨201, 0⟩, .slice (some ⟨r3, 0, none⟩) 1 1), (.put ⟨200, 201⟩, .slice (some ⟨r4, 0, none⟩) 1 1)] := by
    have hv2 : ∃ r, φ 2 = some r := by simp only [sl2, VR] at hur; exact ⟨_, hur.choose_spec.1⟩
    obtain ⟨r2, h2⟩ := hv2
    obtain ⟨c, g, vc, _, z, _⟩ := hs.hr.cellsL h2 (l := p201 3 ++ p200 4) rfl
    have z := z rfl
    rw [List.take_of_length_le (by rw [Array.length_toList, z]; exact Nat.le_refl _)] at vc
    have vc' := vc
    obtain ⟨v1, v2, _, h3, h4⟩ := vc.split
    obtain ⟨r3, hr3, _⟩ := p201_eq φ v1 h3
    obtain ⟨v, nm, h5, h6, _⟩ := rec_eq h4 (k' := 1) (oid' := 200) (id' := 0) vI_eq vI_eq vI_eq
    simp only [VR] at h5
    obtain ⟨r4, hr4, _, _⟩ := h5
    refine ⟨r3, r4, hr3, hr4, recsOf hs.hr (cs := p201 3 ++ p200 4) rfl hur (fun vs hv => ?_) rfl⟩
    obtain ⟨v1, v2, rfl, h3, h4⟩ := hv.split
    obtain ⟨r3', hr3', rfl⟩ := p201_eq φ v1 h3
    obtain ⟨v, nm, h5, h6, rfl⟩ := rec_eq h4 (k' := 1) (oid' := 200) (id' := 0) vI_eq vI_eq vI_eq
    simp only [VR] at h5 h6
    obtain ⟨r4', hr4', _, rfl⟩ := h5
    rw [hr3] at hr3'; cases hr3'
    rw [hr4] at hr4'; cases hr4'
    rw [h6.1]
    simp only [recRow, List.flatMap_cons, List.flatMap_nil, List.append_nil]
    rfl
  have hval3 := valN φ _ _ wc hs.hr rfl r3 hr3'
  have hval4 : IsVal wc (⟨200, 201⟩, .slice (some ⟨r4, 0, none⟩) 1 1) := by
    obtain ⟨c, g, vc, _, z, _⟩ := hs.hr.cellsL hr4' (l := [kY, .i .i64 201, .s [], .sl none 0 (.kn 0)]) rfl
    have z := z rfl
    rw [List.take_of_length_le (by rw [Array.length_toList, z]; exact Nat.le_refl _)] at vc
    simp only [kY, VRs, VR] at vc
    obtain ⟨_, _, q, rfl, _, _, rfl, rfl, _, _, rfl, ⟨rfl, _⟩, _, _, rfl, ⟨_, rfl⟩, rfl⟩ := vc
    exact ⟨r4, rfl, by rw [g]; congr 2; exact Array.toList_inj.1 q⟩
  have hc2 := hasChain0 (next := 201) hl2 ⟨by decide, by decide⟩ (m := 1) (by decide)
  have hlong := chain_long (next := 202) hl2 ⟨by decide, by decide⟩ (m := 1) (by decide) (.slice (some ⟨r3, 0, none⟩) 1 1) (.slice (some ⟨r4, 0, none⟩) 1 1)
  refine (limit_chain (n := n - 1) (c := 250) Gc2 hc2 (sl := []) (.inl ⟨rfl, rfl⟩) (by decide) hrec (fun r hr => by
    simp only [List.mem_cons, List.not_mem_nil, or_false] at hr
    rcases hr with rfl | rfl
    · exact ⟨hval3, ⟨by decide, by decide⟩, by decide⟩
    · exact ⟨hval4, ⟨by decide, by decide⟩, by decide⟩) (by show 2 ≤ 1000; decide) (s := ⟨putO (l2 ++ [(⟨201, 0⟩, .slice (some ⟨r3, 0, none⟩) 1 1)]) (⟨200, 201⟩, .slice (some ⟨r4, 0, none⟩) 1 1), rootsL 1, 202⟩) (by
      simp only [Bst.run, List.foldl_cons, List.foldl_nil, Bst.step]
      rw [put_new hl2 (p := (⟨201, 0⟩, .slice (some ⟨r3, 0, none⟩) 1 1)) (by show 200 < 201; decide)]
      rfl) (by show (putO _ _).length ≤ _; rw [hlong.2]; omega) (by show (rootsL 1).length ≤ 100000; decide) hlong.1 rfl).mono ?_
  rintro e wd ⟨v, rfl, rfl, hgrd⟩
  refine ⟨_, rfl, ?_⟩
  have yAB : ∀ φ : Ren, Named φ (yB ln ov rv ln2 ov2 rv2) → Agree aw_T φ (hOf 5 aw_H5) wc (yA ln ov rv) := fun φ h => by
    refine mkAgree ⟨(congrFun h.1 3).symm, trivial⟩ ⟨?_, ?_, ?_, trivial⟩ trivial trivial
    · simp only [VR]; exact ⟨(congrFun h.2.1 0).symm, o0⟩
    · simp only [VR]; exact ⟨(congrFun h.2.1 1).symm, o1⟩
    · simp only [VR]; exact ⟨(congrFun h.2.1 2).symm, o2⟩
  obtain ⟨φ, hs, n1, n2, n3, n4⟩ := hs.conv aw_5c (yA ln ov rv) (yAB φ ⟨n1, n2, n3, n4⟩)
  obtain ⟨φ, hs, n1, n2, n3, n4⟩ := hs.grow hgrd aw_S5 (y := yA ln ov rv) (hyA.self'' n1 n2 n3 n4)
  have hs := hs.put (d := 30) (by decide) (x := .i .i64 250) (v := .int .i64 250) vI
  have g0d := g0c.trans (hgrd.gb g0c.size)
  have Gd := Gc.keptC (KeptC.grown hgrd wT)
  refine StAt.runO (withF_ok E0_ok {}) rfl 100 aw_5z hs noFacts.bd' _ (hyA.self' ⟨n1, n2, n3, n4⟩) fun φ ae we hs hde hge hke n1 n2 n3 n4 => ?_
  show wpCs none n E0.P _ (c6.drop 6) ae we
  have hde' : ae.defers = [] := by rw [hde]; show ac.defers = []; rw [hdc]; exact hda'
  have Ge := Gd.keptC (hke.keptC rfl)
  have g0e := g0d.trans hge
  -- an object more that is not reached
  obtain ⟨id6, hr6⟩ := aw_r6
  rw [hr6]
  refine wpCs_region ?_
  refine hs.callO (l := (opsD (c6.drop 6)).toList) (o := (opsD (c6.drop 6)).toList.headD default) (rest := (opsD (c6.drop 6)).toList.drop 1) rfl rfl rfl rfl rfl Tryz.func8 rfl rfl (Vs := [.i .i64 200, .i .i64 1]) rfl ?_
  intro args' ha
  have : args' = [.int .i64 (200 : Nat), .int .i64 (1 : Nat)] := by
    simp only [VRs, VR] at ha
    obtain ⟨_, _, rfl, rfl, _, _, rfl, rfl, rfl⟩ := ha
    rfl
  subst this
  refine (chain_ok (n := n - 1) (N := 200) (m := 1) ⟨by decide, by decide⟩ ⟨by decide, by decide⟩ cha_Z1).mono ?_
  rintro e wf ⟨v, rfl, ⟨ln3, ov3, rv3, l3, rfl, Gf3, hl3⟩, hgrf⟩
  refine ⟨_, rfl, ?_⟩
  have t0 := Gf3.sch.one
  have t1 := Gf3.objs.one
  have t2 := Gf3.roots.one
  have Gf := Ge.keptC (KeptC.grown hgrf wT)
  have g0f := g0e.trans (hgrf.gb g0e.size)
  have hll3 := chain_len hl3
  have hyC : Ag aw_T2 (yB ln ov rv ln3 ov3 rv3) (yB ln ov rv ln3 ov3 rv3) := ⟨⟨rfl, rfl, trivial⟩, ⟨⟨rfl, o0⟩, ⟨rfl, o1⟩, ⟨rfl, o2⟩, ⟨rfl, t0⟩, ⟨rfl, t1⟩, ⟨rfl, t2⟩, trivial⟩, trivial, trivial⟩
  obtain ⟨φ, hs, n1, n2, n3, n4⟩ := hs.grow hgrf aw_S6 (y := yB ln ov rv ln3 ov3 rv3) ⟨⟨(congrFun n1 3).symm, trivial⟩, ⟨⟨(congrFun n2 0).symm, o0⟩, ⟨(congrFun n2 1).symm, o1⟩, ⟨(congrFun n2 2).symm, o2⟩, trivial⟩, trivial, trivial⟩
  have hs := hs.put (d := 31) (by decide) (x := wB) (v := wV ln3 ov3 rv3 (200 + 1)) (vWB (congrFun n2 7) (congrFun n2 8) (congrFun n2 9) (congrFun n1 4) t0 t1 t2)
  refine StAt.runO (withF_ok E0_ok {}) rfl 2 aw_6 hs noFacts.bd' _ (hyC.self' ⟨n1, n2, n3, n4⟩) fun φ ag wg hs hdg hgg hkg n1 n2 n3 n4 => ?_
  have Gg := Gf.keptC (hkg.keptC rfl)
  have Gg3 := Gf3.keptC (hkg.keptC rfl)
  have g0g := g0f.trans hgg
  refine hs.callO (l := ((opsD (c6.drop 6)).toList.drop 1).drop 2) (o := ((opsD (c6.drop 6)).toList.drop 3).headD default) (rest := (opsD (c6.drop 6)).toList.drop 4) rfl rfl rfl rfl rfl Tryz.func9 rfl rfl (Vs := [wB, nl, sl2 1]) rfl ?_
  intro args' ha
  simp only [VRs] at ha
  obtain ⟨uw, _, rfl, huw, us, _, rfl, hus, ur, _, rfl, hur, rfl⟩ := ha
  have e1 := vB_eq (next := 201) (congrFun n2 7) (congrFun n2 8) (congrFun n2 9) (congrFun n1 4) huw
  have e2 := vnl_eq hus
  subst e1; subst e2
  obtain ⟨r3, hr3', hrec⟩ : ∃ r3, φ 3 = some r3 ∧ IsRecs wg ur [(.put ⟨201, 0⟩, .slice (some ⟨r3, 0, none⟩) 1 1)] := by
    have hv2 : ∃ r, φ 2 = some r := by simp only [sl2, VR] at hur; exact ⟨_, hur.choose_spec.1⟩
    obtain ⟨r2, h2⟩ := hv2
    obtain ⟨c, g, vc, _, z, _⟩ := hs.hr.cellsL h2 (l := p201 3) rfl
    have z := z rfl
    rw [List.take_of_length_le (by rw [Array.length_toList, z]; exact Nat.le_refl _)] at vc
    obtain ⟨r3, hr3, _⟩ := p201_eq φ _ vc
    refine ⟨r3, hr3, recsOf hs.hr (cs := p201 3) rfl hur (fun vs hv => ?_) rfl⟩
    obtain ⟨r3', hr3', rfl⟩ := p201_eq φ vs hv
    rw [hr3] at hr3'; cases hr3'
    simp [recRow]
  have hval3 := valN φ _ _ wg hs.hr rfl r3 hr3'
  have hc3 := hasChain0 (next := 201) hl3 ⟨by decide, by decide⟩ (m := 1) (by decide)
  refine (limit_chain (n := n - 1) (c := 0) Gg3 hc3 (sl := []) (.inl ⟨rfl, rfl⟩) (by decide) hrec (fun r hr => by
    simp only [List.mem_singleton] at hr
    subst hr
    exact ⟨hval3, ⟨by decide, by decide⟩, by decide⟩) (by show 1 ≤ 1000; decide) (s := ⟨l3 ++ [(⟨201, 0⟩, .slice (some ⟨r3, 0, none⟩) 1 1)], rootsL 1, 202⟩) (by
      simp only [Bst.run, List.foldl_cons, List.foldl_nil, Bst.step]
      rw [put_new hl3 (p := (⟨201, 0⟩, .slice (some ⟨r3, 0, none⟩) 1 1)) (by show 200 < 201; decide)]
      rfl) (by show (l3 ++ [((⟨201, 0⟩ : O), _)]).length ≤ _; rw [List.length_append, hll3]; show 200 + 1 ≤ 100000; decide) (by show (rootsL 1).length ≤ 100000; decide) (chain_more hl3 ⟨by decide, by decide⟩ (by decide) _) rfl).mono ?_
  rintro e wh ⟨v, rfl, rfl, hgrh⟩
  refine ⟨_, rfl, ?_⟩
  obtain ⟨φ, hs, n1, n2, n3, n4⟩ := hs.conv aw_6c (yA ln ov rv) (by
    refine mkAgree ⟨(congrFun n1 3).symm, trivial⟩ ⟨?_, ?_, ?_, trivial⟩ trivial trivial
    · simp only [VR]; exact ⟨(congrFun n2 0).symm, o0⟩
    · simp only [VR]; exact ⟨(congrFun n2 1).symm, o1⟩
    · simp only [VR]; exact ⟨(congrFun n2 2).symm, o2⟩)
  obtain ⟨φ, hs, n1, n2, n3, n4⟩ := hs.grow hgrh aw_S6 (y := yA ln ov rv) (hyA.self'' n1 n2 n3 n4)
  have hs := hs.put (d := 34) (by decide) (x := .i .i64 0) (v := .int .i64 0) vI
  have g0h := g0g.trans (hgrh.gb g0g.size)
  have Gh := Gg.keptC (KeptC.grown hgrh wT)
  refine StAt.runO (withF_ok E0_ok {}) rfl 100 aw_6z hs noFacts.bd' _ (hyA.self' ⟨n1, n2, n3, n4⟩) fun φ ai wi hs hdi hgi hki n1 n2 n3 n4 => ?_
  show wpCs none n E0.P _ (c6.drop 7) ai wi
  have hdi' : ai.defers = [] := by rw [hdi]; show ag.defers = []; rw [hdg]; exact hde'
  have Gi := Gh.keptC (hki.keptC rfl)
  have g0i := g0h.trans hgi
  -- snapshots
  obtain ⟨id7, hr7⟩ := aw_r7
  rw [hr7]
  refine StAt.exploreK (Ts := wT) (withF_ok E0_ok {}) rfl E0_ok.mixed aw_E7 aw_T7 (L0 := aw_A7) (HB0 := aw_H) rfl rfl hs (yA ln ov rv) hyA n1 n2 n3 n4 (fun φ1 _ _ _ _ => noFacts.bd') fun φ aj wj hs hdj hgj hkj n1 n2 n3 n4 => ?_
  refine any_step (fuel := 1) aw_rd5 (o := ((opsD (c6.drop 7)).toList.drop 5).headD default) rfl (l := (opsD (c6.drop 7)).toList.drop 6) (fun a w h => any_step (fuel := 0) aw_rd6 (o := ((opsD (c6.drop 7)).toList.drop 6).headD default) rfl (l := []) (fun a w h => any_done aw_rd7 h) h) ?_
  have Gj := Gi.keptC hkj
  have g0j := g0i.trans hgj
  refine hs.callO (o := ((opsD (c6.drop 7)).toList.drop 5).headD default) (rest := (opsD (c6.drop 7)).toList.drop 6) rfl rfl rfl rfl rfl Tryz.func9 rfl rfl (Vs := [wA, .sl (some (3, 0)) 8 (.un 2), .sl (some (4, 0)) 1 (.kn 1)]) rfl ?_
  intro args' ha
  simp only [VRs] at ha
  obtain ⟨uw, _, rfl, huw, us, _, rfl, hus, ur, _, rfl, hur, rfl⟩ := ha
  have e1 := vW_eq (next := 4) (congrFun n2 0) (congrFun n2 1) (congrFun n2 2) (congrFun n1 3) huw
  subst e1
  have hsn : IsSnaps wj us snaps8 := by
    simp only [VR] at hus
    obtain ⟨r3, cap, h3, h7, h8, rfl⟩ := hus
    obtain ⟨c6, g6, v6, l6, _, z6⟩ := hs.hr.cellsL h3 (l := (List.range 8).flatMap fun i => [.s (sName i), .i .i64 (i + 1 : Nat)]) rfl
    have := snapsV_ok _ _ v6
    refine .inr ⟨r3, 8, cap, c6, rfl, by decide, by decide, h7, by omega, g6, ?_⟩
    exact this
  have hrec : IsRecs wj ur [(.snap zN 1, nilS)] := recsOf hs.hr (cs := snapV) rfl hur (fun vs hv => by
    obtain ⟨v, nm, h1, h2, rfl⟩ := rec_eq hv (k' := 5) (oid' := 0) (id' := 1) vI_eq vI_eq vI_eq
    simp only [VR] at h2
    rw [vnl_eq h1, h2.1]; rfl) rfl
  refine (limit_chain (n := n - 1) (c := 252) Gj hc0 hsn (by decide) hrec (fun r hr => by simp only [List.mem_singleton] at hr; subst hr; exact ⟨rn_z, by decide⟩) (by decide) (s := ⟨l, rootsL 20, 4⟩) rfl (by show l.length ≤ _; omega) (by show (rootsL 20).length ≤ 100000; decide) hc0 (by rw [len9]; rfl)).mono ?_
  rintro e wk ⟨v, rfl, rfl, hgrk⟩
  refine ⟨_, rfl, ?_⟩
  obtain ⟨φ, hs, hnm⟩ := after_call hs hgrk aw_7c rfl aw_S7 hyA ⟨n1, n2, n3, n4⟩ (d := 40) (by decide) 252
  have g0k := g0j.trans (hgrk.gb g0j.size)
  refine StAt.runO (l := (opsD (c6.drop 7)).toList.drop 6) (withF_ok E0_ok {}) rfl 100 aw_7z hs noFacts.bd' _ (hyA.self' hnm) fun φ al wl hs hdl hgl hkl n1 n2 n3 n4 => ?_
  show wpCs none n E0.P _ (c6.drop 8) al wl
  have hdl' : al.defers = [] := by rw [hdl]; show aj.defers = []; rw [hdj]; exact hdi'
  -- the end
  refine StAt.runL (withF_ok E2_ok {}) rfl 10 (cs := c6.drop 8) aw_Z hs noFacts.bd' hdl' y0 (Ag.agreeS (o := yA ln ov rv) ⟨trivial, trivial, trivial, trivial⟩ n1 n2 n3 n4) fun φ am wm hs hdm hgm _ _ _ _ _ => ⟨.inl rfl, hdm, ?_⟩
  obtain ⟨v, hv1, hv2⟩ := hs.leave E0_ok (fn := Tryz.f6) (l := [.b true]) rfl
  exact ⟨v, hv1, v, rfl, by simpa only [aRets, VR] using hv2, ((g0k.trans hgl).trans hgm).grown⟩

end Go.Ev

/- Chains, part Ha: append, on rows in memory; a region looked through, some of whose operations are done by hand. -/
namespace Go.Ev
open Go.Proofs

theorem apd_setCell {w : World} {r o : Nat} {e : TypeId} {c : Array Value} {v : Value} (h : w.heap[r]? = some (.cells c e (0, 0))) :
    (w.setCell ⟨r, o, none⟩ v).heap[r]? = some (.cells (c.setIfInBounds o v) e (0, 0)) ∧ (∀ j, j ≠ r → (w.setCell ⟨r, o, none⟩ v).heap[j]? = w.heap[j]?) ∧ (w.setCell ⟨r, o, none⟩ v).heap.size = w.heap.size := by
  have hlt : r < w.heap.size := (Array.getElem?_eq_some_iff.1 h).1
  refine ⟨?_, fun j hj => ?_, ?_⟩
  · simp only [World.setCell, Array.getElem?_modify, h]
    simp
  · simp only [World.setCell, Array.getElem?_modify]
    rw [if_neg (fun e => hj e.symm)]
  · simp [World.setCell]
theorem apd_setCells {r : Nat} {e : TypeId} : ∀ (vs : List Value) (o : Nat) (w : World) (c : Array Value), w.heap[r]? = some (.cells c e (0, 0)) → o + vs.length ≤ c.size →
    ∃ c', (w.setCells r o vs).heap[r]? = some (.cells c' e (0, 0)) ∧ c'.size = c.size ∧ (∀ j, j < o → c'[j]? = c[j]?) ∧ (∀ j, j < vs.length → c'[o + j]? = vs[j]?) ∧ (∀ j, j ≠ r → (w.setCells r o vs).heap[j]? = w.heap[j]?) ∧
      (w.setCells r o vs).heap.size = w.heap.size ∧ (w.setCells r o vs).os = w.os ∧ (w.setCells r o vs).tape = w.tape ∧ (w.setCells r o vs).output = w.output
  | [], o, w, c, h, _ => ⟨c, h, rfl, fun _ _ => rfl, fun j hj => (by cases hj), fun _ _ => rfl, rfl, rfl, rfl, rfl⟩
  | v :: vs, o, w, c, h, hle => by
    simp only [List.length_cons] at hle
    obtain ⟨h1, h2, h3⟩ := apd_setCell (o := o) (v := v) h
    obtain ⟨c', g1, g2, g3, g4, g5, g6, g7, g8, g9⟩ := apd_setCells vs (o + 1) (w.setCell ⟨r, o, none⟩ v) _ h1 (by simp; omega)
    refine ⟨c', g1, by rw [g2]; simp, fun j hj => ?_, fun j hj => ?_, fun j hj => (g5 j hj).trans (h2 j hj), g6.trans h3, g7, g8, g9⟩
    · rw [g3 j (by omega)]
      simp only [Array.getElem?_setIfInBounds]
      rw [if_neg (by omega)]
    · cases j with
      | zero =>
        rw [Nat.add_zero, g3 o (by omega)]
        simp only [Array.getElem?_setIfInBounds]
        simp; omega
      | succ j =>
        have := g4 j (by simpa using hj)
        rw [show o + (j + 1) = o + 1 + j by omega, this]
        rfl

theorem take_row2 {c c' : Array Value} {row news : List Value} (hr : c.toList.take row.length = row) (hle : row.length ≤ c.size) (hsz : row.length + news.length ≤ c'.size) (h1 : ∀ j, j < row.length → c'[j]? = c[j]?) (h2 : ∀ j, j < news.length → c'[row.length + j]? = news[j]?) :
    c'.toList.take (row ++ news).length = row ++ news := by
  apply List.ext_getElem?
  intro j
  rw [List.length_append]
  rcases Nat.lt_or_ge j (row.length + news.length) with hj | hj
  · rw [List.getElem?_take_of_lt hj, Array.getElem?_toList]
    rcases Nat.lt_or_ge j row.length with hl | hl
    · rw [h1 j hl, List.getElem?_append_left hl]
      conv => rhs; rw [← hr]
      rw [List.getElem?_take_of_lt hl, Array.getElem?_toList]
    · rw [List.getElem?_append_right hl, ← h2 (j - row.length) (by omega)]
      congr 1; omega
  · rw [List.getElem?_eq_none (by simp; omega), List.getElem?_eq_none (by simp; omega)]

/-- What append leaves. -/
def Apd (w w' : World) (e : TypeId) (sz : Nat) (v : Value) (row : List Value) : Prop :=
  Grown w w' ∨ ∃ r n cap c, v = .slice (some ⟨r, 0, none⟩) n cap ∧ w.heap[r]? = some (.cells c e (0, 0)) ∧ w'.heap.size = w.heap.size ∧ (∀ j, j ≠ r → w'.heap[j]? = w.heap[j]?) ∧ IsRow w' e sz v row ∧ w'.os = w.os ∧ w'.tape = w.tape ∧ w'.output = w.output

theorem append_row {P : Program} {w : World} {t ty e : TypeId} {i : TypeInfo} {z : Value} (ht : P.underlying t = some (.slice e)) (hi : P.info? e = some i) (hz : i.zero = some z) (hzs : z.cells.size = i.size) (h0 : 0 < i.size) (hb : i.bytes ≤ 1000000) {v : Value} {row : List Value}
    (hv : IsRow w e i.size v row ∨ (row = [] ∧ v = nilS)) {x : Value} {nn : Nat} {news : List Value} (hs : Src P i.size t x nn news w) (hnn : 0 < nn) (hl : row.length + news.length ≤ 1000000) :
    ∃ u w', (Builtin.append_ #[t, t] ty #[v, x]).run P w = .ok u w' ∧ IsRow w' e i.size u (row ++ news) ∧ Apd w w' e i.size v row := by
  have hnl := hs.newsLen
  have grow : ∀ (base : Option Addr) (n cap : Nat), row.length = n * i.size → (Builtin.firstCells i.size n (.slice base n cap)).run P w.drew = .ok row.toArray w.drew → cap < n + nn → v = .slice base n cap →
      ∃ u w', (Builtin.append_ #[t, t] ty #[v, x]).run P w = .ok u w' ∧ IsRow w' e i.size u (row ++ news) ∧ Apd w w' e i.size v row := fun base n cap hn hold hg hve => by
    subst hve
    have hm : (n + nn) * i.size = row.length + news.length := by rw [Nat.add_mul, hn, hnl]
    have hnb : n + nn ≤ 1000000 := by
      have : (n + nn) * 1 ≤ (n + nn) * i.size := Nat.mul_le_mul_left _ h0
      omega
    have hbb : (n + nn) * i.bytes ≤ 1000000 * 1000000 := Nat.mul_le_mul hnb hb
    have hrun := run_append_grow_src (P := P) w t t ty e i z ht hi hz base n cap row hold x nn news hs hg (by omega) (growslice_fits hg (by omega))
    have hcap : n + nn ≤ grownCap w (n + nn) cap e := by unfold grownCap; simp only [Question.cut]; omega
    generalize hG : grownCap w (n + nn) cap e = G at hrun hcap
    let c : Array Value := (row ++ news).toArray ++ Builtin.zeroCells z.cells (G - (n + nn))
    have hcs : c.size = G * i.size := by
      show ((row ++ news).toArray ++ Builtin.zeroCells z.cells (G - (n + nn))).size = _
      rw [Array.size_append, zeroCells_size, hzs]
      simp only [List.size_toArray, List.length_append, hn, hnl]
      rw [← Nat.add_mul, ← Nat.add_mul]
      congr 1; omega
    refine ⟨_, _, hrun, ⟨w.heap.size, n + nn, G, c, rfl, h0, by rw [List.length_append]; exact hm, hcap, hcs.symm, ?_, ?_⟩, .inl ⟨?_, fun r hr => ?_, rfl, rfl, rfl⟩⟩
    · show (w.drew.heap.push _)[w.heap.size]? = _
      exact Array.getElem?_push_size
    · have : c.toList = (row ++ news) ++ (Builtin.zeroCells z.cells (G - (n + nn))).toList := by simp [c]
      rw [this, List.take_append_of_le_length (Nat.le_refl _), List.take_of_length_le (Nat.le_refl _)]
    · show w.heap.size ≤ (w.drew.heap.push _).size
      rw [Array.size_push]
      exact Nat.le_succ _
    · show (w.heap.push _)[r]? = _
      rw [Array.getElem?_push, if_neg (by omega)]
  rcases hv with hrow | ⟨rfl, rfl⟩
  · obtain ⟨r, n, cap, c, rfl, h2, h3, h4, h5, h6, h7⟩ := hrow
    have hle : row.length ≤ c.size := by rw [← h3, ← h5]; exact Nat.mul_le_mul_right _ h4
    have hcell : ∀ (w1 : World), w1.heap[r]? = some (.cells c e (0, 0)) → ∀ j, j < c.size → w1.cell? ⟨r, j, none⟩ = c[j]? := fun w1 h j hj => by
      simp [World.cell?, h]
    rcases Nat.lt_or_ge cap (n + nn) with hg | hroom
    · refine grow (some ⟨r, 0, none⟩) n cap h3.symm ?_ hg rfl
      refine run_firstCells_some w.drew i.size n ⟨r, 0, none⟩ n cap row h3.symm fun j u hu => ?_
      have hj : j < row.length := by
        rcases Nat.lt_or_ge j row.length with h | h
        · exact h
        · rw [List.getElem?_eq_none h] at hu; cases hu
      rw [Addr.add_lit, Nat.zero_add, hcell _ (by exact h6) j (by omega), ← hu]
      conv => rhs; rw [← h7]
      rw [List.getElem?_take_of_lt hj, Array.getElem?_toList]
    · have hfit : row.length + news.length ≤ c.size := by
        rw [← h3, hnl, ← Nat.add_mul, ← h5]
        exact Nat.mul_le_mul_right _ hroom
      have hin : ∀ j, j < news.length → j + row.length < c.size := fun j hj => by omega
      have hrun := run_append_room_src (P := P) w t t ty e i ht hi r 0 n cap x nn news hs hroom (fun j hj => by
        rw [Nat.zero_add, h3, hcell w h6 _ (by have := hin j hj; omega)]
        rw [Array.getElem?_eq_getElem (by have := hin j hj; omega)]; rfl) (fun j hj => by
        simp [World.frozen?, h6])
      rw [Nat.zero_add, h3] at hrun
      obtain ⟨c', g1, g2, g3, g4, g5, g6, g7, g8, g9⟩ := apd_setCells news row.length w c h6 hfit
      refine ⟨_, _, hrun, ⟨r, n + nn, cap, c', rfl, h0, by rw [List.length_append, Nat.add_mul, h3, hnl], hroom, by rw [h5, g2], g1, take_row2 h7 hle (by rw [g2]; exact hfit) g3 g4⟩,
        .inr ⟨r, n, cap, c, rfl, h6, g6, g5, ⟨r, n, cap, c', rfl, h0, h3, h4, by rw [h5, g2], g1, ?_⟩, g7, g8, g9⟩⟩
      have := take_row2 (news := []) h7 hle (by rw [g2]; simpa using hle) g3 (fun j hj => by cases hj)
      simpa using this
  · exact grow none 0 0 (by simp) (run_firstCells_none w.drew i.size 0 0 0) (by omega) rfl

/-- A row, as what is appended. -/
theorem IsRow.src {P : Program} {w : World} {t e e' : TypeId} {sz : Nat} {v : Value} {row : List Value} (hk : P.underlying t = some (.slice e')) (h : IsRow w e sz v row) (h1 : ∀ u ∈ row, u.oneCell' = true) : ∃ n, Src P sz t v n row w ∧ n * sz = row.length := by
  obtain ⟨r, n, cap, c, rfl, h2, h3, h4, h5, h6, h7⟩ := h
  have hle : row.length ≤ c.size := by rw [← h3, ← h5]; exact Nat.mul_le_mul_right _ h4
  refine ⟨n, Src.ofSlice w hk ⟨r, 0, none⟩ n cap row h3.symm (fun j u hu => ?_) h1, h3⟩
  have hj : j < row.length := by
    rcases Nat.lt_or_ge j row.length with h | h
    · exact h
    · rw [List.getElem?_eq_none h] at hu; cases hu
  rw [Addr.add_lit, Nat.zero_add]
  have : w.cell? ⟨r, j, none⟩ = c[j]? := by simp [World.cell?, h6]
  rw [this, ← hu]
  conv => rhs; rw [← h7]
  rw [List.getElem?_take_of_lt hj, Array.getElem?_toList]

/-! ### A region looked through -/
def maskOKX (E : Env) (k : Nat) (ops : Array Oper) (tb : Tab) (nt nb : Nat) (L : List Bool → List (Nat × V)) (HB : List Bool → List (Nat × Blk)) (ms : List (List Bool)) (stop : List Bool) (hand : Nat → Bool) (m : List Bool) : Bool :=
  sameM m stop || (((List.range ops.size).any (isRdy ops m)) && (List.range ops.size).all fun i => !(isRdy ops m i) || (ms.any (sameM (m.set i true)) && (hand i || stepOK E k ops tb nt nb L HB m i)))
def exploredX (E : Env) (k : Nat) (ops : Array Oper) (tb : Tab) (nt nb : Nat) (L : List Bool → List (Nat × V)) (HB : List Bool → List (Nat × Blk)) (ms : List (List Bool)) (stop : List Bool) (hand : Nat → Bool) : Bool :=
  plainT tb && ms.any (sameM (List.replicate ops.size false)) && ms.all fun m => maskOKX E k ops tb nt nb L HB ms stop hand m

/-- **A region that draws its order, some operations of which are done by hand.** -/
theorem StAt.exploreX {Pt : Type} {E : Env} (hE : E.OK) (hng : E.ng = 0) (hm : E.P.follows .mixedOrders = true) {k : Nat} {ops : Array Oper} {tb : Tab} {nt nb : Nat} {L : List Bool → List (Nat × V)} {HB : List Bool → List (Nat × Blk)} {ms : List (List Bool)} {stop : List Bool} {hand : Nat → Bool}
    (hc : exploredX E k ops tb nt nb L HB ms stop hand = true) {φ : Ren} {B B0 : Nat} (hB : B0 ≤ B) {a : Act} {w : World} {n id : Nat} {Q : Exit → Act → World → Prop} {L0 : List (Nat × V)} {HB0 : List (Nat × Blk)} (hL : L (List.replicate ops.size false) = L0) (hH : HB (List.replicate ops.size false) = HB0)
    (hs : StAt φ B (frOf nt L0) (hOf nb HB0) a w) (Y : Pt → Sym) (X : List Bool → Pt → World → Prop) (p0 : Pt) (hn : Named φ (Y p0)) (hx0 : X (List.replicate ops.size false) p0 w)
    (hY : ∀ m p w, X m p w → Ag tb (Y p) (Y p)) (hF : ∀ φ1, BD E φ1)
    (hX : ∀ m i p w w', m ∈ ms → hand i = false → X m p w → GB B w w' → KeepT (HB m) w w' → X (m.set i true) p w')
    (hD : ∀ m p w d, X m p w → X m p (w.drewN d))
    (hHd : ∀ m i φ p a w K, m ∈ ms → isRdy ops m i = true → hand i = true → StAt φ B (frOf nt (L m)) (hOf nb (HB m)) a w → Named φ (Y p) → X m p w →
      (∀ φ' p' a' w', StAt φ' B (frOf nt (L (m.set i true))) (hOf nb (HB (m.set i true))) a' w' → a'.defers = a.defers → Named φ' (Y p') → X (m.set i true) p' w' → GB B0 w w' → K a' w') → wpOpIn (W none) n E.P ops Q i K a w)
    (hQ : ∀ φ' p a' w', StAt φ' B (frOf nt (L stop)) (hOf nb (HB stop)) a' w' → a'.defers = a.defers → GB B0 w w' → Named φ' (Y p) → X stop p w' → wpAnyIn (W none) n E.P .any ops Q (left stop.toArray) stop.toArray a' w') :
    (Code.region id ops true).wpIn (W none) n E.P Q a w := by
  subst hL; subst hH
  simp only [exploredX, Bool.and_eq_true] at hc
  obtain ⟨⟨hp, h0⟩, hall⟩ := hc
  refine wpIn_region_any hm ?_
  have key : ∀ (fuel : Nat) (listed : Array Bool) (φ1 : Ren) (p1 : Pt) (a1 : Act) (w1 : World), left listed = fuel → listed.size = ops.size → listed.toList ∈ ms → StAt φ1 B (frOf nt (L listed.toList)) (hOf nb (HB listed.toList)) a1 w1 →
      a1.defers = a.defers → GB B0 w w1 → Named φ1 (Y p1) → X listed.toList p1 w1 → wpAnyIn (W none) n E.P .any ops Q fuel listed a1 w1 := by
    intro fuel
    induction fuel with
    | zero =>
      intro listed φ1 p1 a1 w1 hl hsz hmem hs1 hd1 hg1 hn1 hx1
      have hok := List.all_eq_true.1 hall _ hmem
      simp only [maskOKX, Bool.or_eq_true, Bool.and_eq_true] at hok
      rcases hok with hst | ⟨hany, _⟩
      · have := sameM_ok hst
        have hq := hQ φ1 p1 a1 w1 (by rw [← this]; exact hs1) hd1 hg1 hn1 (by rw [← this]; exact hx1)
        rw [← this, Array.toArray_toList, hl] at hq
        exact hq
      · obtain ⟨i, hi, hr⟩ := List.any_eq_true.1 hany
        obtain ⟨o, ho, hn, _⟩ := mem_ready ((isRdy_iff hsz).1 hr)
        have hlt : i < listed.size := by rw [hsz]; exact List.mem_range.1 hi
        exact absurd (left_zero hl i hlt) (getD_true hn)
    | succ fuel ih =>
      intro listed φ1 p1 a1 w1 hl hsz hmem hs1 hd1 hg1 hn1 hx1
      have hok := List.all_eq_true.1 hall _ hmem
      simp only [maskOKX, Bool.or_eq_true, Bool.and_eq_true] at hok
      rcases hok with hst | ⟨hany, hstep⟩
      · have := sameM_ok hst
        have hq := hQ φ1 p1 a1 w1 (by rw [← this]; exact hs1) hd1 hg1 hn1 (by rw [← this]; exact hx1)
        rw [← this, Array.toArray_toList, hl] at hq
        exact hq
      · refine ⟨fun hr => ?_, fun i hi => ?_⟩
        · obtain ⟨i, hi, hr'⟩ := List.any_eq_true.1 hany
          have := (isRdy_iff hsz).1 hr'
          rw [hr] at this; cases this
        · obtain ⟨o, ho, hnl, _⟩ := mem_ready hi
          have hlt : i < ops.size := (Array.getElem?_eq_some_iff.1 ho).1
          have h1 := List.all_eq_true.1 hstep i (List.mem_range.2 hlt)
          simp only [Bool.or_eq_true, Bool.not_eq_true', (isRdy_iff hsz).2 hi, Bool.and_eq_true, Bool.true_eq_false, false_or] at h1
          obtain ⟨hmem', hst⟩ := h1
          have hmem' := any_sameM hmem'
          have hset : (listed.setIfInBounds i true).toList = listed.toList.set i true := by simp
          have hleft : left (listed.setIfInBounds i true) = fuel := by have := left_set hnl; omega
          cases hh : hand i with
          | true =>
            refine hHd _ i φ1 p1 a1 w1 _ hmem ((isRdy_iff hsz).2 hi) hh hs1 hn1 hx1 fun φ' p' a' w' hs' hd' hn' hx' hg' => ?_
            exact ih _ φ' p' a' w' hleft (by simpa using hsz) (by rw [hset]; exact hmem') (by rw [hset]; exact hs') (hd'.trans hd1) (hg1.trans hg') hn' (by rw [hset]; exact hx')
          | false =>
            rw [hh] at hst
            simp only [Bool.false_eq_true, false_or] at hst
            unfold stepOK at hst
            rw [ho] at hst
            simp only at hst
            split at hst
            · rename_i hgd
              have hwant := aguard_ok hs1.fr hgd
              split at hst
              · rename_i x h1 hastep
                unfold wpOpIn
                rw [ho]
                simp only [hwant, if_true]
                refine astep_ok hE (callF_ok hE (exec_ok hE k).1) (yieldF_ok (exec_ok hE k).1) (by rw [hng]; exact fun g hg => by omega) (hF φ1) hs1.fr hs1.hr none n o hastep fun φ2 v w2 hx hv hr2 => ?_
                obtain ⟨hgb, hloc⟩ := hs1.after hx hr2
                have hx2 := hX _ i p1 w1 w2 hmem hh hx1 hgb (hs1.keepT hx hr2)
                have hyp := hY _ _ _ hx1
                have hagr : ∀ h, Agree tb φ2 h w2 (Y p1) := fun h => (hyp.agreeS (o' := φ2.y) (by rw [hx.le.yy]; exact hn1.1) (by rw [hx.le.yy]; exact hn1.2.1) (by rw [hx.le.yy]; exact hn1.2.2.1) (by rw [hx.le.yy]; exact hn1.2.2.2)).agree hp rfl h w2
                split at hst
                · rename_i hdst
                  cases e : mAll tb (frOf nt (L listed.toList)) h1 nt (L (listed.toList.set i true)) nb (HB (listed.toList.set i true)) with
                  | none => rw [e] at hst; cases hst
                  | some σ =>
                    have hst2 := conv_ok (a := a1.put o.dst v) e (by rw [hdst]; exact hs1.fr.mono hx.le) hr2 hloc (Nat.le_trans hs1.bz hx.size) (Y p1) (hagr _)
                    exact ih _ _ p1 _ _ hleft (by simpa using hsz) (by rw [hset]; exact hmem') (by rw [hset]; exact hst2) (by rw [hdst]; exact hd1) (hg1.trans (hgb.mono hB)) ⟨rfl, rfl, rfl, rfl⟩ (by rw [hset]; exact hx2)
                · rename_i d hdst
                  simp only [Bool.and_eq_true] at hst
                  cases e : mAll tb ((frOf nt (L listed.toList)).set d x) h1 nt (L (listed.toList.set i true)) nb (HB (listed.toList.set i true)) with
                  | none => rw [e] at hst; cases hst.2
                  | some σ =>
                    have hst2 := conv_ok (a := a1.put o.dst v) e (by rw [hdst]; exact (hs1.fr.mono hx.le).put (blt_iff.1 hst.1) hv) hr2 hloc (Nat.le_trans hs1.bz hx.size) (Y p1) (hagr _)
                    exact ih _ _ p1 _ _ hleft (by simpa using hsz) (by rw [hset]; exact hmem') (by rw [hset]; exact hst2) (by rw [hdst]; exact hd1) (hg1.trans (hgb.mono hB)) ⟨rfl, rfl, rfl, rfl⟩ (by rw [hset]; exact hx2)
              · cases hst
            · cases hst
  refine key ops.size _ φ p0 a _ ?_ (by simp) (by simpa using any_sameM h0) ?_ rfl ?_ hn ?_
  · unfold left
    simp [List.countP_replicate]
  · have : (Array.replicate ops.size false).toList = List.replicate ops.size false := by simp
    rw [this]
    exact ⟨hs.fr, hs.hr.drew _, hs.loc, hs.kf, hs.bz⟩
  · exact ⟨Nat.le_refl _, fun _ _ => rfl, rfl, rfl, rfl⟩
  · have : (Array.replicate ops.size false).toList = List.replicate ops.size false := by simp
    rw [this]
    exact hD _ _ _ _ hx0

end Go.Ev

/- Chains, part Ea: 'pick'. -/
namespace Go.Proofs
open Go.Shelf Go.RowKit Go.Ev

theorem wrap_in {n : Int} (h : -9223372036854775808 ≤ n ∧ n ≤ 9223372036854775807) : IntKind.i64.wrap n = n := by
  simp [IntKind.wrap, IntKind.bits, IntKind.signed]
  omega

set_option maxHeartbeats 1000000 in
theorem Tryz.pick7 (c : Int) (N : Nat) (hN : 1 ≤ N ∧ N ≤ 100000) (hc : -9223372036854775808 ≤ c ∧ c ≤ 9223372036854775807) (w : World) :
    Calls Tryz.prog 7 #[.int .i64 c, .int .i64 N] w fun e w' => (∃ r : Nat, r < N ∧ e = .returned (.int .i64 r)) ∧ w' = w := by
  have hN0 : (N : Int) ≠ 0 := by omega
  go_enter Tryz.func7, Tryz.ntmps7
  go_wp2
  · go_ret
    have h1 : 0 ≤ -(c + 1) := by omega
    have e : -(c + 1).tmod (N : Int) = (-(c + 1)) % (N : Int) := by
      rw [← Int.neg_tmod, Int.tmod_eq_emod_of_nonneg h1]
    have h2 := Int.emod_nonneg (-(c + 1)) hN0
    have h3 := Int.emod_lt_of_pos (-(c + 1)) (show (0 : Int) < N by omega)
    refine ⟨⟨((-(c + 1)) % (N : Int)).toNat, by omega, ?_⟩, rfl⟩
    rw [e, Int.toNat_of_nonneg h2]; rfl
  · go_ret
    have h2 := Int.emod_nonneg c hN0
    have h3 := Int.emod_lt_of_pos c (show (0 : Int) < N by omega)
    refine ⟨⟨(c % (N : Int)).toNat, by omega, ?_⟩, rfl⟩
    rw [Int.toNat_of_nonneg h2]; rfl

theorem pick_ok {n : Nat} {c : Int} {N : Nat} (hN : 1 ≤ N ∧ N ≤ 100000) (hc : -9223372036854775808 ≤ c ∧ c ≤ 9223372036854775807) (w : World) :
    CallsIn (Go.Ev.W none) n Tryz.prog 7 #[.int .i64 c, .int .i64 N] w fun e w' => ∃ v, e = .returned v ∧ (∃ r : Nat, r < N ∧ v = .int .i64 r) ∧ Go.Ev.Grown w w' := by
  refine CallsIn.mono (callsIn_wide.2 (Tryz.pick7 c N hN hc w) : CallsIn (Go.Ev.W none) n _ _ _ _ _) ?_
  rintro e w' ⟨⟨r, hr, rfl⟩, rfl⟩
  exact ⟨_, rfl, ⟨r, hr, rfl⟩, Go.Ev.Grown.refl _⟩

end Go.Proofs

/- Chains, part Eb: 'LimitObjs', its runs. -/
namespace Go.Ev
open Go.Proofs

noncomputable def c3 : List Code := flatL ((Tryz.f3.body).getD .skip)
def lo_L0 : List (Nat × V) := [(0, .y .i64 0), (1, .y .i64 1), (5, .b true)]
def lo_F : Facts := { qc := [(6, [], .b true)] }
def lo_Tn : List (Nat × SV) := [(0, .y 0), (1, .y 1)]
theorem lo_0 : runsL (withF E0 lo_F) 100 (c3.take 2) ⟨97, load [.y .i64 0, .y .i64 1] 0 .leaf⟩ (hOf 0 []) .n { s := lo_Tn } 97 lo_L0 0 [] = true := by decide +kernel
theorem lo_r2 : ∃ id, c3.drop 2 = .region id (opsD (c3.drop 2)) false :: c3.drop 3 := ⟨_, rfl⟩
theorem lo_2 : runsO (withF E0 {}) 100 (opsD (c3.drop 2)) ((opsD (c3.drop 2)).toList.take 1) (frOf 97 lo_L0) (hOf 0 []) { s := lo_Tn } 97 ((18, .y .i64 0) :: lo_L0) 0 [] = true := by decide +kernel
theorem lo_2s : selfOK { s := lo_Tn } 97 ((18, .y .i64 0) :: lo_L0) 0 [] = true := by decide +kernel
def lo_F2 : Facts := { bin := [(.add, .i .i64 190, .y .i64 2, .y .i64 10)] }
def lo_L3 : List (Nat × V) := (6, .y .i64 10) :: [(1, .y .i64 1), (5, .b true)]
def lo_T3 : Tab := { s := [(1, .y 1), (10, .y 10)] }
theorem lo_2z : runsO (withF E0 lo_F2) 100 (opsD (c3.drop 2)) (((opsD (c3.drop 2)).toList.drop 2).take 100) (frOf 97 ((19, .y .i64 2) :: (18, .y .i64 0) :: lo_L0)) (hOf 0 []) lo_T3 97 lo_L3 0 [] = true := by decide +kernel
theorem lo_r3 : ∃ id, c3.drop 3 = .region id (opsD (c3.drop 3)) false :: c3.drop 4 := ⟨_, rfl⟩
theorem lo_3 : runsO (withF E0 {}) 100 (opsD (c3.drop 3)) ((opsD (c3.drop 3)).toList.take 1) (frOf 97 lo_L3) (hOf 0 []) lo_T3 97 ((21, .y .i64 10) :: lo_L3) 0 [] = true := by decide +kernel
theorem lo_3s : selfOK lo_T3 97 ((21, .y .i64 10) :: lo_L3) 0 [] = true := by decide +kernel
def lo_TW : Tab := { s := [(1, .y 1), (3, .y 3), (10, .y 10)], q := [(0, .q 0), (1, .q 1), (2, .q 2)] }
def lo_L4 : List (Nat × V) := (7, .p (some (0, 0))) :: lo_L3
theorem lo_3z : runsO (withF E0 {}) 100 (opsD (c3.drop 3)) (((opsD (c3.drop 3)).toList.drop 2).take 100) (frOf 97 ((22, wA) :: (21, .y .i64 10) :: lo_L3)) (hOf 0 []) lo_TW 97 lo_L4 1 [(0, Rea_B)] = true := by decide +kernel
/-- The first check. -/
theorem lo_r4 : ∃ id, c3.drop 4 = .region id (opsD (c3.drop 4)) false :: c3.drop 5 := ⟨_, rfl⟩
theorem lo_4 : runsO (withF E0 {}) 100 (opsD (c3.drop 4)) ((opsD (c3.drop 4)).toList.take 1) (frOf 97 lo_L4) (hOf 1 [(0, Rea_B)]) lo_TW 97 ((23, wA) :: lo_L4) 1 [(0, Rea_B)] = true := by decide +kernel
theorem lo_4s : selfOK lo_TW 97 ((23, wA) :: lo_L4) 1 [(0, Rea_B)] = true := by decide +kernel
def lo_T5 : Tab := { s := [(1, .y 1), (3, .y 3), (5, .y 5), (10, .y 10)], q := [(0, .q 0), (1, .q 1), (2, .q 2)] }
def lo_L5 : List (Nat × V) := (8, .y .i64 5) :: lo_L4
theorem lo_4z : runsO (withF E0 {}) 100 (opsD (c3.drop 4)) (((opsD (c3.drop 4)).toList.drop 2).take 100) (frOf 97 ((24, .y .i64 5) :: (23, wA) :: lo_L4)) (hOf 1 [(0, Rea_B)]) lo_T5 97 lo_L5 1 [(0, Rea_B)] = true := by decide +kernel
/-- The place. -/
theorem lo_r5 : ∃ id, c3.drop 5 = .region id (opsD (c3.drop 5)) false :: c3.drop 6 := ⟨_, rfl⟩
def lo_L5a : List (Nat × V) := (25, .y .i64 1) :: (26, .y .i64 10) :: lo_L5
theorem lo_5 : runsO (withF E0 {}) 100 (opsD (c3.drop 5)) ((opsD (c3.drop 5)).toList.take 2) (frOf 97 lo_L5) (hOf 1 [(0, Rea_B)]) lo_T5 97 lo_L5a 1 [(0, Rea_B)] = true := by decide +kernel
theorem lo_5s : selfOK lo_T5 97 lo_L5a 1 [(0, Rea_B)] = true := by decide +kernel
def lo_F5 : Facts := { bin := [(.add, .i .i64 1, .y .i64 6, .y .i64 7)] }
def lo_T6 : Tab := { s := [(3, .y 3), (5, .y 5), (7, .y 7), (10, .y 10)], q := [(0, .q 0), (1, .q 1), (2, .q 2)] }
def lo_L6 : List (Nat × V) := (9, .y .i64 7) :: [(8, .y .i64 5), (7, .p (some (0, 0))), (6, .y .i64 10), (5, .b true)]
theorem lo_5z : runsO (withF E0 lo_F5) 100 (opsD (c3.drop 5)) (((opsD (c3.drop 5)).toList.drop 3).take 100) (frOf 97 ((27, .y .i64 6) :: lo_L5a)) (hOf 1 [(0, Rea_B)]) lo_T6 97 lo_L6 1 [(0, Rea_B)] = true := by decide +kernel
def rootV : List V := recV (.i .i64 2) (.i .i64 0) nl (.y .i64 7) (.s [114, 48, 48])
def lo_L7 : List (Nat × V) := (10, .p (some (1, 0))) :: lo_L6
def lo_H7 : List (Nat × Blk) := [(0, Rea_B), (1, .cells rootV 45 false)]
theorem lo_6 : runsL (withF E0 {}) 100 ((c3.drop 6).take 1) (frOf 97 lo_L6) (hOf 1 [(0, Rea_B)]) .n lo_T6 97 lo_L7 2 lo_H7 = true := by decide +kernel
/-- The second check. -/
theorem lo_r7 : ∃ id, c3.drop 7 = .region id (opsD (c3.drop 7)) false :: c3.drop 8 := ⟨_, rfl⟩
def lo_L7a : List (Nat × V) := (31, wA) :: (33, sl2 1) :: lo_L7
def lo_H7a : List (Nat × Blk) := lo_H7 ++ [(2, .cells rootV 45 false)]
theorem lo_7 : runsO (withF E0 {}) 100 (opsD (c3.drop 7)) ((opsD (c3.drop 7)).toList.take 3) (frOf 97 lo_L7) (hOf 2 lo_H7) lo_T6 97 lo_L7a 3 lo_H7a = true := by decide +kernel
theorem lo_7c : (mAll lo_T6 (frOf 97 lo_L7a) (hOf 3 lo_H7a) 97 lo_L7 2 lo_H7).isSome = true := by decide +kernel
theorem lo_7s : selfOK lo_T6 97 lo_L7 2 lo_H7 = true := by decide +kernel
def lo_T8 : Tab := { s := [(3, .y 3), (5, .y 5), (7, .y 7), (8, .y 8), (10, .y 10)], q := [(0, .q 0), (1, .q 1), (2, .q 2)] }
def lo_L8 : List (Nat × V) := (11, .y .i64 8) :: lo_L7
theorem lo_7z : runsO (withF E0 {}) 100 (opsD (c3.drop 7)) (((opsD (c3.drop 7)).toList.drop 4).take 100) (frOf 97 ((34, .y .i64 8) :: lo_L7)) (hOf 2 lo_H7) lo_T8 97 lo_L8 2 lo_H7 = true := by decide +kernel
/-- 'Apply'. -/
theorem lo_r8 : ∃ id, c3.drop 8 = .region id (opsD (c3.drop 8)) false :: c3.drop 9 := ⟨_, rfl⟩
def lo_L8a : List (Nat × V) := (36, wA) :: (38, sl2 1) :: lo_L8
theorem lo_8 : runsO (withF E0 {}) 100 (opsD (c3.drop 8)) ((opsD (c3.drop 8)).toList.take 3) (frOf 97 lo_L8) (hOf 2 lo_H7) lo_T8 97 lo_L8a 3 lo_H7a = true := by decide +kernel
def lo_L9 : List (Nat × V) := [(5, .b true), (6, .y .i64 10), (8, .y .i64 5), (9, .y .i64 7), (11, .y .i64 8)]
def lo_T9 : Tab := { s := [(5, .y 5), (7, .y 7), (8, .y 8), (10, .y 10)] }
theorem lo_8c : (mAll lo_T9 (frOf 97 lo_L8a) (hOf 3 lo_H7a) 97 lo_L9 0 []).isSome = true := by decide +kernel
theorem lo_8s : selfOK lo_T9 97 lo_L9 0 [] = true := by decide +kernel
def lo_TB : Tab := { s := [(4, .y 4), (5, .y 5), (7, .y 7), (8, .y 8), (10, .y 10)], q := [(7, .q 7), (8, .q 8), (9, .q 9)] }
def lo_LA : List (Nat × V) := (12, .p (some (0, 0))) :: (14, .i .i64 0) :: lo_L9
theorem lo_8z : runsO (withF E0 {}) 100 (opsD (c3.drop 8)) (((opsD (c3.drop 8)).toList.drop 4).take 100) (frOf 97 ((39, .t [wB, .i .i64 1, .i .i64 0]) :: lo_L9)) (hOf 0 []) lo_TB 97 lo_LA 1 [(0, lim_W)] = true := by decide +kernel
/-- 'Reach'. -/
theorem lo_r9 : ∃ id, c3.drop 9 = .region id (opsD (c3.drop 9)) false :: c3.drop 10 := ⟨_, rfl⟩
theorem lo_9 : runsO (withF E0 {}) 100 (opsD (c3.drop 9)) ((opsD (c3.drop 9)).toList.take 1) (frOf 97 lo_LA) (hOf 1 [(0, lim_W)]) lo_TB 97 ((44, wB) :: lo_LA) 1 [(0, lim_W)] = true := by decide +kernel
def lo_LB : List (Nat × V) := (14, .i .i64 0) :: lo_L9
theorem lo_9c : (mAll lo_T9 (frOf 97 ((44, wB) :: lo_LA)) (hOf 1 [(0, lim_W)]) 97 lo_LB 0 []).isSome = true := by decide +kernel
theorem lo_9s : selfOK lo_T9 97 lo_LB 0 [] = true := by decide +kernel
def lo_TC : Tab := { s := [(5, .y 5), (7, .y 7), (8, .y 8), (10, .y 10)], q := [(5, .q 5)] }
def lo_LC : List (Nat × V) := (15, .q 5) :: (16, .i .i64 0) :: lo_LB
theorem lo_9z : runsO (withF E0 {}) 100 (opsD (c3.drop 9)) (((opsD (c3.drop 9)).toList.drop 2).take 100) (frOf 97 ((45, .t [.q 5, .i .i64 0]) :: lo_LB)) (hOf 0 []) lo_TC 97 lo_LC 0 [] = true := by decide +kernel
theorem lo_Cs : selfOK lo_TC 97 lo_LC 0 [] = true := by decide +kernel
/-- The end. -/
def lo_FZ (e1 m2 e2 m3 : Bool) : Facts := { bin := [(.eql, .y .i64 5, .i .i64 0, .b e1), (.leq, .y .i64 10, .i .i64 200, .b m2), (.eql, .y .i64 5, .i .i64 250, .b (!e1)), (.sub, .y .i64 10, .y .i64 7, .y .i64 11), (.add, .y .i64 11, .i .i64 1, .y .i64 12), (.eql, .y .i64 12, .y .i64 12, .b true),
  (.eql, .y .i64 8, .i .i64 0, .b e2), (.leq, .y .i64 12, .i .i64 200, .b m3), (.eql, .y .i64 8, .i .i64 250, .b (!e2))], rz := [(0, 1)], rl := [(0, 0, 12)] }
noncomputable def lo_Z (a b : Bool) : Bool := runsL (withF E0 (lo_FZ a a b b)) 200 ((c3.drop 10).take 2) (frOf 97 (subL 5 (.sr 0 0 0 1) lo_LC)) (hOf 1 ((0, .rw 0 3) :: subH 5 (.sr 0 0 0 1) [])) .r {} 97 [(4, .b true)] 0 []
theorem lo_Ztt : lo_Z true true = true := by decide +kernel
theorem lo_Zft : lo_Z false true = true := by decide +kernel
theorem lo_Zff : lo_Z false false = true := by decide +kernel

end Go.Ev

/- Chains, part Hb: 'LimitSnaps', its runs. -/
namespace Go.Ev
open Go.Proofs

noncomputable def c5 : List Code := flatL ((Tryz.f5.body).getD .skip)
def ls_L0 : List (Nat × V) := [(0, .y .i64 0), (1, .y .i64 1), (2, .y .i64 2), (7, .b true)]
def ls_Tn : Tab := { s := [(0, .y 0), (1, .y 1), (2, .y 2)] }
theorem ls_0 : runsL (withF E0 lo_F) 100 (c5.take 2) ⟨130, load [.y .i64 0, .y .i64 1, .y .i64 2] 0 .leaf⟩ (hOf 0 []) .n ls_Tn 130 ls_L0 0 [] = true := by decide +kernel
/-- The chain. -/
theorem ls_r2 : ∃ id, c5.drop 2 = .region id (opsD (c5.drop 2)) false :: c5.drop 3 := ⟨_, rfl⟩
theorem ls_2s : selfOK ls_Tn 130 ls_L0 0 [] = true := by decide +kernel
def ls_T2 : Tab := { s := [(0, .y 0), (1, .y 1), (2, .y 2), (3, .y 3)], q := [(0, .q 0), (1, .q 1), (2, .q 2)] }
def ls_L2 : List (Nat × V) := (8, .p (some (0, 0))) :: ls_L0
def ls_H : List (Nat × Blk) := [(0, Rea_B)]
theorem ls_2z : runsO (withF E0 {}) 100 (opsD (c5.drop 2)) (((opsD (c5.drop 2)).toList.drop 1).take 100) (frOf 130 ((21, wA) :: ls_L0)) (hOf 0 []) ls_T2 130 ls_L2 1 ls_H = true := by decide +kernel
/-- How many snapshots. -/
theorem ls_r3 : ∃ id, c5.drop 3 = .region id (opsD (c5.drop 3)) false :: c5.drop 4 := ⟨_, rfl⟩
theorem ls_3 : runsO (withF E0 {}) 100 (opsD (c5.drop 3)) ((opsD (c5.drop 3)).toList.take 1) (frOf 130 ls_L2) (hOf 1 ls_H) ls_T2 130 ((22, .y .i64 0) :: ls_L2) 1 ls_H = true := by decide +kernel
theorem ls_3s : selfOK ls_T2 130 ((22, .y .i64 0) :: ls_L2) 1 ls_H = true := by decide +kernel
def ls_T3 : Tab := { s := [(1, .y 1), (2, .y 2), (3, .y 3)], q := [(0, .q 0), (1, .q 1), (2, .q 2)] }
def ls_L3 (r : Nat) : List (Nat × V) := (9, .i .i64 (1 + r : Nat)) :: (8, .p (some (0, 0))) :: [(1, .y .i64 1), (2, .y .i64 2), (7, .b true)]
noncomputable def ls_3z (r : Nat) : Bool := runsO (withF E0 {}) 100 (opsD (c5.drop 3)) (((opsD (c5.drop 3)).toList.drop 2).take 100) (frOf 130 ((23, .i .i64 r) :: (22, .y .i64 0) :: ls_L2)) (hOf 1 ls_H) ls_T3 130 (ls_L3 r) 1 ls_H
theorem ls_3zs : (List.range 8).all ls_3z = true := by decide +kernel
/-- The snapshots. -/
def snapsV (m : Nat) : List V := (List.range m).flatMap fun i => [.s (sName i), .i .i64 (i + 1 : Nat)]
def ls_L4 (r : Nat) : List (Nat × V) := (10, .sl (some (1, 0)) (1 + r) (.un 2)) :: ls_L3 r
def ls_H4 (r : Nat) : List (Nat × Blk) := ls_H ++ [(1, .cells (snapsV (1 + r)) 57 true)]
noncomputable def ls_4 (r : Nat) : Bool := runsL (withF E0 {}) 3000 ((c5.drop 4).take 3) (frOf 130 (ls_L3 r)) (hOf 1 ls_H) .n ls_T3 130 (ls_L4 r) 2 (ls_H4 r)
theorem ls_4s : (List.range 8).all ls_4 = true := by decide +kernel
def ls_T5h (r : Nat) : Tab := { s := [(1, .y 1), (2, .y 2), (3, .y 3), (10, .i (1 + r : Nat))], q := [(0, .q 0), (1, .q 1), (2, .q 2)] }
def ls_L5' : List (Nat × V) := (9, .y .i64 10) :: (8, .p (some (0, 0))) :: [(1, .y .i64 1), (2, .y .i64 2), (7, .b true)]
noncomputable def ls_5h (r : Nat) : Bool := (mAll (ls_T5h r) (frOf 130 (ls_L4 r)) (hOf 2 (ls_H4 r)) 130 ls_L5' 1 ls_H).isSome
theorem ls_5hs : (List.range 8).all ls_5h = true := by decide +kernel
def ls_L5 : List (Nat × V) := (10, .q 5) :: ls_L5'
def ls_T5 : Tab := { s := [(1, .y 1), (2, .y 2), (3, .y 3), (10, .y 10)], q := [(0, .q 0), (1, .q 1), (2, .q 2), (5, .q 5)] }
/-- How many more. -/
theorem ls_r7 : ∃ id, c5.drop 7 = .region id (opsD (c5.drop 7)) false :: c5.drop 8 := ⟨_, rfl⟩
theorem ls_7 : runsO (withF E0 {}) 100 (opsD (c5.drop 7)) ((opsD (c5.drop 7)).toList.take 1) (frOf 130 ls_L5) (hOf 1 ls_H) ls_T5 130 ((39, .y .i64 2) :: ls_L5) 1 ls_H = true := by decide +kernel
theorem ls_7s : selfOK ls_T5 130 ((39, .y .i64 2) :: ls_L5) 1 ls_H = true := by decide +kernel
def ls_T7 : Tab := { s := [(1, .y 1), (3, .y 3), (10, .y 10)], q := [(0, .q 0), (1, .q 1), (2, .q 2), (5, .q 5)] }
def ls_b : List (Nat × V) := [(10, .q 5), (9, .y .i64 10), (8, .p (some (0, 0))), (1, .y .i64 1), (7, .b true)]
def ls_L7 (t : Nat) : List (Nat × V) := (12, .i .i64 t) :: ls_b
noncomputable def ls_7z (t : Nat) : Bool := runsO (withF E0 {}) 100 (opsD (c5.drop 7)) (((opsD (c5.drop 7)).toList.drop 2).take 100) (frOf 130 ((40, .i .i64 t) :: (39, .y .i64 2) :: ls_L5)) (hOf 1 ls_H) ls_T7 130 (ls_L7 t) 1 ls_H
theorem ls_7zs : (List.range 9).all ls_7z = true := by decide +kernel
/-- The records. -/
def zName' (i : Nat) : List Nat := [122, 48 + i / 10 % 10, 48 + i % 10]
def zsRecs (t : Nat) : List V := (List.range t).flatMap fun i => recV (.i .i64 5) (.i .i64 0) nl (.i .i64 1) (.s (zName' i))
def ls_S (t : Nat) : V := if t = 0 then nl else .sl (some (1, 0)) t (.un 18)
def ls_B (t : Nat) : List (Nat × Blk) := if t = 0 then [] else [(1, .cells (zsRecs t) 45 true)]
def ls_L8 (t : Nat) : List (Nat × V) := (13, ls_S t) :: ls_L7 t
def ls_H8 (t : Nat) : List (Nat × Blk) := ls_H ++ ls_B t
noncomputable def ls_8 (t : Nat) : Bool := runsL (withF E0 {}) 3000 ((c5.drop 8).take 3) (frOf 130 (ls_L7 t)) (hOf 1 ls_H) .n ls_T7 130 (ls_L8 t) 2 (ls_H8 t)
theorem ls_8s : (List.range 9).all ls_8 = true := by decide +kernel
def ls_T9h (t : Nat) : Tab := { s := [(1, .y 1), (3, .y 3), (10, .y 10), (11, .i t)], q := [(0, .q 0), (1, .q 1), (2, .q 2), (5, .q 5)] }
def ls_L9' : List (Nat × V) := (12, .y .i64 11) :: ls_b
noncomputable def ls_9h (t : Nat) : Bool := (mAll (ls_T9h t) (frOf 130 (ls_L8 t)) (hOf 2 (ls_H8 t)) 130 ls_L9' 1 ls_H).isSome
theorem ls_9hs : (List.range 9).all ls_9h = true := by decide +kernel
def ls_L9 : List (Nat × V) := (13, .q 6) :: ls_L9'
def ls_T9 : Tab := { s := [(1, .y 1), (3, .y 3), (10, .y 10), (11, .y 11)], q := [(0, .q 0), (1, .q 1), (2, .q 2), (5, .q 5), (6, .q 6)] }
/-- A name that there is. -/
theorem ls_r11 : ∃ id, c5.drop 11 = .region id (opsD (c5.drop 11)) false :: c5.drop 12 := ⟨_, rfl⟩
def ls_L9a : List (Nat × V) := (53, .y .i64 1) :: (54, .y .i64 10) :: ls_L9
theorem ls_11 : runsO (withF E0 {}) 100 (opsD (c5.drop 11)) ((opsD (c5.drop 11)).toList.take 2) (frOf 130 ls_L9) (hOf 1 ls_H) ls_T9 130 ls_L9a 1 ls_H = true := by decide +kernel
theorem ls_11s : selfOK ls_T9 130 ls_L9a 1 ls_H = true := by decide +kernel
def ls_TB (p : Nat) : Tab := { s := [(3, .y 3), (10, .y 10), (11, .y 11)], q := [(0, .q 0), (1, .q 1), (2, .q 2), (4, .s (sName p)), (5, .q 5), (6, .q 6)] }
def ls_T : Tab := { s := [(3, .y 3), (10, .y 10), (11, .y 11)], q := [(0, .q 0), (1, .q 1), (2, .q 2), (4, .q 4), (5, .q 5), (6, .q 6)] }
def ls_L : List (Nat × V) := [(15, .q 4), (13, .q 6), (12, .y .i64 11), (10, .q 5), (9, .y .i64 10), (8, .p (some (0, 0))), (7, .b true)]
noncomputable def ls_11z (p : Nat) : Bool := runsO (withF E0 {}) 1000 (opsD (c5.drop 11)) (((opsD (c5.drop 11)).toList.drop 3).take 100) (frOf 130 ((55, .i .i64 p) :: ls_L9a)) (hOf 1 ls_H) (ls_TB p) 130 ls_L 1 ls_H
theorem ls_11zs : (List.range 8).all ls_11z = true := by decide +kernel
/-- The first check. -/
theorem ls_r12 : ∃ id, c5.drop 12 = .region id (opsD (c5.drop 12)) false :: c5.drop 13 := ⟨_, rfl⟩
def ls_La : List (Nat × V) := (58, wA) :: (59, .q 5) :: (60, .q 6) :: ls_L
theorem ls_12 : runsO (withF E0 {}) 100 (opsD (c5.drop 12)) ((opsD (c5.drop 12)).toList.take 3) (frOf 130 ls_L) (hOf 1 ls_H) ls_T 130 ls_La 1 ls_H = true := by decide +kernel
theorem ls_12s : selfOK ls_T 130 ls_La 1 ls_H = true := by decide +kernel
def ls_Ta : Tab := { s := [(3, .y 3), (5, .y 5), (10, .y 10), (11, .y 11)], q := [(0, .q 0), (1, .q 1), (2, .q 2), (4, .q 4), (5, .q 5), (6, .q 6)] }
def ls_LD : List (Nat × V) := (16, .y .i64 5) :: ls_L
def Rea_R : Blk := .rc [.q 0, .q 1, .q 2, .y .i64 3] 30
def ls_HR : List (Nat × Blk) := [(0, Rea_R)]
theorem ls_12z : runsO (withF E0 {}) 100 (opsD (c5.drop 12)) (((opsD (c5.drop 12)).toList.drop 4).take 100) (frOf 130 ((61, .y .i64 5) :: ls_La)) (hOf 1 ls_H) ls_Ta 130 ls_LD 3 ls_HR = true := by decide +kernel
/-- The second check, which draws its order. -/
theorem ls_r13 : ∃ id, c5.drop 13 = .region id (opsD (c5.drop 13)) true :: c5.drop 14 := ⟨_, rfl⟩
def snV (n : V) : List V := recV (.i .i64 5) (.i .i64 0) nl (.i .i64 1) n
def sgV (n : V) : List V := recV (.i .i64 5) (.i .i64 0) nl (.i .i64 0) n
def ls_stop : List Bool := [true, true, true, true, true, true, true, true, true, false, false]
def ls_hand (i : Nat) : Bool := Nat.beq i 3 || Nat.beq i 8
def ls_Lm (m : List Bool) : List (Nat × V) := ls_LD ++ pickL m [62, 63, 64, 65, 66, 67, 68, 69, 70] [wA, .q 5, .q 5, .q 7, .q 6, .q 4, .a (snV (.q 4)), .sl (some (2, 0)) 1 (.kn 1), .q 8]
def ls_Hm (m : List Bool) : List (Nat × Blk) := ls_HR ++ cond (m.getD 8 false) [] (opt m 7 [(2, .cells (snV (.q 4)) 45 false)])
noncomputable def ls_ms : List (List Bool) := grow (opsD (c5.drop 13)) ls_stop 20 [List.replicate 11 false] [List.replicate 11 false]
def ls_Tm : Tab := { s := [(3, .y 3), (5, .y 5), (10, .y 10), (11, .y 11)], q := [(0, .q 0), (1, .q 1), (2, .q 2), (4, .q 4), (5, .q 5), (6, .q 6), (7, .q 7), (8, .q 8)] }
theorem ls_X : exploredX (withF E0 {}) 1000 (opsD (c5.drop 13)) ls_Tm 130 3 ls_Lm ls_Hm ls_ms ls_stop ls_hand = true := by decide +kernel
def isQ (x : Nat) : V → Bool
  | .q y => Nat.beq y x
  | _ => false
theorem ls_K57 : (ls_ms.all fun m => (57 :: wT).all fun T => noT T (muts (ls_Hm m))) = true := by decide +kernel
theorem ls_K45 : (ls_ms.all fun m => !(m.getD 8 false) || noT 45 (muts (ls_Hm m))) = true := by decide +kernel
theorem ls_m3 : (ls_ms.all fun m => !(isRdy (opsD (c5.drop 13)) m 3) || (isQ 5 (lkV (ls_Lm m) 63) && isQ 5 (lkV (ls_Lm m) 64) && noT 57 (ls_Hm m) && (!(m.getD 8 false)) &&
  selfOK ls_Ta 130 (ls_Lm m) 3 (ls_Hm m) &&
  (mAll ls_Tm (frOf 130 ((65, .q 7) :: ls_Lm m)) (hOf 3 (ls_Hm m)) 130 (ls_Lm (m.set 3 true)) 3 (ls_Hm (m.set 3 true))).isSome)) = true := by decide +kernel
def ls_T7m : Tab := { s := [(3, .y 3), (5, .y 5), (10, .y 10), (11, .y 11)], q := [(0, .q 0), (1, .q 1), (2, .q 2), (4, .q 4), (5, .q 5), (6, .q 6), (7, .q 7)] }
def isSl (b n : Nat) : V → Bool
  | .sl (some (b', 0)) n' (.kn c) => Nat.beq b' b && Nat.beq n' n && Nat.beq c n
  | _ => false
def isSn : Blk → Bool
  | .cells l e g => same_s l (snV (.q 4)) && Nat.beq e 45 && (!g)
  | _ => false
theorem ls_m8 : (ls_ms.all fun m => !(isRdy (opsD (c5.drop 13)) m 8) || (isQ 6 (lkV (ls_Lm m) 66) && isSl 2 1 (lkV (ls_Lm m) 69) && isSn (lkB (ls_Hm m) 2) && (!(m.getD 8 false)) && m.getD 3 false &&
  selfOK ls_T7m 130 (ls_Lm m) 3 (ls_Hm m) &&
  (mAll ls_Tm (frOf 130 ((70, .q 8) :: ls_Lm m)) (hOf 3 (ls_Hm m)) 130 (ls_Lm (m.set 8 true)) 3 (ls_Hm (m.set 8 true))).isSome)) = true := by decide +kernel
theorem ls_sz : (opsD (c5.drop 13)).size = 11 := by decide +kernel
theorem ls_rd9 : Region.ready .any (opsD (c5.drop 13)) ls_stop.toArray = [9] := by decide +kernel
theorem ls_rd10 : Region.ready .any (opsD (c5.drop 13)) (ls_stop.toArray.setIfInBounds 9 true) = [10] := by decide +kernel
theorem ls_rd11 : Region.ready .any (opsD (c5.drop 13)) ((ls_stop.toArray.setIfInBounds 9 true).setIfInBounds 10 true) = [] := by decide +kernel
theorem ls_Xc : (mAll ls_Ta (frOf 130 (ls_Lm ls_stop)) (hOf 3 (ls_Hm ls_stop)) 130 ls_LD 3 ls_HR).isSome = true := by decide +kernel
theorem ls_Xs : selfOK ls_Ta 130 ls_LD 3 ls_HR = true := by decide +kernel
def ls_Tb : Tab := { s := [(3, .y 3), (5, .y 5), (8, .y 8), (10, .y 10), (11, .y 11)], q := [(0, .q 0), (1, .q 1), (2, .q 2), (4, .q 4), (5, .q 5), (6, .q 6)] }
def ls_LE : List (Nat × V) := (17, .y .i64 8) :: ls_LD
theorem ls_13z : runsO (withF E0 {}) 100 (opsD (c5.drop 13)) (((opsD (c5.drop 13)).toList.drop 10).take 100) (frOf 130 ((71, .y .i64 8) :: ls_LD)) (hOf 3 ls_HR) ls_Tb 130 ls_LE 3 ls_HR = true := by decide +kernel
/-- The third check, which draws its order. -/
theorem ls_r14 : ∃ id, c5.drop 14 = .region id (opsD (c5.drop 14)) true :: c5.drop 15 := ⟨_, rfl⟩
def ls_S3 (t : Nat) : V := if t = 0 then nl else .sl (some (3, 0)) t (.un 18)
def ls_LF (t : Nat) : List (Nat × V) := subL 6 (ls_S3 t) ls_LE
def ls_HF (t : Nat) : List (Nat × Blk) := if t = 0 then ls_HR else (3, .rc (zsRecs t) 45) :: subH 6 (ls_S3 t) ls_HR
def ls_stop4 : List Bool := [true, true, true, true, true, true, true, false, false]
def ls_SA (t : Nat) : V := if t = 0 then .sl (some (4, 0)) 1 (.kn 1) else .sl (some (5, 0)) (1 + t) (.un 18)
def ls_Gm (t : Nat) (m : List Bool) : List (Nat × V) := ls_LF t ++ pickL m [72, 73, 74, 75, 76, 77, 78] [wA, .q 5, .q 4, .a (sgV (.q 4)), .sl (some (4, 0)) 1 (.kn 1), ls_S3 t, ls_SA t]
def ls_HGm (t : Nat) (m : List Bool) : List (Nat × Blk) := ls_HF t ++ opt m 4 [(4, .cells (sgV (.q 4)) 45 false)] ++ (if t = 0 then [] else opt m 6 [(5, .cells (sgV (.q 4) ++ zsRecs t) 45 true)])
noncomputable def ls_ms4 : List (List Bool) := grow (opsD (c5.drop 14)) ls_stop4 20 [List.replicate 9 false] [List.replicate 9 false]
def ls_T4 : Tab := { s := [(3, .y 3), (5, .y 5), (8, .y 8), (10, .y 10), (11, .y 11)], q := [(0, .q 0), (1, .q 1), (2, .q 2), (4, .q 4), (5, .q 5)] }
noncomputable def ls_X4 (t : Nat) : Bool := explored (withF E0 {}) 1000 (opsD (c5.drop 14)) ls_T4 130 6 (ls_Gm t) (ls_HGm t) ls_ms4 ls_stop4 && (ls_ms4.all fun m => (57 :: wT).all fun T => noT T (muts (ls_HGm t m)))
theorem ls_X4s : (List.range 9).all ls_X4 = true := by decide +kernel
theorem ls_sz4 : (opsD (c5.drop 14)).size = 9 := by decide +kernel
theorem ls_rd47 : Region.ready .any (opsD (c5.drop 14)) ls_stop4.toArray = [7] := by decide +kernel
theorem ls_rd48 : Region.ready .any (opsD (c5.drop 14)) (ls_stop4.toArray.setIfInBounds 7 true) = [8] := by decide +kernel
theorem ls_rd49 : Region.ready .any (opsD (c5.drop 14)) ((ls_stop4.toArray.setIfInBounds 7 true).setIfInBounds 8 true) = [] := by decide +kernel
def ls_LG : List (Nat × V) := [(17, .y .i64 8), (16, .y .i64 5), (15, .q 4), (12, .y .i64 11), (9, .y .i64 10), (8, .p (some (0, 0))), (7, .b true)]
def ls_T4c : Tab := { s := [(3, .y 3), (5, .y 5), (8, .y 8), (10, .y 10), (11, .y 11)], q := [(0, .q 0), (1, .q 1), (2, .q 2), (4, .q 4)] }
noncomputable def ls_X4c (t : Nat) : Bool := (mAll ls_T4c (frOf 130 (ls_Gm t ls_stop4)) (hOf 6 (ls_HGm t ls_stop4)) 130 ls_LG 1 ls_HR).isSome
theorem ls_X4cs : (List.range 9).all ls_X4c = true := by decide +kernel
theorem ls_X4self : selfOK ls_T4c 130 ls_LG 1 ls_HR = true := by decide +kernel
def ls_Tc : Tab := { s := [(3, .y 3), (5, .y 5), (8, .y 8), (9, .y 9), (10, .y 10), (11, .y 11)], q := [(0, .q 0), (1, .q 1), (2, .q 2), (4, .q 4)] }
def ls_LH : List (Nat × V) := (18, .y .i64 9) :: ls_LG
theorem ls_14z : runsO (withF E0 {}) 100 (opsD (c5.drop 14)) (((opsD (c5.drop 14)).toList.drop 8).take 100) (frOf 130 ((79, .y .i64 9) :: ls_LG)) (hOf 1 ls_HR) ls_Tc 130 ls_LH 1 ls_HR = true := by decide +kernel
/-- The fourth check. -/
theorem ls_r15 : ∃ id, c5.drop 15 = .region id (opsD (c5.drop 15)) false :: c5.drop 16 := ⟨_, rfl⟩
def ls_LHa : List (Nat × V) := (80, wA) :: (83, .sl (some (1, 0)) 1 (.kn 1)) :: ls_LH
def ls_HHa : List (Nat × Blk) := ls_HR ++ [(1, .cells (sgV (.q 4)) 45 false)]
theorem ls_15 : runsO (withF E0 {}) 100 (opsD (c5.drop 15)) ((opsD (c5.drop 15)).toList.take 4) (frOf 130 ls_LH) (hOf 1 ls_HR) ls_Tc 130 ls_LHa 2 ls_HHa = true := by decide +kernel
def ls_TZ : Tab := { s := [(5, .y 5), (8, .y 8), (9, .y 9), (10, .y 10), (11, .y 11)] }
def ls_LI : List (Nat × V) := [(18, .y .i64 9), (17, .y .i64 8), (16, .y .i64 5), (12, .y .i64 11), (9, .y .i64 10), (7, .b true)]
theorem ls_15c : (mAll ls_TZ (frOf 130 ls_LHa) (hOf 2 ls_HHa) 130 ls_LI 0 []).isSome = true := by decide +kernel
theorem ls_15s : selfOK ls_TZ 130 ls_LI 0 [] = true := by decide +kernel
def ls_LJ : List (Nat × V) := (19, .i .i64 0) :: ls_LI
theorem ls_15z : runsO (withF E0 {}) 100 (opsD (c5.drop 15)) (((opsD (c5.drop 15)).toList.drop 5).take 100) (frOf 130 ((84, .i .i64 0) :: ls_LI)) (hOf 0 []) ls_TZ 130 ls_LJ 0 [] = true := by decide +kernel
/-- The end. -/
def ls_FZ (a b : Bool) : Facts := { bin := [(.eql, .y .i64 5, .i .i64 0, .b a), (.add, .y .i64 10, .y .i64 11, .y .i64 12), (.leq, .y .i64 12, .i .i64 8, .b a), (.eql, .y .i64 8, .y .i64 5, .b true), (.eql, .y .i64 9, .i .i64 0, .b b), (.sub, .y .i64 10, .i .i64 1, .y .i64 13),
  (.add, .y .i64 13, .y .i64 11, .y .i64 14), (.leq, .y .i64 14, .i .i64 8, .b b), (.eql, .y .i64 5, .i .i64 252, .b (!a)), (.eql, .y .i64 9, .i .i64 252, .b (!b))] }
noncomputable def ls_Z (a b : Bool) : Bool := runsL (withF E0 (ls_FZ a b)) 200 ((c5.drop 16).take 2) (frOf 130 ls_LJ) (hOf 0 []) .r {} 130 [(6, .b true)] 0 []
theorem ls_Ztt : ls_Z true true = true := by decide +kernel
theorem ls_Zft : ls_Z false true = true := by decide +kernel
theorem ls_Zff : ls_Z false false = true := by decide +kernel

end Go.Ev
