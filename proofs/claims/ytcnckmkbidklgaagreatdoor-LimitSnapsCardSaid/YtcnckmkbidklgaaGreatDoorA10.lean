/- Chains, part A: how worlds of objects and roots lie in memory; 'ordered'. -/
import Derived.Test.YtcnckmkbidklgaaGreatDoorA08
import Derived.Test.YtcnckmkbidklgaaGreatDoorA09
namespace Go.Ev
open Go.Proofs

/-! ### Rows in memory -/
def IsRow (w : World) (T sz : Nat) (v : Value) (row : List Value) : Prop :=
  ∃ r n cap c, v = .slice (some ⟨r, 0, none⟩) n cap ∧ 0 < sz ∧ n * sz = row.length ∧ n ≤ cap ∧ cap * sz = c.size ∧ w.heap[r]? = some (.cells c T (0, 0)) ∧ c.toList.take row.length = row
theorem IsRow.grown {w w' : World} (h : Grown w w') {T sz : Nat} {v : Value} {row : List Value} (hi : IsRow w T sz v row) : IsRow w' T sz v row := by
  obtain ⟨r, n, cap, c, h1, h2, h3, h4, h5, h6, h7⟩ := hi
  exact ⟨r, n, cap, c, h1, h2, h3, h4, h5, by rw [h.same r (Array.getElem?_eq_some_iff.1 h6).1]; exact h6, h7⟩
theorem IsRow.kept {w w' : World} (h : ∀ (r : Nat) (o : Obj), w.heap[r]? = some o → w'.heap[r]? = some o) {T sz : Nat} {v : Value} {row : List Value} (hi : IsRow w T sz v row) : IsRow w' T sz v row := by
  obtain ⟨r, n, cap, c, h1, h2, h3, h4, h5, h6, h7⟩ := hi
  exact ⟨r, n, cap, c, h1, h2, h3, h4, h5, h _ _ h6, h7⟩

theorem IsRow.add {φ : Ren} {nb : Nat} {HB : List (Nat × Blk)} {w : World} (hr : HR φ (hOf nb HB) w) {T sz : Nat} {v : Value} {row : List Value} (hi : IsRow w T sz v row) (hn : noT T HB = true) (x : Nat) (hx : φ.w x = row) :
    ∃ φ', HR φ' (hOf (nb + 1) ((nb, .rw x T) :: HB)) w ∧ φ'.y = φ.y ∧ Le φ φ' ∧ VR φ' (.sr nb x 0 sz) v := by
  obtain ⟨r, n, cap, c, rfl, h2, h3, h4, h5, h6, h7⟩ := hi
  have hle : (row.length : Nat) ≤ c.size := by
    rw [← h5, ← h3]; exact Nat.mul_le_mul_right _ h4
  have hfr : ∀ s, φ nb ≠ some s := fun s es => by have := (hr.dom _ _ es).1; exact absurd this (Nat.lt_irrefl _)
  refine ⟨up φ nb r c.size, hr.add h6 hn (.rw x T) (fun h => h) ⟨c, rfl, by rw [hx]; exact h7, by rw [hx]; exact hle, rfl⟩, rfl, le_up hfr, ?_⟩
  simp only [VR]
  refine ⟨r, n, cap, by simp [up], h2, ?_, by omega, by simp [up, h5], by simp⟩
  show n * sz = (φ.w x).length
  rw [hx]; exact h3

theorem flatMap_len {α : Type} {k : Nat} {f : α → List Value} (hf : ∀ x, (f x).length = k) : ∀ l : List α, (l.flatMap f).length = l.length * k
  | [] => by simp
  | x :: xs => by simp [hf, flatMap_len hf xs, Nat.add_mul]; omega
theorem flatMap_at {α : Type} {k : Nat} {f : α → List Value} (hf : ∀ x, (f x).length = k) : ∀ (l : List α) (i : Nat) (x : α), l[i]? = some x → ((l.flatMap f).drop (i * k)).take k = f x
  | [], i, x, h => by simp at h
  | y :: ys, 0, x, h => by
    simp at h; subst h
    simp [← hf y]
  | y :: ys, i + 1, x, h => by
    simp at h
    have ih := flatMap_at hf ys i x h
    have e : (i + 1) * k = (f y).length + i * k := by rw [hf, Nat.add_mul]; omega
    rw [List.flatMap_cons, e, List.drop_length_add_append]
    exact ih

/-- An object: its number, and the number that it refers to (0: to none). -/
structure O where
  id : Nat
  ref : Nat
def oCells (p : O × Value) : List Value := [.int .i64 p.1.id, .int .i64 0, .int .i64 0, p.2]
def rCells (p : ByteArray × Nat) : List Value := [.string p.1, .int .i64 p.2]
def oRow (l : List (O × Value)) : List Value := l.flatMap oCells
def rRow (l : List (ByteArray × Nat)) : List Value := l.flatMap rCells

theorem oRow_len (l : List (O × Value)) : (oRow l).length = l.length * 4 := flatMap_len (f := oCells) (fun _ => rfl) l
theorem rRow_len (l : List (ByteArray × Nat)) : (rRow l).length = l.length * 2 := flatMap_len (f := rCells) (fun _ => rfl) l
theorem oRow_at {l : List (O × Value)} {i : Nat} {p : O × Value} (h : l[i]? = some p) : ((oRow l).drop (i * 4)).take 4 = oCells p := flatMap_at (f := oCells) (fun _ => rfl) l i p h
theorem rRow_at {l : List (ByteArray × Nat)} {i : Nat} {p : ByteArray × Nat} (h : l[i]? = some p) : ((rRow l).drop (i * 2)).take 2 = rCells p := flatMap_at (f := rCells) (fun _ => rfl) l i p h

/-- A right name. -/
def RN (s : ByteArray) : Prop := ∀ K, Quiet Tryz.prog K 34 [.string s] fun v => v = .bool true

/-- A world's value. -/
def wV (lines ov rv : Value) (next : Nat) : Value := .agg #[lines, ov, rv, .int .i64 next]

/-! ### 'ordered' -/
noncomputable def c47 : List Code := flatL ((Tryz.f47.body).getD .skip)
/-- A loop's round. -/
def roundOf : List Code → List Code
  | .block _ (.loop b) :: _ => flatL b
  | _ => []

def ord_h : List (Nat × Blk) := [(1, .rw 1 72), (0, .rw 0 36)]
def ord_args : List V := [.a [.q 0, .sr 0 0 0 4, .sr 1 1 0 2, .y .i64 3]]
/-- The first loop's state. -/
def ord_L1 : List (Nat × V) := [(1, .p (some (2, 0))), (2, .b false), (3, .y .i64 2), (17, .sr 0 0 0 4), (18, .y .i64 1), (19, .y .i64 0)]
def ord_H1 : List (Nat × Blk) := [(2, .cells [.q 0, .sr 0 0 0 4, .sr 1 1 0 2, .y .i64 3] 30 false), (1, .rw 1 72), (0, .rw 0 36)]
def ord_FA : Facts := { bin := [(.lss, .y .i64 3, .i .i64 1, .b false), (.gtr, .y .i64 3, .i .i64 100001, .b false)], rz := [(0, 4), (1, 2)], rl := [(0, 0, 1)] }
def ord_TA : Tab := { s := [(0, .i 0), (1, .y 1), (2, .i 0), (3, .y 3)], q := [(0, .q 0)], w := [(0, .same 0), (1, .same 1)] }
theorem ord_A : runsL (withF E0 ord_FA) 100 (c47.take 5) ⟨66, load ord_args 0 .leaf⟩ (hOf 2 ord_h) .n ord_TA 66 ord_L1 3 ord_H1 = true := by decide +kernel
def ord_T1 : Tab := { s := [(0, .y 0), (1, .y 1), (2, .y 2), (3, .y 3)], q := [(0, .q 0)], w := [(0, .same 0), (1, .same 1)] }
theorem ord_S1 : selfOK ord_T1 66 ord_L1 3 ord_H1 = true := by decide +kernel
/-- One round. -/
def ord_FB : Facts := { bin := [(.lss, .y .i64 0, .y .i64 1, .b true), (.leq, .y .i64 4, .y .i64 2, .b false), (.geq, .y .i64 4, .y .i64 3, .b false), (.add, .y .i64 0, .i .i64 1, .y .i64 5)], rz := [(0, 4), (1, 2)], re := [(0, 0, [.y .i64 4, .i .i64 0, .i .i64 0, .q 3])] }
def ord_TB : Tab := { s := [(0, .y 5), (1, .y 1), (2, .y 4), (3, .y 3)], q := [(0, .q 0)], w := [(0, .same 0), (1, .same 1)] }
theorem ord_B : runsL (withF E0 ord_FB) 100 ((roundOf (c47.drop 5)).take 100) (frOf 66 ord_L1) (hOf 3 ord_H1) .n ord_TB 66 ord_L1 3 ord_H1 = true := by decide +kernel
/-- The end. -/
def ord_FC : Facts := { bin := [(.lss, .y .i64 0, .y .i64 1, .b false)], rz := [(0, 4), (1, 2)] }
theorem ord_C : runsL (withF E0 ord_FC) 100 ((roundOf (c47.drop 5)).take 100) (frOf 66 ord_L1) (hOf 3 ord_H1) (.e 0) ord_T1 66 ord_L1 3 ord_H1 = true := by decide +kernel
/-- The second loop's state. -/
def ord_L2 : List (Nat × V) := [(1, .p (some (2, 0))), (2, .b false), (38, .sr 1 1 0 2), (39, .y .i64 1), (40, .y .i64 0)]
def ord_FD : Facts := { rz := [(0, 4), (1, 2)], rl := [(1, 0, 4)] }
def ord_TD : Tab := { s := [(0, .i 0), (1, .y 4), (3, .y 3)], q := [(0, .q 0)], w := [(0, .same 0), (1, .same 1)] }
theorem ord_D : runsL (withF E0 ord_FD) 100 ((c47.drop 6).take 1) (frOf 66 ord_L1) (hOf 3 ord_H1) .n ord_TD 66 ord_L2 3 ord_H1 = true := by decide +kernel
def ord_T1' : Tab := { s := [(3, .y 3)], q := [(0, .q 0)], w := [(0, .same 0), (1, .same 1)] }
def ord_T2 : Tab := { s := [(0, .y 0), (1, .y 1), (3, .y 3)], q := [(0, .q 0)], w := [(0, .same 0), (1, .same 1)] }
theorem ord_S2 : selfOK ord_T2 66 ord_L2 3 ord_H1 = true := by decide +kernel
def ord_FE : Facts := { bin := [(.lss, .y .i64 0, .y .i64 1, .b true), (.gtr, .y .i64 0, .i .i64 0, .b false), (.add, .y .i64 0, .i .i64 1, .y .i64 5)], rz := [(0, 4), (1, 2)], re := [(1, 0, [.q 4, .y .i64 6])], qc := [(34, [.q 4], .b true)] }
def ord_TE : Tab := { s := [(0, .y 5), (1, .y 1), (3, .y 3)], q := [(0, .q 0)], w := [(0, .same 0), (1, .same 1)] }
theorem ord_E : runsL (withF E0 ord_FE) 100 ((roundOf (c47.drop 7)).take 100) (frOf 66 ord_L2) (hOf 3 ord_H1) .n ord_TE 66 ord_L2 3 ord_H1 = true := by decide +kernel
def ord_FF : Facts := { bin := [(.lss, .y .i64 0, .y .i64 1, .b true), (.gtr, .y .i64 0, .i .i64 0, .b true), (.sub, .y .i64 0, .i .i64 1, .y .i64 7), (.leq, .q 4, .q 5, .b false), (.add, .y .i64 0, .i .i64 1, .y .i64 5)], rz := [(0, 4), (1, 2)], re := [(1, 0, [.q 4, .y .i64 6]), (1, 7, [.q 5, .y .i64 8])], qc := [(34, [.q 4], .b true)] }
theorem ord_F : runsL (withF E0 ord_FF) 100 ((roundOf (c47.drop 7)).take 100) (frOf 66 ord_L2) (hOf 3 ord_H1) .n ord_TE 66 ord_L2 3 ord_H1 = true := by decide +kernel
theorem ord_G : runsL (withF E0 ord_FC) 100 ((roundOf (c47.drop 7)).take 100) (frOf 66 ord_L2) (hOf 3 ord_H1) (.e 2) ord_T2 66 ord_L2 3 ord_H1 = true := by decide +kernel
def ord_L3 : List (Nat × V) := [(2, .b true)]
theorem ord_I : runsL (withF E0 {}) 100 ((c47.drop 8).take 2) (frOf 66 ord_L2) (hOf 3 ord_H1) .r {} 66 ord_L3 0 [] = true := by decide +kernel

def mkY (s : List Int) (q : List Value) (w : List (List Value)) (g : List (Array MapEntry × Nat)) : Sym :=
  { s := fun x => s.getD x 0, q := fun x => q.getD x (.bool false), w := fun x => w.getD x [], g := fun x => g.getD x (#[], 0), k := fun _ => none }
def Named (φ : Ren) (y : Sym) : Prop := φ.s = y.s ∧ φ.q = y.q ∧ φ.w = y.w ∧ φ.g = y.g

/-- The number ahead of a place. -/
def lastId (l : List (O × Value)) : Nat → Nat
  | 0 => 0
  | i + 1 => ((l[i]?).map (·.1.id)).getD 0

theorem i64_in {n : Int} (h : -1000000000 ≤ n ∧ n ≤ 1000000000) : inRange .i64 n = true := by
  simp only [inRange, Bool.and_eq_true, iLt_ok]; omega

theorem E0_ng : E0.ng = 0 := rfl

theorem ordered_ok {n : Nat} {w : World} {lines ov rv : Value} {next : Nat} {l : List (O × Value)} {rs : List (ByteArray × Nat)} (ho : IsRow w 36 4 ov (oRow l)) (hr : IsRow w 72 2 rv (rRow rs)) (hl1 : lines.oneCell' = true) (hvs : ∀ p ∈ l, p.2.oneCell' = true)
    (hids : ∀ i p, l[i]? = some p → lastId l i < p.1.id ∧ p.1.id < next) (hnx : 1 ≤ next ∧ next ≤ 100001) (hln : l.length ≤ 100000) (hrl : rs.length ≤ 100000) (hrn : ∀ p ∈ rs, RN p.1)
    (hrs : ∀ i p q, rs[i]? = some p → rs[i + 1]? = some q → (Op.bytesLess q.1.toList p.1.toList || q.1.toList == p.1.toList) = false) :
    CallsIn (W none) n Tryz.prog 47 #[wV lines ov rv next] w fun e w' => ∃ v, e = .returned v ∧ v = .bool true ∧ Grown w w' := by
  have hol := oRow_len l
  have hrlen := rRow_len rs
  -- the state where the call begins
  let y0 : Sym := mkY [0, l.length, 0, next] [lines] [oRow l, rRow rs] []
  obtain ⟨φ1, h1, e1, le1, v1⟩ := ho.add (φ0_hr y0 w) rfl 0 rfl
  obtain ⟨φ2, h2, e2, le2, v2⟩ := hr.add h1 rfl 1 (by show φ1.y.w 1 = _; rw [e1]; rfl)
  have hy2 : φ2.y = (φ0 y0 w).y := e2.trans e1
  have hargs : VRs φ2 ord_args [wV lines ov rv next] := by
    refine VRs.cons ?_ VRs.nil
    simp only [VR]
    refine ⟨_, rfl, ?_⟩
    refine VRs.cons ?_ (VRs.cons (VR.mono le2 _ _ v1) (VRs.cons v2 (VRs.cons ?_ VRs.nil)))
    · simp only [VR, Ren.q, hy2]; exact ⟨rfl, hl1⟩
    · simp only [VR, Ren.s, hy2]; rfl
  have hst := StAt.enter (nt := 66) h2 rfl (by rw [hy2]; rfl) hargs (by decide)
  refine callIn (fn := Tryz.f47) (c := (Tryz.f47.body).getD .skip) Tryz.func47 rfl (wpIn_flat _ ?_)
  show wpCs none n E0.P _ c47 _ _
  -- up to the first loop
  refine StAt.runL (withF_ok E0_ok ord_FA) rfl 5 ord_A hst (FactsOK.bd' ?_) rfl y0 ?_ fun φ a w1 hs hd hg _ n1 n2 n3 n4 => ?_
  · refine ⟨trivial, ⟨?_, ?_, trivial⟩, trivial, ⟨⟨l.length, by decide, ?_, ?_⟩, trivial⟩, trivial, trivial, trivial, trivial, trivial⟩
    · refine .lss (k := .i64) (x := next) (y := 1) ?_ rfl (by simp; omega)
      simp only [ival, hy2]; rfl
    · refine .gtr (k := .i64) (x := next) (y := 100001) ?_ rfl (by simp; omega)
      simp only [ival, hy2]; rfl
    · simp only [Ren.w, hy2]; exact hol.symm
    · simp only [Ren.s, hy2]; rfl
  · refine Ag.agreeS (o := y0) ⟨⟨rfl, rfl, rfl, rfl, trivial⟩, ⟨⟨rfl, hl1⟩, trivial⟩, ⟨rfl, rfl, trivial⟩, trivial⟩ ?_ ?_ ?_ ?_ <;> rw [hy2] <;> rfl
  show wpCs none n E0.P _ (c47.drop 5) a w1
  -- the first loop
  let Y1 : Nat → Sym := fun i => mkY [i, l.length, lastId l i, next] [lines] [oRow l, rRow rs] []
  let Inv1 : Nat → Act → World → Prop := fun i a w' => ∃ φ, StAt φ w.heap.size (frOf 66 ord_L1) (hOf 3 ord_H1) a w' ∧ a.defers = [] ∧ GB w.heap.size w w' ∧ Named φ (Y1 i)
  refine for_loop (id := 0) (b := (match c47.drop 5 with | .block _ (.loop b) :: _ => b | _ => .skip)) (rest := c47.drop 6) l.length Inv1 ?_ ?_ ⟨φ, hs, hd, hg, n1, n2, n3, n4⟩
  · rintro i a w' hi ⟨φ, hs, hd, hg, n1, n2, n3, n4⟩
    obtain ⟨p, hp⟩ : ∃ p, l[i]? = some p := ⟨l[i], List.getElem?_eq_getElem hi⟩
    have hid := hids i p hp
    refine StAt.go E0_ok rfl ord_FB 100 (cs := roundOf (c47.drop 5)) ord_S1 ord_B hs hd (mkY [i, l.length, lastId l i, next, p.1.id, i + 1] [lines, lines, lines, p.2] [oRow l, rRow rs] []) ?_ (fun φ1 hs1 m1 m2 m3 m4 => ?_) (Y1 (i + 1)) ?_ fun φ' a' w'' hs' hd' hg' _ k1 k2 k3 k4 => ?_
    · exact ⟨⟨(congrFun n1 0).symm, (congrFun n1 1).symm, (congrFun n1 2).symm, (congrFun n1 3).symm, trivial⟩, ⟨⟨(congrFun n2 0).symm, hl1⟩, trivial⟩, ⟨(congrFun n3 0).symm, (congrFun n3 1).symm, trivial⟩, trivial⟩
    · have s0 : φ1.y.s 0 = i := congrFun m1 0
      have s1 : φ1.y.s 1 = l.length := congrFun m1 1
      have s2 : φ1.y.s 2 = lastId l i := congrFun m1 2
      have s3 : φ1.y.s 3 = next := congrFun m1 3
      have s4 : φ1.y.s 4 = p.1.id := congrFun m1 4
      have s5 : φ1.y.s 5 = i + 1 := congrFun m1 5
      refine ⟨trivial, ⟨?_, ?_, ?_, ?_, trivial⟩, trivial, trivial, ⟨⟨by decide, rfl, i, s0, ?_, ?_⟩, trivial⟩, trivial, trivial, trivial, trivial⟩
      · exact .lss (k := .i64) (x := i) (y := l.length) (by simp only [ival, s0]) (by simp only [ival, s1]) (by simp; omega)
      · exact .leq (k := .i64) (x := p.1.id) (y := lastId l i) (by simp only [ival, s4]) (by simp only [ival, s2]) (by simp; omega)
      · exact .geq (k := .i64) (x := p.1.id) (y := next) (by simp only [ival, s4]) (by simp only [ival, s3]) (by simp; omega)
      · exact .add (k := .i64) (x := i) (y := 1) (by simp only [ival, s0]) rfl (by simp only [ival, s5]) (i64_in (by omega))
      · show (i + 1) * 4 ≤ (φ1.w 0).length
        rw [show φ1.w 0 = oRow l from congrFun m3 0, hol]; omega
      · show VRs φ1 [.y .i64 4, .i .i64 0, .i .i64 0, .q 3] (((φ1.w 0).drop (i * 4)).take 4)
        rw [show φ1.w 0 = oRow l from congrFun m3 0, oRow_at hp]
        refine VRs.cons ?_ (VRs.cons (by simp only [VR]) (VRs.cons (by simp only [VR]) (VRs.cons ?_ VRs.nil)))
        · simp only [VR, Ren.s, s4]
        · simp only [VR]; exact ⟨(congrFun m2 3).symm, hvs p (List.mem_of_getElem? hp)⟩
    · refine ⟨⟨?_, rfl, ?_, rfl, trivial⟩, ⟨⟨rfl, hl1⟩, trivial⟩, ⟨rfl, rfl, trivial⟩, trivial⟩
      · show ((i + 1 : Nat) : Int) = (i : Int) + 1; omega
      · show ((lastId l (i + 1) : Nat) : Int) = (p.1.id : Int); simp [lastId, hp]
    · exact ⟨rfl, φ', hs', hd', hg.trans hg', k1, k2, k3, k4⟩
  · rintro a w' ⟨φ, hs, hd, hg, n1, n2, n3, n4⟩
    refine StAt.go E0_ok rfl ord_FC 100 (cs := roundOf (c47.drop 5)) ord_S1 ord_C hs hd (Y1 l.length) ?_ (fun φ1 hs1 m1 m2 m3 m4 => ?_) (Y1 l.length) ?_ fun φ' a' w'' hs' hd' hg' _ k1 k2 k3 k4 => ⟨rfl, ?_⟩
    · exact ⟨⟨(congrFun n1 0).symm, (congrFun n1 1).symm, (congrFun n1 2).symm, (congrFun n1 3).symm, trivial⟩, ⟨⟨(congrFun n2 0).symm, hl1⟩, trivial⟩, ⟨(congrFun n3 0).symm, (congrFun n3 1).symm, trivial⟩, trivial⟩
    · have s0 : φ1.y.s 0 = l.length := congrFun m1 0
      have s1 : φ1.y.s 1 = l.length := congrFun m1 1
      exact ⟨trivial, ⟨.lss (k := .i64) (x := l.length) (y := l.length) (by simp only [ival, s0]) (by simp only [ival, s1]) (by simp), trivial⟩, trivial, trivial, trivial, trivial, trivial, trivial, trivial⟩
    · exact ⟨⟨rfl, rfl, rfl, rfl, trivial⟩, ⟨⟨rfl, hl1⟩, trivial⟩, ⟨rfl, rfl, trivial⟩, trivial⟩
    -- between the loops
    let Y2 : Nat → Sym := fun i => mkY [i, rs.length, 0, next] [lines] [oRow l, rRow rs] []
    refine StAt.go E0_ok rfl ord_FD 1 (cs := c47.drop 6) ord_S1 ord_D hs' hd' (mkY [l.length, l.length, lastId l l.length, next, rs.length] [lines] [oRow l, rRow rs] []) ?_ (fun φ1 hs1 m1 m2 m3 m4 => ?_) (Y2 0) ?_ fun φ2 a2 w2 hs2 hd2 hg2 _ k1 k2 k3 k4 => ?_
    · exact ⟨⟨(congrFun k1 0).symm, (congrFun k1 1).symm, (congrFun k1 2).symm, (congrFun k1 3).symm, trivial⟩, ⟨⟨(congrFun k2 0).symm, hl1⟩, trivial⟩, ⟨(congrFun k3 0).symm, (congrFun k3 1).symm, trivial⟩, trivial⟩
    · refine ⟨trivial, trivial, trivial, ⟨⟨rs.length, by decide, ?_, congrFun m1 4⟩, trivial⟩, trivial, trivial, trivial, trivial, trivial⟩
      show rs.length * 2 = (φ1.w 1).length
      rw [show φ1.w 1 = rRow rs from congrFun m3 1, hrlen]
    · exact ⟨⟨rfl, rfl, rfl, trivial⟩, ⟨⟨rfl, hl1⟩, trivial⟩, ⟨rfl, rfl, trivial⟩, trivial⟩
    show wpCs none n E0.P _ (c47.drop 7) a2 w2
    have hg2' := (hg.trans hg').trans hg2
    clear hs' hd' hg' hg hs hd
    let Inv2 : Nat → Act → World → Prop := fun i a w' => ∃ φ, StAt φ w.heap.size (frOf 66 ord_L2) (hOf 3 ord_H1) a w' ∧ a.defers = [] ∧ GB w.heap.size w w' ∧ Named φ (Y2 i)
    refine for_loop (id := 2) (b := (match c47.drop 7 with | .block _ (.loop b) :: _ => b | _ => .skip)) (rest := c47.drop 8) rs.length Inv2 ?_ ?_ ⟨φ2, hs2, hd2, hg2', k1, k2, k3, k4⟩
    · rintro i a w' hi ⟨φ, hs, hd, hg, n1, n2, n3, n4⟩
      obtain ⟨p, hp⟩ : ∃ p, rs[i]? = some p := ⟨rs[i], List.getElem?_eq_getElem hi⟩
      have a0 : ∀ (y : Sym), y.s 0 = i → y.s 1 = rs.length → y.s 3 = next → y.q 0 = lines → y.w 0 = oRow l → y.w 1 = rRow rs → Ag ord_T2 φ.y y := fun y g1 g2 g3 g4 g5 g6 =>
        ⟨⟨g1.trans (congrFun n1 0).symm, g2.trans (congrFun n1 1).symm, g3.trans (congrFun n1 3).symm, trivial⟩, ⟨⟨g4.trans (congrFun n2 0).symm, by rw [g4]; exact hl1⟩, trivial⟩, ⟨g5.trans (congrFun n3 0).symm, g6.trans (congrFun n3 1).symm, trivial⟩, trivial⟩
      have hqc : ∀ φ1 : Ren, φ1.q 4 = .string p.1 → ∀ φ', Le φ1 φ' → ∀ args', VRs φ' [.q 4] args' → Quiet E0.P φ1.y.k 34 args' fun u => VR φ' (.b true) u := fun φ1 hq φ' hle args' ha => by
        simp only [VRs] at ha
        obtain ⟨v, _, rfl, hv, rfl⟩ := ha
        simp only [VR] at hv
        rw [hle.qy, hq] at hv
        rw [hv.1]
        have := hrn p (List.mem_of_getElem? hp) φ1.y.k
        refine ⟨this.1, fun n w hk => (this.2 n w hk).mono ?_⟩
        rintro e w' ⟨u, h1, h2, h3⟩
        exact ⟨u, h1, by simp only [VR]; exact h2, h3⟩
      have hrow : ∀ φ1 : Ren, φ1.w = (mkY [] [] [oRow l, rRow rs] []).w → ∀ (j : Nat) (pj : ByteArray × Nat) (a b : Nat), rs[j]? = some pj → φ1.q a = .string pj.1 → φ1.s b = pj.2 → (j + 1) * 2 ≤ (φ1.w 1).length ∧ VRs φ1 [.q a, .y .i64 b] (((φ1.w 1).drop (j * 2)).take 2) := fun φ1 m3 j pj a b hj ha hb => by
        have hlt : j < rs.length := by
          rcases Nat.lt_or_ge j rs.length with h | h
          · exact h
          · rw [List.getElem?_eq_none h] at hj; cases hj
        rw [show φ1.w 1 = rRow rs from congrFun m3 1, hrlen, rRow_at hj]
        refine ⟨by omega, VRs.cons ?_ (VRs.cons ?_ VRs.nil)⟩
        · simp only [VR]; exact ⟨ha.symm, rfl⟩
        · simp only [VR]; rw [hb]
      cases i with
      | zero =>
        refine StAt.go E0_ok rfl ord_FE 100 (cs := roundOf (c47.drop 7)) ord_S2 ord_E hs hd (mkY [0, rs.length, 0, next, 0, 1, p.2] [lines, lines, lines, lines, .string p.1] [oRow l, rRow rs] []) (a0 _ rfl rfl rfl rfl rfl rfl) (fun φ1 hs1 m1 m2 m3 m4 => ?_) (Y2 1) ?_ fun φ' a' w'' hs' hd' hg' _ k1 k2 k3 k4 => ⟨rfl, φ', hs', hd', hg.trans hg', k1, k2, k3, k4⟩
        · have s0 : φ1.y.s 0 = 0 := congrFun m1 0
          have s1 : φ1.y.s 1 = rs.length := congrFun m1 1
          have s5 : φ1.y.s 5 = 1 := congrFun m1 5
          have q4 : φ1.q 4 = .string p.1 := congrFun m2 4
          have r0 := hrow φ1 m3 0 p 4 6 hp q4 (congrFun m1 6)
          refine ⟨trivial, ⟨?_, ?_, ?_, trivial⟩, trivial, trivial, ⟨⟨by decide, rfl, 0, s0, r0.1, r0.2⟩, trivial⟩, trivial, trivial, trivial, ⟨hqc φ1 q4, trivial⟩⟩
          · exact .lss (k := .i64) (x := 0) (y := rs.length) (by simp only [ival, s0]) (by simp only [ival, s1]) (by simp; omega)
          · exact .gtr (k := .i64) (x := 0) (y := 0) (by simp only [ival, s0]) rfl (by simp)
          · exact .add (k := .i64) (x := 0) (y := 1) (by simp only [ival, s0]) rfl (by simp only [ival, s5]; rfl) (i64_in (by omega))
        · exact ⟨⟨rfl, rfl, rfl, trivial⟩, ⟨⟨rfl, hl1⟩, trivial⟩, ⟨rfl, rfl, trivial⟩, trivial⟩
      | succ i =>
        obtain ⟨q, hq⟩ : ∃ q, rs[i]? = some q := ⟨rs[i], List.getElem?_eq_getElem (by omega)⟩
        refine StAt.go E0_ok rfl ord_FF 100 (cs := roundOf (c47.drop 7)) ord_S2 ord_F hs hd (mkY [(i + 1 : Nat), rs.length, 0, next, 0, i + 2, p.2, i, q.2] [lines, lines, lines, lines, .string p.1, .string q.1] [oRow l, rRow rs] []) (a0 _ rfl rfl rfl rfl rfl rfl) (fun φ1 hs1 m1 m2 m3 m4 => ?_) (Y2 (i + 2)) ?_ fun φ' a' w'' hs' hd' hg' _ k1 k2 k3 k4 => ⟨rfl, φ', hs', hd', hg.trans hg', k1, k2, k3, k4⟩
        · have s0 : φ1.y.s 0 = ((i + 1 : Nat) : Int) := congrFun m1 0
          have s1 : φ1.y.s 1 = rs.length := congrFun m1 1
          have s5 : φ1.y.s 5 = i + 2 := congrFun m1 5
          have s7 : φ1.y.s 7 = i := congrFun m1 7
          have q4 : φ1.q 4 = .string p.1 := congrFun m2 4
          have q5 : φ1.q 5 = .string q.1 := congrFun m2 5
          have r0 := hrow φ1 m3 (i + 1) p 4 6 hp q4 (congrFun m1 6)
          have r1 := hrow φ1 m3 i q 5 8 hq q5 (congrFun m1 8)
          refine ⟨trivial, ⟨?_, ?_, ?_, ?_, ?_, trivial⟩, trivial, trivial, ⟨⟨by decide, rfl, i + 1, s0, r0.1, r0.2⟩, ⟨by decide, rfl, i, s7, r1.1, r1.2⟩, trivial⟩, trivial, trivial, trivial, ⟨hqc φ1 q4, trivial⟩⟩
          · exact .lss (k := .i64) (x := (i + 1 : Nat)) (y := rs.length) (by simp only [ival, s0]) (by simp only [ival, s1]) (by simp; omega)
          · exact .gtr (k := .i64) (x := (i + 1 : Nat)) (y := 0) (by simp only [ival, s0]) rfl (by simp <;> omega)
          · exact .sub (k := .i64) (x := (i + 1 : Nat)) (y := 1) (by simp only [ival, s0]) rfl (by simp only [ival, s7]; congr 2; omega) (i64_in (by omega))
          · exact .sleq (x := p.1.toList) (y := q.1.toList) (by simp only [sval]; rw [show φ1.y.q 4 = .string p.1 from q4]) (by simp only [sval]; rw [show φ1.y.q 5 = .string q.1 from q5]) (hrs i q p hq hp)
          · exact .add (k := .i64) (x := (i + 1 : Nat)) (y := 1) (by simp only [ival, s0]) rfl (by simp only [ival, s5]; congr 2 <;> omega) (i64_in (by omega))
        · exact ⟨⟨by show ((i + 2 : Nat) : Int) = (i : Int) + 2; omega, rfl, rfl, trivial⟩, ⟨⟨rfl, hl1⟩, trivial⟩, ⟨rfl, rfl, trivial⟩, trivial⟩
    · rintro a w' ⟨φ, hs, hd, hg, n1, n2, n3, n4⟩
      refine StAt.go E0_ok rfl ord_FC 100 (cs := roundOf (c47.drop 7)) ord_S2 ord_G hs hd (Y2 rs.length) ?_ (fun φ1 hs1 m1 m2 m3 m4 => ?_) (Y2 rs.length) ?_ fun φ' a' w'' hs' hd' hg' _ k1 k2 k3 k4 => ⟨rfl, ?_⟩
      · exact ⟨⟨(congrFun n1 0).symm, (congrFun n1 1).symm, (congrFun n1 3).symm, trivial⟩, ⟨⟨(congrFun n2 0).symm, hl1⟩, trivial⟩, ⟨(congrFun n3 0).symm, (congrFun n3 1).symm, trivial⟩, trivial⟩
      · have s0 : φ1.y.s 0 = rs.length := congrFun m1 0
        have s1 : φ1.y.s 1 = rs.length := congrFun m1 1
        exact ⟨trivial, ⟨.lss (k := .i64) (x := rs.length) (y := rs.length) (by simp only [ival, s0]) (by simp only [ival, s1]) (by simp), trivial⟩, trivial, trivial, trivial, trivial, trivial, trivial, trivial⟩
      · exact ⟨⟨rfl, rfl, rfl, trivial⟩, ⟨⟨rfl, hl1⟩, trivial⟩, ⟨rfl, rfl, trivial⟩, trivial⟩
      refine StAt.go E0_ok rfl {} 2 (cs := c47.drop 8) ord_S2 ord_I hs' hd' (Y2 rs.length) ?_ (fun φ1 hs1 m1 m2 m3 m4 => ?_) (Y2 0) ?_ fun φ3 a3 w3 hs3 hd3 hg3 _ j1 j2 j3 j4 => ?_
      · exact ⟨⟨(congrFun k1 0).symm, (congrFun k1 1).symm, (congrFun k1 3).symm, trivial⟩, ⟨⟨(congrFun k2 0).symm, hl1⟩, trivial⟩, ⟨(congrFun k3 0).symm, (congrFun k3 1).symm, trivial⟩, trivial⟩
      · exact ⟨trivial, trivial, trivial, trivial, trivial, trivial, trivial, trivial, trivial⟩
      · exact ⟨trivial, trivial, trivial, trivial⟩
      refine ⟨.inl rfl, hd3, ?_⟩
      obtain ⟨v, hv1, hv2⟩ := hs3.leave E0_ok (fn := Tryz.f47) (l := [.b true]) rfl
      exact ⟨v, hv1, v, rfl, by simpa only [aRets, VR] using hv2, ((hg.trans hg').trans hg3).grown⟩

end Go.Ev

/- The abstract machine, part V: a value that was named alone is looked into. -/
namespace Go.Ev

mutual
def subV (x : Nat) (p : V) : V → V
  | .q z => cond (Nat.beq z x) p (.q z)
  | .f fn a b => .f fn (subVs x p a) (subVs x p b)
  | .ifc t v => .ifc t (subV x p v)
  | .a l => .a (subVs x p l)
  | .t l => .t (subVs x p l)
  | v => v
def subVs (x : Nat) (p : V) : List V → List V
  | [] => []
  | v :: l => subV x p v :: subVs x p l
end
mutual
theorem subV_ok {φ φ' : Ren} (hle : Le φ φ') {x : Nat} {p : V} (hp : VR φ' p (φ.q x)) : ∀ (v : V) (u : Value), VR φ v u → VR φ' (subV x p v) u
  | .q z, u, h => by
    simp only [subV]
    cases hb : Nat.beq z x with
    | true =>
      have := Nat.eq_of_beq_eq_true hb
      subst this
      simp only [VR] at h
      simp only [cond]
      rw [h.1]; exact hp
    | false => exact VR.mono hle _ _ h
  | .f fn a b, u, h => by
    simp only [subV, VR] at h ⊢
    obtain ⟨f', c', h1, h2, h3⟩ := h
    exact ⟨f', c', h1, subVs_ok hle hp a _ h2, subVs_ok hle hp b _ h3⟩
  | .ifc t v, u, h => by
    simp only [subV, VR] at h ⊢
    obtain ⟨y, h1, h2⟩ := h
    exact ⟨y, h1, subV_ok hle hp v _ h2⟩
  | .a l, u, h => by
    simp only [subV, VR] at h ⊢
    obtain ⟨y, h1, h2⟩ := h
    exact ⟨y, h1, subVs_ok hle hp l _ h2⟩
  | .t l, u, h => by
    simp only [subV, VR] at h ⊢
    obtain ⟨y, h1, h2⟩ := h
    exact ⟨y, h1, subVs_ok hle hp l _ h2⟩
  | .top, u, h => by simp [subV, VR]
  | .b _, u, h => VR.mono hle _ _ h
  | .i _ _, u, h => VR.mono hle _ _ h
  | .y _ _, u, h => VR.mono hle _ _ h
  | .sr .., u, h => VR.mono hle _ _ h
  | .pr .., u, h => VR.mono hle _ _ h
  | .s _, u, h => VR.mono hle _ _ h
  | .p _, u, h => VR.mono hle _ _ h
  | .sl .., u, h => VR.mono hle _ _ h
  | .es, u, h => VR.mono hle _ _ h
  | .m _, u, h => VR.mono hle _ _ h
  | .yl _, u, h => VR.mono hle _ _ h
  | .o, u, h => VR.mono hle _ _ h
  | .nf, u, h => VR.mono hle _ _ h
  | .ni, u, h => VR.mono hle _ _ h
theorem subVs_ok {φ φ' : Ren} (hle : Le φ φ') {x : Nat} {p : V} (hp : VR φ' p (φ.q x)) : ∀ (v : List V) (u : List Value), VRs φ v u → VRs φ' (subVs x p v) u
  | [], u, h => by simpa [subVs, VRs] using h
  | v :: l, u, h => by
    simp only [VRs] at h
    obtain ⟨y, ys, rfl, h1, h2⟩ := h
    exact VRs.cons (subV_ok hle hp v y h1) (subVs_ok hle hp l ys h2)
end
theorem subVs_len (x : Nat) (p : V) : ∀ l : List V, (subVs x p l).length = l.length
  | [] => rfl
  | v :: l => by simp [subVs, subVs_len x p l]

def subE (x : Nat) (p : V) : List (V × V × Nat) → List (V × V × Nat)
  | [] => []
  | (k, v, n) :: l => (subV x p k, subV x p v, n) :: subE x p l
theorem subE_ok {φ φ' : Ren} (hle : Le φ φ') {x : Nat} {p : V} (hp : VR φ' p (φ.q x)) : ∀ (v : List (V × V × Nat)) (u : List MapEntry), ERs φ v u → ERs φ' (subE x p v) u
  | [], u, h => by simpa [subE, ERs] using h
  | (k, v, n) :: l, u, h => by
    simp only [ERs, subE] at h ⊢
    obtain ⟨e, es, rfl, h1, h2, h3, h4⟩ := h
    exact ⟨e, es, rfl, subV_ok hle hp k _ h1, subV_ok hle hp v _ h2, h3, subE_ok hle hp l es h4⟩

def subB (x : Nat) (p : V) : Blk → Blk
  | .cells l e g => .cells (subVs x p l) e g
  | .rc l e => .rc (subVs x p l) e
  | .row y l e => .row y (subVs x p l) e
  | .mp es c => .mp (subE x p es) c
  | b => b
theorem subB_ok {φ φ' : Ren} (hle : Le φ φ') {x : Nat} {p : V} (hp : VR φ' p (φ.q x)) {N : Nat} (b : Blk) {o : Obj} (h : BR φ N b o) : BR φ' N (subB x p b) o := by
  cases b with
  | cells l e g =>
    obtain ⟨c, h1, h2, h3, h4, h5⟩ := h
    exact ⟨c, h1, by rw [subVs_len]; exact subVs_ok hle hp _ _ h2, by rw [subVs_len]; exact h3, by rw [subVs_len]; exact h4, h5⟩
  | rc l e =>
    obtain ⟨c, h1, h2, h3, h4⟩ := h
    exact ⟨c, h1, by rw [subVs_len]; exact subVs_ok hle hp _ _ h2, by rw [subVs_len]; exact h3, h4⟩
  | row y l e =>
    obtain ⟨c, vs, h1, h2, h3, h4, h5⟩ := h
    exact ⟨c, vs, h1, subVs_ok hle hp _ _ h2, by rw [subVs_len, hle.wy]; exact h3, by rw [subVs_len, hle.wy]; exact h4, h5⟩
  | mp es c =>
    obtain ⟨el, h1, h2⟩ := h
    exact ⟨el, h1, subE_ok hle hp _ _ h2⟩
  | _ => exact h.mono hle
theorem subB_live (x : Nat) (p : V) (b : Blk) : ((subB x p b).live ↔ b.live) ∧ ((subB x p b).mut ↔ b.mut) := by
  cases b <;> exact ⟨Iff.rfl, Iff.rfl⟩

def subL (x : Nat) (p : V) : List (Nat × V) → List (Nat × V)
  | [] => []
  | (k, v) :: l => (k, subV x p v) :: subL x p l
def subH (x : Nat) (p : V) : List (Nat × Blk) → List (Nat × Blk)
  | [] => []
  | (k, v) :: l => (k, subB x p v) :: subH x p l
theorem subL_lk (x : Nat) (p : V) : ∀ (l : List (Nat × V)) (j : Nat), lkV (subL x p l) j = subV x p (lkV l j)
  | [], j => by simp [subL, lkV, subV]
  | (k, v) :: l, j => by
    simp only [subL, lkV]
    by_cases h : j = k
    · rw [if_pos h, if_pos h]
    · rw [if_neg h, if_neg h, subL_lk x p l j]
theorem subH_lk (x : Nat) (p : V) : ∀ (l : List (Nat × Blk)) (j : Nat), lkB (subH x p l) j = subB x p (lkB l j)
  | [], j => rfl
  | (k, v) :: l, j => by
    simp only [subH, lkB]
    by_cases h : j = k
    · rw [if_pos h, if_pos h]
    · rw [if_neg h, if_neg h, subH_lk x p l j]

/-- **A value that was named alone is looked into.** -/
theorem StAt.revealO {φ : Ren} {B nt nb : Nat} {L : List (Nat × V)} {HB : List (Nat × Blk)} {a : Act} {w : World} (hs : StAt φ B (frOf nt L) (hOf nb HB) a w) {r : Nat} {ob : Obj} {N : Nat} (ho : w.heap[r]? = some ob)
    (hn : ∀ b q, (b, q) ∈ HB → q.live → ∀ N, ¬ BR φ N q ob) (x : Nat) (p : V) (blk : Blk) (hb : ¬ blk.mut) (hbr : BR φ N blk ob) (hp : VR (up φ nb r N) p (φ.q x)) :
    StAt (up φ nb r N) B (frOf nt (subL x p L)) (hOf (nb + 1) ((nb, blk) :: subH x p HB)) a w := by
  have hadd := hs.hr.addO ho hn blk hb hbr
  have hfr : ∀ s, φ nb ≠ some s := fun s es => by have := (hs.hr.dom _ _ es).1; exact absurd this (Nat.lt_irrefl _)
  have hle : Le φ (up φ nb r N) := le_up hfr
  have hup : ∀ b s, up φ nb r N b = some s → (b = nb ∧ s = r) ∨ (b ≠ nb ∧ φ b = some s) := fun b s es => by
    simp only [up] at es
    by_cases hb' : b = nb
    · rw [if_pos hb'] at es; cases es; exact .inl ⟨hb', rfl⟩
    · rw [if_neg hb'] at es; exact .inr ⟨hb', es⟩
  have hget : ∀ b, (hOf (nb + 1) ((nb, blk) :: subH x p HB)).get b = if b = nb then blk else subB x p ((hOf nb HB).get b) := fun b => by
    rw [hOf_get, hOf_get]
    simp only [lkB]
    rw [subH_lk]
  have hget0 : ∀ b, (hOf (nb + 1) ((nb, blk) :: HB)).get b = if b = nb then blk else (hOf nb HB).get b := fun b => by
    rw [hOf_get, hOf_get]; rfl
  refine ⟨⟨hs.fr.1, fun k => ?_⟩, ⟨hadd.cnt, fun b s es => ?_, fun b s es hl => ?_, fun b b' s es es' hl hl' => ?_, fun s o hk => ?_⟩, fun b s es hm => ?_, fun s hs' => ?_, hs.bz⟩
  · have := hs.fr.2 k
    rw [frOf_get] at this ⊢
    rw [subL_lk]
    exact subV_ok hle hp _ _ this
  · exact hadd.dom b s es
  · rw [hget] at hl ⊢
    by_cases hbn : b = nb
    · have := hadd.blk b s es (by rw [hget0, if_pos hbn]; rw [if_pos hbn] at hl; exact hl)
      rw [hget0, if_pos hbn] at this
      rw [if_pos hbn]; exact this
    · rw [if_neg hbn] at hl ⊢
      rcases hup b s es with ⟨h1, _⟩ | ⟨_, es1⟩
      · exact absurd h1 hbn
      · obtain ⟨o, h1, h2⟩ := hs.hr.blk b s es1 ((subB_live x p _).1.1 hl)
        exact ⟨o, h1, by rw [(hle b s es1).2]; exact subB_ok hle hp _ h2⟩
  · have conv : ∀ b, ((hOf (nb + 1) ((nb, blk) :: subH x p HB)).get b).live → ((hOf (nb + 1) ((nb, blk) :: HB)).get b).live := fun b h => by
      rw [hget] at h; rw [hget0]
      by_cases hbn : b = nb
      · rw [if_pos hbn] at h ⊢; exact h
      · rw [if_neg hbn] at h ⊢; exact (subB_live x p _).1.1 h
    exact hadd.inj b b' s es es' (conv b hl) (conv b' hl')
  · have := hadd.kp s o hk
    refine ⟨this.1, fun b es => ?_⟩
    have h2 := this.2 b es
    rw [hget0] at h2; rw [hget]
    by_cases hbn : b = nb
    · rw [if_pos hbn] at h2 ⊢; exact h2
    · rw [if_neg hbn] at h2 ⊢; exact fun h => h2 ((subB_live x p _).2.1 h)
  · rw [hget] at hm
    rcases hup b s es with ⟨h1, _⟩ | ⟨h1, es1⟩
    · rw [if_pos h1] at hm; exact absurd hm hb
    · rw [if_neg h1] at hm; exact hs.loc b s es1 ((subB_live x p _).2.1 hm)
  · refine hs.kf s fun b es hm => ?_
    have hbn : b ≠ nb := fun e => hfr s (e ▸ es)
    refine hs' b ((hle b s es).1) ?_
    rw [hget, if_neg hbn]; exact (subB_live x p _).2.2 hm

theorem StAt.reveal {φ : Ren} {B nt nb : Nat} {L : List (Nat × V)} {HB : List (Nat × Blk)} {a : Act} {w : World} (hs : StAt φ B (frOf nt L) (hOf nb HB) a w) {r : Nat} {c : Array Value} {T : TypeId} (ho : w.heap[r]? = some (.cells c T (0, 0)))
    (hn : noT T HB = true) (x : Nat) (p : V) (blk : Blk) (hb : ¬ blk.mut) (hbr : BR φ c.size blk (.cells c T (0, 0))) (hp : VR (up φ nb r c.size) p (φ.q x)) :
    StAt (up φ nb r c.size) B (frOf nt (subL x p L)) (hOf (nb + 1) ((nb, blk) :: subH x p HB)) a w := hs.revealO ho (fun b q hm hl N => noT_ok hn b q hm hl) x p blk hb hbr hp
theorem HR.addM {φ : Ren} {nb : Nat} {HB : List (Nat × Blk)} {w : World} (hr : HR φ (hOf nb HB) w) {r : Nat} {es : Array MapEntry} {c : Nat} (ho : w.heap[r]? = some (.map es c)) (hn : noMp HB = true) (x : Nat) (d : TypeDesc) (hx : φ.g x = (es, c)) (hk : ∀ e ∈ es.toList, MapKept.IsKey d e.key) :
    HR (up φ nb r 0) (hOf (nb + 1) ((nb, .rm x d) :: HB)) w := hr.addO ho (fun b q hm hl N => noMp_ok hn b q hm hl) (.rm x d) (fun h => h) ⟨es, c, rfl, by simp only [MU]; exact hx.symm, hk⟩
theorem StAt.revealM {φ : Ren} {B nt nb : Nat} {L : List (Nat × V)} {HB : List (Nat × Blk)} {a : Act} {w : World} (hs : StAt φ B (frOf nt L) (hOf nb HB) a w) {r : Nat} {es : Array MapEntry} {c : Nat} (ho : w.heap[r]? = some (.map es c))
    (hn : noMp HB = true) (x : Nat) (z : Nat) (d : TypeDesc) (hz : φ.g z = (es, c)) (hk : ∀ e ∈ es.toList, MapKept.IsKey d e.key) (hq : φ.q x = .map (some r)) :
    StAt (up φ nb r 0) B (frOf nt (subL x (.m (some nb)) L)) (hOf (nb + 1) ((nb, .rm z d) :: subH x (.m (some nb)) HB)) a w :=
  hs.revealO ho (fun b q hm hl N => noMp_ok hn b q hm hl) x (.m (some nb)) (.rm z d) (fun h => h) ⟨es, c, rfl, by simp only [MU]; exact hz.symm, hk⟩ (by rw [hq]; simp only [VR]; exact ⟨r, by simp [up], rfl⟩)

end Go.Ev

/- Chains, part B: 'survey'. -/
namespace Go.Ev
open Go.Proofs

noncomputable def c26 : List Code := flatL ((Tryz.f26.body).getD .skip)

def cName : List Nat := [99]
def nextName : List Nat := [110, 101, 120, 116]
/-- A schema's blocks: fields, lines. -/
def schF : Blk := .rc [.s nextName, .i .i64 3, .i .i64 0, .b false] 65
def schL : Blk := .rc [.s cName, .sl (some (0, 0)) 1 (.kn 1), .sl none 0 (.kn 0)] 68
def sur_h : List (Nat × Blk) := [(1, schL), (0, schF)]
def sur_args : List V := [.a [.sl (some (1, 0)) 1 (.kn 1), .q 1, .q 2, .y .i64 3]]
def sur_LA : List (Nat × V) := [(1, .p (some (2, 0))), (2, .p (some (3, 0))), (3, .i .i64 0), (6, .p (some (4, 0))), (7, .p (some (5, 0)))]
def sur_HA : List (Nat × Blk) := [(2, .cells [.sl (some (1, 0)) 1 (.kn 1), .q 1, .q 2, .y .i64 3] 30 false), (3, .cells [.sl none 0 (.kn 0), .m none] 86 false),
  (4, .cells [.sl (some (1, 0)) 1 (.kn 1), .m (some 6)] 145 false), (5, .cells [.sl none 0 (.kn 0), .m (some 7)] 86 false), (6, .mp [] 0), (7, .mp [] 0), (1, schL), (0, schF)]
def sur_FA : Facts := { qc := [(47, sur_args, .b true)] }
def sur_TA : Tab := { s := [(3, .y 3)], q := [(1, .q 1), (2, .q 2)] }
theorem sur_A : runsL (withF E0 sur_FA) 300 (c26.take 8) ⟨67, load sur_args 0 .leaf⟩ (hOf 2 sur_h) .n sur_TA 67 sur_LA 8 sur_HA = true := by decide +kernel
/-- The loop's state, ahead of the first round. -/
def sur_HR : List (Nat × Blk) := (8, .rw 0 36) :: subH 1 (.sr 8 0 0 4) sur_HA
def sur_L0 : List (Nat × V) := [(1, .p (some (2, 0))), (2, .p (some (3, 0))), (3, .i .i64 0), (6, .p (some (4, 0))), (7, .p (some (5, 0))), (32, .sr 8 0 0 4), (33, .y .i64 1), (34, .y .i64 0)]
def sur_B2 : Blk := .cells [.sl (some (1, 0)) 1 (.kn 1), .sr 8 0 0 4, .q 2, .y .i64 3] 30 false
def sur_B3 : Blk := .cells [.sl none 0 (.kn 0), .m none] 86 false
def sur_B4 : Blk := .cells [.sl (some (1, 0)) 1 (.kn 1), .m (some 6)] 145 false
def sur_H0 : List (Nat × Blk) := [(2, sur_B2), (3, sur_B3), (4, sur_B4), (5, .cells [.sl none 0 (.kn 0), .m (some 7)] 86 false), (6, .mp [] 0), (7, .mp [] 0), (1, schL), (0, schF), (8, .rw 0 36)]
def sur_FB : Facts := { rz := [(0, 4)], rl := [(0, 0, 1)] }
def sur_TB : Tab := { s := [(0, .i 0), (1, .y 1), (3, .y 3)], q := [(2, .q 2)], w := [(0, .same 0)] }
theorem sur_B : runsL (withF E0 sur_FB) 300 ((c26.drop 8).take 1) (frOf 67 (subL 1 (.sr 8 0 0 4) sur_LA)) (hOf 9 sur_HR) .n sur_TB 67 sur_L0 9 sur_H0 = true := by decide +kernel

/-- The same, the places' map named. -/
def sur_H0s : List (Nat × Blk) := [(2, sur_B2), (3, sur_B3), (4, sur_B4), (5, .cells [.sl none 0 (.kn 0), .m (some 7)] 86 false), (6, .mp [] 0), (7, .smp 1 (.int .i64) []), (1, schL), (0, schF), (8, .rw 0 36)]
def sur_TBs : Tab := { s := [(0, .y 0), (1, .y 1), (3, .y 3)], q := [(2, .q 2)], w := [(0, .same 0)], g := [(1, .fold 7)] }
theorem sur_Bs : (mAll sur_TBs (frOf 67 sur_L0) (hOf 9 sur_H0) 67 sur_L0 9 sur_H0s).isSome = true := by decide +kernel
def sur_TS0 : Tab := { s := [(0, .y 0), (1, .y 1), (3, .y 3)], q := [(2, .q 2)], w := [(0, .same 0)], g := [(1, .same 1)] }
theorem sur_S0 : selfOK sur_TS0 67 sur_L0 9 sur_H0s = true := by decide +kernel

/-- Values: one that refers, one that does not. -/
def valY : Blk := .rc [.i .i64 3, .y .i64 6, .s [], .sl none 0 (.kn 0)] 70
def valN : Blk := .rc [.i .i64 0, .i .i64 0, .s [], .sl none 0 (.kn 0)] 70
def valY' : Blk := .cells [.i .i64 3, .y .i64 6, .s [], .sl none 0 (.kn 0)] 70 false
def valN' : Blk := .cells [.i .i64 0, .i .i64 0, .s [], .sl none 0 (.kn 0)] 70 false
def sur_view : Blk := .mp [(.a [.i .i64 0, .i .i64 0], .a [.b true, .sl (some (10, 0)) 1 (.kn 1), .sl (some (11, 0)) 1 (.kn 1)], 0)] 1
def sur_vw : List (Nat × Blk) := [(10, .cells [.s cName, .sl (some (12, 0)) 1 (.kn 1), .sl none 0 (.kn 0)] 68 false), (11, .cells [.s cName, .sl (some (12, 0)) 1 (.kn 1), .sl none 0 (.kn 0)] 68 false), (12, .cells [.s nextName, .i .i64 3, .i .i64 0, .b false] 65 false)]
/-- Behind the first round, ahead of all names. -/
def sur_G0 (v : Blk) : List (Nat × Blk) := [(2, sur_B2), (3, sur_B3), (4, sur_B4), (5, .cells [.sl (some (9, 0)) 1 (.un 4), .m (some 7)] 86 false), (9, .cells [.y .i64 4, .i .i64 0, .i .i64 0, .sl (some (13, 0)) 1 (.kn 1)] 36 true), (13, v),
  (6, sur_view), (7, .smp 1 (.int .i64) [(.y .i64 4, some (.y .i64 7))]), (1, schL), (0, schF), (8, .rw 0 36)] ++ sur_vw
def sur_F0 : Facts := { bd := [(4, 1, 100000), (6, 1, 100000)], bin := [(.lss, .y .i64 0, .y .i64 1, .b true), (.add, .y .i64 0, .i .i64 1, .y .i64 5)], rz := [(0, 4)], re := [(0, 0, [.y .i64 4, .i .i64 0, .i .i64 0, .sl (some (9, 0)) 1 (.kn 1)])] }
def sur_T0 : Tab := { s := [(0, .y 5), (1, .y 1), (3, .y 3), (4, .y 4), (6, .y 6), (7, .y 0)], q := [(2, .q 2)], w := [(0, .same 0)], g := [(1, .same 1)] }
theorem sur_0Y : runsL (withF E0 sur_F0) 400 ((roundOf (c26.drop 9)).take 100) (frOf 67 sur_L0) (hOf 10 ((9, valY) :: sur_H0s)) .n sur_T0 67 sur_L0 14 (sur_G0 valY') = true := by decide +kernel
theorem sur_0N : runsL (withF E0 sur_F0) 400 ((roundOf (c26.drop 9)).take 100) (frOf 67 sur_L0) (hOf 10 ((9, valN) :: sur_H0s)) .n sur_T0 67 sur_L0 14 (sur_G0 valN') = true := by decide +kernel
/-- The loop's state behind a round. -/
def sur_H1 : List (Nat × Blk) := [(2, sur_B2), (3, sur_B3), (4, sur_B4), (5, .cells [.sr 9 2 0 4, .m (some 7)] 86 false), (9, .row 2 [] 36), (6, sur_view), (7, .smp 1 (.int .i64) []), (1, schL), (0, schF), (8, .rw 0 36)] ++ sur_vw
def sur_TC : Tab := { s := [(0, .y 0), (1, .y 1), (3, .y 3)], q := [(2, .q 2)], w := [(0, .same 0), (2, .fold 9)], g := [(1, .fold 7)] }
theorem sur_CY : (mAll sur_TC (frOf 67 sur_L0) (hOf 14 (sur_G0 valY')) 67 sur_L0 13 sur_H1).isSome = true := by decide +kernel
theorem sur_CN : (mAll sur_TC (frOf 67 sur_L0) (hOf 14 (sur_G0 valN')) 67 sur_L0 13 sur_H1).isSome = true := by decide +kernel
def sur_TS1 : Tab := { s := [(0, .y 0), (1, .y 1), (3, .y 3)], q := [(2, .q 2)], w := [(0, .same 0), (2, .same 2)], g := [(1, .same 1)] }
theorem sur_S1 : selfOK sur_TS1 67 sur_L0 13 sur_H1 = true := by decide +kernel
def sur_F1 : Facts := { bd := [(4, 1, 100000), (6, 1, 100000), (8, 0, 100000)], bin := [(.lss, .y .i64 0, .y .i64 1, .b true), (.add, .y .i64 0, .i .i64 1, .y .i64 5)], rz := [(0, 4), (2, 4)], rl := [(2, 0, 8)], re := [(0, 0, [.y .i64 4, .i .i64 0, .i .i64 0, .sl (some (13, 0)) 1 (.kn 1)])] }
def sur_G1 (v : Blk) : List (Nat × Blk) := [(2, sur_B2), (3, sur_B3), (4, sur_B4), (5, .cells [.sr 9 2 1 4, .m (some 7)] 86 false), (9, .row 2 [.y .i64 4, .i .i64 0, .i .i64 0, .sl (some (13, 0)) 1 (.kn 1)] 36), (13, v),
  (6, sur_view), (7, .smp 1 (.int .i64) [(.y .i64 4, some (.y .i64 7))]), (1, schL), (0, schF), (8, .rw 0 36)] ++ sur_vw
def sur_T1 : Tab := { s := [(0, .y 5), (1, .y 1), (3, .y 3), (4, .y 4), (6, .y 6), (7, .y 0)], q := [(2, .q 2)], w := [(0, .same 0), (2, .same 2)], g := [(1, .same 1)] }
theorem sur_1Y : runsL (withF E0 sur_F1) 400 ((roundOf (c26.drop 9)).take 100) (frOf 67 sur_L0) (hOf 14 ((13, valY) :: sur_H1)) .n sur_T1 67 sur_L0 14 (sur_G1 valY') = true := by decide +kernel
theorem sur_1N : runsL (withF E0 sur_F1) 400 ((roundOf (c26.drop 9)).take 100) (frOf 67 sur_L0) (hOf 14 ((13, valN) :: sur_H1)) .n sur_T1 67 sur_L0 14 (sur_G1 valN') = true := by decide +kernel
theorem sur_DY : (mAll sur_TC (frOf 67 sur_L0) (hOf 14 (sur_G1 valY')) 67 sur_L0 13 sur_H1).isSome = true := by decide +kernel
theorem sur_DN : (mAll sur_TC (frOf 67 sur_L0) (hOf 14 (sur_G1 valN')) 67 sur_L0 13 sur_H1).isSome = true := by decide +kernel
/-- The loop's end. -/
def sur_FE : Facts := { bin := [(.lss, .y .i64 0, .y .i64 1, .b false)] }
theorem sur_E : runsL (withF E0 sur_FE) 400 ((roundOf (c26.drop 9)).take 100) (frOf 67 sur_L0) (hOf 13 sur_H1) (.e 0) sur_TS1 67 sur_L0 13 sur_H1 = true := by decide +kernel
/-- What was found, named. -/
def sur_LZ : List (Nat × V) := [(1, .p (some (2, 0))), (2, .p (some (3, 0))), (3, .i .i64 0), (7, .p (some (5, 0)))]
def sur_HZ : List (Nat × Blk) := [(2, .cells [.top, .top, .q 2, .y .i64 3] 30 false), (3, sur_B3), (5, .cells [.q 5, .q 6] 86 false)]
def sur_TZ : Tab := { s := [(3, .y 3)], q := [(2, .q 2), (5, .sr 9 2 0 4), (6, .m (some 7))] }
theorem sur_Z : (mAll sur_TZ (frOf 67 sur_L0) (hOf 13 sur_H1) 67 sur_LZ 6 sur_HZ).isSome = true := by decide +kernel
def sur_FX : Facts := { qc := [(49, [.a [.q 5, .q 6], .q 2], .b true)] }
def sur_LX : List (Nat × V) := [(2, .p (some (3, 0))), (3, .i .i64 0)]
def sur_HX : List (Nat × Blk) := [(3, .cells [.q 5, .q 6] 86 false)]
def sur_TX : Tab := { q := [(5, .q 5), (6, .q 6)] }
theorem sur_X : runsL (withF E0 sur_FX) 400 ((c26.drop 10).take 10) (frOf 67 sur_LZ) (hOf 6 sur_HZ) .r sur_TX 67 sur_LX 4 sur_HX = true := by decide +kernel
def sur_TSZ : Tab := { s := [(3, .y 3)], q := [(2, .q 2), (5, .q 5), (6, .q 6)] }
theorem sur_SZ : selfOK sur_TSZ 67 sur_LZ 6 sur_HZ = true := by decide +kernel
end Go.Ev

/- Chains, part C: 'survey', joined. -/
namespace Go.Ev
open Go.Proofs

/-! ### Out of a state -/
theorem StAt.ptr {φ : Ren} {B nt : Nat} {L : List (Nat × V)} {h : H} {a : Act} {w : World} (hs : StAt φ B (frOf nt L) h a w) (k : Nat) {b o : Nat} (e : lkV L k = .p (some (b, o))) : ∃ r, φ b = some r := by
  have := hs.fr.2 k
  rw [frOf_get, e] at this
  simp only [VR] at this
  obtain ⟨r, h, _⟩ := this
  exact ⟨r, h⟩
theorem HR.cellsL {φ : Ren} {nb : Nat} {HB : List (Nat × Blk)} {w : World} (hr : HR φ (hOf nb HB) w) {b r : Nat} (hb : φ b = some r) {l : List V} {e : TypeId} {g : Bool} (hl : lkB HB b = .cells l e g) :
    ∃ c, w.heap[r]? = some (.cells c e (0, 0)) ∧ VRs φ l (c.toList.take l.length) ∧ l.length ≤ c.size ∧ (g = false → c.size = l.length) ∧ c.size = φ.n b := by
  obtain ⟨o, h1, h2⟩ := hr.blk b r hb (by rw [hOf_get, hl]; trivial)
  rw [hOf_get, hl] at h2
  obtain ⟨c, rfl, h⟩ := h2
  exact ⟨c, h1, h⟩
theorem HR.rowL {φ : Ren} {nb : Nat} {HB : List (Nat × Blk)} {w : World} (hr : HR φ (hOf nb HB) w) {b r : Nat} (hb : φ b = some r) {x : Nat} {l : List V} {e : TypeId} (hl : lkB HB b = .row x l e) :
    ∃ c vs, w.heap[r]? = some (.cells c e (0, 0)) ∧ VRs φ l vs ∧ c.toList.take ((φ.w x).length + l.length) = φ.w x ++ vs ∧ (φ.w x).length + l.length ≤ c.size ∧ c.size = φ.n b := by
  obtain ⟨o, h1, h2⟩ := hr.blk b r hb (by rw [hOf_get, hl]; trivial)
  rw [hOf_get, hl] at h2
  obtain ⟨c, vs, rfl, h⟩ := h2
  exact ⟨c, vs, h1, h⟩
theorem HR.smpL {φ : Ren} {nb : Nat} {HB : List (Nat × Blk)} {w : World} (hr : HR φ (hOf nb HB) w) {b r : Nat} (hb : φ b = some r) {x : Nat} {d : TypeDesc} {us : List (V × Option V)} (hl : lkB HB b = .smp x d us) :
    ∃ es c, w.heap[r]? = some (.map es c) ∧ MU φ d (φ.g x) us (es, c) ∧ ∀ e ∈ es.toList, MapKept.IsKey d e.key := by
  obtain ⟨o, h1, h2⟩ := hr.blk b r hb (by rw [hOf_get, hl]; trivial)
  rw [hOf_get, hl] at h2
  obtain ⟨es, c, rfl, h⟩ := h2
  exact ⟨es, c, h1, h⟩
/-- A slice over a row, in memory. -/
theorem HR.isRow {φ : Ren} {nb : Nat} {HB : List (Nat × Blk)} {w : World} (hr : HR φ (hOf nb HB) w) {b x sz : Nat} {e : TypeId} (hl : lkB HB b = .row x [] e) {v : Value} (hv : VR φ (.sr b x 0 sz) v) : IsRow w e sz v (φ.w x) := by
  simp only [VR] at hv
  obtain ⟨r, n, cap, h1, h2, h3, h4, h5, rfl⟩ := hv
  obtain ⟨c, vs, g1, g2, g3, g4, g5⟩ := hr.rowL h1 hl
  simp only [VRs] at g2
  subst g2
  simp only [List.length_nil, Nat.add_zero, List.append_nil] at g3 g4
  exact ⟨r, n, cap, c, rfl, h2, h3, h4, by rw [h5, g5], g1, g3⟩

/-! ### Objects' values; a schema -/
def valC (o : O) : Array Value := if o.ref = 0 then #[.int .i64 0, .int .i64 0, .string (bytes []), .slice none 0 0] else #[.int .i64 3, .int .i64 o.ref, .string (bytes []), .slice none 0 0]
def IsVal (w : World) (p : O × Value) : Prop := ∃ r, p.2 = .slice (some ⟨r, 0, none⟩) 1 1 ∧ w.heap[r]? = some (.cells (valC p.1) 70 (0, 0))
theorem IsVal.kept {w w' : World} {p : O × Value} (h : IsVal w p) (hk : ∀ (r : Nat) (c : Array Value), w.heap[r]? = some (.cells c 70 (0, 0)) → w'.heap[r]? = some (.cells c 70 (0, 0))) : IsVal w' p := by
  obtain ⟨r, h1, h2⟩ := h
  exact ⟨r, h1, hk r _ h2⟩
theorem IsVal.one {w : World} {p : O × Value} (h : IsVal w p) : p.2.oneCell' = true := by
  obtain ⟨r, h1, _⟩ := h
  rw [h1]; rfl
theorem GB.at_ {B : Nat} {w w' : World} (h : GB B w w') (hb : B = w.heap.size) {r : Nat} {o : Obj} (ho : w.heap[r]? = some o) : w'.heap[r]? = some o := by
  rw [h.same r (by rw [hb]; exact (Array.getElem?_eq_some_iff.1 ho).1)]; exact ho

def IsSch (w : World) (lines : Value) : Prop := ∃ rl rf cl cf, lines = .slice (some ⟨rl, 0, none⟩) 1 1 ∧ w.heap[rf]? = some (.cells cf 65 (0, 0)) ∧ w.heap[rl]? = some (.cells cl 68 (0, 0)) ∧
  cf.toList.take 4 = [.string (bytes nextName), .int .i64 3, .int .i64 0, .bool false] ∧ cl.toList.take 3 = [.string (bytes cName), .slice (some ⟨rf, 0, none⟩) 1 1, .slice none 0 0]
theorem IsSch.kept {w w' : World} (h : ∀ (r : Nat) (o : Obj), w.heap[r]? = some o → w'.heap[r]? = some o) {v : Value} (hi : IsSch w v) : IsSch w' v := by
  obtain ⟨rl, rf, cl, cf, h1, h2, h3, h4⟩ := hi
  exact ⟨rl, rf, cl, cf, h1, h _ _ h2, h _ _ h3, h4⟩
theorem vS {φ : Ren} {l : List Nat} (h : ∀ x ∈ l, x < 256) : VR φ (.s l) (.string (bytes l)) := by simp only [VR]; exact ⟨trivial, h⟩
theorem vI {φ : Ren} {k : IntKind} {n : Int} : VR φ (.i k n) (.int k n) := by simp only [VR]
theorem vB {φ : Ren} {b : Bool} : VR φ (.b b) (.bool b) := by simp only [VR]
theorem vN {φ : Ren} {c : Cap} : VR φ (.sl none 0 c) (.slice none 0 0) := by simp only [VR]; exact ⟨trivial, trivial⟩
theorem vSl {φ : Ren} {b r n c : Nat} (h : φ b = some r) (hn : n ≤ c) : VR φ (.sl (some (b, 0)) n (.kn c)) (.slice (some ⟨r, 0, none⟩) n c) := by simp only [VR]; exact ⟨r, h, hn, rfl⟩
theorem IsSch.add {w : World} {lines : Value} (h : IsSch w lines) (y : Sym) : ∃ φ, HR φ (hOf 2 sur_h) w ∧ φ.y = (φ0 y w).y ∧ VR φ (.sl (some (1, 0)) 1 (.kn 1)) lines := by
  obtain ⟨rl, rf, cl, cf, rfl, h2, h3, h4, h5⟩ := h
  have l4 : 4 ≤ cf.size := by have := congrArg List.length h4; simp at this; omega
  have l5 : 3 ≤ cl.size := by have := congrArg List.length h5; simp at this; omega
  have a1 := (φ0_hr y w).add h2 rfl schF (fun h => h) ⟨_, rfl, by
    show VRs _ _ (cf.toList.take 4)
    rw [h4]; exact VRs.cons (vS (by decide)) (VRs.cons vI (VRs.cons vI (VRs.cons vB VRs.nil))), l4, rfl⟩
  have a2 := a1.add h3 rfl schL (fun h => h) ⟨_, rfl, by
    show VRs _ _ (cl.toList.take 3)
    rw [h5]; exact VRs.cons (vS (by decide)) (VRs.cons (vSl rfl (by decide)) (VRs.cons vN VRs.nil)), l5, rfl⟩
  exact ⟨_, a2, rfl, vSl rfl (by decide)⟩

/-- The map of places. -/
def pm (l : List (O × Value)) : Nat → Array MapEntry × Nat
  | 0 => (#[], 0)
  | i + 1 => mset (.int .i64) (pm l i) (.int .i64 (lastId l (i + 1))) (.int .i64 i)
def IsPlace (w : World) (mv : Value) (m : Array MapEntry × Nat) : Prop := ∃ r, mv = .map (some r) ∧ w.heap[r]? = some (.map m.1 m.2)

theorem mkAgree {tb : Tab} {φ : Ren} {h : H} {w : World} {y : Sym} (s : AllL (fun e : Nat × SV => y.s e.1 = match e.2 with | .y z => φ.s z | .i n => n) tb.s) (q : AllL (fun e : Nat × V => VR φ e.2 (y.q e.1)) tb.q)
    (wl : AllL (fun e : Nat × WV => match e.2 with | .same z => y.w e.1 = φ.w z | .fold c => ∀ r cs e', φ c = some r → w.heap[r]? = some (.cells cs e' (0, 0)) →
      (∀ z l e'', h.get c = .row z l e'' → y.w e.1 = cs.toList.take ((φ.w z).length + l.length)) ∧ (∀ l e'' g, h.get c = .cells l e'' g → y.w e.1 = cs.toList.take l.length)) tb.w)
    (g : AllL (fun e : Nat × WV => match e.2 with | .same z => y.g e.1 = φ.g z | .fold c => ∀ r es n, φ c = some r → w.heap[r]? = some (.map es n) → y.g e.1 = (es, n)) tb.g) : Agree tb φ h w y :=
  ⟨fun _ _ e => s.mem _ (lk_mem e), fun _ _ e => q.mem _ (lk_mem e), fun _ _ e => wl.mem _ (lk_mem e), fun _ _ e => wl.mem _ (lk_mem e), fun _ _ e => g.mem _ (lk_mem e), fun _ _ e => g.mem _ (lk_mem e)⟩

theorem StAt.revealRow {φ : Ren} {B nt nb : Nat} {L : List (Nat × V)} {HB : List (Nat × Blk)} {a : Act} {w : World} (hs : StAt φ B (frOf nt L) (hOf nb HB) a w) {T sz : Nat} {v : Value} {row : List Value} (hi : IsRow w T sz v row) (hn : noT T HB = true) (x z : Nat) (hq : φ.q x = v) (hw : φ.w z = row) :
    ∃ φ', StAt φ' B (frOf nt (subL x (.sr nb z 0 sz) L)) (hOf (nb + 1) ((nb, .rw z T) :: subH x (.sr nb z 0 sz) HB)) a w ∧ φ'.y = φ.y := by
  obtain ⟨r, n, cap, c, rfl, h2, h3, h4, h5, h6, h7⟩ := hi
  have hle : (row.length : Nat) ≤ c.size := by
    rw [← h5, ← h3]; exact Nat.mul_le_mul_right _ h4
  refine ⟨_, hs.reveal h6 hn x (.sr nb z 0 sz) (.rw z T) (fun h => h) ⟨c, rfl, by rw [hw]; exact h7, by rw [hw]; exact hle, rfl⟩ ?_, rfl⟩
  rw [hq]
  simp only [VR]
  refine ⟨r, n, cap, by simp [up], h2, ?_, by omega, by simp [up, h5], by simp⟩
  show n * sz = (φ.w z).length
  rw [hw]; exact h3

/-- A number to refer to. -/
def rf (o : O) : Nat := if o.ref = 0 then 1 else o.ref
def KN (k v : V) (o : O) : Prop := ∀ φ : Ren, φ.s 6 = ((rf o : Nat) : Int) → VRs φ [k, v, .s [], .sl none 0 (.kn 0)] (valC o).toList ∧ ∀ vs, VRs φ [k, v, .s [], .sl none 0 (.kn 0)] vs → vs = (valC o).toList
theorem KN_Y {o : O} (h : o.ref ≠ 0) : KN (.i .i64 3) (.y .i64 6) o := fun φ h6 => by
  have e : (valC o).toList = [.int .i64 3, .int .i64 (φ.s 6), .string (bytes []), .slice none 0 0] := by simp [valC, h, h6, rf]
  rw [e]
  refine ⟨VRs.cons vI (VRs.cons (by simp only [VR]) (VRs.cons (vS (by simp)) (VRs.cons vN VRs.nil))), fun vs hv => ?_⟩
  simp only [VRs, VR] at hv
  obtain ⟨_, _, rfl, rfl, _, _, rfl, rfl, _, _, rfl, ⟨rfl, _⟩, _, _, rfl, ⟨_, rfl⟩, rfl⟩ := hv
  rfl
theorem KN_N {o : O} (h : o.ref = 0) : KN (.i .i64 0) (.i .i64 0) o := fun φ h6 => by
  have e : (valC o).toList = [.int .i64 0, .int .i64 0, .string (bytes []), .slice none 0 0] := by simp [valC, h]
  rw [e]
  refine ⟨VRs.cons vI (VRs.cons vI (VRs.cons (vS (by simp)) (VRs.cons vN VRs.nil))), fun vs hv => ?_⟩
  simp only [VRs, VR] at hv
  obtain ⟨_, _, rfl, rfl, _, _, rfl, rfl, _, _, rfl, ⟨rfl, _⟩, _, _, rfl, ⟨_, rfl⟩, rfl⟩ := hv
  rfl
theorem valC_size (o : O) : (valC o).size = 4 := by unfold valC; split <;> rfl

def SurInv (w : World) (l : List (O × Value)) (rv : Value) (next : Nat) : Nat → Act → World → Prop
  | 0, a, w' => ∃ φ, StAt φ w.heap.size (frOf 67 sur_L0) (hOf 9 sur_H0s) a w' ∧ a.defers = [] ∧ GB w.heap.size w w' ∧ Named φ (mkY [0, l.length, 0, next] [.bool false, .bool false, rv] [oRow l] [(#[], 0), (#[], 0)])
  | i + 1, a, w' => ∃ φ late, StAt φ w.heap.size (frOf 67 sur_L0) (hOf 13 sur_H1) a w' ∧ a.defers = [] ∧ GB w.heap.size w w' ∧ Named φ (mkY [(i + 1 : Nat), l.length, 0, next] [.bool false, .bool false, rv] [oRow l, [], oRow late] [(#[], 0), pm l (i + 1)]) ∧
    late.map (·.1) = (l.take (i + 1)).map (·.1) ∧ ∀ p ∈ late, IsVal w' p

theorem sur_round0 {w : World} {l : List (O × Value)} {rv : Value} {next : Nat} (hrv : rv.oneCell' = true) {p : O × Value} (hp : l[0]? = some p) (hval : IsVal w p) (hid : 1 ≤ p.1.id ∧ p.1.id ≤ 100000) (href : p.1.ref ≤ 100000) (hln : l.length ≤ 100000) {k v : V} (hkn : KN k v p.1)
    (hrun : runsL (withF E0 sur_F0) 400 ((roundOf (c26.drop 9)).take 100) (frOf 67 sur_L0) (hOf 10 ((9, .rc [k, v, .s [], .sl none 0 (.kn 0)] 70) :: sur_H0s)) .n sur_T0 67 sur_L0 14 (sur_G0 (.cells [k, v, .s [], .sl none 0 (.kn 0)] 70 false)) = true)
    (hconv : (mAll sur_TC (frOf 67 sur_L0) (hOf 14 (sur_G0 (.cells [k, v, .s [], .sl none 0 (.kn 0)] 70 false))) 67 sur_L0 13 sur_H1).isSome = true)
    {a : Act} {w' : World} {n : Nat} (hi : SurInv w l rv next 0 a w') : wpCs none n E0.P (fun e a' w'' => e = .normal ∧ SurInv w l rv next 1 a' w'') (roundOf (c26.drop 9)) a w' := by
  obtain ⟨φ, hs, hd, hg, n1, n2, n3, n4⟩ := hi
  obtain ⟨φ1, hs1, m1, m2, m3, m4⟩ := hs.resym sur_S0 (y := mkY [0, l.length, 0, next, p.1.id, 1, rf p.1] [.bool false, .bool false, rv] [oRow l] [(#[], 0), (#[], 0)])
    ⟨⟨(congrFun n1 0).symm, (congrFun n1 1).symm, (congrFun n1 3).symm, trivial⟩, ⟨⟨(congrFun n2 2).symm, hrv⟩, trivial⟩, ⟨(congrFun n3 0).symm, trivial⟩, ⟨(congrFun n4 1).symm, trivial⟩⟩
  have hll : 0 < l.length := by
    rcases Nat.lt_or_ge 0 l.length with h | h
    · exact h
    · rw [List.getElem?_eq_none h] at hp; cases hp
  have hrf : 1 ≤ rf p.1 ∧ rf p.1 ≤ 100000 := by unfold rf; split <;> omega
  obtain ⟨r, hp2, hr⟩ := hval
  have hr' := hg.at_ rfl hr
  have s6 : φ1.s 6 = ((rf p.1 : Nat) : Int) := congrFun m1 6
  have hst := hs1.reveal hr' rfl 99 .top (.rc [k, v, .s [], .sl none 0 (.kn 0)] 70) (fun h => h) ⟨_, rfl, by
    rw [List.take_of_length_le (by rw [Array.length_toList, valC_size]; exact Nat.le_refl 4)]
    exact (hkn φ1 s6).1, by rw [valC_size]; exact Nat.le_refl 4, rfl⟩ (by simp only [VR])
  refine StAt.runL (withF_ok E0_ok sur_F0) rfl 100 (cs := roundOf (c26.drop 9)) hrun hst (FactsOK.bd' ?_) hd (mkY [1, l.length, 0, next, p.1.id, 0, rf p.1, 0] [.bool false, .bool false, rv] [oRow l] [(#[], 0), (#[], 0)]) ?_ fun φ' a' w'' hs' hd' hg' hk e1 e2 e3 e4 => ?_
  · have t0 : (up φ1 9 r (valC p.1).size).y.s 0 = 0 := congrFun m1 0
    have t1 : (up φ1 9 r (valC p.1).size).y.s 1 = l.length := congrFun m1 1
    have t4 : (up φ1 9 r (valC p.1).size).y.s 4 = p.1.id := congrFun m1 4
    have t5 : (up φ1 9 r (valC p.1).size).y.s 5 = 1 := congrFun m1 5
    have t6 : (up φ1 9 r (valC p.1).size).y.s 6 = rf p.1 := congrFun m1 6
    have hw0 : (up φ1 9 r (valC p.1).size).w 0 = oRow l := congrFun m3 0
    refine ⟨⟨⟨?_, ?_⟩, ⟨?_, ?_⟩, trivial⟩, ⟨?_, ?_, trivial⟩, trivial, trivial, ⟨⟨by decide, rfl, 0, t0, ?_, ?_⟩, trivial⟩, trivial, trivial, trivial, trivial⟩
    · show (1 : Int) ≤ _; simp only [Ren.s, t4]; omega
    · show _ ≤ (100000 : Int); simp only [Ren.s, t4]; omega
    · show (1 : Int) ≤ _; simp only [Ren.s, t6]; omega
    · show _ ≤ (100000 : Int); simp only [Ren.s, t6]; omega
    · exact .lss (k := .i64) (x := 0) (y := l.length) (by simp only [ival, t0]) (by simp only [ival, t1]) (by simp; omega)
    · exact .add (k := .i64) (x := 0) (y := 1) (by simp only [ival, t0]) rfl (by simp only [ival, t5]; rfl) (i64_in (by omega))
    · show (0 + 1) * 4 ≤ _
      rw [hw0, oRow_len]; omega
    · show VRs _ [.y .i64 4, .i .i64 0, .i .i64 0, .sl (some (9, 0)) 1 (.kn 1)] ((((up φ1 9 r (valC p.1).size).w 0).drop (0 * 4)).take 4)
      rw [hw0, oRow_at hp]
      refine VRs.cons (by simp only [VR, Ren.s, t4]) (VRs.cons vI (VRs.cons vI (VRs.cons ?_ VRs.nil)))
      show VR _ _ p.2
      rw [hp2]; exact vSl rfl (by decide)
  · exact Ag.agreeS (o := mkY [0, l.length, 0, next, p.1.id, 1, rf p.1] [.bool false, .bool false, rv] [oRow l] [(#[], 0), (#[], 0)]) ⟨⟨rfl, rfl, rfl, rfl, rfl, rfl, trivial⟩, ⟨⟨rfl, hrv⟩, trivial⟩, ⟨rfl, trivial⟩, ⟨rfl, trivial⟩⟩ m1 m2 m3 m4
  · obtain ⟨r5, h5⟩ := hs'.ptr 7 rfl
    obtain ⟨c5, _, v5, _⟩ := hs'.hr.cellsL h5 (l := [.sl (some (9, 0)) 1 (.un 4), .m (some 7)]) rfl
    simp only [VRs, VR] at v5
    obtain ⟨_, _, _, ⟨r9, cap, h9, _⟩, _⟩ := v5
    obtain ⟨c9, g9, v9, _, _, _⟩ := hs'.hr.cellsL h9 (l := [.y .i64 4, .i .i64 0, .i .i64 0, .sl (some (13, 0)) 1 (.kn 1)]) rfl
    simp only [VRs, VR] at v9
    obtain ⟨_, _, v9, rfl, _, _, rfl, rfl, _, _, rfl, rfl, _, _, rfl, ⟨r13, h13, _, rfl⟩, rfl⟩ := v9
    obtain ⟨c13, g13, v13, _, z13, _⟩ := hs'.hr.cellsL h13 (l := [k, v, .s [], .sl none 0 (.kn 0)]) rfl
    have z13 := z13 rfl
    have hc13 : c13 = valC p.1 := by
      have := (hkn φ' (congrFun e1 6)).2 _ v13
      rw [List.take_of_length_le (by rw [Array.length_toList, z13]; exact Nat.le_refl _)] at this
      exact Array.toList_inj.1 this
    subst hc13
    have e4' : φ'.s 4 = p.1.id := congrFun e1 4
    have hag : Agree sur_TC φ' (hOf 14 (sur_G0 (.cells [k, v, .s [], .sl none 0 (.kn 0)] 70 false))) w'' (mkY [(0 + 1 : Nat), l.length, 0, next] [.bool false, .bool false, rv] [oRow l, [], oRow [(p.1, .slice (some ⟨r13, 0, none⟩) 1 1)]] [(#[], 0), pm l 1]) := by
      refine mkAgree ⟨(congrFun e1 0).symm, (congrFun e1 1).symm, (congrFun e1 3).symm, trivial⟩ ⟨?_, trivial⟩ ⟨(congrFun e3 0).symm, ?_, trivial⟩ ⟨?_, trivial⟩
      · simp only [VR]; exact ⟨(congrFun e2 2).symm, hrv⟩
      · intro r cs e hr hcs
        rw [h9] at hr; cases hr
        rw [g9] at hcs; cases hcs
        refine ⟨fun z l e h => ?_, fun l' e g h => ?_⟩
        · rw [hOf_get] at h; cases h
        · rw [hOf_get] at h; cases h
          show oRow [(p.1, .slice (some ⟨r13, 0, none⟩) 1 1)] = c9.toList.take 4
          have v9' : c9.toList.take 4 = _ := v9
          rw [v9', e4']; rfl
      · intro r es m hr hes
        obtain ⟨es', c', g7, mu, _⟩ := hs'.hr.smpL hr (x := 1) (d := .int .i64) (us := [(.y .i64 4, some (.y .i64 7))]) rfl
        rw [hes] at g7; cases g7
        simp only [MU, VR] at mu
        obtain ⟨_, _, rfl, rfl, _, mu⟩ := mu
        rw [mu]
        have g1 : φ'.g 1 = (#[], 0) := congrFun e4 1
        have e7 : φ'.s 7 = 0 := congrFun e1 7
        rw [g1, e7, e4']
        show pm l 1 = _
        simp [pm, lastId, hp]
    obtain ⟨φ2, hs2, k1, k2, k3, k4⟩ := hs'.conv hconv _ hag
    · refine ⟨rfl, φ2, [(p.1, .slice (some ⟨r13, 0, none⟩) 1 1)], hs2, hd', hg.trans hg', ⟨k1, k2, k3, k4⟩, ?_, ?_⟩
      · cases l with
        | nil => cases hp
        | cons x xs => cases hp; rfl
      · intro q hq
        simp at hq; subst hq
        exact ⟨r13, rfl, g13⟩

theorem sur_round1 {w : World} {l : List (O × Value)} {rv : Value} {next : Nat} (hrv : rv.oneCell' = true) {i : Nat} {p : O × Value} (hp : l[i + 1]? = some p) (hval : IsVal w p) (hid : 1 ≤ p.1.id ∧ p.1.id ≤ 100000) (href : p.1.ref ≤ 100000) (hln : l.length ≤ 100000) {k v : V} (hkn : KN k v p.1)
    (hrun : runsL (withF E0 sur_F1) 400 ((roundOf (c26.drop 9)).take 100) (frOf 67 sur_L0) (hOf 14 ((13, .rc [k, v, .s [], .sl none 0 (.kn 0)] 70) :: sur_H1)) .n sur_T1 67 sur_L0 14 (sur_G1 (.cells [k, v, .s [], .sl none 0 (.kn 0)] 70 false)) = true)
    (hconv : (mAll sur_TC (frOf 67 sur_L0) (hOf 14 (sur_G1 (.cells [k, v, .s [], .sl none 0 (.kn 0)] 70 false))) 67 sur_L0 13 sur_H1).isSome = true)
    {a : Act} {w' : World} {n : Nat} (hi : SurInv w l rv next (i + 1) a w') : wpCs none n E0.P (fun e a' w'' => e = .normal ∧ SurInv w l rv next (i + 2) a' w'') (roundOf (c26.drop 9)) a w' := by
  obtain ⟨φ, late, hs, hd, hg, ⟨n1, n2, n3, n4⟩, hlate, hlv⟩ := hi
  obtain ⟨φ1, hs1, m1, m2, m3, m4⟩ := hs.resym sur_S1 (y := mkY [(i + 1 : Nat), l.length, 0, next, p.1.id, i + 2, rf p.1, 0, late.length] [.bool false, .bool false, rv] [oRow l, [], oRow late] [(#[], 0), pm l (i + 1)])
    ⟨⟨(congrFun n1 0).symm, (congrFun n1 1).symm, (congrFun n1 3).symm, trivial⟩, ⟨⟨(congrFun n2 2).symm, hrv⟩, trivial⟩, ⟨(congrFun n3 0).symm, (congrFun n3 2).symm, trivial⟩, ⟨(congrFun n4 1).symm, trivial⟩⟩
  have hll : i + 1 < l.length := by
    rcases Nat.lt_or_ge (i + 1) l.length with h | h
    · exact h
    · rw [List.getElem?_eq_none h] at hp; cases hp
  have hlen : late.length = i + 1 := by
    have := congrArg List.length hlate
    simp only [List.length_map, List.length_take] at this
    omega
  have hrf : 1 ≤ rf p.1 ∧ rf p.1 ≤ 100000 := by unfold rf; split <;> omega
  obtain ⟨r, hp2, hr⟩ := hval
  have hr' := hg.at_ rfl hr
  have s6 : φ1.s 6 = ((rf p.1 : Nat) : Int) := congrFun m1 6
  have hst := hs1.reveal hr' rfl 99 .top (.rc [k, v, .s [], .sl none 0 (.kn 0)] 70) (fun h => h) ⟨_, rfl, by
    rw [List.take_of_length_le (by rw [Array.length_toList, valC_size]; exact Nat.le_refl 4)]
    exact (hkn φ1 s6).1, by rw [valC_size]; exact Nat.le_refl 4, rfl⟩ (by simp only [VR])
  refine StAt.runL (withF_ok E0_ok sur_F1) rfl 100 (cs := roundOf (c26.drop 9)) hrun hst (FactsOK.bd' ?_) hd (mkY [i + 2, l.length, 0, next, p.1.id, 0, rf p.1, (i + 1 : Nat)] [.bool false, .bool false, rv] [oRow l, [], oRow late] [(#[], 0), pm l (i + 1)]) ?_ fun φ' a' w'' hs' hd' hg' hk e1 e2 e3 e4 => ?_
  · have t0 : (up φ1 13 r (valC p.1).size).y.s 0 = (i + 1 : Nat) := congrFun m1 0
    have t1 : (up φ1 13 r (valC p.1).size).y.s 1 = l.length := congrFun m1 1
    have t4 : (up φ1 13 r (valC p.1).size).y.s 4 = p.1.id := congrFun m1 4
    have t5 : (up φ1 13 r (valC p.1).size).y.s 5 = i + 2 := congrFun m1 5
    have t6 : (up φ1 13 r (valC p.1).size).y.s 6 = rf p.1 := congrFun m1 6
    have t8 : (up φ1 13 r (valC p.1).size).y.s 8 = late.length := congrFun m1 8
    have hw0 : (up φ1 13 r (valC p.1).size).w 0 = oRow l := congrFun m3 0
    have hw2 : (up φ1 13 r (valC p.1).size).w 2 = oRow late := congrFun m3 2
    refine ⟨⟨⟨?_, ?_⟩, ⟨?_, ?_⟩, ⟨?_, ?_⟩, trivial⟩, ⟨?_, ?_, trivial⟩, trivial, ⟨⟨late.length, by decide, ?_, t8⟩, trivial⟩, ⟨⟨by decide, rfl, i + 1, t0, ?_, ?_⟩, trivial⟩, trivial, trivial, trivial, trivial⟩
    · show (1 : Int) ≤ _; simp only [Ren.s, t4]; omega
    · show _ ≤ (100000 : Int); simp only [Ren.s, t4]; omega
    · show (1 : Int) ≤ _; simp only [Ren.s, t6]; omega
    · show _ ≤ (100000 : Int); simp only [Ren.s, t6]; omega
    · show (0 : Int) ≤ _; simp only [Ren.s, t8]; omega
    · show _ ≤ (100000 : Int); simp only [Ren.s, t8]; omega
    · exact .lss (k := .i64) (x := (i + 1 : Nat)) (y := l.length) (by simp only [ival, t0]) (by simp only [ival, t1]) (by simp; omega)
    · exact .add (k := .i64) (x := (i + 1 : Nat)) (y := 1) (by simp only [ival, t0]) rfl (by simp only [ival, t5]; congr 2 <;> omega) (i64_in (by omega))
    · show late.length * 4 = _
      rw [hw2, oRow_len]
    · show (i + 1 + 1) * 4 ≤ _
      rw [hw0, oRow_len]; omega
    · show VRs _ [.y .i64 4, .i .i64 0, .i .i64 0, .sl (some (13, 0)) 1 (.kn 1)] ((((up φ1 13 r (valC p.1).size).w 0).drop ((i + 1) * 4)).take 4)
      rw [hw0, oRow_at hp]
      refine VRs.cons (by simp only [VR, Ren.s, t4]) (VRs.cons vI (VRs.cons vI (VRs.cons ?_ VRs.nil)))
      show VR _ _ p.2
      rw [hp2]; exact vSl rfl (by decide)
  · exact Ag.agreeS (o := mkY [(i + 1 : Nat), l.length, 0, next, p.1.id, i + 2, rf p.1, 0, late.length] [.bool false, .bool false, rv] [oRow l, [], oRow late] [(#[], 0), pm l (i + 1)]) ⟨⟨rfl, rfl, rfl, rfl, rfl, rfl, trivial⟩, ⟨⟨rfl, hrv⟩, trivial⟩, ⟨rfl, rfl, trivial⟩, ⟨rfl, trivial⟩⟩ m1 m2 m3 m4
  · obtain ⟨r5, h5⟩ := hs'.ptr 7 rfl
    obtain ⟨c5, _, v5, _⟩ := hs'.hr.cellsL h5 (l := [.sr 9 2 1 4, .m (some 7)]) rfl
    simp only [VRs, VR] at v5
    obtain ⟨_, _, _, ⟨r9, _, _, h9, _⟩, _⟩ := v5
    obtain ⟨c9, vs9, g9, v9, w9, _, _⟩ := hs'.hr.rowL h9 (x := 2) (l := [.y .i64 4, .i .i64 0, .i .i64 0, .sl (some (13, 0)) 1 (.kn 1)]) rfl
    simp only [VRs, VR] at v9
    obtain ⟨_, _, rfl, rfl, _, _, rfl, rfl, _, _, rfl, rfl, _, _, rfl, ⟨r13, h13, _, rfl⟩, rfl⟩ := v9
    obtain ⟨c13, g13, v13, _, z13, _⟩ := hs'.hr.cellsL h13 (l := [k, v, .s [], .sl none 0 (.kn 0)]) rfl
    have z13 := z13 rfl
    have hc13 : c13 = valC p.1 := by
      have := (hkn φ' (congrFun e1 6)).2 _ v13
      rw [List.take_of_length_le (by rw [Array.length_toList, z13]; exact Nat.le_refl _)] at this
      exact Array.toList_inj.1 this
    subst hc13
    have e4' : φ'.s 4 = p.1.id := congrFun e1 4
    have hag : Agree sur_TC φ' (hOf 14 (sur_G1 (.cells [k, v, .s [], .sl none 0 (.kn 0)] 70 false))) w'' (mkY [(i + 2 : Nat), l.length, 0, next] [.bool false, .bool false, rv] [oRow l, [], oRow (late ++ [(p.1, .slice (some ⟨r13, 0, none⟩) 1 1)])] [(#[], 0), pm l (i + 2)]) := by
      refine mkAgree ⟨?_, (congrFun e1 1).symm, (congrFun e1 3).symm, trivial⟩ ⟨?_, trivial⟩ ⟨(congrFun e3 0).symm, ?_, trivial⟩ ⟨?_, trivial⟩
      · show ((i + 2 : Nat) : Int) = φ'.s 0
        have : φ'.s 0 = (i : Int) + 2 := congrFun e1 0
        rw [this]; omega
      · simp only [VR]; exact ⟨(congrFun e2 2).symm, hrv⟩
      · intro r cs e hr hcs
        rw [h9] at hr; cases hr
        rw [g9] at hcs; cases hcs
        refine ⟨fun z l e h => ?_, fun l' e g h => ?_⟩
        · rw [hOf_get] at h; cases h
          show oRow (late ++ [(p.1, .slice (some ⟨r13, 0, none⟩) 1 1)]) = _
          have hw2 : φ'.w 2 = oRow late := congrFun e3 2
          rw [w9, hw2, e4']
          simp [oRow, oCells]
        · rw [hOf_get] at h; cases h
      · intro r es m hr hes
        obtain ⟨es', c', g7, mu, _⟩ := hs'.hr.smpL hr (x := 1) (d := .int .i64) (us := [(.y .i64 4, some (.y .i64 7))]) rfl
        rw [hes] at g7; cases g7
        simp only [MU, VR] at mu
        obtain ⟨_, _, rfl, rfl, _, mu⟩ := mu
        rw [mu]
        have g1 : φ'.g 1 = pm l (i + 1) := congrFun e4 1
        have e7 : φ'.s 7 = (i + 1 : Nat) := congrFun e1 7
        rw [g1, e7, e4']
        show pm l (i + 2) = _
        rw [pm]; simp [lastId, hp]
    obtain ⟨φ2, hs2, k1, k2, k3, k4⟩ := hs'.conv hconv _ hag
    refine ⟨rfl, φ2, late ++ [(p.1, .slice (some ⟨r13, 0, none⟩) 1 1)], hs2, hd', hg.trans hg', ⟨k1, k2, k3, k4⟩, ?_, ?_⟩
    · rw [List.map_append, hlate, List.take_add_one (i := i + 1), hp]; simp
    · intro q hq
      rcases List.mem_append.1 hq with h | h
      · exact (hlv q h).kept fun r c h => hk.c r c 70 rfl h
      · simp at h; subst h
        exact ⟨r13, rfl, g13⟩

end Go.Ev
