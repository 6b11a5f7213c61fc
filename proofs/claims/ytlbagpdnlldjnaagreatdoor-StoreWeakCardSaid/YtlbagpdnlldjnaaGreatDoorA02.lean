/- The abstract machine, part D: operations that only compute: structs, places, indexes, arithmetic, comparisons. -/
import Derived.Test.YtlbagpdnlldjnaaGreatDoorA01
import Derived.IntWalk
import Derived.Laws.Strings2
import Derived.Laws.StructEq
import Derived.Deep.AppendSrc
set_option linter.all false
namespace Go.Ev
noncomputable section
def PRs (φ : Ren) : List (Nat × V) → List (Nat × Value) → Prop
 | [], l => l = []
 | (i, x) :: xs, l => ∃ y ys, l = (i, y) :: ys ∧ VR φ x y ∧ PRs φ xs ys
def spliceR : List Value → Nat → List Value → List Value
 | l, _, [] => l
 | l, o, c :: cs => spliceR (l.set o c) (o + 1) cs
theorem splice_ok {φ : Ren} : ∀ {cs : List V} {vs : List Value} {l : List V} {m : List Value} (o : Nat), VRs φ l m → VRs φ cs vs → VRs φ (splice l o cs) (spliceR m o vs)
 | [], vs, l, m, o, h, h' => by simp only [VRs] at h'; subst h'; rw [splice_nil]; exact h
 | c :: cs, vs, l, m, o, h, h' => by
  simp only [VRs] at h'
  obtain ⟨y, ys, rfl, h1, h2⟩ := h'
  rw [splice_cons]
  exact splice_ok (o + 1) (h.set o h1) h2
theorem foldl_splice (off : Nat) : ∀ (vs : List Value) (k : Nat) (arr : Array Value),
  ((vs.zipIdx k).foldl (fun (cs : Array Value) (x : Value × Nat) => cs.setIfInBounds (off + x.2) x.1) arr).toList = spliceR arr.toList (off + k) vs
 | [], _, _ => rfl
 | v :: vs, k, arr => by
  simp only [List.zipIdx_cons, List.foldl_cons, spliceR]
  rw [foldl_splice off vs (k + 1)]
  simp [Nat.add_assoc]
def aFill (place : Nat → Option (Nat × Nat)) : List V → List (Nat × V) → Option (List V)
 | cells, [] => some cells
 | cells, (i, v) :: rest =>
  match place i, cellsV v with
  | some (off, size), some cs => cond (Nat.beq cs.length size && Nat.ble (off + cs.length) cells.length) (aFill place (splice cells off cs) rest) none
  | _, _ => none
theorem aFill_ok {φ : Ren} (place : Nat → Option (Nat × Nat)) : ∀ (parts : List (Nat × V)) (parts' : List (Nat × Value)) (cells out : List V) (rc : Array Value),
  PRs φ parts parts' → VRs φ cells rc.toList → aFill place cells parts = some out → ∃ rc', Instr.fill place rc parts' = some rc' ∧ VRs φ out rc'.toList
 | [], parts', cells, out, rc, hp, hc, h => by
  simp only [PRs] at hp; subst hp
  simp only [aFill, Option.some.injEq] at h; subst h
  exact ⟨rc, rfl, hc⟩
 | (i, x) :: ps, parts', cells, out, rc, hp, hc, h => by
  simp only [PRs] at hp
  obtain ⟨y, ys, rfl, h1, h2⟩ := hp
  simp only [aFill] at h
  split at h
  ·rename_i off size cs hpl hcs
   cases hb : Nat.beq cs.length size && Nat.ble (off + cs.length) cells.length with
   | false => rw [hb] at h; cases h
   | true =>
    rw [hb] at h
    simp only [cond] at h
    simp only [Bool.and_eq_true] at hb
    have hs : cs.length = size := Nat.eq_of_beq_eq_true hb.1
    have hle : off + cs.length ≤ cells.length := by simpa using hb.2
    have hv := cellsV_ok h1 hcs
    have hlv : y.cells.size = cs.length := by simpa using hv.length
    have hlc : rc.size = cells.length := by simpa using hc.length
    have hfold : (y.cells.zipIdx.foldl (fun cs (x : Value × Nat) => cs.setIfInBounds (off + x.2) x.1) rc).toList = spliceR rc.toList off y.cells.toList := by
     rw [← Array.foldl_toList, Array.toList_zipIdx]
     exact foldl_splice off y.cells.toList 0 rc
    obtain ⟨rc', h3, h4⟩ := aFill_ok place ps ys (splice cells off cs) out (y.cells.zipIdx.foldl (fun cs (x : Value × Nat) => cs.setIfInBounds (off + x.2) x.1) rc) h2
     (by rw [hfold]; exact splice_ok off hc hv) h
    refine ⟨rc', ?_, h4⟩
    simp only [Instr.fill, hpl]
    rw [if_neg (by simp [hlv, hs]; omega)]
    exact h3
  ·cases h
def aParts (ng : Nat) (fr : Fr) (ps : List (Nat × Operand)) : List (Nat × V) := ps.map fun p => (p.1, ev ng fr p.2)
theorem aParts_ok {ng : Nat} {φ : Ren} {fr : Fr} {a : Act} (hg : GL ng φ) (hf : FR φ fr a.tmps) : ∀ ps : List (Nat × Operand), PRs φ (aParts ng fr ps) (ps.map fun p => (p.1, a.eval p.2))
 | [] => by simp [aParts, PRs]
 | (i, x) :: ps => by
  simp only [aParts, List.map_cons, PRs]
  exact ⟨_, _, rfl, ev_ok hg hf x, aParts_ok hg hf ps⟩
def aPlaces (E : Env) : List Field → Option (List (Nat × Nat))
 | [] => some []
 | f :: fs =>
  match E.tt f.type, aPlaces E fs with
  | some (i, _), some l => some ((f.offset, i.size) :: l)
  | _, _ => none
theorem aPlaces_ok {E : Env} (hE : E.OK) : ∀ (fs : List Field) (l : List (Nat × Nat)), aPlaces E fs = some l → fs.mapM (fun f => (E.P.info? f.type).map fun i => (f.offset, i.size)) = some l
 | [], l, h => by simp only [aPlaces, Option.some.injEq] at h; subst h; rfl
 | f :: fs, l, h => by
  simp only [aPlaces] at h
  split at h
  ·rename_i i d l' h1 h2
   simp only [Option.some.injEq] at h; subst h
   have := aPlaces_ok hE fs l' h2
   simp [List.mapM_cons, (hE.ty _ _ _ h1).1, this]
  ·cases h
def aBuild (E : Env) (t : TypeId) (parts : List (Nat × V)) (h : H) : Option (V × H) :=
 match E.tt t with
 | some (it, .array _ e) =>
  match it.zero, E.tt e with
  | some z, some (ie, _) =>
   match aFill (fun i => some (i * ie.size, ie.size)) (z.cells.toList.map cv0) parts with
   | some cs => some (.a cs, h)
   | none => none
  | _, _ => none
 | some (it, .struct fields) =>
  match it.zero, aPlaces E fields.toList with
  | some z, some places =>
   match aFill (fun i => places[i]?) (z.cells.toList.map cv0) parts with
   | some cs => some (.a cs, h)
   | none => none
  | _, _ => none
 | _ => none
theorem aBuild_ok {E : Env} (hE : E.OK) {φ : Ren} {h : H} {w : World} (hr : HR φ h w) (t : TypeId) {parts : List (Nat × V)} {parts' : Array (Nat × Value)} (hp : PRs φ parts parts'.toList) :
  Yields E.P φ w (do pure (.value (← Instr.build t parts'))) (aBuild E t parts h) := by
 unfold aBuild
 split
 ·rename_i it n e ht
  obtain ⟨hi, hu⟩ := hE.ty _ _ _ ht
  split
  ·rename_i z ie de hz he
   split
   ·rename_i cs hcs
    obtain ⟨rc, h1, h2⟩ := aFill_ok _ parts parts'.toList _ cs z.cells hp (cv0s_ok φ z.cells.toList) hcs
    refine Yields.pure hr (v := .agg rc) ?_ (by simp only [VR]; exact ⟨_, rfl, h2⟩)
    have hb : E.P.built t parts'.toList = some rc := by simp [Program.built, hi, hu, hz, (hE.ty _ _ _ he).1, h1]
    simp [run_build w t parts' rc hb]
   ·exact Yields.none
  ·exact Yields.none
 ·rename_i it fields ht
  obtain ⟨hi, hu⟩ := hE.ty _ _ _ ht
  split
  ·rename_i z places hz hpl
   split
   ·rename_i cs hcs
    obtain ⟨rc, h1, h2⟩ := aFill_ok _ parts parts'.toList _ cs z.cells hp (cv0s_ok φ z.cells.toList) hcs
    refine Yields.pure hr (v := .agg rc) ?_ (by simp only [VR]; exact ⟨_, rfl, h2⟩)
    have hb : E.P.built t parts'.toList = some rc := by
     have e : (fun (x : Nat) => places.toArray[x]?) = fun i => places[i]? := by funext x; simp
     simp only [Program.built, hi, hu, hz, aPlaces_ok hE _ _ hpl, e, h1]
    simp [run_build w t parts' rc hb]
   ·exact Yields.none
  ·exact Yields.none
 ·exact Yields.none
def zeros (z : List V) (n : Nat) : List V := (List.range n).map fun j => (z[j % z.length]?).getD .top
theorem zeros_ok {φ : Ren} (z : Array Value) (n : Nat) : VRs φ (zeros (z.toList.map cv0) n) ((Array.range n).map (z[· % z.size]!)).toList := by
 have key : ∀ l : List Nat, VRs φ (l.map fun j => ((z.toList.map cv0)[j % (z.toList.map cv0).length]?).getD .top) (l.map (z[· % z.size]!)) := by
  intro l
  induction l with
  | nil => exact VRs.nil
  | cons j l ih =>
   refine VRs.cons ?_ ih
   simp only [List.length_map, Array.length_toList, List.getElem?_map]
   cases hg : z.toList[j % z.size]? with
   | none => simp only [Option.map_none, Option.getD_none, VR]
   | some v =>
    simp only [Option.map_some, Option.getD_some]
    have : z[j % z.size]! = v := by
     have h2 : z[j % z.size]? = some v := by simpa using hg
     rw [getElem!_def, h2]
    rw [this]
    exact cv0_ok φ v
 simpa [zeros] using key (List.range n)
def aBuildSlice0 (E : Env) (t : TypeId) (len : Nat) (parts : List (Nat × V)) (h : H) : Option (V × H) :=
 match E.tt t with
 | some (_, .slice e) =>
  match E.tt e with
  | some (ie, _) =>
   match ie.zero with
   | some z =>
    match aFill (fun i => some (i * ie.size, ie.size)) (zeros (z.cells.toList.map cv0) (len * ie.size)) parts with
    | some cs => cond (Nat.beq (len * ie.size) 0 || Nat.blt 16777216 (len * ie.size)) none (some (.sl (some (h.n, 0)) len (.kn len), h.new (.cells cs e false)))
    | none => none
   | none => none
  | none => none
 | _ => none
theorem aBuildSlice0_ok {E : Env} (hE : E.OK) {φ : Ren} {h : H} {w : World} (hr : HR φ h w) (t : TypeId) (len : Nat) {parts : List (Nat × V)} {parts' : Array (Nat × Value)} (hp : PRs φ parts parts'.toList) :
  Yields E.P φ w (do pure (.value (← Instr.buildSlice t len parts'))) (aBuildSlice0 E t len parts h) := by
 unfold aBuildSlice0
 split
 ·rename_i it e ht
  obtain ⟨hi, hu⟩ := hE.ty _ _ _ ht
  split
  ·rename_i ie de he
   obtain ⟨hie, _⟩ := hE.ty _ _ _ he
   split
   ·rename_i z hz
    split
    ·rename_i cs hcs
     intro y h' hy
     cases hb : Nat.beq (len * ie.size) 0 || Nat.blt 16777216 (len * ie.size) with
     | true => rw [hb] at hy; cases hy
     | false =>
      rw [hb] at hy
      simp only [cond, Option.some.injEq, Prod.mk.injEq] at hy
      obtain ⟨rfl, rfl⟩ := hy
      simp only [Bool.or_eq_false_iff] at hb
      have hpos : ¬ len * ie.size = 0 := fun e => by rw [e] at hb; cases hb.1
      have hsm : ¬ len * ie.size > 2 ^ 24 := fun e => by
       have : Nat.blt 16777216 (len * ie.size) = true := by simp only [Nat.blt]; exact Nat.ble_eq_true_of_le (by omega)
       rw [this] at hb; cases hb.2
      obtain ⟨rc, h1, h2⟩ := aFill_ok _ parts parts'.toList _ cs _ hp (zeros_ok z.cells (len * ie.size)) hcs
      obtain ⟨g1, g2, g3⟩ := new_ok hr e (vs := rc) h2
      refine ⟨_, .slice (some ⟨w.heap.size, 0, none⟩) len len, _, .inl ?_, g2, ?_, g1⟩
      ·have := run_buildSlice (P := E.P) w t e len parts' rc ie z hu hie hz hsm hpos h1
       simp only [Sem.run_bind, this, Result.andThen_ok, Sem.run_pure]
       rfl
      ·simp only [VR]; exact ⟨_, g3, Nat.le_refl _, rfl⟩
    ·exact Yields.none
   ·exact Yields.none
  ·exact Yields.none
 ·exact Yields.none
def aBuildSlice (E : Env) (t : TypeId) (len : Nat) (parts : List (Nat × V)) (h : H) : Option (V × H) :=
 match len, parts with
 | 0, [] =>
  match E.tt t with
  | some (_, .slice e) =>
   match E.tt e with
   | some _ => some (.sl (some (h.n, 0)) 0 (.kn 0), h.new (.cells [] e false))
   | none => none
  | _ => none
 | _, _ => aBuildSlice0 E t len parts h
theorem aBuildSlice_ok {E : Env} (hE : E.OK) {φ : Ren} {h : H} {w : World} (hr : HR φ h w) (t : TypeId) (len : Nat) {parts : List (Nat × V)} {parts' : Array (Nat × Value)} (hp : PRs φ parts parts'.toList) :
  Yields E.P φ w (do pure (.value (← Instr.buildSlice t len parts'))) (aBuildSlice E t len parts h) := by
 unfold aBuildSlice
 split
 ·split
  ·rename_i it e ht
   obtain ⟨hi, hu⟩ := hE.ty _ _ _ ht
   split
   ·rename_i td he
    obtain ⟨ie, de⟩ := td
    obtain ⟨hie, _⟩ := hE.ty _ _ _ he
    intro y h' hy
    simp only [Option.some.injEq, Prod.mk.injEq] at hy
    obtain ⟨rfl, rfl⟩ := hy
    simp only [PRs] at hp
    obtain ⟨g1, g2, g3⟩ := new_ok hr e (cs := []) (vs := #[]) VRs.nil
    refine ⟨_, .slice (some ⟨w.heap.size, 0, none⟩) 0 0, _, .inl ?_, g2, ?_, g1⟩
    ·have hnil : parts' = #[] := Array.toList_eq_nil_iff.1 hp
     subst hnil
     have hrun : (Instr.buildSlice t 0 #[]).run E.P w = .ok (.slice (some ⟨w.heap.size, 0, none⟩) 0 0) { w with heap := w.heap.push (.cells #[] e) } := by
      have hz : Array.map (fun _ => (default : Value)) (Array.range 0) = #[] := by simp [Array.range]
      simp [Instr.buildSlice, run_underlying hu, run_sizeOf hie, Instr.fill, newRow]
      rw [hz]
     simp only [Sem.run_bind, hrun, Result.andThen_ok, Sem.run_pure]
    ·simp only [VR]; exact ⟨_, g3, Nat.le_refl _, rfl⟩
   ·exact Yields.none
  ·exact Yields.none
 ·exact aBuildSlice0_ok hE hr t len hp
def aFieldAddr (E : Env) (s : TypeId) (x : V) (f : Nat) (h : H) : Option (V × H) :=
 match E.tt s, x with
 | some (_, .struct fields), .p (some (b, o)) =>
  match fields[f]? with
  | some fd =>
   match E.tt fd.type with
   | some (i, _) => cond (Nat.beq i.size 0) none (some (.p (some (b, o + fd.offset)), h))
   | none => none
  | none => none
 | some (_, .struct fields), .pr b x y sz o =>
  match fields[f]? with
  | some fd =>
   match E.tt fd.type with
   | some (i, _) => cond (Nat.beq i.size 0) none (some (.pr b x y sz (o + fd.offset), h))
   | none => none
  | none => none
 | _, _ => none
theorem aFieldAddr_ok {E : Env} (hE : E.OK) {φ : Ren} {h : H} {w : World} (hr : HR φ h w) (s : TypeId) {x : V} {v : Value} (hx : VR φ x v) (f : Nat) :
  Yields E.P φ w (do pure (.value (← Instr.fieldAt s v f))) (aFieldAddr E s x f h) := by
 unfold aFieldAddr
 split
 ·rename_i i fields b o hs
  obtain ⟨_, hu⟩ := hE.ty _ _ _ hs
  simp only [VR] at hx
  obtain ⟨r, hb, rfl⟩ := hx
  split
  ·rename_i fd hfd
   split
   ·rename_i i' d' hi'
    cases hz : Nat.beq i'.size 0 with
    | true => exact Yields.none
    | false =>
     have hz' : ¬ i'.size = 0 := fun e => by rw [e] at hz; cases hz
     simp only [cond]
     refine Yields.pure hr (v := .pointer (some ⟨r, o + fd.offset, none⟩)) ?_ (by simp only [VR]; exact ⟨r, hb, rfl⟩)
     simp [Instr.fieldAt, run_underlying hu, hfd, Instr.sureAddr, fieldPlace, run_sizeOf (hE.ty _ _ _ hi').1, hz', Addr.add_lit]
   ·exact Yields.none
  ·exact Yields.none
 ·rename_i i fields b x y sz o hs
  obtain ⟨_, hu⟩ := hE.ty _ _ _ hs
  simp only [VR] at hx
  obtain ⟨r, n, hb, hn, rfl⟩ := hx
  split
  ·rename_i fd hfd
   split
   ·rename_i i' d' hi'
    cases hz : Nat.beq i'.size 0 with
    | true => exact Yields.none
    | false =>
     have hz' : ¬ i'.size = 0 := fun e => by rw [e] at hz; cases hz
     simp only [cond]
     refine Yields.pure hr (v := .pointer (some ⟨r, n * sz + (o + fd.offset), none⟩)) ?_ (by simp only [VR]; exact ⟨r, n, hb, hn, rfl⟩)
     simp [Instr.fieldAt, run_underlying hu, hfd, Instr.sureAddr, fieldPlace, run_sizeOf (hE.ty _ _ _ hi').1, hz', Addr.add_lit, Nat.add_assoc]
   ·exact Yields.none
  ·exact Yields.none
 ·exact Yields.none
def aPart (E : Env) (t : TypeId) (cs : List V) (off : Nat) : Option V :=
 match E.tt t with
 | some (i, d) => cond (aggD d) (some (.a ((cs.drop off).take i.size))) (cs[off]?)
 | none => none
theorem aPart_ok {E : Env} (hE : E.OK) {φ : Ren} (w : World) (t : TypeId) {cs : List V} {vs : Array Value} (hc : VRs φ cs vs.toList) (off : Nat) {x : V} (hx : aPart E t cs off = some x) :
  ∃ v, (part t vs off).run E.P w = .ok v w ∧ VR φ x v := by
 unfold aPart at hx
 split at hx
 ·rename_i i d ht
  obtain ⟨hi, hu⟩ := hE.ty _ _ _ ht
  cases ha : aggD d with
  | true =>
   rw [ha] at hx
   simp only [cond, Option.some.injEq] at hx
   subst hx
   refine ⟨.agg (vs.extract off (off + i.size)), by simp [part, run_isAgg hu, ha, run_sizeOf hi], ?_⟩
   simp only [VR]
   refine ⟨_, rfl, ?_⟩
   have e : (vs.extract off (off + i.size)).toList = (vs.toList.drop off).take i.size := by simp [List.extract_eq_take_drop]
   rw [e]
   exact (hc.drop off).take i.size
  | false =>
   rw [ha] at hx
   simp only [cond] at hx
   obtain ⟨v, hv, hxv⟩ := hc.get hx
   have hv' : vs[off]? = some v := by simpa using hv
   exact ⟨v, by simp [part, run_isAgg hu, ha, hv'], hxv⟩
 ·cases hx
def aField (E : Env) (t : TypeId) (x : V) (f : Nat) (h : H) : Option (V × H) :=
 match E.tt t, x with
 | some (_, .struct fields), .a cs =>
  match fields[f]? with
  | some fd =>
   match aPart E fd.type cs fd.offset with
   | some y => some (y, h)
   | none => none
  | none => none
 | _, _ => none
theorem aField_ok {E : Env} (hE : E.OK) {φ : Ren} {h : H} {w : World} (hr : HR φ h w) (t : TypeId) {x : V} {v : Value} (hx : VR φ x v) (f : Nat) :
  Yields E.P φ w (do pure (.value (← Instr.field t v f))) (aField E t x f h) := by
 unfold aField
 split
 ·rename_i i fields cs ht
  obtain ⟨_, hu⟩ := hE.ty _ _ _ ht
  simp only [VR] at hx
  obtain ⟨vs, rfl, hc⟩ := hx
  split
  ·rename_i fd hfd
   split
   ·rename_i y hy
    obtain ⟨v, h1, h2⟩ := aPart_ok hE w fd.type hc fd.offset hy
    exact Yields.pure hr (v := v) (by simp [Instr.field, run_underlying hu, hfd, asAgg, h1]) h2
   ·exact Yields.none
  ·exact Yields.none
 ·exact Yields.none
theorem VR.slAt {φ : Ren} {b o n : Nat} {c : Cap} {v : Value} (h : VR φ (.sl (some (b, o)) n c) v) : ∃ r cap, φ b = some r ∧ v = .slice (some ⟨r, o, none⟩) n cap := by
 cases c with
 | kn c => simp only [VR] at h; obtain ⟨r, h1, _, rfl⟩ := h; exact ⟨r, c, h1, rfl⟩
 | un sz => simp only [VR] at h; obtain ⟨r, cap, h1, _, _, rfl⟩ := h; exact ⟨r, cap, h1, rfl⟩
theorem blt_iff' {a b : Nat} : Nat.blt a b = true ↔ a < b := by
 rw [Nat.blt]; constructor
 ·intro h; have := Nat.le_of_ble_eq_true h; omega
 ·intro h; exact Nat.ble_eq_true_of_le h
def inB (i : Int) (n : Nat) : Option Nat :=
 match i with
 | .ofNat k => cond (Nat.blt k n) (some k) none
 | .negSucc _ => none
theorem inB_ok {i : Int} {n k : Nat} (h : inB i n = some k) : i = (k : Int) ∧ k < n := by
 unfold inB at h
 split at h
 ·rename_i j
  cases hb : Nat.blt j n with
  | false => rw [hb] at h; cases h
  | true =>
   rw [hb] at h
   simp only [cond, Option.some.injEq] at h
   subst h
   have : j + 1 ≤ n := by simpa [Nat.blt] using hb
   exact ⟨rfl, by omega⟩
 ·cases h
def rowHas (E : Env) (x k y : Nat) : Bool :=
 match E.re x y with
 | some _ => true
 | none =>
  match E.rx x y with
  | some j => Nat.blt j k
  | none => false
theorem rowHas_ok {E : Env} {φ : Ren} (hbd : BD E φ) {x k y n : Nat} (hn : n * E.rz x = (φ.w x).length) (hz : 0 < E.rz x) (h : rowHas E x k y = true) : ∃ m : Nat, φ.s y = ((m : Nat) : Int) ∧ m < n + k := by
 unfold rowHas at h
 split at h
 ·rename_i vs hre
  obtain ⟨_, _, m, hm, hle, _⟩ := hbd.here.re _ _ _ hre
  refine ⟨m, hm, ?_⟩
  rw [← hn] at hle
  have := Nat.le_of_mul_le_mul_right hle hz
  omega
 ·split at h
  ·rename_i j hrx
   obtain ⟨m, _, hm, hs⟩ := hbd.here.rx _ _ _ hrx
   have hnm : n = m := Nat.eq_of_mul_eq_mul_right hz (hn.trans hm.symm)
   have := blt_iff'.1 h
   exact ⟨m + j, hs, by omega⟩
  ·cases h
def aIndexAddr0 (E : Env) (t : TypeId) (x i : V) (h : H) : Option (V × H) :=
 match E.tt t, x, i with
 | some (_, .slice e), .sl (some (b, o)) n _, .i _ k =>
  match E.tt e, inB k n with
  | some (ie, _), some j => some (.p (some (b, o + j * ie.size)), h)
  | _, _ => none
 | some (_, .array n e), .p (some (b, o)), .i _ k =>
  match E.tt e, inB k n with
  | some (ie, _), some j => some (.p (some (b, o + j * ie.size)), h)
  | _, _ => none
 | some (_, .slice e), .sr b x k sz, .y _ y =>
  match E.tt e with
  | some (ie, _) => cond (Nat.beq sz ie.size && Nat.beq sz (E.rz x) && rowHas E x k y) (some (.pr b x y sz 0, h)) none
  | none => none
 | _, _, _ => none
theorem aIndexAddr0_ok {E : Env} (hE : E.OK) {φ : Ren} (hbd : BD E φ) {h : H} {w : World} (hr : HR φ h w) (t : TypeId) {x i : V} {v vi : Value} (hx : VR φ x v) (hi : VR φ i vi) :
  Yields E.P φ w (do pure (.value (← Instr.indexAt t v vi))) (aIndexAddr0 E t x i h) := by
 unfold aIndexAddr0
 split
 ·rename_i it e b o n c kk k ht
  obtain ⟨_, hu⟩ := hE.ty _ _ _ ht
  simp only [VR] at hi
  subst hi
  obtain ⟨r, cap, hb, rfl⟩ := VR.slAt hx
  split
  ·rename_i ie de j he hj
   obtain ⟨rfl, hlt⟩ := inB_ok hj
   refine Yields.pure hr (v := .pointer (some ⟨r, o + j * ie.size, none⟩)) ?_ (by simp only [VR]; exact ⟨r, hb, rfl⟩)
   have hc : (0 : Int) ≤ (j : Int) ∧ (j : Int) < (n : Int) := ⟨by omega, by omega⟩
   simp only [Instr.indexAt, asIntOf, Sem.run_bind, Sem.run_pure, Result.andThen_ok, run_underlying hu]
   rw [if_pos hc]
   simp [run_sizeOf (hE.ty _ _ _ he).1, Addr.add_lit]
  ·exact Yields.none
 ·rename_i it n e b o kk k ht
  obtain ⟨_, hu⟩ := hE.ty _ _ _ ht
  simp only [VR] at hx hi
  obtain ⟨r, hb, rfl⟩ := hx
  subst hi
  split
  ·rename_i ie de j he hj
   obtain ⟨rfl, hlt⟩ := inB_ok hj
   refine Yields.pure hr (v := .pointer (some ⟨r, o + j * ie.size, none⟩)) ?_ (by simp only [VR]; exact ⟨r, hb, rfl⟩)
   have hc : (0 : Int) ≤ (j : Int) ∧ (j : Int) < (n : Int) := ⟨by omega, by omega⟩
   simp only [Instr.indexAt, asIntOf, Sem.run_bind, Sem.run_pure, Result.andThen_ok, run_underlying hu, Instr.sureAddr]
   rw [if_pos hc]
   simp [run_sizeOf (hE.ty _ _ _ he).1, Addr.add_lit]
  ·exact Yields.none
 ·rename_i it e b x k sz kk y ht
  obtain ⟨_, hu⟩ := hE.ty _ _ _ ht
  simp only [VR] at hx hi
  obtain ⟨r, n, cap, hb, hz, hn, hk, hcap, rfl⟩ := hx
  subst hi
  split
  ·rename_i ie de he
   cases hc : Nat.beq sz ie.size && Nat.beq sz (E.rz x) && rowHas E x k y with
   | false => exact Yields.none
   | true =>
    simp only [Bool.and_eq_true] at hc
    have h1 : sz = ie.size := Nat.eq_of_beq_eq_true hc.1.1
    have h2 : sz = E.rz x := Nat.eq_of_beq_eq_true hc.1.2
    obtain ⟨m, hm, hlt⟩ := rowHas_ok hbd (h2 ▸ hn) (h2 ▸ hz) hc.2
    simp only [cond]
    refine Yields.pure hr (v := .pointer (some ⟨r, m * sz + 0, none⟩)) ?_ (by simp only [VR]; exact ⟨r, m, hb, hm, rfl⟩)
    rw [hm]
    have hcnd : (0 : Int) ≤ (m : Int) ∧ (m : Int) < ((n + k : Nat) : Int) := ⟨by omega, by omega⟩
    simp only [Instr.indexAt, asIntOf, Sem.run_bind, Sem.run_pure, Result.andThen_ok, run_underlying hu]
    rw [if_pos hcnd]
    simp [run_sizeOf (hE.ty _ _ _ he).1, Addr.add_lit, h1]
  ·exact Yields.none
 ·exact Yields.none
def aIndexAddr (E : Env) (t : TypeId) (x i : V) (h : H) : Option (V × H) :=
 match x with
 | .q s =>
  match E.xt.oi t s i with
  | some z => some (.q z, h)
  | none => none
 | x => aIndexAddr0 E t x i h
theorem aIndexAddr_ok {E : Env} (hE : E.OK) {φ : Ren} (hbd : BD E φ) {h : H} {w : World} (hr : HR φ h w) (t : TypeId) {x i : V} {v vi : Value} (hx : VR φ x v) (hi : VR φ i vi) :
  Yields E.P φ w (do pure (.value (← Instr.indexAt t v vi))) (aIndexAddr E t x i h) := by
 unfold aIndexAddr
 split
 ·split
  ·rename_i s z e
   simp only [VR] at hx
   obtain ⟨g1, g2⟩ := hbd.here.xt.oi _ _ _ _ e φ (Le.refl φ) vi hi
   rw [hx.1]
   exact Yields.pure hr (v := φ.q z) (by rw [Sem.run_bind, g2]; rfl) (by simp only [VR]; exact ⟨trivial, g1⟩)
  ·exact Yields.none
 ·exact aIndexAddr0_ok hE hbd hr t hx hi
end
end Go.Ev
namespace Go.Ev
noncomputable section
def iLt : Int → Int → Bool
 | .ofNat a, .ofNat b => Nat.blt a b
 | .ofNat _, .negSucc _ => false
 | .negSucc _, .ofNat _ => true
 | .negSucc a, .negSucc b => Nat.blt b a
theorem blt_iff {a b : Nat} : Nat.blt a b = true ↔ a < b := by
 unfold Nat.blt
 rw [Nat.ble_eq]
 exact Iff.rfl
theorem iLt_ok (x y : Int) : iLt x y = true ↔ x < y := by
 cases x with
 | ofNat a =>
  cases y with
  | ofNat b => show Nat.blt a b = true ↔ _; rw [blt_iff]; exact Int.ofNat_lt.symm
  | negSucc b => show false = true ↔ _; rw [Int.negSucc_eq]; constructor <;> intro h <;> first | (cases h; done) | (exfalso; have : (Int.ofNat a : Int) = (a : Int) := rfl; omega)
 | negSucc a =>
  cases y with
  | ofNat b => show true = true ↔ _; rw [Int.negSucc_eq]; have : (Int.ofNat b : Int) = (b : Int) := rfl; constructor <;> intro _ <;> first | rfl | omega
  | negSucc b => show Nat.blt b a = true ↔ _; rw [blt_iff, Int.negSucc_eq, Int.negSucc_eq]; omega
theorem iLt_no (x y : Int) : iLt x y = false ↔ y ≤ x := by
 rw [← Bool.not_eq_true, iLt_ok]; omega
def inRange (k : IntKind) (n : Int) : Bool :=
 match k with
 | .i8 => iLt (-129) n && iLt n 128
 | .i16 => iLt (-32769) n && iLt n 32768
 | .i32 => iLt (-2147483649) n && iLt n 2147483648
 | .i64 => iLt (-9223372036854775809) n && iLt n 9223372036854775808
 | .u8 => iLt (-1) n && iLt n 256
 | .u16 => iLt (-1) n && iLt n 65536
 | .u32 => iLt (-1) n && iLt n 4294967296
 | .u64 => iLt (-1) n && iLt n 18446744073709551616
def fwrap (k : IntKind) (n : Int) : Int := cond (inRange k n) n (k.wrap n)
theorem fwrap_ok (k : IntKind) (n : Int) : fwrap k n = k.wrap n := by
 unfold fwrap
 cases h : inRange k n with
 | false => rfl
 | true =>
  show n = k.wrap n
  cases k <;> simp only [inRange, Bool.and_eq_true, iLt_ok] at h
  ·exact (IntWalk.i8_in n (by omega)).symm
  ·exact (IntWalk.i16_in n (by omega)).symm
  ·exact (IntWalk.i32_in n (by omega)).symm
  ·exact (IntWalk.i64_in n (by omega)).symm
  ·exact (IntWalk.u8_in n (by omega)).symm
  ·exact (IntWalk.u16_in n (by omega)).symm
  ·exact (IntWalk.u32_in n (by omega)).symm
  ·exact (IntWalk.u64_in n (by omega)).symm
def rng (E : Env) : V → Option (IntKind × Int × Int)
 | .i k n => some (k, n, n)
 | .y k x =>
  match E.bd x with
  | some (lo, hi) => some (k, lo, hi)
  | none => none
 | _ => none
theorem rng_ok {E : Env} {φ : Ren} (hb : BD E φ) {x : V} {v : Value} (hx : VR φ x v) {k : IntKind} {lo hi : Int} (h : rng E x = some (k, lo, hi)) : ∃ n, v = .int k n ∧ lo ≤ n ∧ n ≤ hi := by
 unfold rng at h
 split at h
 ·rename_i k' n
  simp only [Option.some.injEq, Prod.mk.injEq] at h
  obtain ⟨rfl, rfl, rfl⟩ := h
  simp only [VR] at hx
  exact ⟨n, hx, Int.le_refl _, Int.le_refl _⟩
 ·rename_i k' y
  split at h
  ·rename_i lo' hi' hbd
   simp only [Option.some.injEq, Prod.mk.injEq] at h
   obtain ⟨rfl, rfl, rfl⟩ := h
   simp only [VR] at hx
   exact ⟨_, hx, hb.here.bd _ _ _ hbd⟩
  ·cases h
 ·cases h
def cLt (l1 h1 l2 h2 : Int) : Option Bool := cond (iLt h1 l2) (some true) (cond (iLt l1 h2) none (some false))
def cEq (l1 h1 l2 h2 : Int) : Option Bool := cond (iLt h1 l2 || iLt h2 l1) (some false) (cond (iLt l1 h1 || iLt l2 h2) none (some true))
theorem cLt_ok {l1 h1 l2 h2 a b : Int} (ha : l1 ≤ a ∧ a ≤ h1) (hb : l2 ≤ b ∧ b ≤ h2) {r : Bool} (h : cLt l1 h1 l2 h2 = some r) : decide (a < b) = r := by
 unfold cLt at h
 cases e1 : iLt h1 l2 with
 | true =>
  rw [e1] at h; simp only [cond, Option.some.injEq] at h; subst h
  rw [iLt_ok] at e1
  exact decide_eq_true (by omega)
 | false =>
  rw [e1] at h; simp only [cond] at h
  cases e2 : iLt l1 h2 with
  | true => rw [e2] at h; cases h
  | false =>
   rw [e2] at h; simp only [Option.some.injEq] at h; subst h
   rw [iLt_no] at e2
   exact decide_eq_false (by omega)
theorem cEq_ok {l1 h1 l2 h2 a b : Int} (ha : l1 ≤ a ∧ a ≤ h1) (hb : l2 ≤ b ∧ b ≤ h2) {r : Bool} (h : cEq l1 h1 l2 h2 = some r) : (a == b) = r := by
 unfold cEq at h
 cases e1 : iLt h1 l2 || iLt h2 l1 with
 | true =>
  rw [e1] at h; simp only [cond, Option.some.injEq] at h; subst h
  simp only [Bool.or_eq_true, iLt_ok] at e1
  exact beq_eq_false_iff_ne.2 (by omega)
 | false =>
  rw [e1] at h; simp only [cond] at h
  cases e2 : iLt l1 h1 || iLt l2 h2 with
  | true => rw [e2] at h; cases h
  | false =>
   rw [e2] at h; simp only [Option.some.injEq] at h; subst h
   simp only [Bool.or_eq_false_iff, iLt_no] at e1 e2
   exact beq_iff_eq.2 (by omega)
def aCmp (E : Env) (op : BinOp) (x y : V) : Option V :=
 match rng E x, rng E y with
 | some (k, l1, h1), some (k', l2, h2) =>
  cond (decide (k = k'))
   (match op with
    | .lss => (cLt l1 h1 l2 h2).map .b
    | .gtr => (cLt l2 h2 l1 h1).map .b
    | .leq => (cLt l2 h2 l1 h1).map fun r => .b (!r)
    | .geq => (cLt l1 h1 l2 h2).map fun r => .b (!r)
    | .eql => (cEq l1 h1 l2 h2).map .b
    | .neq => (cEq l1 h1 l2 h2).map fun r => .b (!r)
    | _ => none) none
 | _, _ => none
theorem aCmp_ok {E : Env} {φ : Ren} (hb : BD E φ) (op : BinOp) (t : TypeId) (ox oy : Operand) {x y : V} {vx vy : Value} (hx : VR φ x vx) (hy : VR φ y vy) {r : V} (h : aCmp E op x y = some r) (w : World) :
  ∃ v, (do eqGuard op t ox oy vx vy; binOp op t vx vy : Sem Value).run E.P w = .ok v w ∧ VR φ r v := by
 unfold aCmp at h
 split at h
 ·rename_i k l1 h1 k' l2 h2 e1 e2
  obtain ⟨a, rfl, ha⟩ := rng_ok hb hx e1
  obtain ⟨b, rfl, hb'⟩ := rng_ok hb hy e2
  by_cases hk : k = k'
  ·subst hk
   simp only [decide_true, cond] at h
   split at h <;> (try simp only [Option.map_eq_some_iff] at h)
   ·obtain ⟨q, hq, rfl⟩ := h
    exact ⟨.bool q, by simp [eqGuard_at_int, binOp_lss, cLt_ok ha hb' hq], by simp only [VR]⟩
   ·obtain ⟨q, hq, rfl⟩ := h
    refine ⟨.bool q, ?_, by simp only [VR]⟩
    have := cLt_ok hb' ha hq
    simp [eqGuard_at_int, binOp_gtr, this]
   ·obtain ⟨q, hq, rfl⟩ := h
    refine ⟨.bool (!q), ?_, by simp only [VR]⟩
    have := cLt_ok hb' ha hq
    have e : decide (a ≤ b) = !q := by rw [← this, ← decide_not]; exact decide_eq_decide.2 (by omega)
    simp [eqGuard_at_int, binOp_leq, e]
   ·obtain ⟨q, hq, rfl⟩ := h
    refine ⟨.bool (!q), ?_, by simp only [VR]⟩
    have := cLt_ok ha hb' hq
    have e : decide (b ≤ a) = !q := by rw [← this, ← decide_not]; exact decide_eq_decide.2 (by omega)
    simp [eqGuard_at_int, binOp_geq, e]
   ·obtain ⟨q, hq, rfl⟩ := h
    exact ⟨.bool q, by simp [eqGuard_at_int, binOp_eql, cEq_ok ha hb' hq], by simp only [VR]⟩
   ·obtain ⟨q, hq, rfl⟩ := h
    exact ⟨.bool (!q), by simp [eqGuard_at_int, binOp_neq, bne, cEq_ok ha hb' hq], by simp only [VR]⟩
   ·cases h
  ·rw [decide_eq_false hk] at h; cases h
 ·cases h
def aArith (op : BinOp) (k : IntKind) (a b : Int) : Option V :=
 match op with
 | .add => some (.i k (fwrap k (a + b)))
 | .sub => some (.i k (fwrap k (a - b)))
 | .mul => some (.i k (fwrap k (a * b)))
 | .quo => cond (decide (b = 0)) none (some (.i k (fwrap k (a.tdiv b))))
 | .rem => cond (decide (b = 0)) none (some (.i k (a.tmod b)))
 | .and => some (.i k (bits .and k a b))
 | .or => some (.i k (bits .or k a b))
 | .xor => some (.i k (bits .xor k a b))
 | .andNot => some (.i k (bits .andNot k a b))
 | _ => none
theorem aArith_ok {P : Program} {φ : Ren} (op : BinOp) (t : TypeId) (ox oy : Operand) (k : IntKind) (a b : Int) {r : V} (h : aArith op k a b = some r) (w : World) :
  ∃ v, (do eqGuard op t ox oy (.int k a) (.int k b); binOp op t (.int k a) (.int k b) : Sem Value).run P w = .ok v w ∧ VR φ r v := by
 unfold aArith at h
 split at h
 case h_4 =>
  by_cases hb : b = 0
  ·rw [decide_eq_true hb] at h; cases h
  ·rw [decide_eq_false hb] at h; simp only [cond, Option.some.injEq] at h; subst h
   exact ⟨_, by simp [eqGuard_at_int, binOp_quo, Op.intDiv, hb]; rfl, by simp only [VR, fwrap_ok]⟩
 case h_5 =>
  by_cases hb : b = 0
  ·rw [decide_eq_true hb] at h; cases h
  ·rw [decide_eq_false hb] at h; simp only [cond, Option.some.injEq] at h; subst h
   exact ⟨_, by simp [eqGuard_at_int, binOp_rem, Op.intDiv, hb]; rfl, by simp only [VR]⟩
 case h_10 => cases h
 all_goals
  simp only [Option.some.injEq] at h; subst h
  refine ⟨_, ?_, by simp only [VR, fwrap_ok]; rfl⟩
  simp [eqGuard_at_int, binOp_add, binOp_sub, binOp_mul, binOp_and, binOp_or, binOp_xor, binOp_andNot, Op.intArith, intBits_and, intBits_or, intBits_xor, intBits_andNot]
def aShift (op : BinOp) (k : IntKind) (a b : Int) : Option V :=
 cond (iLt b 0) none
  (match op with
   | .shl => some (.i k (fwrap k (a * 2 ^ (min b.toNat k.bits))))
   | .shr => some (.i k (a.fdiv (2 ^ (min b.toNat k.bits))))
   | _ => none)
theorem aShift_ok {P : Program} {φ : Ren} (op : BinOp) (t : TypeId) (ox oy : Operand) (k k' : IntKind) (a b : Int) {r : V} (h : aShift op k a b = some r) (w : World) :
  ∃ v, (do eqGuard op t ox oy (.int k a) (.int k' b); binOp op t (.int k a) (.int k' b) : Sem Value).run P w = .ok v w ∧ VR φ r v := by
 unfold aShift at h
 cases hb : iLt b 0 with
 | true => rw [hb] at h; cases h
 | false =>
  rw [hb] at h
  rw [iLt_no] at hb
  have hb' : ¬ b < 0 := by omega
  simp only [cond] at h
  split at h
  ·simp only [Option.some.injEq] at h; subst h
   exact ⟨_, by simp [eqGuard_at_int, binOp_shl, Op.shift, hb']; rfl, by simp only [VR, fwrap_ok]⟩
  ·simp only [Option.some.injEq] at h; subst h
   exact ⟨_, by simp [eqGuard_at_int, binOp_shr, Op.shift, hb']; rfl, by simp only [VR]⟩
  ·cases h
def lEq : List Nat → List Nat → Bool
 | [], [] => true
 | a :: as, b :: bs => Nat.beq a b && lEq as bs
 | _, _ => false
def lLt : List Nat → List Nat → Bool
 | _, [] => false
 | [], _ :: _ => true
 | a :: as, b :: bs => Nat.blt a b || (Nat.beq a b && lLt as bs)
theorem ofNat_inj {a b : Nat} (ha : a < 256) (hb : b < 256) : UInt8.ofNat a = UInt8.ofNat b ↔ a = b := by
 constructor
 ·intro h
  have : (UInt8.ofNat a).toNat = (UInt8.ofNat b).toNat := by rw [h]
  simpa [Nat.mod_eq_of_lt ha, Nat.mod_eq_of_lt hb] using this
 ·rintro rfl; rfl
theorem ofNat_lt {a b : Nat} (ha : a < 256) (hb : b < 256) : UInt8.ofNat a < UInt8.ofNat b ↔ a < b := by
 rw [UInt8.lt_iff_toNat_lt]
 simp [Nat.mod_eq_of_lt ha, Nat.mod_eq_of_lt hb]
theorem lEq_ok : ∀ (a b : List Nat), (∀ x ∈ a, x < 256) → (∀ x ∈ b, x < 256) → ((a.map UInt8.ofNat) == (b.map UInt8.ofNat)) = lEq a b
 | [], [], _, _ => rfl
 | [], b :: bs, _, _ => rfl
 | a :: as, [], _, _ => rfl
 | a :: as, b :: bs, ha, hb => by
  have ih := lEq_ok as bs (fun x hx => ha x (List.mem_cons_of_mem _ hx)) (fun x hx => hb x (List.mem_cons_of_mem _ hx))
  have hab := ofNat_inj (ha a List.mem_cons_self) (hb b List.mem_cons_self)
  simp only [List.map_cons, lEq]
  rw [List.cons_beq_cons, ih]
  congr 1
  by_cases e : a = b
  ·subst e; simp [Nat.beq_refl]
  ·rw [nbf e]; exact beq_eq_false_iff_ne.2 (fun h => e (hab.1 h))
theorem lLt_ok : ∀ (a b : List Nat), (∀ x ∈ a, x < 256) → (∀ x ∈ b, x < 256) → Op.bytesLess (a.map UInt8.ofNat) (b.map UInt8.ofNat) = lLt a b
 | [], [], _, _ => rfl
 | [], b :: bs, _, _ => rfl
 | a :: as, [], _, _ => rfl
 | a :: as, b :: bs, ha, hb => by
  have ih := lLt_ok as bs (fun x hx => ha x (List.mem_cons_of_mem _ hx)) (fun x hx => hb x (List.mem_cons_of_mem _ hx))
  have hab := ofNat_inj (ha a List.mem_cons_self) (hb b List.mem_cons_self)
  have hlt := ofNat_lt (ha a List.mem_cons_self) (hb b List.mem_cons_self)
  simp only [List.map_cons, Op.bytesLess, lLt, ih]
  congr 1
  ·cases e : Nat.blt a b with
   | true => rw [blt_iff] at e; exact decide_eq_true (hlt.2 e)
   | false => exact decide_eq_false (fun h => by rw [blt_iff.2 (hlt.1 h)] at e; cases e)
  ·congr 1
   by_cases e : a = b
   ·subst e; simp [Nat.beq_refl]
   ·rw [nbf e]; exact beq_eq_false_iff_ne.2 (fun h => e (hab.1 h))
theorem bytes_size (l : List Nat) : (bytes l).size = l.length := by simp [bytes, ByteArray.size]
theorem bytes_toList (l : List Nat) : (bytes l).toList = l.map UInt8.ofNat := by simp [bytes]
theorem bytes_append (a b : List Nat) : bytes a ++ bytes b = bytes (a ++ b) := by
 apply ByteArray.ext
 simp [bytes]
def aStr (op : BinOp) (a b : List Nat) : Option V :=
 match op with
 | .add => cond (Nat.ble (a.length + b.length) 4611686018427387904) (some (.s (a ++ b))) none
 | .eql => some (.b (lEq a b))
 | .neq => some (.b (!lEq a b))
 | .lss => some (.b (lLt a b))
 | .leq => some (.b (lLt a b || lEq a b))
 | .gtr => some (.b (!(lLt a b || lEq a b)))
 | .geq => some (.b (!lLt a b))
 | _ => none
theorem aStr_ok {P : Program} {φ : Ren} (op : BinOp) (t : TypeId) (ox oy : Operand) {a b : List Nat} (ha : ∀ x ∈ a, x < 256) (hb : ∀ x ∈ b, x < 256) {r : V} (h : aStr op a b = some r) (w : World) :
  ∃ v, (do eqGuard op t ox oy (.string (bytes a)) (.string (bytes b)); binOp op t (.string (bytes a)) (.string (bytes b)) : Sem Value).run P w = .ok v w ∧ VR φ r v := by
 have e1 := lEq_ok a b ha hb
 have e2 := lLt_ok a b ha hb
 unfold aStr at h
 split at h
 ·cases hl : Nat.ble (a.length + b.length) 4611686018427387904 with
  | false => rw [hl] at h; cases h
  | true =>
   rw [hl] at h; simp only [cond, Option.some.injEq] at h; subst h
   have hl' : a.length + b.length ≤ 4611686018427387904 := Nat.le_of_ble_eq_true hl
   refine ⟨.string (bytes (a ++ b)), ?_, by simp only [VR]; exact ⟨trivial, fun x hx => by rcases List.mem_append.1 hx with h | h; exact ha x h; exact hb x h⟩⟩
   have hn : ¬ ((((bytes a).size + (bytes b).size : Nat) : Int) > IntKind.i64.max) := by rw [bytes_size, bytes_size, IntKind.max_i64]; omega
   simp only [eqGuard_at_string, binOp, Op.stringOp, pure_bind]
   rw [if_neg hn, bytes_append]; rfl
 case h_8 => cases h
 all_goals
  simp only [Option.some.injEq] at h; subst h
  refine ⟨_, ?_, by simp only [VR]; rfl⟩
  simp [eqGuard_at_string, binOp, Op.stringOp, bytes_toList, e1, e2]
end
end Go.Ev
namespace Go.Ev
noncomputable section
def aNilCmp (E : Env) (t : TypeId) (x y : V) : Option Bool :=
 match E.tt t, x, y with
 | some (_, .bool), .b a, .b b => some (a == b)
 | some (_, .pointer _), .p none, .p b => some b.isNone
 | some (_, .pointer _), .p (some _), .p none => some false
 | some (_, .slice _), .sl none 0 _, .sl none 0 _ => some true
 | some (_, .slice _), .sl (some _) _ _, .sl none 0 _ => some false
 | some (_, .map _ _), .m none, .m b => some b.isNone
 | some (_, .map _ _), .m (some _), .m none => some false
 | some (_, .func _ _ _), .nf, .nf => some true
 | some (_, .func _ _ _), .f _ _ _, .nf => some false
 | some (_, .interface _), .ifc _ _, .ni => some false
 | _, _, _ => none
theorem equal_of {P : Program} {t : TypeId} {x y : Value} {r : Bool} {w : World} (h : ∀ d, (Op.equalIn (d + 1) t x y).run P w = .ok r w) : (Op.equal t x y).run P w = .ok r w := h 9999
theorem aNilCmp_ok {E : Env} (hE : E.OK) {φ : Ren} (t : TypeId) {x y : V} {vx vy : Value} (hx : VR φ x vx) (hy : VR φ y vy) {r : Bool} (h : aNilCmp E t x y = some r) (w : World) (ox oy : Operand) :
  (∀ op, eqGuard op t ox oy vx vy = pure ()) ∧ (Op.equal t vx vy).run E.P w = .ok r w ∧
  binOp .eql t vx vy = (do pure (.bool (← Op.equal t vx vy))) ∧ binOp .neq t vx vy = (do pure (.bool (!(← Op.equal t vx vy)))) := by
 unfold aNilCmp at h
 split at h
 ·rename_i i a b ht
  obtain ⟨_, hu⟩ := hE.ty _ _ _ ht
  simp only [VR] at hx hy; subst hx; subst hy
  simp only [Option.some.injEq] at h; subst h
  exact ⟨fun op => eqGuard_at_bool _ _ _ _ _ _, equal_of fun d => by simp [Op.equalIn, run_underlying hu], rfl, rfl⟩
 ·rename_i i e b ht
  obtain ⟨_, hu⟩ := hE.ty _ _ _ ht
  simp only [VR] at hx; subst hx
  simp only [Option.some.injEq] at h; subst h
  cases b with
  | none =>
   simp only [VR] at hy; subst hy
   exact ⟨fun op => eqGuard_at_pointer _ _ _ _ _ _, equal_of fun d => by simp [Op.equalIn, run_underlying hu], rfl, rfl⟩
  | some bo =>
   obtain ⟨b, o⟩ := bo
   simp only [VR] at hy; obtain ⟨s, _, rfl⟩ := hy
   exact ⟨fun op => eqGuard_at_pointer _ _ _ _ _ _, equal_of fun d => by simp [Op.equalIn, run_underlying hu], rfl, rfl⟩
 ·rename_i i e bo ht
  obtain ⟨_, hu⟩ := hE.ty _ _ _ ht
  obtain ⟨b, o⟩ := bo
  simp only [VR] at hx hy; obtain ⟨s, _, rfl⟩ := hx; subst hy
  simp only [Option.some.injEq] at h; subst h
  exact ⟨fun op => eqGuard_at_pointer _ _ _ _ _ _, equal_of fun d => by simp [Op.equalIn, run_underlying hu], rfl, rfl⟩
 ·rename_i i e c1 c2 ht
  obtain ⟨_, hu⟩ := hE.ty _ _ _ ht
  simp only [VR] at hx hy; obtain ⟨_, rfl⟩ := hx; obtain ⟨_, rfl⟩ := hy
  simp only [Option.some.injEq] at h; subst h
  exact ⟨fun op => eqGuard_at_slice _ _ _ _ _ _ _ _, equal_of fun d => by simp [Op.equalIn, run_underlying hu], rfl, rfl⟩
 ·rename_i i e bo n1 c1 c2 ht
  obtain ⟨_, hu⟩ := hE.ty _ _ _ ht
  obtain ⟨b, o⟩ := bo
  obtain ⟨s, cap, _, rfl⟩ := VR.slAt hx
  simp only [VR] at hy; obtain ⟨_, rfl⟩ := hy
  simp only [Option.some.injEq] at h; subst h
  exact ⟨fun op => eqGuard_at_slice _ _ _ _ _ _ _ _, equal_of fun d => by simp [Op.equalIn, run_underlying hu], rfl, rfl⟩
 ·rename_i i k e b ht
  obtain ⟨_, hu⟩ := hE.ty _ _ _ ht
  simp only [VR] at hx; subst hx
  simp only [Option.some.injEq] at h; subst h
  cases b with
  | none =>
   simp only [VR] at hy; subst hy
   exact ⟨fun op => eqGuard_at_map _ _ _ _ _ _, equal_of fun d => by simp [Op.equalIn, run_underlying hu], rfl, rfl⟩
  | some b =>
   simp only [VR] at hy; obtain ⟨s, _, rfl⟩ := hy
   exact ⟨fun op => eqGuard_at_map _ _ _ _ _ _, equal_of fun d => by simp [Op.equalIn, run_underlying hu], rfl, rfl⟩
 ·rename_i i k e b ht
  obtain ⟨_, hu⟩ := hE.ty _ _ _ ht
  simp only [VR] at hx hy; obtain ⟨s, _, rfl⟩ := hx; subst hy
  simp only [Option.some.injEq] at h; subst h
  exact ⟨fun op => eqGuard_at_map _ _ _ _ _ _, equal_of fun d => by simp [Op.equalIn, run_underlying hu], rfl, rfl⟩
 ·rename_i i a b c ht
  obtain ⟨_, hu⟩ := hE.ty _ _ _ ht
  simp only [VR] at hx hy; subst hx; subst hy
  simp only [Option.some.injEq] at h; subst h
  exact ⟨fun op => eqGuard_at_nilFunc _ _ _ _ _, equal_of fun d => by simp [Op.equalIn, run_underlying hu], rfl, rfl⟩
 ·rename_i i a b c fn f1 f2 ht
  obtain ⟨_, hu⟩ := hE.ty _ _ _ ht
  simp only [VR] at hx hy; obtain ⟨_, _, rfl, _⟩ := hx; subst hy
  simp only [Option.some.injEq] at h; subst h
  exact ⟨fun op => eqGuard_at_func _ _ _ _ _ _ _ _, equal_of fun d => by simp [Op.equalIn, run_underlying hu], rfl, rfl⟩
 ·rename_i i a b c ht
  obtain ⟨_, hu⟩ := hE.ty _ _ _ ht
  simp only [VR] at hx hy; obtain ⟨_, rfl, _⟩ := hx; subst hy
  simp only [Option.some.injEq] at h; subst h
  exact ⟨fun op => eqGuard_at_iface _ _ _ _ _ _ _, equal_of fun d => by simp [Op.equalIn, run_underlying hu], rfl, rfl⟩
 ·cases h
def aInts (op : BinOp) (x y : V) : Option V :=
 match x, y with
 | .i k a, .i k' b => cond (decide (k = k')) (aArith op k a b) none
 | .s a, .s b => aStr op a b
 | _, _ => none
theorem aInts_ok {P : Program} {φ : Ren} (op : BinOp) (t : TypeId) (ox oy : Operand) {x y : V} {vx vy : Value} (hx : VR φ x vx) (hy : VR φ y vy) {r : V} (h : aInts op x y = some r) (w : World) :
  ∃ v, (do eqGuard op t ox oy vx vy; binOp op t vx vy : Sem Value).run P w = .ok v w ∧ VR φ r v := by
 unfold aInts at h
 split at h
 ·rename_i k a k' b
  by_cases hk : k = k'
  ·subst hk
   simp only [decide_true, cond] at h
   simp only [VR] at hx hy; subst hx; subst hy
   exact aArith_ok _ _ _ _ _ _ _ h w
  ·rw [decide_eq_false hk] at h; cases h
 ·simp only [VR] at hx hy; obtain ⟨rfl, ha⟩ := hx; obtain ⟨rfl, hb'⟩ := hy
  exact aStr_ok _ _ _ _ ha hb' h w
 ·cases h
def aShifts (op : BinOp) (x y : V) : Option V :=
 match x, y with
 | .i k a, .i _ b => aShift op k a b
 | _, _ => none
theorem aShifts_ok {P : Program} {φ : Ren} (op : BinOp) (t : TypeId) (ox oy : Operand) {x y : V} {vx vy : Value} (hx : VR φ x vx) (hy : VR φ y vy) {r : V} (h : aShifts op x y = some r) (w : World) :
  ∃ v, (do eqGuard op t ox oy vx vy; binOp op t vx vy : Sem Value).run P w = .ok v w ∧ VR φ r v := by
 unfold aShifts at h
 split at h
 ·simp only [VR] at hx hy; subst hx; subst hy
  exact aShift_ok _ _ _ _ _ _ _ _ h w
 ·cases h
def aOrd (E : Env) (op : BinOp) (x y : V) : Option V :=
 match x, y with
 | .s a, .s b => aStr op a b
 | x, y => aCmp E op x y
theorem aOrd_ok {E : Env} {φ : Ren} (hb : BD E φ) (op : BinOp) (t : TypeId) (ox oy : Operand) {x y : V} {vx vy : Value} (hx : VR φ x vx) (hy : VR φ y vy) {r : V} (h : aOrd E op x y = some r) (w : World) :
  ∃ v, (do eqGuard op t ox oy vx vy; binOp op t vx vy : Sem Value).run E.P w = .ok v w ∧ VR φ r v := by
 unfold aOrd at h
 split at h
 ·simp only [VR] at hx hy; obtain ⟨rfl, ha⟩ := hx; obtain ⟨rfl, hb'⟩ := hy
  exact aStr_ok _ _ _ _ ha hb' h w
 ·exact aCmp_ok hb _ t ox oy hx hy h w
def aBin0 (E : Env) (op : BinOp) (t : TypeId) (x y : V) : Option V :=
 match op with
 | .shl => aShifts .shl x y
 | .shr => aShifts .shr x y
 | .eql =>
  match aOrd E .eql x y with
  | some r => some r
  | none =>
   match aNilCmp E t x y with
   | some r => some (.b r)
   | none => none
 | .neq =>
  match aOrd E .neq x y with
  | some r => some r
  | none =>
   match aNilCmp E t x y with
   | some r => some (.b (!r))
   | none => none
 | .lss => aOrd E .lss x y
 | .leq => aOrd E .leq x y
 | .gtr => aOrd E .gtr x y
 | .geq => aOrd E .geq x y
 | op => aInts op x y
theorem aBin0_ok {E : Env} (hE : E.OK) {φ : Ren} (hb : BD E φ) (op : BinOp) (t : TypeId) (ox oy : Operand) {x y : V} {vx vy : Value} (hx : VR φ x vx) (hy : VR φ y vy) {r : V} (h : aBin0 E op t x y = some r) (w : World) :
  ∃ v, (do eqGuard op t ox oy vx vy; binOp op t vx vy : Sem Value).run E.P w = .ok v w ∧ VR φ r v := by
 unfold aBin0 at h
 split at h
 ·exact aShifts_ok _ _ _ _ hx hy h w
 ·exact aShifts_ok _ _ _ _ hx hy h w
 ·split at h
  ·rename_i q hq
   simp only [Option.some.injEq] at h; subst h
   exact aOrd_ok hb _ t ox oy hx hy hq w
  ·split at h
   ·rename_i q hq
    simp only [Option.some.injEq] at h; subst h
    obtain ⟨h1, h2, h3, _⟩ := aNilCmp_ok hE t hx hy hq w ox oy
    exact ⟨.bool q, by rw [h1, h3]; simp [h2], by simp only [VR]⟩
   ·cases h
 ·split at h
  ·rename_i q hq
   simp only [Option.some.injEq] at h; subst h
   exact aOrd_ok hb _ t ox oy hx hy hq w
  ·split at h
   ·rename_i q hq
    simp only [Option.some.injEq] at h; subst h
    obtain ⟨h1, h2, _, h3⟩ := aNilCmp_ok hE t hx hy hq w ox oy
    exact ⟨.bool (!q), by rw [h1, h3]; simp [h2], by simp only [VR]⟩
   ·cases h
 ·exact aOrd_ok hb _ t ox oy hx hy h w
 ·exact aOrd_ok hb _ t ox oy hx hy h w
 ·exact aOrd_ok hb _ t ox oy hx hy h w
 ·exact aOrd_ok hb _ t ox oy hx hy h w
 ·exact aInts_ok _ _ _ _ hx hy h w
def aBin (E : Env) (op : BinOp) (t : TypeId) (x y : V) : Option V :=
 match E.bin op x y with
 | some r => some r
 | none => aBin0 E op t x y
theorem aBin_ok {E : Env} (hE : E.OK) {φ : Ren} (hb : BD E φ) (op : BinOp) (t : TypeId) (ox oy : Operand) {x y : V} {vx vy : Value} (hx : VR φ x vx) (hy : VR φ y vy) {r : V} (h : aBin E op t x y = some r) (w : World) :
  ∃ v, (do eqGuard op t ox oy vx vy; binOp op t vx vy : Sem Value).run E.P w = .ok v w ∧ VR φ r v := by
 unfold aBin at h
 split at h
 ·rename_i q hq
  simp only [Option.some.injEq] at h; subst h
  exact hb.here.bin _ _ _ _ hq t ox oy vx vy w hx hy
 ·exact aBin0_ok hE hb op t ox oy hx hy h w
def aUn (op : UnOp) (x : V) : Option V :=
 match op, x with
 | .not, .b a => some (.b (!a))
 | .neg, .i k n => some (.i k (fwrap k (0 - n)))
 | .xor, .i k n => some (.i k (bits .xor k (if k.signed then -1 else k.max) n))
 | _, _ => none
theorem aUn_ok {P : Program} {φ : Ren} (op : UnOp) {x : V} {v : Value} (hx : VR φ x v) {r : V} (h : aUn op x = some r) (w : World) : ∃ u, (Op.unary op v).run P w = .ok u w ∧ VR φ r u := by
 unfold aUn at h
 split at h
 ·simp only [VR] at hx; subst hx
  simp only [Option.some.injEq] at h; subst h
  exact ⟨_, by simp [Op.unary]; rfl, by simp only [VR]⟩
 ·simp only [VR] at hx; subst hx
  simp only [Option.some.injEq] at h; subst h
  exact ⟨_, by simp [Op.unary, Op.intArith]; rfl, by simp only [VR, fwrap_ok]; simp⟩
 ·simp only [VR] at hx; subst hx
  simp only [Option.some.injEq] at h; subst h
  exact ⟨_, by simp only [Op.unary, intBits_xor]; rfl, by simp only [VR]⟩
 ·cases h
def aConv (E : Env) (src dst : TypeId) (x : V) : Option V :=
 match E.tt src, E.tt dst, x with
 | some _, some (_, .int k), .i _ n => some (.i k (fwrap k n))
 | some _, some (_, .int k), .y _ x =>
  match E.bd x with
  | some (lo, hi) => cond (inRange k lo && inRange k hi) (some (.y k x)) none
  | none => none
 | some _, some (_, .string), .s l => some (.s l)
 | _, _, _ => none
def aIndex (E : Env) (t : TypeId) (x i : V) (h : H) : Option (V × H) :=
 match E.tt t, x, i with
 | some (_, .string), .s l, .i _ k =>
  match inB k l.length with
  | some j =>
   match l[j]? with
   | some c => some (.i .u8 (.ofNat c), h)
   | none => none
  | none => none
 | some (_, .array n e), .a cs, .i _ k =>
  match E.tt e, inB k n with
  | some (ie, _), some j =>
   match aPart E e cs (j * ie.size) with
   | some y => some (y, h)
   | none => none
  | _, _ => none
 | _, _, _ => none
theorem bytes_get (l : List Nat) (hl : ∀ x ∈ l, x < 256) (j : Nat) (c : Nat) (hc : l[j]? = some c) : ∃ b : UInt8, (bytes l)[j]? = some b ∧ b.toNat = c := by
 refine ⟨UInt8.ofNat c, ?_, ?_⟩
 ·have hlt : j < l.length := by
   rcases Nat.lt_or_ge j l.length with h | h
   ·exact h
   ·rw [List.getElem?_eq_none h] at hc; cases hc
  have hg : l[j] = c := by rw [List.getElem?_eq_getElem hlt] at hc; simpa using hc
  have hs : j < (bytes l).size := by rw [bytes_size]; exact hlt
  rw [getElem?_pos (bytes l) j hs]
  congr 1
  show (bytes l).data[j]'_ = _
  simp [bytes, hg]
 ·have : c < 256 := hl c (List.mem_of_getElem? hc)
  simp [Nat.mod_eq_of_lt this]
theorem aIndex_ok {E : Env} (hE : E.OK) {φ : Ren} {h : H} {w : World} (hr : HR φ h w) (t : TypeId) {x i : V} {v vi : Value} (hx : VR φ x v) (hi : VR φ i vi) :
  Yields E.P φ w (do pure (.value (← Instr.index t v vi))) (aIndex E t x i h) := by
 unfold aIndex
 split
 ·rename_i it l kk k ht
  obtain ⟨_, hu⟩ := hE.ty _ _ _ ht
  simp only [VR] at hx hi; obtain ⟨rfl, hl⟩ := hx; subst hi
  split
  ·rename_i j hj
   obtain ⟨rfl, hlt⟩ := inB_ok hj
   split
   ·rename_i c hc
    obtain ⟨b, hb, hbc⟩ := bytes_get l hl j c hc
    refine Yields.pure hr (v := .int .u8 c) ?_ (by simp only [VR]; rfl)
    have h0 : (0 : Int) ≤ (j : Int) := by omega
    simp [Instr.index, asIntOf, run_underlying hu, h0, hb, hbc]
   ·exact Yields.none
  ·exact Yields.none
 ·rename_i it n e cs kk k ht
  obtain ⟨_, hu⟩ := hE.ty _ _ _ ht
  simp only [VR] at hx hi; obtain ⟨vs, rfl, hc⟩ := hx; subst hi
  split
  ·rename_i ie de j he hj
   obtain ⟨rfl, hlt⟩ := inB_ok hj
   split
   ·rename_i y hy
    obtain ⟨u, h1, h2⟩ := aPart_ok hE w e hc _ hy
    refine Yields.pure hr (v := u) ?_ h2
    have hcnd : (0 : Int) ≤ (j : Int) ∧ (j : Int) < (n : Int) := ⟨by omega, by omega⟩
    simp only [Instr.index, asIntOf, Sem.run_bind, Sem.run_pure, Result.andThen_ok, run_underlying hu]
    rw [if_pos hcnd]
    simp [run_sizeOf (hE.ty _ _ _ he).1, h1]
   ·exact Yields.none
  ·exact Yields.none
 ·exact Yields.none
end
end Go.Ev
namespace Go.Ev
noncomputable section
def eqZ : Int → Int → Bool
 | .ofNat a, .ofNat b => Nat.beq a b
 | .negSucc a, .negSucc b => Nat.beq a b
 | _, _ => false
theorem eqZ_ok (x y : Int) : eqZ x y = (x == y) := by
 cases x <;> cases y <;> simp [eqZ]
 ·rename_i a b
  cases h : Nat.beq a b with
  | true => rw [Nat.eq_of_beq_eq_true h]; simp
  | false =>
   have : a ≠ b := fun e => by rw [e, Nat.beq_refl] at h; cases h
   symm; simp; omega
 ·rename_i a b
  cases h : Nat.beq a b with
  | true => rw [Nat.eq_of_beq_eq_true h]; simp
  | false =>
   have : a ≠ b := fun e => by rw [e, Nat.beq_refl] at h; cases h
   symm; simp; omega
def aEqFs (E : Env) (eq : TypeId → V → V → Option Bool) : List Field → List V → List V → Option Bool
 | [], _, _ => some true
 | f :: fs, xs, ys =>
  match aPart E f.type xs f.offset, aPart E f.type ys f.offset with
  | some x, some y =>
   match eq f.type x y with
   | some true => aEqFs E eq fs xs ys
   | some false => some false
   | none => none
  | _, _ => none
def aEq (E : Env) : Nat → TypeId → V → V → Option Bool
 | 0, _, _, _ => none
 | d + 1, t, x, y =>
  match E.tt t with
  | some (_, .int _) =>
   match x, y with
   | .i k a, .i k' b => cond (decide (k = k')) (some (eqZ a b)) none
   | _, _ => none
  | some (_, .string) =>
   match x, y with
   | .s a, .s b => some (lEq a b)
   | _, _ => none
  | some (_, .bool) =>
   match x, y with
   | .b a, .b b => some (cond a b (!b))
   | _, _ => none
  | some (_, .struct fs) =>
   match x, y with
   | .a xs, .a ys => cond (E.hl t) (aEqFs E (aEq E d) fs.toList xs ys) none
   | _, _ => none
  | _ => none
theorem eqFields_ok {E : Env} (hE : E.OK) {φ : Ren} {eq : TypeId → V → V → Option Bool} {D : Nat} (w : World) (heq : ∀ t x y r, eq t x y = some r → ∀ vx vy, VR φ x vx → VR φ y vy → (Op.equalIn D t vx vy).run E.P w = .ok r w)
  {xs ys : List V} {vx vy : Array Value} (hx : VRs φ xs vx.toList) (hy : VRs φ ys vy.toList) : ∀ (fs : List Field) (r : Bool), (∀ f ∈ fs, f.name ≠ "_") → aEqFs E eq fs xs ys = some r → (Op.eqFields D vx vy fs).run E.P w = .ok r w
 | [], r, _, h => by
  simp only [aEqFs, Option.some.injEq] at h; subst h
  simp [Op.eqFields]
 | f :: fs, r, hn, h => by
  simp only [aEqFs] at h
  have hf := hn f (by simp)
  split at h
  ·rename_i x y h1 h2
   obtain ⟨u, p1, p2⟩ := aPart_ok hE w f.type hx f.offset h1
   obtain ⟨v, q1, q2⟩ := aPart_ok hE w f.type hy f.offset h2
   split at h
   ·rename_i he
    have e := heq _ _ _ _ he u v p2 q2
    have ih := eqFields_ok hE w heq hx hy fs r (fun g hg => hn g (by simp [hg])) h
    simp [Op.eqFields, hf, p1, q1, e, ih]
   ·rename_i he
    simp only [Option.some.injEq] at h; subst h
    have e := heq _ _ _ _ he u v p2 q2
    simp [Op.eqFields, hf, p1, q1, e]
   ·cases h
  ·cases h
theorem aEq_ok {E : Env} (hE : E.OK) {φ : Ren} (w : World) : ∀ (d : Nat) (t : TypeId) (x y : V) (r : Bool), aEq E d t x y = some r → ∀ D vx vy, VR φ x vx → VR φ y vy → (Op.equalIn (D + d) t vx vy).run E.P w = .ok r w
 | 0, t, x, y, r, h => by simp [aEq] at h
 | d + 1, t, x, y, r, h => by
  intro D vx vy hx hy
  simp only [aEq] at h
  split at h
  ·rename_i i k ht
   obtain ⟨_, hu⟩ := hE.ty _ _ _ ht
   split at h
   ·rename_i k1 a k2 b
    by_cases hk : k1 = k2
    ·subst hk
     simp only [decide_true, cond, Option.some.injEq] at h; subst h
     simp only [VR] at hx hy; subst hx; subst hy
     rw [eqZ_ok]
     exact run_equalIn_int w (D + d) t k1 k a b hu
    ·rw [decide_eq_false hk] at h; cases h
   ·cases h
  ·rename_i i ht
   obtain ⟨_, hu⟩ := hE.ty _ _ _ ht
   split at h
   ·rename_i a b
    simp only [Option.some.injEq] at h; subst h
    simp only [VR] at hx hy; obtain ⟨rfl, ha⟩ := hx; obtain ⟨rfl, hb⟩ := hy
    have := run_equalIn_string w (P := E.P) (D + d) t (bytes a) (bytes b) hu
    rw [bytes_toList, bytes_toList, lEq_ok a b ha hb] at this
    exact this
   ·cases h
  ·rename_i i ht
   obtain ⟨_, hu⟩ := hE.ty _ _ _ ht
   split at h
   ·rename_i a b
    simp only [Option.some.injEq] at h; subst h
    simp only [VR] at hx hy; subst hx; subst hy
    have := run_equalIn_bool' w (P := E.P) (D + d) t a b hu
    refine this.trans ?_
    cases a <;> cases b <;> rfl
   ·cases h
  ·rename_i i fs ht
   obtain ⟨_, hu⟩ := hE.ty _ _ _ ht
   split at h
   ·rename_i xs ys
    cases hl : E.hl t with
    | false => rw [hl] at h; cases h
    | true =>
     rw [hl] at h
     simp only [cond] at h
     obtain ⟨l1, l2, l3⟩ := hE.hl t hl
     simp only [VR] at hx hy
     obtain ⟨vx, rfl, gx⟩ := hx; obtain ⟨vy, rfl, gy⟩ := hy
     have hfo : E.P.fieldsOf t = fs := by simp [Program.fieldsOf, hu]
     have := run_equalIn_struct w (D + d) t vx vy (by rw [hfo]; exact hu) l1
     rw [hfo] at this
     rw [show D + (d + 1) = D + d + 1 from rfl, this]
     exact eqFields_ok hE w (fun t' x' y' r' h' vx' vy' a b => aEq_ok hE w d t' x' y' r' h' D vx' vy' a b) gx gy fs.toList r (fun f hf => l3 fs hu f hf) h
   ·cases h
  ·cases h
def ikV : V → Option IntKind
 | .i k _ => some k
 | .y k _ => some k
 | _ => none
def isSV (E : Env) : V → Bool
 | .s _ => true
 | .q x => E.qs x
 | _ => false
def aEqL (E : Env) (t : TypeId) (x y : V) : Option Bool :=
 match E.bin .eql x y with
 | some (.b r) =>
  match E.tt t with
  | some (_, .int _) =>
   match ikV x, ikV y with
   | some k, some k' => cond (decide (k = k')) (some r) none
   | _, _ => none
  | some (_, .string) => cond (isSV E x && isSV E y) (some r) none
  | _ => none
 | _ => none
theorem ikV_ok {φ : Ren} {x : V} {k : IntKind} (h : ikV x = some k) {v : Value} (hv : VR φ x v) : ∃ n, v = .int k n := by
 cases x <;> simp only [ikV] at h <;> first | (cases h; done) | skip
 ·cases h; simp only [VR] at hv; exact ⟨_, hv⟩
 ·cases h; simp only [VR] at hv; exact ⟨_, hv⟩
theorem isSV_ok {E : Env} {φ : Ren} (hb : BD E φ) {x : V} (h : isSV E x = true) {v : Value} (hv : VR φ x v) : ∃ s, v = .string s := by
 cases x <;> simp only [isSV] at h <;> first | (cases h; done) | skip
 ·obtain ⟨s, hs⟩ := hb.here.qs _ h
  simp only [VR] at hv
  exact ⟨s, by rw [hv.1]; exact hs⟩
 ·simp only [VR] at hv; exact ⟨_, hv.1⟩
theorem aEqL_ok {E : Env} (hE : E.OK) {φ : Ren} (hb : BD E φ) (w : World) {t : TypeId} {x y : V} {r : Bool} (h : aEqL E t x y = some r) (D : Nat) {vx vy : Value} (hx : VR φ x vx) (hy : VR φ y vy) : (Op.equalIn (D + 1) t vx vy).run E.P w = .ok r w := by
 unfold aEqL at h
 split at h
 ·rename_i r' hf
  obtain ⟨v, hv, hvr⟩ := hb.here.bin _ _ _ _ hf t (.const .nilIface) (.const .nilIface) vx vy w hx hy
  simp only [VR] at hvr
  subst hvr
  split at h
  ·rename_i i k ht
   obtain ⟨_, hu⟩ := hE.ty _ _ _ ht
   split at h
   ·rename_i k1 k2 e1 e2
    by_cases hk : k1 = k2
    ·subst hk
     simp only [decide_true, cond, Option.some.injEq] at h; subst h
     obtain ⟨p, rfl⟩ := ikV_ok e1 hx
     obtain ⟨q, rfl⟩ := ikV_ok e2 hy
     simp [eqGuard_at_int, binOp_eql] at hv
     rw [← hv]
     exact run_equalIn_int w D t k1 k p q hu
    ·rw [decide_eq_false hk] at h; cases h
   ·cases h
  ·rename_i i ht
   obtain ⟨_, hu⟩ := hE.ty _ _ _ ht
   cases hq : isSV E x && isSV E y with
   | false => rw [hq] at h; cases h
   | true =>
    rw [hq] at h
    simp only [cond, Option.some.injEq] at h; subst h
    simp only [Bool.and_eq_true] at hq
    obtain ⟨p, rfl⟩ := isSV_ok hb hq.1 hx
    obtain ⟨q, rfl⟩ := isSV_ok hb hq.2 hy
    simp [eqGuard_at_string, binOp, Op.stringOp] at hv
    rw [← hv]
    exact run_equalIn_string w D t p q hu
  ·cases h
 ·cases h
def aEqX (E : Env) : Nat → TypeId → V → V → Option Bool
 | 0, _, _, _ => none
 | d + 1, t, x, y =>
  match aEq E 5 t x y with
  | some r => some r
  | none =>
   match aEqL E t x y with
   | some r => some r
   | none =>
    match E.tt t with
    | some (_, .struct fs) =>
     match x, y with
     | .a xs, .a ys => cond (E.hl t) (aEqFs E (aEqX E d) fs.toList xs ys) none
     | _, _ => none
    | _ => none
theorem aEqX_ok {E : Env} (hE : E.OK) {φ : Ren} (hb : BD E φ) (w : World) : ∀ (d : Nat) (t : TypeId) (x y : V) (r : Bool), aEqX E d t x y = some r → ∀ D vx vy, VR φ x vx → VR φ y vy → (Op.equalIn (D + 5 + d) t vx vy).run E.P w = .ok r w
 | 0, t, x, y, r, h => by simp [aEqX] at h
 | d + 1, t, x, y, r, h => by
  intro D vx vy hx hy
  simp only [aEqX] at h
  split at h
  ·rename_i q hq
   simp only [Option.some.injEq] at h; subst h
   have := aEq_ok hE w 5 t x y q hq (D + d + 1) vx vy hx hy
   rwa [show D + d + 1 + 5 = D + 5 + (d + 1) by omega] at this
  split at h
  ·rename_i q hq
   simp only [Option.some.injEq] at h; subst h
   exact aEqL_ok hE hb w hq (D + 5 + d) hx hy
  split at h
  ·rename_i i fs ht
   obtain ⟨_, hu⟩ := hE.ty _ _ _ ht
   split at h
   ·rename_i xs ys
    cases hl : E.hl t with
    | false => rw [hl] at h; cases h
    | true =>
     rw [hl] at h
     simp only [cond] at h
     obtain ⟨l1, l2, l3⟩ := hE.hl t hl
     simp only [VR] at hx hy
     obtain ⟨vx, rfl, gx⟩ := hx; obtain ⟨vy, rfl, gy⟩ := hy
     have hfo : E.P.fieldsOf t = fs := by simp [Program.fieldsOf, hu]
     have := run_equalIn_struct w (D + 5 + d) t vx vy (by rw [hfo]; exact hu) l1
     rw [hfo] at this
     rw [show D + 5 + (d + 1) = D + 5 + d + 1 from rfl, this]
     exact eqFields_ok hE w (fun t' x' y' r' h' vx' vy' a b => aEqX_ok hE hb w d t' x' y' r' h' D vx' vy' a b) gx gy fs.toList r (fun f hf => l3 fs hu f hf) h
   ·cases h
  ·cases h
def aEqBin (E : Env) (op : BinOp) (t : TypeId) (x y : V) : Option V :=
 match op, x, y with
 | .eql, .a xs, .a ys =>
  cond (E.hl t)
   (match aEqX E 4 t (.a xs) (.a ys) with
    | some r => some (.b r)
    | none => none) none
 | .neq, .a xs, .a ys =>
  cond (E.hl t)
   (match aEqX E 4 t (.a xs) (.a ys) with
    | some r => some (.b (!r))
    | none => none) none
 | _, _, _ => none
theorem aEqBin_ok {E : Env} (hE : E.OK) {φ : Ren} (hb : BD E φ) (op : BinOp) (t : TypeId) (ox oy : Operand) {x y : V} {vx vy : Value} (hx : VR φ x vx) (hy : VR φ y vy) {r : V} (h : aEqBin E op t x y = some r) (w : World) :
  ∃ v, (do eqGuard op t ox oy vx vy; binOp op t vx vy : Sem Value).run E.P w = .ok v w ∧ VR φ r v := by
 unfold aEqBin at h
 split at h
 ·rename_i xs ys
  cases hl : E.hl t with
  | false => rw [hl] at h; cases h
  | true =>
   rw [hl] at h
   simp only [cond] at h
   obtain ⟨l1, l2, l3⟩ := hE.hl t hl
   split at h
   ·rename_i q hq
    simp only [Option.some.injEq] at h; subst h
    have e := aEqX_ok hE hb w 4 t _ _ q hq 9991 vx vy hx hy
    simp only [VR] at hx hy
    obtain ⟨vx, rfl, gx⟩ := hx; obtain ⟨vy, rfl, gy⟩ := hy
    exact ⟨.bool q, by simp [run_eqGuard_agg w _ t ox oy vx vy l2, run_eql_struct, e], by simp only [VR]⟩
   ·cases h
 ·rename_i xs ys
  cases hl : E.hl t with
  | false => rw [hl] at h; cases h
  | true =>
   rw [hl] at h
   simp only [cond] at h
   obtain ⟨l1, l2, l3⟩ := hE.hl t hl
   split at h
   ·rename_i q hq
    simp only [Option.some.injEq] at h; subst h
    have e := aEqX_ok hE hb w 4 t _ _ q hq 9991 vx vy hx hy
    simp only [VR] at hx hy
    obtain ⟨vx, rfl, gx⟩ := hx; obtain ⟨vy, rfl, gy⟩ := hy
    exact ⟨.bool (!q), by simp [run_eqGuard_agg w _ t ox oy vx vy l2, run_neq_struct, e], by simp only [VR]⟩
   ·cases h
 ·cases h
def aBinT (E : Env) (op : BinOp) (t : TypeId) (x y : V) : Option V :=
 match aBin E op t x y with
 | some r => some r
 | none => aEqBin E op t x y
theorem aBinT_ok {E : Env} (hE : E.OK) {φ : Ren} (hb : BD E φ) (op : BinOp) (t : TypeId) (ox oy : Operand) {x y : V} {vx vy : Value} (hx : VR φ x vx) (hy : VR φ y vy) {r : V} (h : aBinT E op t x y = some r) (w : World) :
  ∃ v, (do eqGuard op t ox oy vx vy; binOp op t vx vy : Sem Value).run E.P w = .ok v w ∧ VR φ r v := by
 unfold aBinT at h
 split at h
 ·rename_i q hq
  simp only [Option.some.injEq] at h; subst h
  exact aBin_ok hE hb op t ox oy hx hy hq w
 ·exact aEqBin_ok hE hb op t ox oy hx hy h w
def isC : Operand → Bool
 | .const _ => true
 | _ => false
def aNilI (op : BinOp) (ox oy : Operand) (x y : V) : Option V :=
 match op, x, y with
 | .eql, .ni, .ni => cond (isC ox || isC oy) (some (.b true)) none
 | .neq, .ni, .ni => cond (isC ox || isC oy) (some (.b false)) none
 | .eql, .ni, .ifc _ _ => some (.b false)
 | .neq, .ni, .ifc _ _ => some (.b true)
 | _, _, _ => none
def aBinC (E : Env) (op : BinOp) (t : TypeId) (ox oy : Operand) (x y : V) : Option V :=
 match aBinT E op t x y with
 | some r => some r
 | none =>
  match E.tt t with
  | some (_, .interface _) => aNilI op ox oy x y
  | _ => none
theorem eqGuard_nilC {op : BinOp} {t : TypeId} {ox oy : Operand} (h : (isC ox || isC oy) = true) : eqGuard op t ox oy .nilIface .nilIface = pure () := by
 cases oy with
 | const c => exact eqGuard_nil_constR _ _ _ _
 | _ =>
  cases ox with
  | const c => exact eqGuard_nil_constL _ _ _ _
  | _ => cases h
theorem bEq {t : TypeId} {a b : Value} (h : binOp .eql t a b = (do pure (.bool (← Op.equal t a b)) : Sem Value)) : binOp .eql t a b = (do pure (.bool (← Op.equal t a b)) : Sem Value) := h
theorem bNe {t : TypeId} {a b : Value} (h : binOp .neq t a b = (do pure (.bool (!(← Op.equal t a b))) : Sem Value)) : binOp .neq t a b = (do pure (.bool (!(← Op.equal t a b))) : Sem Value) := h
theorem aBinC_ok {E : Env} (hE : E.OK) {φ : Ren} (hb : BD E φ) (op : BinOp) (t : TypeId) (ox oy : Operand) {x y : V} {vx vy : Value} (hx : VR φ x vx) (hy : VR φ y vy) {r : V} (h : aBinC E op t ox oy x y = some r) (w : World) :
  ∃ v, (do eqGuard op t ox oy vx vy; binOp op t vx vy : Sem Value).run E.P w = .ok v w ∧ VR φ r v := by
 unfold aBinC at h
 split at h
 ·rename_i q hq
  simp only [Option.some.injEq] at h; subst h
  exact aBinT_ok hE hb op t ox oy hx hy hq w
 ·split at h
  ·rename_i i ms ht
   obtain ⟨_, hu⟩ := hE.ty _ _ _ ht
   have heq : ∀ {a b : Value} {r : Bool}, (∀ d, (Op.equalIn (d + 1) t a b).run E.P w = .ok r w) → (Op.equal t a b).run E.P w = .ok r w := fun h => equal_of h
   unfold aNilI at h
   split at h
   ·obtain ⟨h1, h2⟩ := cond_some h
    simp only [Option.some.injEq] at h2; subst h2
    simp only [VR] at hx hy; subst hx; subst hy
    have e := heq (a := .nilIface) (b := .nilIface) (r := true) fun d => by simp [Op.equalIn, run_underlying hu]
    exact ⟨.bool true, by rw [eqGuard_nilC h1, bEq rfl]; simp [e], by simp only [VR]⟩
   ·obtain ⟨h1, h2⟩ := cond_some h
    simp only [Option.some.injEq] at h2; subst h2
    simp only [VR] at hx hy; subst hx; subst hy
    have e := heq (a := .nilIface) (b := .nilIface) (r := true) fun d => by simp [Op.equalIn, run_underlying hu]
    exact ⟨.bool false, by rw [eqGuard_nilC h1, bNe rfl]; simp [e], by simp only [VR]⟩
   ·simp only [Option.some.injEq] at h; subst h
    simp only [VR] at hx hy; subst hx; obtain ⟨u, hyu, _⟩ := hy
    have e : (Op.equal t .nilIface vy).run E.P w = .ok false w := heq fun d => by rw [hyu]; simp [Op.equalIn, run_underlying hu]
    subst hyu
    exact ⟨.bool false, by rw [eqGuard_nil_iface, bEq rfl]; simp [e], by simp only [VR]⟩
   ·simp only [Option.some.injEq] at h; subst h
    simp only [VR] at hx hy; subst hx; obtain ⟨u, hyu, _⟩ := hy
    have e : (Op.equal t .nilIface vy).run E.P w = .ok false w := heq fun d => by rw [hyu]; simp [Op.equalIn, run_underlying hu]
    subst hyu
    exact ⟨.bool true, by rw [eqGuard_nil_iface, bNe rfl]; simp [e], by simp only [VR]⟩
   ·cases h
  ·cases h
end
end Go.Ev
namespace Go.Ev
noncomputable section
theorem HR.rename {φ : Ren} {h : H} {w : World} (hr : HR φ h w) {b r : Nat} (hb : φ b = some r) (hl : (h.get b).mut) :
  HR (up φ h.n r (φ.n b)) ((h.set b .gone).new (h.get b)) w ∧ Ext φ w (up φ h.n r (φ.n b)) w := by
 have hle : Le φ (up φ h.n r (φ.n b)) := le_up hr.fresh
 have hbn : b ≠ h.n := fun e => hr.fresh r (e ▸ hb)
 have hup : ∀ c s, up φ h.n r (φ.n b) c = some s → (c = h.n ∧ s = r) ∨ (c ≠ h.n ∧ φ c = some s) := fun c s e => by
  simp only [up] at e
  by_cases hc : c = h.n
  ·rw [if_pos hc] at e; cases e; exact .inl ⟨hc, rfl⟩
  ·rw [if_neg hc] at e; exact .inr ⟨hc, e⟩
 have hget : ∀ c, ((h.set b .gone).new (h.get b)).get c = if c = h.n then h.get b else if c = b then .gone else h.get c := fun c => by
  rw [H.get_new]
  by_cases hc : c = h.n
  ·rw [if_pos (show c = (h.set b .gone).n from hc), if_pos hc]
  ·rw [if_neg (show ¬ c = (h.set b .gone).n from hc), if_neg hc, H.get_set]
 refine ⟨⟨by simp [up, hr.cnt], fun c s e => ?_, fun c s e hc => ?_, fun c c' s e e' hc hc' => ?_, fun s o' hk => ⟨(hr.kp s o' hk).1, fun c e => ?_⟩⟩, ⟨hle, Nat.le_succ _, fun c s e => ?_, fun _ => Nat.le_refl _, Nat.le_refl _, rfl, rfl, rfl, fun _ _ _ => rfl⟩⟩
 rotate_left 3
 ·rw [hget]
  rcases hup c s e with ⟨h1, h2⟩ | ⟨hcn, e1⟩
  ·rw [if_pos h1]; exact (hr.kp s o' hk).2 b (h2 ▸ hb)
  ·rw [if_neg hcn]
   by_cases hcb : c = b
   ·rw [if_pos hcb]; exact id
   ·rw [if_neg hcb]; exact (hr.kp s o' hk).2 c e1
 ·rcases hup c s e with ⟨rfl, rfl⟩ | ⟨_, e⟩
  ·refine .inr ⟨by rw [hr.cnt]; exact Nat.le_refl _, .inr ⟨⟨b, hb⟩, ?_⟩⟩
   cases hk : φ.y.k s with
   | none => rfl
   | some o' => exact absurd hl ((hr.kp s o' hk).2 b hb)
  ·exact .inl e
 ·rcases hup c s e with ⟨rfl, rfl⟩ | ⟨_, e⟩
  ·exact ⟨by simp, (hr.dom _ _ hb).2⟩
  ·have := hr.dom c s e
   exact ⟨by simp only [H.new_n, H.set_n]; omega, this.2⟩
 ·rw [hget] at hc ⊢
  rcases hup c s e with ⟨rfl, rfl⟩ | ⟨hcn, e⟩
  ·rw [if_pos rfl] at hc ⊢
   obtain ⟨o, h1, h2⟩ := hr.blk b _ hb hl.live
   have hN : (up φ h.n s (φ.n b)).n h.n = φ.n b := by simp [up]
   exact ⟨o, h1, by rw [hN]; exact h2.mono hle⟩
  ·rw [if_neg hcn] at hc ⊢
   by_cases hcb : c = b
   ·rw [if_pos hcb] at hc; exact hc.elim
   ·rw [if_neg hcb] at hc ⊢
    obtain ⟨o, h1, h2⟩ := hr.blk c s e hc
    exact ⟨o, h1, by rw [(hle c s e).2]; exact h2.mono hle⟩
 ·rw [hget] at hc hc'
  rcases hup c s e with ⟨h1, h2⟩ | ⟨hcn, e1⟩
  ·rcases hup c' s e' with ⟨h3, _⟩ | ⟨hcn', e2⟩
   ·rw [h1, h3]
   ·rw [if_neg hcn'] at hc'
    by_cases hcb : c' = b
    ·rw [if_pos hcb] at hc'; exact hc'.elim
    ·rw [if_neg hcb] at hc'
     exact absurd (hr.inj c' b s e2 (h2 ▸ hb) hc' hl.live) hcb
  ·rw [if_neg hcn] at hc
   by_cases hcb : c = b
   ·rw [if_pos hcb] at hc; exact hc.elim
   ·rw [if_neg hcb] at hc
    rcases hup c' s e' with ⟨_, h2⟩ | ⟨hcn', e2⟩
    ·exact absurd (hr.inj c b s e1 (h2 ▸ hb) hc hl.live) hcb
    ·rw [if_neg hcn'] at hc'
     by_cases hcb' : c' = b
     ·rw [if_pos hcb'] at hc'; exact hc'.elim
     ·rw [if_neg hcb'] at hc'
      exact hr.inj c c' s e1 e2 hc hc'
theorem spliceR_length : ∀ (vs l : List Value) (o : Nat), (spliceR l o vs).length = l.length
 | [], _, _ => rfl
 | v :: vs, l, o => by simp [spliceR, spliceR_length vs]
theorem spliceR_take : ∀ (vs l : List Value) (o k : Nat), k ≤ o → (spliceR l o vs).take k = l.take k
 | [], _, _, _, _ => rfl
 | v :: vs, l, o, k, hk => by
  rw [spliceR, spliceR_take vs _ _ _ (by omega), List.take_set, List.set_eq_of_length_le (by simp; omega)]
theorem spliceR_here : ∀ (vs l : List Value) (o : Nat), o + vs.length ≤ l.length → (spliceR l o vs).take (o + vs.length) = l.take o ++ vs
 | [], l, o, _ => by simp [spliceR]
 | v :: vs, l, o, hle => by
  simp only [List.length_cons] at hle
  have ih := spliceR_here vs (l.set o v) (o + 1) (by simp; omega)
  rw [spliceR, List.length_cons, show o + (vs.length + 1) = o + 1 + vs.length by omega, ih]
  have : (l.set o v).take (o + 1) = l.take o ++ [v] := by
   rw [List.take_succ_eq_append_getElem (by simp; omega), List.take_set, List.set_eq_of_length_le (by simp; omega)]
   simp
  rw [this, List.append_assoc]; rfl
theorem setCells_drawn (g : Nat) : ∀ (vs : List Value) (o : Nat) (w : World), (w.setCells g o vs).drawn = w.drawn
 | [], _, _ => rfl
 | v :: vs, o, w => (setCells_drawn g vs (o + 1) (w.setCell ⟨g, o, none⟩ v) : ((w.setCell ⟨g, o, none⟩ v).setCells g (o + 1) vs).drawn = w.drawn)
theorem setCells_heap (g : Nat) (t : TypeId) (fr : Nat × Nat) : ∀ (vs : List Value) (o : Nat) (w : World) (cur : Array Value), w.heap[g]? = some (.cells cur t fr) →
  (∃ cur', (w.setCells g o vs).heap[g]? = some (.cells cur' t fr) ∧ cur'.toList = spliceR cur.toList o vs) ∧ (∀ s, s ≠ g → (w.setCells g o vs).heap[s]? = w.heap[s]?) ∧
  (w.setCells g o vs).heap.size = w.heap.size ∧ (w.setCells g o vs).os = w.os ∧ (w.setCells g o vs).tape = w.tape ∧ (w.setCells g o vs).output = w.output
 | [], o, w, cur, h => ⟨⟨cur, h, rfl⟩, fun _ _ => rfl, rfl, rfl, rfl, rfl⟩
 | v :: vs, o, w, cur, h => by
  have h1 : (w.setCell ⟨g, o, none⟩ v).heap[g]? = some (.cells (cur.setIfInBounds o v) t fr) := by simp [World.setCell, Array.getElem?_modify, h]
  obtain ⟨⟨cur', h2, h3⟩, h4, h5, h6, h7, h8⟩ := setCells_heap g t fr vs (o + 1) (w.setCell ⟨g, o, none⟩ v) (cur.setIfInBounds o v) h1
  refine ⟨⟨cur', h2, by rw [h3]; simp [spliceR]⟩, fun s hs => ?_, ?_, h6, h7, h8⟩
  ·show ((w.setCell ⟨g, o, none⟩ v).setCells g (o + 1) vs).heap[s]? = _
   rw [h4 s hs]
   simp only [World.setCell, Array.getElem?_modify]
   rw [if_neg (fun e => hs e.symm)]
  ·show ((w.setCell ⟨g, o, none⟩ v).setCells g (o + 1) vs).heap.size = _
   rw [h5]; simp [World.setCell]
def aSrc (E : Env) (sz : Nat) (xt : TypeId) (x : V) (h : H) : Option (Nat × List V) :=
 match E.tt xt, x with
 | some (_, .slice _), .sl (some (b, o)) n _ =>
  match h.get b with
  | .cells l _ _ => cond (Nat.ble (o + n * sz) l.length && ((l.drop o).take (n * sz)).all atomV) (some (n, (l.drop o).take (n * sz))) none
  | .rc l _ => cond (Nat.ble (o + n * sz) l.length && ((l.drop o).take (n * sz)).all atomV) (some (n, (l.drop o).take (n * sz))) none
  | _ => none
 | some (_, .slice _), .sl none 0 _ => some (0, [])
 | some (_, .slice _), .es => some (0, [])
 | some (_, .string), .s l => cond (Nat.beq sz 1) (some (l.length, l.map fun c => .i .u8 (.ofNat c))) none
 | _, _ => none
theorem atoms_ok {φ : Ren} : ∀ {cs : List V} {vs : List Value}, VRs φ cs vs → cs.all atomV = true → ∀ u ∈ vs, u.oneCell' = true
 | [], vs, h, _, u, hu => by simp only [VRs] at h; subst h; cases hu
 | c :: cs, vs, h, ha, u, hu => by
  simp only [VRs] at h
  obtain ⟨y, ys, rfl, h1, h2⟩ := h
  simp only [List.all_cons, Bool.and_eq_true] at ha
  rcases List.mem_cons.1 hu with rfl | hu
  ·exact atomV_ok h1 ha.1
  ·exact atoms_ok h2 ha.2 u hu
theorem byteCells_ok {φ : Ren} : ∀ (l : List Nat), (∀ x ∈ l, x < 256) → VRs φ (l.map fun c => V.i .u8 (.ofNat c)) ((l.map UInt8.ofNat).map fun b => Value.int .u8 b.toNat)
 | [], _ => VRs.nil
 | c :: l, h => by
  refine VRs.cons ?_ (byteCells_ok l fun x hx => h x (List.mem_cons_of_mem _ hx))
  simp only [VR]
  have : c < 256 := h c List.mem_cons_self
  simp [Nat.mod_eq_of_lt this]
theorem aSrc_ok {E : Env} (hE : E.OK) {φ : Ren} {h : H} {w : World} (hr : HR φ h w) (sz : Nat) (xt : TypeId) {x : V} {v : Value} (hx : VR φ x v) {n : Nat} {cs : List V} (hs : aSrc E sz xt x h = some (n, cs)) :
  ∃ news, Src E.P sz xt v n news w ∧ VRs φ cs news := by
 unfold aSrc at hs
 split at hs
 ·rename_i i e b o m c ht
  obtain ⟨_, hu⟩ := hE.ty _ _ _ ht
  obtain ⟨r, cap, hb, rfl⟩ := VR.slAt hx
  split at hs
  ·rename_i l e' g hl
   cases hc : Nat.ble (o + m * sz) l.length && ((l.drop o).take (m * sz)).all atomV with
   | false => rw [hc] at hs; cases hs
   | true =>
    rw [hc] at hs
    simp only [cond, Option.some.injEq, Prod.mk.injEq] at hs
    obtain ⟨rfl, rfl⟩ := hs
    simp only [Bool.and_eq_true] at hc
    have hle : o + m * sz ≤ l.length := Nat.le_of_ble_eq_true hc.1
    obtain ⟨vs, h1, h2, h3⟩ := hr.cellsAt hb hl o (m * sz) hle
    exact ⟨vs, Src.ofSlice w hu ⟨r, o, none⟩ m cap vs h1 (fun j u hu => by rw [Addr.add_lit]; exact h3 j u hu) (atoms_ok h2 hc.2), h2⟩
  ·rename_i l e' hl
   cases hc : Nat.ble (o + m * sz) l.length && ((l.drop o).take (m * sz)).all atomV with
   | false => rw [hc] at hs; cases hs
   | true =>
    rw [hc] at hs
    simp only [cond, Option.some.injEq, Prod.mk.injEq] at hs
    obtain ⟨rfl, rfl⟩ := hs
    simp only [Bool.and_eq_true] at hc
    have hle : o + m * sz ≤ l.length := Nat.le_of_ble_eq_true hc.1
    obtain ⟨vs, h1, h2, h3⟩ := hr.cellsAtR hb hl o (m * sz) hle
    exact ⟨vs, Src.ofSlice w hu ⟨r, o, none⟩ m cap vs h1 (fun j u hu => by rw [Addr.add_lit]; exact h3 j u hu) (atoms_ok h2 hc.2), h2⟩
  ·cases hs
 ·rename_i i e c ht
  obtain ⟨_, hu⟩ := hE.ty _ _ _ ht
  simp only [VR] at hx; obtain ⟨_, rfl⟩ := hx
  simp only [Option.some.injEq, Prod.mk.injEq] at hs
  obtain ⟨rfl, rfl⟩ := hs
  exact ⟨[], Src.ofNil w hu 0, VRs.nil⟩
 ·rename_i i e ht
  obtain ⟨_, hu⟩ := hE.ty _ _ _ ht
  simp only [VR] at hx; obtain ⟨a, c, rfl⟩ := hx
  simp only [Option.some.injEq, Prod.mk.injEq] at hs
  obtain ⟨rfl, rfl⟩ := hs
  refine ⟨[], ?_, VRs.nil⟩
  cases a with
  | none => exact Src.ofNil w hu c
  | some a => exact Src.ofSlice w hu a 0 c [] (by simp) (fun j u hu => by simp at hu) (fun _ h => by cases h)
 ·rename_i i l ht
  obtain ⟨_, hu⟩ := hE.ty _ _ _ ht
  simp only [VR] at hx; obtain ⟨rfl, hl⟩ := hx
  cases hc : Nat.beq sz 1 with
  | false => rw [hc] at hs; cases hs
  | true =>
   rw [hc] at hs
   simp only [cond, Option.some.injEq, Prod.mk.injEq] at hs
   obtain ⟨rfl, rfl⟩ := hs
   have : sz = 1 := Nat.eq_of_beq_eq_true hc
   subst this
   refine ⟨byteCells (bytes l), ?_, ?_⟩
   ·have := Src.ofString w hu (bytes l)
    rwa [bytes_size] at this
   ·have := byteCells_ok (φ := φ) l hl
    simpa [byteCells, bytes] using this
 ·cases hs
def aGrow (i : TypeInfo) (e : TypeId) (len n : Nat) (olds news : List V) (h : H) : Option (V × H) :=
 cond (Nat.ble ((len + n) * i.bytes) 140737488355328 && Nat.ble (len + n) 4611686018427387904) (some (.sl (some (h.n, 0)) (len + n) (.un i.size), h.new (.cells (olds ++ news) e true))) none
theorem zeroCells_size (z : Array Value) (n : Nat) : (Builtin.zeroCells z n).size = n * z.size := by simp [Builtin.zeroCells]
theorem grow_ok {E : Env} {φ : Ren} {h : H} {w : World} (hr : HR φ h w) (t tx ty e : TypeId) (i : TypeInfo) (z : Value) (ht : E.P.underlying t = some (.slice e)) (hi : E.P.info? e = some i) (hz : i.zero = some z)
  (hzs : z.cells.size = i.size) (base : Option Addr) (len cap : Nat) (olds : List V) (olds' : List Value) (ho : VRs φ olds olds') (hol : olds.length = len * i.size)
  (hold : (Builtin.firstCells i.size len (.slice base len cap)).run E.P w.drew = .ok olds'.toArray w.drew) (x : Value) (n : Nat) (news : List V) (news' : List Value) (hs : Src E.P i.size tx x n news' w) (hn : VRs φ news news')
  (hg : cap < len + n) {y : V} {h' : H} (hy : aGrow i e len n olds news h = some (y, h')) :
  ∃ φ' v w', (Builtin.append_ #[t, tx] ty #[.slice base len cap, x]).run E.P w = .ok v w' ∧ Ext φ w φ' w' ∧ VR φ' y v ∧ HR φ' h' w' := by
 unfold aGrow at hy
 cases hc : Nat.ble ((len + n) * i.bytes) 140737488355328 && Nat.ble (len + n) 4611686018427387904 with
 | false => rw [hc] at hy; cases hy
 | true =>
  rw [hc] at hy
  simp only [cond, Option.some.injEq, Prod.mk.injEq] at hy
  obtain ⟨rfl, rfl⟩ := hy
  simp only [Bool.and_eq_true] at hc
  have h1 : (len + n) * i.bytes ≤ 140737488355328 := Nat.le_of_ble_eq_true hc.1
  have h2 : len + n ≤ 4611686018427387904 := Nat.le_of_ble_eq_true hc.2
  have hrun := run_append_grow_src (P := E.P) w t tx ty e i z ht hi hz base len cap olds' hold x n news' hs hg (by omega) (growslice_fits hg h1)
  have hcap : len + n ≤ grownCap w (len + n) cap e := by unfold grownCap; simp only [Question.cut]; omega
  generalize hG : grownCap w (len + n) cap e = G at hrun hcap
  have hlo : olds'.length = len * i.size := by rw [ho.length, hol]
  have hln : news'.length = n * i.size := hs.newsLen
  let c : Array Value := (olds' ++ news').toArray ++ Builtin.zeroCells z.cells (G - (len + n))
  have hcs : c.size = G * i.size := by
   show ((olds' ++ news').toArray ++ Builtin.zeroCells z.cells (G - (len + n))).size = _
   rw [Array.size_append, zeroCells_size, hzs]
   simp only [List.size_toArray, List.length_append, hlo, hln]
   rw [← Nat.add_mul, ← Nat.add_mul]
   congr 1; omega
  have hleng : (olds ++ news).length = (len + n) * i.size := by rw [List.length_append, hol, ← hn.length, hln, Nat.add_mul]
  have hle : Le φ (up φ h.n w.heap.size c.size) := le_up hr.fresh
  have hal := (hr.drew (w.drawn + 1)).alloc c.size (.cells (olds ++ news) e true) (.cells c e) ⟨c, rfl, ?_, ?_, fun hf => (by cases hf), rfl⟩
  ·refine ⟨_, _, _, hrun, (Ext.drew φ w (Nat.le_add_right w.drawn 1)).trans hal.2, ?_, hal.1⟩
   simp only [VR]
   refine ⟨w.heap.size, G, by simp [up], hcap, ?_, rfl⟩
   have : (up φ h.n w.heap.size c.size).n h.n = c.size := by simp [up]
   rw [Nat.zero_add]
   exact hcs.symm.trans this.symm
  ·have e1 : c.toList.take (olds ++ news).length = olds' ++ news' := by
    have : c.toList = (olds' ++ news') ++ (Builtin.zeroCells z.cells (G - (len + n))).toList := by simp [c]
    rw [this, hleng, List.take_append_of_le_length (by simp [hlo, hln, Nat.add_mul]), List.take_of_length_le (by simp [hlo, hln, Nat.add_mul])]
   rw [e1]
   exact VRs.mono hle _ _ (ho.append hn)
  ·rw [hleng, hcs]; exact Nat.mul_le_mul_right _ hcap
end
end Go.Ev
