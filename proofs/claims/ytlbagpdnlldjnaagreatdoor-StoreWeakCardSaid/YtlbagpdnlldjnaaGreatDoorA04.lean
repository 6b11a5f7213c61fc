/- The abstract machine, part H: maps whose keys are numbers, texts or truth values. -/
import Derived.Test.YtlbagpdnlldjnaaGreatDoorA03
import Derived.MapKept
import Derived.Laws.MakeOwn
set_option linter.all false
namespace Go.Ev
open MapKept
noncomputable section
def eqN : List Nat → List Nat → Bool
 | [], [] => true
 | a :: as, b :: bs => Nat.beq a b && eqN as bs
 | _, _ => false
theorem eqN_iff : ∀ (x y : List Nat), eqN x y = true ↔ x = y
 | [], [] => by simp [eqN]
 | [], _ :: _ => by simp [eqN]
 | _ :: _, [] => by simp [eqN]
 | a :: as, b :: bs => by
  simp only [eqN, Bool.and_eq_true, eqN_iff as bs, List.cons.injEq]
  constructor
  ·rintro ⟨h1, h2⟩; exact ⟨Nat.eq_of_beq_eq_true h1, h2⟩
  ·rintro ⟨rfl, rfl⟩; exact ⟨Nat.beq_refl _, rfl⟩
def eqI : Int → Int → Bool
 | .ofNat a, .ofNat b => Nat.beq a b
 | .negSucc a, .negSucc b => Nat.beq a b
 | _, _ => false
theorem eqI_iff (x y : Int) : eqI x y = true ↔ x = y := by
 cases x <;> cases y <;> simp [eqI] <;> omega
def keyV : TypeDesc → V → Bool
 | .int k, .i k' _ => decide (k' = k)
 | .string, .s _ => true
 | .bool, .b _ => true
 | _, _ => false
def keyEq : V → V → Option Bool
 | .i k a, .i k' b => cond (decide (k = k')) (some (eqI a b)) none
 | .s a, .s b => some (eqN a b)
 | .b a, .b b => some (cond a b (!b))
 | _, _ => none
theorem keyV_ok {φ : Ren} {d : TypeDesc} {x : V} {v : Value} (hx : VR φ x v) (h : keyV d x = true) : IsKey d v := by
 cases x <;> cases d <;> simp only [keyV] at h <;> try (cases h; done)
 ·simp only [VR] at hx; subst hx; trivial
 ·simp only [VR] at hx; subst hx; simpa [IsKey] using h
 ·simp only [VR] at hx; obtain ⟨rfl, _⟩ := hx; trivial
theorem bytes_inj {a b : List Nat} (ha : ∀ x ∈ a, x < 256) (hb : ∀ x ∈ b, x < 256) (h : bytes a = bytes b) : a = b := by
 have h' : a.map UInt8.ofNat = b.map UInt8.ofNat := by
  have := congrArg ByteArray.data h
  simpa [bytes] using this
 have back : ∀ l : List Nat, (∀ x ∈ l, x < 256) → (l.map UInt8.ofNat).map UInt8.toNat = l := fun l hl => by
  rw [List.map_map]
  conv => rhs; rw [← List.map_id l]
  refine List.map_congr_left fun x hx => ?_
  have := hl x hx
  simp [UInt8.toNat_ofNat, Nat.mod_eq_of_lt this]
 rw [← back a ha, ← back b hb, h']
theorem keyEq_ok {φ : Ren} {d : TypeDesc} {x y : V} {v u : Value} (hx : VR φ x v) (hy : VR φ y u) (hk : keyV d x = true) {b : Bool} (h : keyEq x y = some b) : Instr.sameNow d v u = some b ∧ (b = true → v = u) := by
 cases x <;> cases y <;> simp only [keyEq] at h <;> try (cases h; done)
 ·simp only [VR] at hx hy; subst hx; subst hy
  cases d <;> simp only [keyV] at hk <;> try (cases hk; done)
  rename_i a b'
  cases a <;> cases b' <;> simp_all [Instr.sameNow, cond]
 ·simp only [VR] at hx hy; subst hx; subst hy
  cases d <;> simp only [keyV] at hk <;> try (cases hk; done)
  rename_i k a k' b' kd
  by_cases e : k = k'
  ·subst e
   simp only [decide_true, cond, Option.some.injEq] at h
   subst h
   refine ⟨?_, fun h => by rw [(eqI_iff a b').1 h]⟩
   simp only [Instr.sameNow, if_true, Option.some.injEq]
   cases hb : eqI a b' with
   | true => simp [(eqI_iff a b').1 hb]
   | false =>
    have : a ≠ b' := fun e => by rw [(eqI_iff a b').2 e] at hb; cases hb
    simp [this]
  ·rw [decide_eq_false e] at h; cases h
 ·simp only [VR] at hx hy; obtain ⟨rfl, hl⟩ := hx; obtain ⟨rfl, hm⟩ := hy
  cases d <;> simp only [keyV] at hk <;> try (cases hk; done)
  rename_i a b'
  simp only [Option.some.injEq] at h
  subst h
  refine ⟨?_, fun h => by rw [(eqN_iff a b').1 h]⟩
  simp only [Instr.sameNow, Option.some.injEq]
  cases hb : eqN a b' with
  | true => rw [(eqN_iff a b').1 hb]; exact (bytes_beq _ _).2 rfl
  | false =>
   have : bytes a ≠ bytes b' := fun e => by rw [(eqN_iff a b').2 (bytes_inj hl hm e)] at hb; cases hb
   cases hc : (bytes a == bytes b') with
   | false => rfl
   | true => exact absurd ((bytes_beq _ _).1 hc) this
def findV (k : V) : List (V × V × Nat) → Nat → Option (Option (Nat × V))
 | [], _ => some none
 | (k', v, _) :: es, i =>
  match keyEq k k' with
  | some true => some (some (i, v))
  | some false => findV k es (i + 1)
  | none => none
theorem findV_ok {φ : Ren} {d : TypeDesc} {k : V} {kv : Value} (hk : VR φ k kv) (hd : keyV d k = true) : ∀ (es : List (V × V × Nat)) (l : List MapEntry) (i : Nat), ERs φ es l → ∀ r, findV k es i = some r →
  match r with
  | none => Instr.findNow d kv l i = some none
  | some (j, v) => ∃ e, Instr.findNow d kv l i = some (some (j, e.val)) ∧ VR φ v e.val ∧ i ≤ j ∧ l[j - i]? = some e ∧ e.key = kv
 | [], l, i, hl, r, h => by
  simp only [ERs] at hl; subst hl
  simp only [findV, Option.some.injEq] at h
  subst h; rfl
 | (k', v, n) :: es, l, i, hl, r, h => by
  simp only [ERs] at hl
  obtain ⟨e, l', rfl, h1, h2, h3, h4⟩ := hl
  simp only [findV] at h
  split at h
  ·rename_i he
   simp only [Option.some.injEq] at h
   subst h
   obtain ⟨h5, h6⟩ := keyEq_ok hk h1 hd he
   exact ⟨e, by simp [Instr.findNow, h5], h2, Nat.le_refl _, by simp, (h6 rfl).symm⟩
  ·rename_i he
   obtain ⟨h5, _⟩ := keyEq_ok hk h1 hd he
   have := findV_ok hk hd es l' (i + 1) h4 r h
   cases r with
   | none => simpa [Instr.findNow, h5] using this
   | some jv =>
    obtain ⟨j, v'⟩ := jv
    obtain ⟨e', g1, g2, g3, g4, g5⟩ := this
    refine ⟨e', by simpa [Instr.findNow, h5] using g1, g2, by omega, ?_, g5⟩
    have : j - i = (j - (i + 1)) + 1 := by omega
    rw [this]
    simpa using g4
  ·cases h
def aMakeMap (E : Env) (t : TypeId) (r : Option V) (h : H) : Option (V × H) :=
 match r with
 | none => some (.m (some h.n), h.new (.mp [] 0))
 | some (.i _ _) =>
  match E.tt t with
  | some (_, .map _ _) => some (.m (some h.n), h.new (.mp [] 0))
  | _ => none
 | some (.y _ _) =>
  match E.tt t with
  | some (_, .map _ _) => some (.m (some h.n), h.new (.mp [] 0))
  | _ => none
 | _ => none
theorem newMap_ok {P : Program} {φ : Ren} {h : H} {w : World} (hr : HR φ h w) : ∃ φ', (newObj (.map #[] 0)).run P w = .ok w.heap.size { w with heap := w.heap.push (.map #[] 0) } ∧ Ext φ w φ' { w with heap := w.heap.push (.map #[] 0) } ∧ φ' h.n = some w.heap.size ∧ HR φ' (h.new (.mp [] 0)) { w with heap := w.heap.push (.map #[] 0) } := by
 obtain ⟨h1, h2⟩ := hr.alloc 0 (.mp [] 0) (.map #[] 0) ⟨#[], rfl, by simp [ERs]⟩
 exact ⟨_, rfl, h2, by simp [up], h1⟩
theorem aMakeMap_ok {E : Env} (hE : E.OK) {φ : Ren} {h : H} {w : World} (hr : HR φ h w) (t : TypeId) {r : Option V} {r' : Option Value} (ho : OR φ r r') :
  BYields E.P φ w (Instr.makeMap t r') (aMakeMap E t r h) := by
 obtain ⟨φ', n1, n2, n3, n4⟩ := newMap_ok (P := E.P) hr
 unfold aMakeMap
 split
 ·have ho : r' = none := ho
  subst ho
  intro x h' e
  simp only [Option.some.injEq, Prod.mk.injEq] at e
  obtain ⟨rfl, rfl⟩ := e
  refine ⟨φ', .map (some w.heap.size), _, ?_, n2, by simp only [VR]; exact ⟨_, n3, rfl⟩, n4⟩
  simp [Instr.makeMap, n1]
 ·rename_i k n
  obtain ⟨v, rfl, hv⟩ := ho
  simp only [VR] at hv; subst hv
  split
  ·rename_i i kt et ht
   obtain ⟨_, hu⟩ := hE.ty _ _ _ ht
   intro x h' e
   simp only [Option.some.injEq, Prod.mk.injEq] at e
   obtain ⟨rfl, rfl⟩ := e
   refine ⟨φ', .map (some w.heap.size), _, ?_, n2, by simp only [VR]; exact ⟨_, n3, rfl⟩, n4⟩
   simp [Instr.makeMap, run_underlying hu, asInt, asIntOf, n1]
  ·exact BYields.none
 ·rename_i k n
  obtain ⟨v, rfl, hv⟩ := ho
  simp only [VR] at hv; subst hv
  split
  ·rename_i i kt et ht
   obtain ⟨_, hu⟩ := hE.ty _ _ _ ht
   intro x h' e
   simp only [Option.some.injEq, Prod.mk.injEq] at e
   obtain ⟨rfl, rfl⟩ := e
   refine ⟨φ', .map (some w.heap.size), _, ?_, n2, by simp only [VR]; exact ⟨_, n3, rfl⟩, n4⟩
   simp [Instr.makeMap, run_underlying hu, asInt, asIntOf, n1]
  ·exact BYields.none
 ·exact BYields.none
def aEntries (x : V) (h : H) : Option (List (V × V × Nat)) :=
 match x with
 | .m none => some []
 | .m (some b) =>
  match h.get b with
  | .mp es _ => some es
  | _ => none
 | _ => none
def aLookup0 (E : Env) (t : TypeId) (x k : V) (ok : Bool) (h : H) : Option (V × H) :=
 match E.tt t with
 | some (_, .map kt et) =>
  match E.tt kt, aEntries x h with
  | some (_, d), some es =>
   cond (keyV d k)
    (match findV k es 0 with
     | some (some (_, v)) => some (cond ok (.t [v, .b true]) v, h)
     | some none =>
      match E.tt et with
      | some (i, _) =>
       match i.zero with
       | some z => some (cond ok (.t [cv z, .b false]) (cv z), h)
       | none => none
      | none => none
     | none => none) none
  | _, _ => none
 | _ => none
theorem aLookup0_ok {E : Env} (hE : E.OK) {φ : Ren} {h : H} {w : World} (hr : HR φ h w) (t : TypeId) {x k : V} {vx vk : Value} (hx : VR φ x vx) (hk : VR φ k vk) (ok : Bool) :
  BYields E.P φ w (Instr.lookup t vx vk ok) (aLookup0 E t x k ok h) := by
 unfold aLookup0
 split
 ·rename_i it kt et ht
  obtain ⟨_, hu⟩ := hE.ty _ _ _ ht
  split
  ·rename_i ik d es hkt hes
   obtain ⟨_, hd⟩ := hE.ty _ _ _ hkt
   cases hkv : keyV d k with
   | false => exact BYields.none
   | true =>
    simp only [cond_true]
    have hik := keyV_ok hk hkv
    have key : ∀ (l : List MapEntry), ERs φ es l → ∀ (K : Option (Nat × Value) → Sem Value),
      (∀ r, Instr.findNow d vk l 0 = some r → ((Instr.lookup t vx vk ok).run E.P w = (K r).run E.P w)) →
      (∀ j v, K (some (j, v)) = pure (if ok then .tuple #[v, .bool true] else v)) →
      (∀ z, (zeroValue et).run E.P w = .ok z w → (K none).run E.P w = .ok (if ok then .tuple #[z, .bool false] else z) w) →
      BYields E.P φ w (Instr.lookup t vx vk ok) (match findV k es 0 with
       | some (some (_, v)) => some (cond ok (.t [v, .b true]) v, h)
       | some none =>
        match E.tt et with
        | some (i, _) =>
         match i.zero with
         | some z => some (cond ok (.t [cv z, .b false]) (cv z), h)
         | none => none
        | none => none
       | none => none) := by
     intro l hl K hK h1 h2
     split
     ·rename_i j v hf
      obtain ⟨e, g1, g2, _⟩ := findV_ok hk hkv es l 0 hl _ hf
      refine BYields.pure hr (v := if ok then .tuple #[e.val, .bool true] else e.val) ?_ ?_
      ·rw [hK _ g1, h1]; rfl
      ·cases ok with
       | true => simp only [cond, if_true, VR]; exact ⟨_, rfl, VRs.cons g2 (VRs.cons (by simp [VR]) VRs.nil)⟩
       | false => simpa [cond] using g2
     ·rename_i hf
      have g1 := findV_ok hk hkv es l 0 hl _ hf
      simp only at g1
      split
      ·rename_i i de het
       obtain ⟨hi, _⟩ := hE.ty _ _ _ het
       split
       ·rename_i z hz
        refine BYields.pure hr (v := if ok then .tuple #[z, .bool false] else z) ?_ ?_
        ·rw [hK _ g1, h2 z (run_zeroValue hi hz w)]
        ·cases ok with
         | true => simp only [cond, if_true, VR]; exact ⟨_, rfl, VRs.cons (cv_ok φ z) (VRs.cons (by simp [VR]) VRs.nil)⟩
         | false => simpa [cond] using cv_ok φ z
       ·exact BYields.none
      ·exact BYields.none
     ·exact BYields.none
    unfold aEntries at hes
    split at hes
    ·simp only [Option.some.injEq] at hes
     subst hes
     simp only [VR] at hx; subst hx
     refine key [] (by simp [ERs]) (fun r => do
      let (v, ok') ← match r with
       | some (_, v) => pure (v, true)
       | none => pure (← zeroValue et, false)
      pure (if ok then .tuple #[v, .bool ok'] else v)) (fun r hf => ?_) (fun j v => rfl) (fun z hz => by simp [hz])
     simp [Instr.lookup, run_underlying hu, run_checkKey hd hik, run_findKey hd hf]
     rfl
    ·rename_i b
     simp only [VR] at hx; obtain ⟨r, hb, rfl⟩ := hx
     split at hes
     ·rename_i es' clock hg
      simp only [Option.some.injEq] at hes
      subst hes
      obtain ⟨o, h1, h2⟩ := hr.blk b r hb (by rw [hg]; trivial)
      rw [hg] at h2
      obtain ⟨l, rfl, h3⟩ := h2
      refine key l.toList h3 (fun r => do
       let (v, ok') ← match r with
        | some (_, v) => pure (v, true)
        | none => pure (← zeroValue et, false)
       pure (if ok then .tuple #[v, .bool ok'] else v)) (fun r hf => ?_) (fun j v => rfl) (fun z hz => by simp [hz])
      simp [Instr.lookup, run_underlying hu, MapKept.run_getObj_map h1, run_checkKey hd hik, run_findKey hd hf]
      rfl
     ·cases hes
    ·cases hes
  ·exact BYields.none
 ·exact BYields.none
theorem ERs.push {φ : Ren} : ∀ {x : List (V × V × Nat)} {l : List MapEntry}, ERs φ x l → ∀ {k v : V} {e : MapEntry}, VR φ k e.key → VR φ v e.val → ERs φ (x ++ [(k, v, e.born)]) (l ++ [e])
 | [], l, h, k, v, e, hk, hv => by
  simp only [ERs] at h; subst h
  simp only [List.nil_append, ERs]
  exact ⟨e, [], rfl, hk, hv, rfl, rfl⟩
 | (k', v', n) :: xs, l, h, k, v, e, hk, hv => by
  simp only [ERs] at h
  obtain ⟨e', l', rfl, h1, h2, h3, h4⟩ := h
  simp only [List.cons_append, ERs]
  exact ⟨e', _, rfl, h1, h2, h3, ERs.push h4 hk hv⟩
def setE (k v : V) : List (V × V × Nat) → Nat → List (V × V × Nat)
 | [], _ => []
 | (_, _, n) :: es, 0 => (k, v, n) :: es
 | e :: es, i + 1 => e :: setE k v es i
theorem setE_ok {φ : Ren} {k v : V} {kv vv : Value} (hk : VR φ k kv) (hv : VR φ v vv) : ∀ {x : List (V × V × Nat)} {l : List MapEntry} (i : Nat), ERs φ x l → ERs φ (setE k v x i) (l.modify i fun e => { e with key := kv, val := vv })
 | [], l, i, h => by
  simp only [ERs] at h; subst h
  cases i <;> simp [setE, ERs]
 | (k', v', n) :: xs, l, 0, h => by
  simp only [ERs] at h
  obtain ⟨e', l', rfl, h1, h2, h3, h4⟩ := h
  simp only [setE, List.modify_zero_cons, ERs]
  exact ⟨_, _, rfl, hk, hv, h3, h4⟩
 | (k', v', n) :: xs, l, i + 1, h => by
  simp only [ERs] at h
  obtain ⟨e', l', rfl, h1, h2, h3, h4⟩ := h
  simp only [setE, List.modify_succ_cons, ERs]
  exact ⟨e', _, rfl, h1, h2, h3, setE_ok hk hv i h4⟩
def delE : List (V × V × Nat) → Nat → List (V × V × Nat)
 | [], _ => []
 | _ :: es, 0 => es
 | e :: es, i + 1 => e :: delE es i
theorem delE_ok {φ : Ren} : ∀ {x : List (V × V × Nat)} {l : List MapEntry} (i : Nat), ERs φ x l → ERs φ (delE x i) (l.eraseIdx i)
 | [], l, i, h => by
  simp only [ERs] at h; subst h
  cases i <;> simp [delE, ERs]
 | (k', v', n) :: xs, l, 0, h => by
  simp only [ERs] at h
  obtain ⟨e', l', rfl, h1, h2, h3, h4⟩ := h
  simpa [delE] using h4
 | (k', v', n) :: xs, l, i + 1, h => by
  simp only [ERs] at h
  obtain ⟨e', l', rfl, h1, h2, h3, h4⟩ := h
  simp only [delE, List.eraseIdx_cons_succ, ERs]
  exact ⟨e', _, rfl, h1, h2, h3, delE_ok i h4⟩
theorem HR.setMap {P : Program} {φ : Ren} {h : H} {w : World} (hr : HR φ h w) {b r : Nat} (hb : φ b = some r) {es : List (V × V × Nat)} {c : Nat} (hl : h.get b = .mp es c) {l0 : Array MapEntry} (h0 : w.heap[r]? = some (.map l0 c))
  {es' : List (V × V × Nat)} {c' : Nat} {l' : Array MapEntry} (he : ERs φ es' l'.toList) :
  (setObj r (.map l' c')).run P w = .ok () { w with heap := w.heap.setIfInBounds r (.map l' c') } ∧
  HR φ (h.set b (.mp es' c')) { w with heap := w.heap.setIfInBounds r (.map l' c') } ∧ Ext φ w φ { w with heap := w.heap.setIfInBounds r (.map l' c') } := by
 have hlt := (hr.dom b r hb).2
 have := hr.turn (b := b) (r := r) (w' := { w with heap := w.heap.setIfInBounds r (.map l' c') }) (.mp es' c') (.map l' c') hb (by rw [hl]; trivial) ⟨l', rfl, he⟩ (by simp) (by simp [hlt]) (fun s hs => by simp [Array.getElem?_setIfInBounds_ne (Ne.symm hs)]) rfl rfl rfl
 exact ⟨MapKept.run_setObj_map _ h0, this.1, this.2⟩
def aMapUpdate0 (E : Env) (t : TypeId) (x k v : V) (h : H) : Option (V × H) :=
 match E.tt t, x with
 | some (_, .map kt _), .m (some b) =>
  match E.tt kt, h.get b with
  | some (_, d), .mp es c =>
   cond (keyV d k)
    (match findV k es 0 with
     | some (some (j, _)) => some (.top, h.set b (.mp (setE k v es j) c))
     | some none => some (.top, h.set b (.mp (es ++ [(k, v, c)]) (c + 1)))
     | none => none) none
  | _, _ => none
 | _, _ => none
theorem aMapUpdate0_ok {E : Env} (hE : E.OK) {φ : Ren} {h : H} {w : World} (hr : HR φ h w) (t : TypeId) {x k v : V} {vx vk vv : Value} (hx : VR φ x vx) (hk : VR φ k vk) (hv : VR φ v vv) :
  Yields E.P φ w (do Instr.mapUpdate t vx vk vv; pure .skip) (aMapUpdate0 E t x k v h) := by
 unfold aMapUpdate0
 split
 ·rename_i it kt et b ht
  obtain ⟨_, hu⟩ := hE.ty _ _ _ ht
  simp only [VR] at hx; obtain ⟨r, hb, rfl⟩ := hx
  split
  ·rename_i ik d es c hkt hg
   obtain ⟨_, hd⟩ := hE.ty _ _ _ hkt
   obtain ⟨o, h1, h2⟩ := hr.blk b r hb (by rw [hg]; trivial)
   rw [hg] at h2
   obtain ⟨l, rfl, h3⟩ := h2
   cases hkv : keyV d k with
   | false => exact Yields.none
   | true =>
    simp only [cond_true]
    have hik := keyV_ok hk hkv
    split
    ·rename_i j u hf
     obtain ⟨e, g1, _, _, g4, g5⟩ := findV_ok hk hkv es l.toList 0 h3 _ hf
     intro y h' e'
     simp only [Option.some.injEq, Prod.mk.injEq] at e'
     obtain ⟨rfl, rfl⟩ := e'
     have hj : l[j]? = some e := by simpa using g4
     have he : ERs φ (setE k v es j) (l.modify j fun e => { e with key := vk, val := vv }).toList := by
      rw [Array.toList_modify]; exact setE_ok hk hv j h3
     obtain ⟨m1, m2, m3⟩ := hr.setMap (P := E.P) hb hg h1 (c' := c) he
     refine ⟨φ, undef, _, .inr ⟨?_, rfl⟩, m3, by simp [VR], m2⟩
     simp [Instr.mapUpdate, run_underlying hu, MapKept.run_getObj_map h1, run_checkKey hd hik, run_findKey hd g1, hj, g5, run_keyThatStays hik, m1]
    ·rename_i hf
     have g1 := findV_ok hk hkv es l.toList 0 h3 _ hf
     simp only at g1
     intro y h' e'
     simp only [Option.some.injEq, Prod.mk.injEq] at e'
     obtain ⟨rfl, rfl⟩ := e'
     have he : ERs φ (es ++ [(k, v, c)]) (l.push { key := vk, val := vv, born := c }).toList := by
      rw [Array.toList_push]
      exact h3.push (e := { key := vk, val := vv, born := c }) hk hv
     obtain ⟨m1, m2, m3⟩ := hr.setMap (P := E.P) hb hg h1 (c' := c + 1) he
     refine ⟨φ, undef, _, .inr ⟨?_, rfl⟩, m3, by simp [VR], m2⟩
     simp [Instr.mapUpdate, run_underlying hu, MapKept.run_getObj_map h1, run_checkKey hd hik, run_findKey hd g1, m1]
    ·exact Yields.none
  ·exact Yields.none
 ·exact Yields.none
def aDelete0 (E : Env) (t : TypeId) (x k : V) (h : H) : Option (V × H) :=
 match E.tt t, x with
 | some (_, .map kt _), .m (some b) =>
  match E.tt kt, h.get b with
  | some (_, d), .mp es c =>
   cond (keyV d k)
    (match findV k es 0 with
     | some (some (j, _)) => some (.t [], h.set b (.mp (delE es j) c))
     | some none => some (.t [], h)
     | none => none) none
  | _, _ => none
 | _, _ => none
theorem aDelete0_ok {E : Env} (hE : E.OK) {φ : Ren} {h : H} {w : World} (hr : HR φ h w) (t t2 ty : TypeId) {x k : V} {vx vk : Value} (hx : VR φ x vx) (hk : VR φ k vk) :
  BYields E.P φ w (Builtin.delete_ #[t, t2] ty #[vx, vk]) (aDelete0 E t x k h) := by
 unfold aDelete0
 split
 ·rename_i it kt et b ht
  obtain ⟨_, hu⟩ := hE.ty _ _ _ ht
  simp only [VR] at hx; obtain ⟨r, hb, rfl⟩ := hx
  split
  ·rename_i ik d es c hkt hg
   obtain ⟨_, hd⟩ := hE.ty _ _ _ hkt
   obtain ⟨o, h1, h2⟩ := hr.blk b r hb (by rw [hg]; trivial)
   rw [hg] at h2
   obtain ⟨l, rfl, h3⟩ := h2
   cases hkv : keyV d k with
   | false => exact BYields.none
   | true =>
    simp only [cond_true]
    have hik := keyV_ok hk hkv
    split
    ·rename_i j u hf
     obtain ⟨e, g1, _, _, g4, g5⟩ := findV_ok hk hkv es l.toList 0 h3 _ hf
     intro y h' e'
     simp only [Option.some.injEq, Prod.mk.injEq] at e'
     obtain ⟨rfl, rfl⟩ := e'
     have hj : l[j]? = some e := by simpa using g4
     have hlt : j < l.size := by
      rcases Nat.lt_or_ge j l.size with h | h
      ·exact h
      ·rw [Array.getElem?_eq_none h] at hj; cases hj
     have he : ERs φ (delE es j) (l.eraseIdxIfInBounds j).toList := by
      unfold Array.eraseIdxIfInBounds
      rw [dif_pos hlt, Array.toList_eraseIdx]
      exact delE_ok j h3
     obtain ⟨m1, m2, m3⟩ := hr.setMap (P := E.P) hb hg h1 (c' := c) he
     refine ⟨φ, .tuple #[], _, ?_, m3, by simp only [VR]; exact ⟨#[], rfl, VRs.nil⟩, m2⟩
     simp [Builtin.delete_, run_underlying hu, MapKept.run_getObj_map h1, run_checkKey hd hik, run_findKey hd g1, m1]
    ·rename_i hf
     have g1 := findV_ok hk hkv es l.toList 0 h3 _ hf
     simp only at g1
     intro y h' e'
     simp only [Option.some.injEq, Prod.mk.injEq] at e'
     obtain ⟨rfl, rfl⟩ := e'
     obtain ⟨m1, m2, m3⟩ := hr.setMap (P := E.P) hb hg h1 (c' := c) h3
     refine ⟨φ, .tuple #[], _, ?_, m3, by simp only [VR]; exact ⟨#[], rfl, VRs.nil⟩, m2.congr rfl fun d' => ?_⟩
     ·simp [Builtin.delete_, run_underlying hu, MapKept.run_getObj_map h1, run_checkKey hd hik, run_findKey hd g1, m1]
     ·rw [H.get_set]
      by_cases hdb : d' = b
      ·rw [if_pos hdb, hdb, hg]
      ·rw [if_neg hdb]
    ·exact BYields.none
  ·exact BYields.none
 ·exact BYields.none
def plainD : TypeDesc → Bool
 | .int _ => true
 | .string => true
 | .bool => true
 | _ => false
def keyFs (E : Env) (cs : List V) : List Field → Bool
 | [] => true
 | f :: fs =>
  (match E.tt f.type with
   | some (_, d) => plainD d
   | none => false) && (aPart E f.type cs f.offset).isSome && keyFs E cs fs
def keyFs2 (E : Env) (cs : List V) : List Field → Bool
 | [] => true
 | f :: fs =>
  (match E.tt f.type, aPart E f.type cs f.offset with
   | some (_, .struct gs), some (.a cs') => keyFs E cs' gs.toList
   | some (_, d), some _ => plainD d
   | _, _ => false) && keyFs2 E cs fs
def keyT (E : Env) (kt : TypeId) (k : V) : Bool :=
 match E.tt kt, k with
 | some (_, .struct fs), .a cs => E.hl kt && keyFs2 E cs fs.toList
 | _, _ => false
theorem checkFs_ok {E : Env} (hE : E.OK) {φ : Ren} (w : World) (em : Bool) (n : Nat) {cs : List V} {vs : Array Value} (hc : VRs φ cs vs.toList) : ∀ (fs : List Field), keyFs E cs fs = true →
  (forIn (m := Sem) fs PUnit.unit fun f _ =>
   if f.name ≠ "_" then (do let a ← part f.type vs f.offset; Instr.checkKey em (n + 1) f.type a; pure (ForInStep.yield PUnit.unit)) else pure (ForInStep.yield PUnit.unit)).run E.P w = .ok PUnit.unit w
 | [], _ => by simp
 | f :: fs, h => by
  simp only [keyFs, Bool.and_eq_true] at h
  obtain ⟨⟨h1, h2⟩, h3⟩ := h
  have ih := checkFs_ok hE w em n hc fs h3
  cases ht : E.tt f.type with
  | none => rw [ht] at h1; cases h1
  | some td =>
   obtain ⟨i, d⟩ := td
   rw [ht] at h1
   obtain ⟨_, hu⟩ := hE.ty _ _ _ ht
   cases hp : aPart E f.type cs f.offset with
   | none => rw [hp] at h2; cases h2
   | some x =>
    obtain ⟨v, p1, _⟩ := aPart_ok hE w f.type hc f.offset hp
    have hck : (Instr.checkKey em (n + 1) f.type v).run E.P w = .ok () w := by
     unfold Instr.checkKey
     simp only [Sem.run_bind, run_underlying hu, Result.andThen]
     cases d <;> simp only [plainD] at h1 <;> first | (cases h1; done) | rfl
    simp only [List.forIn_cons, Sem.run_bind]
    by_cases hn : f.name = "_"
    ·simp only [hn, ne_eq, not_true_eq_false, if_false, Sem.run_pure, Result.andThen_ok]
     exact ih
    ·simp only [hn, ne_eq, not_false_eq_true, if_true, Sem.run_bind, p1, Result.andThen_ok, hck, Sem.run_pure]
     exact ih
theorem checkFs2_ok {E : Env} (hE : E.OK) {φ : Ren} (w : World) (em : Bool) (n : Nat) {cs : List V} {vs : Array Value} (hc : VRs φ cs vs.toList) : ∀ (fs : List Field), keyFs2 E cs fs = true →
  (forIn (m := Sem) fs PUnit.unit fun f _ =>
   if f.name ≠ "_" then (do let a ← part f.type vs f.offset; Instr.checkKey em (n + 2) f.type a; pure (ForInStep.yield PUnit.unit)) else pure (ForInStep.yield PUnit.unit)).run E.P w = .ok PUnit.unit w
 | [], _ => by simp
 | f :: fs, h => by
  simp only [keyFs2, Bool.and_eq_true] at h
  obtain ⟨h1, h3⟩ := h
  have ih := checkFs2_ok hE w em n hc fs h3
  have hck : ∃ v, (part f.type vs f.offset).run E.P w = .ok v w ∧ (Instr.checkKey em (n + 2) f.type v).run E.P w = .ok () w := by
   split at h1
   ·rename_i i gs cs' ht hp
    obtain ⟨_, hu⟩ := hE.ty _ _ _ ht
    obtain ⟨v, p1, p2⟩ := aPart_ok hE w f.type hc f.offset hp
    simp only [VR] at p2
    obtain ⟨vs', rfl, hc'⟩ := p2
    refine ⟨_, p1, ?_⟩
    have := checkFs_ok hE w em n hc' gs.toList h1
    unfold Instr.checkKey
    simp only [Sem.run_bind, run_underlying hu, Result.andThen]
    rw [← Array.forIn_toList]
    erw [this]
    rfl
   ·rename_i i d x _ ht hp
    obtain ⟨_, hu⟩ := hE.ty _ _ _ ht
    obtain ⟨v, p1, _⟩ := aPart_ok hE w f.type hc f.offset hp
    refine ⟨v, p1, ?_⟩
    unfold Instr.checkKey
    simp only [Sem.run_bind, run_underlying hu, Result.andThen]
    cases d <;> simp only [plainD] at h1 <;> first | (cases h1; done) | rfl
   ·cases h1
  obtain ⟨v, p1, hck⟩ := hck
  simp only [List.forIn_cons, Sem.run_bind]
  by_cases hn : f.name = "_"
  ·simp only [hn, ne_eq, not_true_eq_false, if_false, Sem.run_pure, Result.andThen_ok]
   exact ih
  ·simp only [hn, ne_eq, not_false_eq_true, if_true, Sem.run_bind, p1, Result.andThen_ok, hck, Sem.run_pure]
   exact ih
theorem keyT_check {E : Env} (hE : E.OK) {φ : Ren} (w : World) {kt : TypeId} {k : V} {vk : Value} (hk : VR φ k vk) (h : keyT E kt k = true) (em : Bool) : (Instr.checkKey em 10000 kt vk).run E.P w = .ok () w := by
 unfold keyT at h
 split at h
 ·rename_i i fs cs ht
  obtain ⟨_, hu⟩ := hE.ty _ _ _ ht
  simp only [Bool.and_eq_true] at h
  simp only [VR] at hk
  obtain ⟨vs, rfl, hc⟩ := hk
  have := checkFs2_ok hE w em 9997 hc fs.toList h.2
  unfold Instr.checkKey
  simp only [Sem.run_bind, run_underlying hu, Result.andThen]
  rw [← Array.forIn_toList]
  erw [this]
  rfl
 ·cases h
def findK (E : Env) (kt : TypeId) (k : V) : List (V × V × Nat) → Nat → Option (Option (Nat × V))
 | [], _ => some none
 | (k', v, _) :: es, i =>
  match aEq E 5 kt k k' with
  | some true => some (some (i, v))
  | some false => findK E kt k es (i + 1)
  | none => none
theorem findK_ok {E : Env} (hE : E.OK) {φ : Ren} (w : World) {kt : TypeId} {k : V} {kv : Value} (hk : VR φ k kv) : ∀ (es : List (V × V × Nat)) (l : List MapEntry) (i : Nat), ERs φ es l → ∀ r, findK E kt k es i = some r →
  match r with
  | none => (Instr.findAsking kt kv l i).run E.P w = .ok none w
  | some (j, v) => ∃ u, (Instr.findAsking kt kv l i).run E.P w = .ok (some (j, u)) w ∧ VR φ v u
 | [], l, i, hl, r, h => by
  simp only [ERs] at hl; subst hl
  simp only [findK, Option.some.injEq] at h
  subst h; simp [Instr.findAsking]
 | (k', v, n) :: es, l, i, hl, r, h => by
  simp only [ERs] at hl
  obtain ⟨e, l', rfl, h1, h2, h3, h4⟩ := hl
  simp only [findK] at h
  split at h
  ·rename_i he
   simp only [Option.some.injEq] at h
   subst h
   have := aEq_ok hE w 5 kt k k' true he 9995 kv e.key hk h1
   exact ⟨e.val, by simp [Instr.findAsking, Op.equal, Op.maxDepth, this], h2⟩
  ·rename_i he
   have h5 := aEq_ok hE w 5 kt k k' false he 9995 kv e.key hk h1
   have := findK_ok hE w hk es l' (i + 1) h4 r h
   cases r with
   | none => simpa [Instr.findAsking, Op.equal, Op.maxDepth, h5] using this
   | some jv =>
    obtain ⟨j, v'⟩ := jv
    obtain ⟨u, g1, g2⟩ := this
    exact ⟨u, by simpa [Instr.findAsking, Op.equal, Op.maxDepth, h5] using g1, g2⟩
  ·cases h
theorem findKey_struct {P : Program} {w : World} {kt : TypeId} {fs : Array Field} {k : Value} {l : List MapEntry} (hu : P.underlying kt = some (.struct fs)) {r : Option (Nat × Value)} (h : (Instr.findAsking kt k l 0).run P w = .ok r w) : (Instr.findKey kt k l).run P w = .ok r w := by
 cases l with
 | nil =>
  simp [Instr.findAsking] at h
  subst h
  simp [Instr.findKey, run_underlying hu, Instr.findNow]
 | cons e es => simp [Instr.findKey, run_underlying hu, Instr.findNow, Instr.sameNow, h]
def aLookT (E : Env) (t : TypeId) (x k : V) (ok : Bool) (h : H) : Option (V × H) :=
 match E.tt t, aEntries x h with
 | some (_, .map kt et), some es =>
  cond (keyT E kt k)
   (match findK E kt k es 0 with
    | some (some (_, v)) => some (cond ok (.t [v, .b true]) v, h)
    | some none =>
     match E.tt et with
     | some (i, _) =>
      match i.zero with
      | some z => some (cond ok (.t [cv z, .b false]) (cv z), h)
      | none => none
     | none => none
    | none => none) none
 | _, _ => none
theorem aEntries_ok {P : Program} {φ : Ren} {h : H} {w : World} (hr : HR φ h w) {x : V} {vx : Value} (hx : VR φ x vx) {es : List (V × V × Nat)} (he : aEntries x h = some es) :
  ∃ l : Array MapEntry, ERs φ es l.toList ∧ (vx = .map none ∧ l = #[] ∨ ∃ r c, vx = .map (some r) ∧ w.heap[r]? = some (.map l c)) := by
 unfold aEntries at he
 split at he
 ·simp only [Option.some.injEq] at he; subst he
  simp only [VR] at hx; subst hx
  exact ⟨#[], by simp [ERs], .inl ⟨rfl, rfl⟩⟩
 ·rename_i b
  simp only [VR] at hx; obtain ⟨r, hb, rfl⟩ := hx
  split at he
  ·rename_i es' clock hg
   simp only [Option.some.injEq] at he; subst he
   obtain ⟨o, h1, h2⟩ := hr.blk b r hb (by rw [hg]; trivial)
   rw [hg] at h2
   obtain ⟨l, rfl, h3⟩ := h2
   exact ⟨l, h3, .inr ⟨r, clock, rfl, h1⟩⟩
  ·cases he
 ·cases he
theorem aLookT_ok {E : Env} (hE : E.OK) {φ : Ren} {h : H} {w : World} (hr : HR φ h w) (t : TypeId) {x k : V} {vx vk : Value} (hx : VR φ x vx) (hk : VR φ k vk) (ok : Bool) :
  BYields E.P φ w (Instr.lookup t vx vk ok) (aLookT E t x k ok h) := by
 unfold aLookT
 split
 ·rename_i it kt et es ht hes
  obtain ⟨_, hu⟩ := hE.ty _ _ _ ht
  cases hkt : keyT E kt k with
  | false => exact BYields.none
  | true =>
   simp only [cond]
   obtain ⟨l, hl, hm⟩ := aEntries_ok (P := E.P) hr hx hes
   have hck := fun em => keyT_check hE w hk hkt em
   have hst : ∃ fs, E.P.underlying kt = some (.struct fs) := by
    unfold keyT at hkt
    split at hkt
    ·rename_i i fs cs ht'
     exact ⟨fs, (hE.ty _ _ _ ht').2⟩
    ·cases hkt
   obtain ⟨fs, hfs⟩ := hst
   have key : ∀ r, (Instr.findAsking kt vk l.toList 0).run E.P w = .ok r w → (Instr.lookup t vx vk ok).run E.P w = ((do
     let (v, ok') ← match r with
      | some (_, v) => pure (v, true)
      | none => pure (← zeroValue et, false)
     pure (if ok then .tuple #[v, .bool ok'] else v) : Sem Value)).run E.P w := fun r hf => by
    have hfk := findKey_struct hfs hf
    rcases hm with ⟨rfl, rfl⟩ | ⟨rr, c, rfl, hh⟩
    ·have hfk : (Instr.findKey kt vk (#[] : Array MapEntry).toList).run E.P w = .ok r w := hfk
     simp [Instr.lookup, run_underlying hu, hck, hfk]
     rfl
    ·simp [Instr.lookup, run_underlying hu, MapKept.run_getObj_map hh, hck, hfk]
     rfl
   split
   ·rename_i j v hf
    obtain ⟨u, g1, g2⟩ := findK_ok hE w hk es l.toList 0 hl _ hf
    refine BYields.pure hr (v := if ok then .tuple #[u, .bool true] else u) ?_ ?_
    ·rw [key _ g1]; rfl
    ·cases ok with
     | true => simp only [cond, if_true, VR]; exact ⟨_, rfl, VRs.cons g2 (VRs.cons (by simp [VR]) VRs.nil)⟩
     | false => simpa [cond] using g2
   ·rename_i hf
    have g1 := findK_ok hE w hk es l.toList 0 hl _ hf
    simp only at g1
    split
    ·rename_i i de het
     obtain ⟨hi, _⟩ := hE.ty _ _ _ het
     split
     ·rename_i z hz
      refine BYields.pure hr (v := if ok then .tuple #[z, .bool false] else z) ?_ ?_
      ·rw [key _ g1]; simp [run_zeroValue hi hz w]
      ·cases ok with
       | true => simp only [cond, if_true, VR]; exact ⟨_, rfl, VRs.cons (cv_ok φ z) (VRs.cons (by simp [VR]) VRs.nil)⟩
       | false => simpa [cond] using cv_ok φ z
     ·exact BYields.none
    ·exact BYields.none
   ·exact BYields.none
 ·exact BYields.none
def intB : Int → Int → Bool
 | .ofNat a, .ofNat b => Nat.beq a b
 | .negSucc a, .negSucc b => Nat.beq a b
 | _, _ => false
theorem intB_ok : ∀ {a b : Int}, intB a b = true → a = b
 | .ofNat _, .ofNat _, h => congrArg _ (Nat.eq_of_beq_eq_true h)
 | .negSucc _, .negSucc _, h => congrArg _ (Nat.eq_of_beq_eq_true h)
 | .ofNat _, .negSucc _, h => by cases h
 | .negSucc _, .ofNat _, h => by cases h
def natsB : List Nat → List Nat → Bool
 | [], [] => true
 | a :: l, b :: m => Nat.beq a b && natsB l m
 | _, _ => false
theorem natsB_ok : ∀ {a b : List Nat}, natsB a b = true → a = b
 | [], [], _ => rfl
 | x :: l, y :: m, h => by
  simp only [natsB, Bool.and_eq_true] at h
  rw [Nat.eq_of_beq_eq_true h.1, natsB_ok h.2]
 | [], _ :: _, h => by cases h
 | _ :: _, [], h => by cases h
def sameD : V → V → Bool
 | .b x, .b y => cond x y (!y)
 | .i k n, .i k' n' => decide (k = k') && intB n n'
 | .s l, .s l' => natsB l l'
 | _, _ => false
def sameDs : List V → List V → Bool
 | [], [] => true
 | x :: l, y :: m => sameD x y && sameDs l m
 | _, _ => false
def sameKey : V → V → Bool
 | .a l, .a l' => sameDs l l'
 | _, _ => false
def Told : Value → Prop
 | .bool _ => True
 | .int _ _ => True
 | .string _ => True
 | _ => False
theorem sameD_ok {φ : Ren} {x y : V} {v u : Value} (h : sameD x y = true) (hx : VR φ x v) (hy : VR φ y u) : v = u ∧ Told v := by
 unfold sameD at h
 split at h
 ·rename_i x y
  simp only [VR] at hx hy
  subst hx; subst hy
  refine ⟨?_, trivial⟩
  cases x <;> cases y <;> first | rfl | cases h
 ·rename_i k n k' n'
  simp only [Bool.and_eq_true, decide_eq_true_eq] at h
  simp only [VR] at hx hy
  subst hx; subst hy
  exact ⟨by rw [h.1, intB_ok h.2], trivial⟩
 ·simp only [VR] at hx hy
  rw [natsB_ok h] at hx
  obtain ⟨rfl, _⟩ := hx
  obtain ⟨rfl, _⟩ := hy
  exact ⟨rfl, trivial⟩
 ·cases h
theorem sameDs_ok {φ : Ren} : ∀ {l m : List V} {vs us : List Value}, sameDs l m = true → VRs φ l vs → VRs φ m us → vs = us ∧ ∀ v ∈ vs, Told v
 | [], [], vs, us, _, hx, hy => by
  simp only [VRs] at hx hy
  subst hx; subst hy
  exact ⟨rfl, fun v h => by cases h⟩
 | x :: l, y :: m, vs, us, h, hx, hy => by
  simp only [sameDs, Bool.and_eq_true] at h
  simp only [VRs] at hx hy
  obtain ⟨a, as', rfl, h1, h2⟩ := hx
  obtain ⟨b, bs, rfl, g1, g2⟩ := hy
  obtain ⟨rfl, e1⟩ := sameD_ok h.1 h1 g1
  obtain ⟨rfl, e2⟩ := sameDs_ok h.2 h2 g2
  exact ⟨rfl, fun v hv => by
   rcases List.mem_cons.1 hv with rfl | hv
   ·exact e1
   ·exact e2 v hv⟩
 | [], _ :: _, _, _, h, _, _ => by cases h
 | _ :: _, [], _, _, h, _, _ => by cases h
theorem told_bits {v : Value} (h : Told v) (n : Nat) : Instr.sameBits n v v = true := by
 cases v with
 | string s =>
  have e : (s == s) = true := by
   show (s.data == s.data) = true
   simp
  cases n <;> simp [Instr.sameBits, e]
 | bool b => cases n <;> simp [Instr.sameBits]
 | int k z => cases n <;> simp [Instr.sameBits]
 | _ => simp only [Told] at h
theorem told_zip : ∀ (l : List Value), (∀ v ∈ l, Told v) → ∀ n, ((l.zip l).all fun x => Instr.sameBits n x.1 x.2) = true
 | [], _, _ => rfl
 | v :: l, h, n => by
  simp only [List.zip_cons_cons, List.all_cons, Bool.and_eq_true]
  exact ⟨told_bits (h v (by simp)) n, told_zip l (fun u hu => h u (List.mem_cons_of_mem _ hu)) n⟩
theorem sameKey_ok {φ : Ren} {P : Program} {w : World} {x y : V} {v u : Value} (h : sameKey x y = true) (hx : VR φ x v) (hy : VR φ y u) : (Instr.keyThatStays u v).run P w = .ok v w := by
 unfold sameKey at h
 split at h
 ·simp only [VR] at hx hy
  obtain ⟨vs, rfl, h1⟩ := hx
  obtain ⟨us, rfl, h2⟩ := hy
  obtain ⟨e, ht⟩ := sameDs_ok h h1 h2
  have e : vs = us := by
   apply Array.ext'
   exact e
  subst e
  have : Instr.sameBits 10000 (.agg vs) (.agg vs) = true := by
   simp only [Instr.sameBits, beq_self_eq_true, Bool.true_and]
   exact told_zip _ ht 9999
  simp [Instr.keyThatStays, this]
 ·cases h
def keyAt : List (V × V × Nat) → Nat → V
 | [], _ => .top
 | (k, _, _) :: _, 0 => k
 | _ :: es, i + 1 => keyAt es i
theorem keyAt_ok {φ : Ren} : ∀ {es : List (V × V × Nat)} {l : List MapEntry} {i : Nat} {e : MapEntry}, EXs φ es l → l[i]? = some e → VR φ (keyAt es i) e.key
 | [], l, i, e, h, he => by
  simp only [EXs] at h; subst h
  simp at he
 | (k, v, n) :: es, l, i, e, h, he => by
  simp only [EXs] at h
  obtain ⟨e1, l1, rfl, h1, _, h4⟩ := h
  cases i with
  | zero =>
   simp only [List.getElem?_cons_zero, Option.some.injEq] at he
   subst he
   exact h1
  | succ i =>
   show VR φ (keyAt es i) e.key
   exact keyAt_ok h4 (by simpa using he)
theorem findAsking_at {P : Program} {kt : TypeId} {k : Value} : ∀ {l : List MapEntry} {i j : Nat} {u : Value} {w w' : World}, (Instr.findAsking kt k l i).run P w = .ok (some (j, u)) w' → ∃ q e, j = i + q ∧ l[q]? = some e
 | [], i, j, u, w, w', h => by simp [Instr.findAsking] at h
 | e :: l, i, j, u, w, w', h => by
  simp only [Instr.findAsking, Sem.run_bind] at h
  cases hr : (Op.equal kt k e.key).run P w with
  | ok b w1 =>
   rw [hr] at h
   simp only [Result.andThen] at h
   cases b with
   | true =>
    simp at h
    exact ⟨0, e, by omega, rfl⟩
   | false =>
    simp only [Bool.false_eq_true, if_false] at h
    obtain ⟨q, e', h1, h2⟩ := findAsking_at h
    exact ⟨q + 1, e', by omega, by simpa using h2⟩
  | _ => rw [hr] at h; simp [Result.andThen] at h
def aUpdT (E : Env) (t : TypeId) (x k v : V) (h : H) : Option (V × H) :=
 match E.tt t, x with
 | some (_, .map kt _), .m (some b) =>
  match h.get b with
  | .mp es c =>
   cond (keyT E kt k)
    (match findK E kt k es 0 with
     | some none => some (.top, h.set b (.mp (es ++ [(k, v, c)]) (c + 1)))
     | some (some (j, _)) => cond (sameKey k (keyAt es j)) (some (.top, h.set b (.mp (setE k v es j) c))) none
     | none => none) none
  | _ => none
 | _, _ => none
theorem aUpdT_ok {E : Env} (hE : E.OK) {φ : Ren} {h : H} {w : World} (hr : HR φ h w) (t : TypeId) {x k v : V} {vx vk vv : Value} (hx : VR φ x vx) (hk : VR φ k vk) (hv : VR φ v vv) :
  Yields E.P φ w (do Instr.mapUpdate t vx vk vv; pure .skip) (aUpdT E t x k v h) := by
 unfold aUpdT
 split
 ·rename_i it kt et b ht
  obtain ⟨_, hu⟩ := hE.ty _ _ _ ht
  simp only [VR] at hx; obtain ⟨r, hb, rfl⟩ := hx
  split
  ·rename_i es c hg
   obtain ⟨o, h1, h2⟩ := hr.blk b r hb (by rw [hg]; trivial)
   rw [hg] at h2
   obtain ⟨l, rfl, h3⟩ := h2
   cases hkt : keyT E kt k with
   | false => exact Yields.none
   | true =>
    simp only [cond]
    have hck := fun em => keyT_check hE w hk hkt em
    have hst : ∃ fs, E.P.underlying kt = some (.struct fs) := by
     unfold keyT at hkt
     split at hkt
     ·rename_i i fs cs ht'
      exact ⟨fs, (hE.ty _ _ _ ht').2⟩
     ·cases hkt
    obtain ⟨fs, hfs⟩ := hst
    split
    ·rename_i hf
     have g1 := findK_ok hE w hk es l.toList 0 h3 _ hf
     simp only at g1
     have hfk := findKey_struct hfs g1
     intro y h' e'
     simp only [Option.some.injEq, Prod.mk.injEq] at e'
     obtain ⟨rfl, rfl⟩ := e'
     have he : ERs φ (es ++ [(k, v, c)]) (l.push { key := vk, val := vv, born := c }).toList := by
      rw [Array.toList_push]
      exact h3.push (e := { key := vk, val := vv, born := c }) hk hv
     obtain ⟨m1, m2, m3⟩ := hr.setMap (P := E.P) hb hg h1 (c' := c + 1) he
     refine ⟨φ, undef, _, .inr ⟨?_, rfl⟩, m3, by simp [VR], m2⟩
     simp [Instr.mapUpdate, run_underlying hu, MapKept.run_getObj_map h1, hck, hfk, m1]
    ·rename_i j u hf
     obtain ⟨u', g1, _⟩ := findK_ok hE w hk es l.toList 0 h3 _ hf
     have hfk := findKey_struct hfs g1
     obtain ⟨q, e, rfl, he⟩ := findAsking_at g1
     rw [Nat.zero_add] at *
     intro y h' e'
     obtain ⟨hsk, e'⟩ := cond_some e'
     simp only [Option.some.injEq, Prod.mk.injEq] at e'
     obtain ⟨rfl, rfl⟩ := e'
     have hj : l[q]? = some e := by simpa using he
     have hst := sameKey_ok (P := E.P) (w := w) hsk hk (keyAt_ok (EXs.of h3) he)
     have he' : ERs φ (setE k v es q) (l.modify q fun e => { e with key := vk, val := vv }).toList := by
      rw [Array.toList_modify]; exact setE_ok hk hv q h3
     obtain ⟨m1, m2, m3⟩ := hr.setMap (P := E.P) hb hg h1 (c' := c) he'
     refine ⟨φ, undef, _, .inr ⟨?_, rfl⟩, m3, by simp [VR], m2⟩
     simp [Instr.mapUpdate, run_underlying hu, MapKept.run_getObj_map h1, hck, hfk, hj, hst, m1]
    ·exact Yields.none
  ·exact Yields.none
 ·exact Yields.none
def EqB (P : Program) (w : World) (kt : TypeId) (k : Value) (e : MapEntry) (b : Bool) : Prop := (Op.equal kt k e.key).run P w = .ok b w
def findM (E : Env) (kt : TypeId) (k : V) : List (V × V × Nat) → Nat → Option (Option (Nat × V))
 | [], _ => some none
 | (k', v, _) :: es, i =>
  match aEq E 5 kt k k', findM E kt k es (i + 1) with
  | some true, some none => some (some (i, v))
  | some false, some r => some r
  | _, _ => none
theorem findM_ok {E : Env} (hE : E.OK) {φ : Ren} (w : World) {kt : TypeId} {k : V} {kv : Value} (hk : VR φ k kv) : ∀ (es : List (V × V × Nat)) (ps : List MapEntry) (i : Nat), EXs φ es ps → ∀ r, findM E kt k es i = some r →
  match r with
  | none => ∀ e ∈ ps, EqB E.P w kt kv e false
  | some (j, v) => ∃ p1 e p2, ps = p1 ++ e :: p2 ∧ j = i + p1.length ∧ EqB E.P w kt kv e true ∧ VR φ v e.val ∧ (∀ e' ∈ p1, EqB E.P w kt kv e' false) ∧ ∀ e' ∈ p2, EqB E.P w kt kv e' false
 | [], ps, i, hl, r, h => by
  simp only [EXs] at hl; subst hl
  simp only [findM, Option.some.injEq] at h
  subst h
  exact fun e he => by cases he
 | (k', v, n) :: es, ps, i, hl, r, h => by
  simp only [EXs] at hl
  obtain ⟨e, ps', rfl, h1, h2, h4⟩ := hl
  simp only [findM] at h
  split at h
  ·rename_i he hr
   simp only [Option.some.injEq] at h
   subst h
   have := aEq_ok hE w 5 kt k k' true he 9995 kv e.key hk h1
   exact ⟨[], e, ps', rfl, rfl, by simp [EqB, Op.equal, Op.maxDepth, this], h2, fun e' he' => (by cases he'), findM_ok hE w hk es ps' (i + 1) h4 none hr⟩
  ·rename_i r' he hr
   simp only [Option.some.injEq] at h
   subst h
   have h5 := aEq_ok hE w 5 kt k k' false he 9995 kv e.key hk h1
   have h5 : EqB E.P w kt kv e false := by simp [EqB, Op.equal, Op.maxDepth, h5]
   have ih := findM_ok hE w hk es ps' (i + 1) h4 _ hr
   cases r' with
   | none =>
    intro e' he'
    rcases List.mem_cons.1 he' with rfl | hm
    ·exact h5
    ·exact ih e' hm
   | some jv =>
    obtain ⟨j, v'⟩ := jv
    obtain ⟨p1, e0, p2, rfl, g1, g2, g3, g4, g5⟩ := ih
    refine ⟨e :: p1, e0, p2, rfl, by rw [g1, List.length_cons]; omega, g2, g3, fun e' he' => ?_, g5⟩
    rcases List.mem_cons.1 he' with rfl | hm
    ·exact h5
    ·exact g4 e' hm
  ·cases h
theorem ask_none {P : Program} {w : World} {kt : TypeId} {k : Value} : ∀ (l : List MapEntry) (i : Nat), (∀ e ∈ l, EqB P w kt k e false) → (Instr.findAsking kt k l i).run P w = .ok none w
 | [], i, _ => by simp [Instr.findAsking]
 | e :: l, i, h => by
  have h1 : (Op.equal kt k e.key).run P w = .ok false w := h e (by simp)
  have := ask_none l (i + 1) fun e' he => h e' (List.mem_cons_of_mem _ he)
  simp [Instr.findAsking, h1, this]
theorem ask_some {P : Program} {w : World} {kt : TypeId} {k : Value} {e : MapEntry} {l2 : List MapEntry} (he : EqB P w kt k e true) : ∀ (l1 : List MapEntry) (i : Nat), (∀ e' ∈ l1, EqB P w kt k e' false) → (Instr.findAsking kt k (l1 ++ e :: l2) i).run P w = .ok (some (i + l1.length, e.val)) w
 | [], i, _ => by
  have h1 : (Op.equal kt k e.key).run P w = .ok true w := he
  simp [Instr.findAsking, h1]
 | e' :: l1, i, h => by
  have h1 : (Op.equal kt k e'.key).run P w = .ok false w := h e' (by simp)
  have := ask_some (l2 := l2) he l1 (i + 1) fun e'' he => h e'' (List.mem_cons_of_mem _ he)
  simp only [List.cons_append, Instr.findAsking, Sem.run_bind, h1, Result.andThen, Bool.false_eq_true, if_false, this, List.length_cons]
  rw [show i + 1 + l1.length = i + (l1.length + 1) by omega]
theorem perm_split {l p1 p2 : List MapEntry} {e : MapEntry} (h : l.Perm (p1 ++ e :: p2)) : ∃ l1 l2, l = l1 ++ e :: l2 ∧ (l1 ++ l2).Perm (p1 ++ p2) := by
 obtain ⟨l1, l2, rfl⟩ := List.append_of_mem (h.mem_iff.2 (by simp : e ∈ p1 ++ e :: p2))
 exact ⟨l1, l2, rfl, (List.perm_middle.symm.trans (h.trans List.perm_middle)).cons_inv⟩
theorem EXs.push {φ : Ren} : ∀ {x : List (V × V × Nat)} {l : List MapEntry}, EXs φ x l → ∀ {k v : V} {n : Nat} {e : MapEntry}, VR φ k e.key → VR φ v e.val → EXs φ (x ++ [(k, v, n)]) (l ++ [e])
 | [], l, h, k, v, n, e, hk, hv => by
  simp only [EXs] at h; subst h
  simp only [List.nil_append, EXs]
  exact ⟨e, [], rfl, hk, hv, rfl⟩
 | (k', v', n') :: xs, l, h, k, v, n, e, hk, hv => by
  simp only [EXs] at h
  obtain ⟨e', l', rfl, h1, h2, h4⟩ := h
  simp only [List.cons_append, EXs]
  exact ⟨e', _, rfl, h1, h2, EXs.push h4 hk hv⟩
theorem EXs.put {φ : Ren} {k v : V} {e e' : MapEntry} (hk : VR φ k e'.key) (hv : VR φ v e'.val) {p2 : List MapEntry} : ∀ {x : List (V × V × Nat)} (p1 : List MapEntry), EXs φ x (p1 ++ e :: p2) → EXs φ (setE k v x p1.length) (p1 ++ e' :: p2)
 | [], p1, h => by
  simp only [EXs] at h
  simp at h
 | (k', v', n') :: xs, [], h => by
  simp only [EXs, List.nil_append] at h
  obtain ⟨e0, l', he, h1, h2, h4⟩ := h
  cases he
  simp only [List.length_nil, setE, List.nil_append, EXs]
  exact ⟨e', _, rfl, hk, hv, h4⟩
 | (k', v', n') :: xs, c :: p1, h => by
  simp only [EXs, List.cons_append] at h
  obtain ⟨e0, l', he, h1, h2, h4⟩ := h
  cases he
  simp only [List.length_cons, setE, List.cons_append, EXs]
  exact ⟨_, _, rfl, h1, h2, EXs.put hk hv p1 h4⟩
theorem modify_mid {e : MapEntry} {l2 : List MapEntry} (f : MapEntry → MapEntry) : ∀ (l1 : List MapEntry), (l1 ++ e :: l2).modify l1.length f = l1 ++ f e :: l2
 | [] => by simp
 | c :: l1 => by
  simp only [List.cons_append, List.length_cons, List.modify_succ_cons]
  rw [modify_mid f l1]
theorem perm_mid {l1 l2 p1 p2 : List MapEntry} (e : MapEntry) (h : (l1 ++ l2).Perm (p1 ++ p2)) : (l1 ++ e :: l2).Perm (p1 ++ e :: p2) := List.perm_middle.trans ((List.Perm.cons e h).trans List.perm_middle.symm)
theorem keyT_struct {E : Env} (hE : E.OK) {kt : TypeId} {k : V} (hkt : keyT E kt k = true) : ∃ fs, E.P.underlying kt = some (.struct fs) := by
 unfold keyT at hkt
 split at hkt
 ·rename_i i fs cs ht'
  exact ⟨fs, (hE.ty _ _ _ ht').2⟩
 ·cases hkt
def aLookM (E : Env) (t : TypeId) (es : List (V × V × Nat)) (k : V) (ok : Bool) : Option V :=
 match E.tt t with
 | some (_, .map kt et) =>
  cond (keyT E kt k)
   (match findM E kt k es 0 with
    | some (some (_, v)) => some (cond ok (.t [v, .b true]) v)
    | some none =>
     match E.tt et with
     | some (i, _) =>
      match i.zero with
      | some z => some (cond ok (.t [cv z, .b false]) (cv z))
      | none => none
     | none => none
    | none => none) none
 | _ => none
theorem aLookM_ok {E : Env} (hE : E.OK) {φ : Ren} {h : H} {w : World} (hr : HR φ h w) (t : TypeId) {b r : Nat} (hb : φ b = some r) {es : List (V × V × Nat)} (hg : h.get b = .ms es) {k : V} {vk : Value} (hk : VR φ k vk) (ok : Bool) :
  BYields E.P φ w (Instr.lookup t (.map (some r)) vk ok) (match aLookM E t es k ok with | some v => some (v, h) | none => none) := by
 unfold aLookM
 split
 rotate_left
 ·exact BYields.none
 rename_i v0 hv0
 split at hv0
 rotate_left
 ·cases hv0
 rename_i it kt et ht
 obtain ⟨_, hu⟩ := hE.ty _ _ _ ht
 obtain ⟨hkt, hv0⟩ := cond_some hv0
 obtain ⟨o, h1, h2⟩ := hr.blk b r hb (by rw [hg]; trivial)
 rw [hg] at h2
 obtain ⟨l, c, ps, rfl, hx, hp⟩ := h2
 have hck := fun em => keyT_check hE w hk hkt em
 obtain ⟨fs, hfs⟩ := keyT_struct hE hkt
 have key : ∀ r', (Instr.findAsking kt vk l.toList 0).run E.P w = .ok r' w → (Instr.lookup t (.map (some r)) vk ok).run E.P w = ((do
   let (v, ok') ← match r' with
    | some (_, v) => pure (v, true)
    | none => pure (← zeroValue et, false)
   pure (if ok then .tuple #[v, .bool ok'] else v) : Sem Value)).run E.P w := fun r' hf => by
  have hfk := findKey_struct hfs hf
  simp [Instr.lookup, run_underlying hu, MapKept.run_getObj_map h1, hck, hfk]
  rfl
 split at hv0
 ·rename_i j v hf
  obtain ⟨p1, e, p2, rfl, _, g2, g3, g4, g5⟩ := findM_ok hE w hk es ps 0 hx _ hf
  obtain ⟨l1, l2, hl, hp'⟩ := perm_split hp
  have hfalse : ∀ e' ∈ l1 ++ l2, EqB E.P w kt vk e' false := fun e' he' => by
   rcases List.mem_append.1 (hp'.mem_iff.1 he') with hm | hm
   ·exact g4 e' hm
   ·exact g5 e' hm
  have ga := ask_some (l2 := l2) g2 l1 0 fun e' he' => hfalse e' (List.mem_append_left _ he')
  rw [← hl] at ga
  cases hv0
  refine BYields.pure hr (v := if ok then .tuple #[e.val, .bool true] else e.val) ?_ ?_
  ·rw [key _ ga]; rfl
  ·cases ok with
   | true => simp only [cond, if_true, VR]; exact ⟨_, rfl, VRs.cons g3 (VRs.cons (by simp [VR]) VRs.nil)⟩
   | false => simpa [cond] using g3
 ·rename_i hf
  have g1 := findM_ok hE w hk es ps 0 hx _ hf
  simp only at g1
  have ga := ask_none l.toList 0 fun e he => g1 e (hp.mem_iff.1 he)
  split at hv0
  ·rename_i i de het
   obtain ⟨hi, _⟩ := hE.ty _ _ _ het
   split at hv0
   ·rename_i z hz
    cases hv0
    refine BYields.pure hr (v := if ok then .tuple #[z, .bool false] else z) ?_ ?_
    ·rw [key _ ga]; simp [run_zeroValue hi hz w]
    ·cases ok with
     | true => simp only [cond, if_true, VR]; exact ⟨_, rfl, VRs.cons (cv_ok φ z) (VRs.cons (by simp [VR]) VRs.nil)⟩
     | false => simpa [cond] using cv_ok φ z
   ·cases hv0
  ·cases hv0
 ·cases hv0
theorem HR.setMapM {P : Program} {φ : Ren} {h : H} {w : World} (hr : HR φ h w) {b r : Nat} (hb : φ b = some r) {es : List (V × V × Nat)} {c : Nat} (hl : h.get b = .ms es) {l0 : Array MapEntry} (h0 : w.heap[r]? = some (.map l0 c))
  {es' : List (V × V × Nat)} {c' : Nat} {l' : Array MapEntry} {ps' : List MapEntry} (he : EXs φ es' ps') (hp : l'.toList.Perm ps') :
  (setObj r (.map l' c')).run P w = .ok () { w with heap := w.heap.setIfInBounds r (.map l' c') } ∧
  HR φ (h.set b (.ms es')) { w with heap := w.heap.setIfInBounds r (.map l' c') } ∧ Ext φ w φ { w with heap := w.heap.setIfInBounds r (.map l' c') } := by
 have hlt := (hr.dom b r hb).2
 have := hr.turn (b := b) (r := r) (w' := { w with heap := w.heap.setIfInBounds r (.map l' c') }) (.ms es') (.map l' c') hb (by rw [hl]; trivial) ⟨l', c', ps', rfl, he, hp⟩ (by simp) (by simp [hlt]) (fun s hs => by simp [Array.getElem?_setIfInBounds_ne (Ne.symm hs)]) rfl rfl rfl
 exact ⟨MapKept.run_setObj_map _ h0, this.1, this.2⟩
def aUpdM (E : Env) (t : TypeId) (b : Nat) (es : List (V × V × Nat)) (k v : V) (h : H) : Option (V × H) :=
 match E.tt t with
 | some (_, .map kt _) =>
  cond (keyT E kt k)
   (match findM E kt k es 0 with
    | some none => some (.top, h.set b (.ms (es ++ [(k, v, 0)])))
    | some (some (j, _)) => cond (sameKey k (keyAt es j)) (some (.top, h.set b (.ms (setE k v es j)))) none
    | none => none) none
 | _ => none
theorem aUpdM_ok {E : Env} (hE : E.OK) {φ : Ren} {h : H} {w : World} (hr : HR φ h w) (t : TypeId) {b r : Nat} (hb : φ b = some r) {es : List (V × V × Nat)} (hg : h.get b = .ms es) {k v : V} {vk vv : Value} (hk : VR φ k vk) (hv : VR φ v vv) :
  Yields E.P φ w (do Instr.mapUpdate t (.map (some r)) vk vv; pure .skip) (aUpdM E t b es k v h) := by
 unfold aUpdM
 split
 rotate_left
 ·exact Yields.none
 rename_i it kt et ht
 obtain ⟨_, hu⟩ := hE.ty _ _ _ ht
 intro y h' e'
 obtain ⟨hkt, e'⟩ := cond_some e'
 obtain ⟨o, h1, h2⟩ := hr.blk b r hb (by rw [hg]; trivial)
 rw [hg] at h2
 obtain ⟨l, c, ps, rfl, hx, hp⟩ := h2
 have hck := fun em => keyT_check hE w hk hkt em
 obtain ⟨fs, hfs⟩ := keyT_struct hE hkt
 split at e'
 ·rename_i hf
  have g1 := findM_ok hE w hk es ps 0 hx _ hf
  simp only at g1
  have ga := ask_none l.toList 0 fun e he => g1 e (hp.mem_iff.1 he)
  have hfk := findKey_struct hfs ga
  simp only [Option.some.injEq, Prod.mk.injEq] at e'
  obtain ⟨rfl, rfl⟩ := e'
  obtain ⟨m1, m2, m3⟩ := hr.setMapM (P := E.P) hb hg h1 (c' := c + 1) (l' := l.push { key := vk, val := vv, born := c }) (hx.push (n := 0) (e := { key := vk, val := vv, born := c }) hk hv) (by rw [Array.toList_push]; exact hp.append_right _)
  refine ⟨φ, undef, _, .inr ⟨?_, rfl⟩, m3, by simp [VR], m2⟩
  simp [Instr.mapUpdate, run_underlying hu, MapKept.run_getObj_map h1, hck, hfk, m1]
 ·rename_i j u hf
  obtain ⟨p1, e, p2, rfl, rfl, g2, _, g4, g5⟩ := findM_ok hE w hk es ps 0 hx _ hf
  rw [Nat.zero_add] at e'
  obtain ⟨hsk, e'⟩ := cond_some e'
  simp only [Option.some.injEq, Prod.mk.injEq] at e'
  obtain ⟨rfl, rfl⟩ := e'
  obtain ⟨l1, l2, hl, hp'⟩ := perm_split hp
  have hfalse : ∀ e' ∈ l1 ++ l2, EqB E.P w kt vk e' false := fun e' he' => by
   rcases List.mem_append.1 (hp'.mem_iff.1 he') with hm | hm
   ·exact g4 e' hm
   ·exact g5 e' hm
  have ga := ask_some (l2 := l2) g2 l1 0 fun e' he' => hfalse e' (List.mem_append_left _ he')
  rw [← hl] at ga
  have hfk := findKey_struct hfs ga
  rw [Nat.zero_add] at hfk
  have hj : l[l1.length]? = some e := by
   rw [← Array.getElem?_toList, hl, List.getElem?_append_right (Nat.le_refl _), Nat.sub_self]; rfl
  have hst := sameKey_ok (P := E.P) (w := w) hsk hk (keyAt_ok hx (i := p1.length) (e := e) (by rw [List.getElem?_append_right (Nat.le_refl _), Nat.sub_self]; rfl))
  obtain ⟨m1, m2, m3⟩ := hr.setMapM (P := E.P) hb hg h1 (c' := c) (l' := l.modify l1.length fun e => { e with key := vk, val := vv }) (EXs.put (k := k) (v := v) (e' := { e with key := vk, val := vv }) hk hv p1 hx) (by
   rw [Array.toList_modify, hl, modify_mid]
   exact perm_mid _ hp')
  refine ⟨φ, undef, _, .inr ⟨?_, rfl⟩, m3, by simp [VR], m2⟩
  simp [Instr.mapUpdate, run_underlying hu, MapKept.run_getObj_map h1, hck, hfk, hj, hst, m1]
 ·cases e'
def aMakeSlice (E : Env) (t : TypeId) (l c : V) (h : H) : Option (V × H) :=
 match E.tt t, l, c with
 | some (_, .slice e), .i _ (.ofNat a), .i _ (.ofNat b) =>
  match E.tt e with
  | some (i, _) =>
   match i.zero with
   | some z => cond (Nat.ble a b && Nat.ble (i.bytes * b) 281474976710656 && Nat.ble b 9223372036854775807) (some (.sl (some (h.n, 0)) a (.kn b), h.new (.cells (zeros (z.cells.toList.map cv0) (b * i.size)) e false))) none
   | none => none
  | none => none
 | _, _, _ => none
theorem aMakeSlice_ok {E : Env} (hE : E.OK) {φ : Ren} {h : H} {w : World} (hr : HR φ h w) (t : TypeId) {l c : V} {vl vc : Value} (hl : VR φ l vl) (hc : VR φ c vc) :
  BYields E.P φ w (Instr.makeSlice t vl vc) (aMakeSlice E t l c h) := by
 unfold aMakeSlice
 split
 ·rename_i it e k1 a k2 b ht
  obtain ⟨_, hu⟩ := hE.ty _ _ _ ht
  simp only [VR] at hl hc; subst hl; subst hc
  split
  ·rename_i i de he
   obtain ⟨hi, _⟩ := hE.ty _ _ _ he
   split
   ·rename_i z hz
    intro y h' e'
    obtain ⟨e1, e2⟩ : (Nat.ble a b && Nat.ble (i.bytes * b) 281474976710656 && Nat.ble b 9223372036854775807) = true ∧ some (V.sl (some (h.n, 0)) a (.kn b), h.new (.cells (zeros (z.cells.toList.map cv0) (b * i.size)) e false)) = some (y, h') := by
     cases hcc : (Nat.ble a b && Nat.ble (i.bytes * b) 281474976710656 && Nat.ble b 9223372036854775807) with
     | true => rw [hcc] at e'; exact ⟨rfl, e'⟩
     | false => rw [hcc] at e'; cases e'
    simp only [Bool.and_eq_true] at e1
    simp only [Option.some.injEq, Prod.mk.injEq] at e2
    obtain ⟨rfl, rfl⟩ := e2
    have h1 : a ≤ b := Nat.le_of_ble_eq_true e1.1.1
    have h2 : i.bytes * b ≤ 281474976710656 := Nat.le_of_ble_eq_true e1.1.2
    have h3 : b ≤ 9223372036854775807 := Nat.le_of_ble_eq_true e1.2
    have hrun := run_make (P := E.P) w t e i z hu hi hz k1 k2 (a : Int) (b : Int) (by omega) (by omega) (by rw [← Int.natCast_mul]; omega) (by omega)
    obtain ⟨g1, g2, g3⟩ := new_ok hr e (cs := zeros (z.cells.toList.map cv0) (b * i.size)) (vs := madeCells z.cells (b * i.size)) (zeros_ok z.cells (b * i.size))
    exact ⟨_, _, _, hrun, g2, by simp only [VR]; exact ⟨_, g3, h1, by simp⟩, g1⟩
   ·exact BYields.none
  ·exact BYields.none
 ·exact BYields.none
def keyS (E : Env) : TypeDesc → V → Bool
 | .int k, .y k' _ => decide (k' = k)
 | .string, .q x => E.qs x
 | d, v => keyV d v
theorem keyS_ok {E : Env} {φ : Ren} (hbd : BD E φ) {d : TypeDesc} {x : V} {v : Value} (hx : VR φ x v) (h : keyS E d x = true) : IsKey d v := by
 unfold keyS at h
 split at h
 ·simp only [VR] at hx; subst hx; simpa [IsKey] using h
 ·rename_i x
  simp only [VR] at hx
  obtain ⟨s, hs⟩ := hbd.here.qs _ h
  rw [hx.1, hs]; trivial
 ·exact keyV_ok hx h
def sameKD : TypeDesc → TypeDesc → Bool
 | .int k, .int k' => decide (k = k')
 | .string, .string => true
 | .bool, .bool => true
 | _, _ => false
theorem sameKD_ok {d d' : TypeDesc} (h : sameKD d d' = true) : d = d' := by
 unfold sameKD at h
 split at h
 ·rw [of_decide_eq_true h]
 ·rfl
 ·rfl
 ·cases h
def aLookS (E : Env) (t : TypeId) (x : Nat) (d' : TypeDesc) (ups : List (V × Option V)) (k : V) (ok : Bool) : Option V :=
 match E.tt t with
 | some (_, .map kt et) =>
  match E.tt kt, ups with
  | some (_, d), [] =>
   cond (keyS E d k && sameKD d d')
    (match E.mg x k with
     | some (some v) => some (cond ok (.t [v, .b true]) v)
     | some none =>
      match E.tt et with
      | some (i, _) =>
       match i.zero with
       | some z => some (cond ok (.t [cv z, .b false]) (cv z))
       | none => none
      | none => none
     | none => none) none
  | _, _ => none
 | _ => none
theorem aLookS_ok {E : Env} (hE : E.OK) {φ : Ren} (hbd : BD E φ) {h : H} {w : World} (hr : HR φ h w) (t : TypeId) {b r : Nat} (hb : φ b = some r) {x : Nat} {d' : TypeDesc} {ups : List (V × Option V)} (hg : ∃ es c, w.heap[r]? = some (.map es c) ∧ MU φ d' (φ.g x) ups (es, c) ∧ ∀ e ∈ es.toList, IsKey d' e.key)
  {k : V} {vk : Value} (hk : VR φ k vk) (ok : Bool) {y : V} (hy : aLookS E t x d' ups k ok = some y) : ∃ u, (Instr.lookup t (.map (some r)) vk ok).run E.P w = .ok u w ∧ VR φ y u := by
 unfold aLookS at hy
 split at hy
 ·rename_i it kt et ht
  obtain ⟨_, hu⟩ := hE.ty _ _ _ ht
  split at hy
  ·rename_i ik d hkt
   obtain ⟨_, hd⟩ := hE.ty _ _ _ hkt
   cases hc : keyS E d k && sameKD d d' with
   | false => rw [hc] at hy; cases hy
   | true =>
    rw [hc] at hy
    simp only [cond_true] at hy
    simp only [Bool.and_eq_true] at hc
    have hdd := sameKD_ok hc.2
    subst hdd
    have hik := keyS_ok hbd hk hc.1
    obtain ⟨es, c, h1, h3, h4⟩ := hg
    simp only [MU] at h3
    have hes : es = (φ.g x).1 := congrArg Prod.fst h3
    split at hy
    ·rename_i v hmg
     simp only [Option.some.injEq] at hy; subst hy
     obtain ⟨j, u, g1, g2⟩ := hbd.here.mg _ _ _ hmg d vk hk hik (hes ▸ h4)
     rw [← hes] at g1
     refine ⟨if ok then .tuple #[u, .bool true] else u, ?_, ?_⟩
     ·simp [Instr.lookup, run_underlying hu, MapKept.run_getObj_map h1, run_checkKey hd hik, run_findKey hd g1]
     ·cases ok with
      | true => simp only [cond, if_true, VR]; exact ⟨_, rfl, VRs.cons g2 (VRs.cons (by simp [VR]) VRs.nil)⟩
      | false => simpa [cond] using g2
    ·rename_i hmg
     have g1 := hbd.here.mg _ _ _ hmg d vk hk hik (hes ▸ h4)
     simp only at g1
     rw [← hes] at g1
     split at hy
     ·rename_i i de het
      obtain ⟨hi, _⟩ := hE.ty _ _ _ het
      split at hy
      ·rename_i z hz
       simp only [Option.some.injEq] at hy; subst hy
       refine ⟨if ok then .tuple #[z, .bool false] else z, ?_, ?_⟩
       ·simp [Instr.lookup, run_underlying hu, MapKept.run_getObj_map h1, run_checkKey hd hik, run_findKey hd g1, run_zeroValue hi hz w]
       ·cases ok with
        | true => simp only [cond, if_true, VR]; exact ⟨_, rfl, VRs.cons (cv_ok φ z) (VRs.cons (by simp [VR]) VRs.nil)⟩
        | false => simpa [cond] using cv_ok φ z
      ·cases hy
     ·cases hy
    ·cases hy
  ·cases hy
 ·cases hy
def aLookup (E : Env) (t : TypeId) (x k : V) (ok : Bool) (h : H) : Option (V × H) :=
 match x with
 | .m (some b) =>
  match h.get b with
  | .smp x' d' ups =>
   match aLookS E t x' d' ups k ok with
   | some v => some (v, h)
   | none => none
  | .rm x' d' =>
   match aLookS E t x' d' [] k ok with
   | some v => some (v, h)
   | none => none
  | .ms es =>
   match aLookM E t es k ok with
   | some v => some (v, h)
   | none => none
  | _ =>
   match aLookup0 E t x k ok h with
   | some r => some r
   | none => aLookT E t x k ok h
 | _ => aLookup0 E t x k ok h
theorem aLookup_ok {E : Env} (hE : E.OK) {φ : Ren} (hbd : BD E φ) {h : H} {w : World} (hr : HR φ h w) (t : TypeId) {x k : V} {vx vk : Value} (hx : VR φ x vx) (hk : VR φ k vk) (ok : Bool) :
  BYields E.P φ w (Instr.lookup t vx vk ok) (aLookup E t x k ok h) := by
 unfold aLookup
 split
 ·split
  ·rename_i b x' d' ups hg
   have hx' := hx
   simp only [VR] at hx'
   obtain ⟨r, hb, rfl⟩ := hx'
   split
   ·rename_i v hv
    obtain ⟨o, h1, h2⟩ := hr.blk _ r hb (by rw [hg]; trivial)
    rw [hg] at h2
    obtain ⟨es, c, rfl, h3, h4⟩ := h2
    obtain ⟨u, g1, g2⟩ := aLookS_ok hE hbd hr t hb ⟨es, c, h1, h3, h4⟩ hk ok hv
    exact BYields.pure hr g1 g2
   ·exact BYields.none
  ·rename_i b x' d' hg
   have hx' := hx
   simp only [VR] at hx'
   obtain ⟨r, hb, rfl⟩ := hx'
   split
   ·rename_i v hv
    obtain ⟨o, h1, h2⟩ := hr.blk _ r hb (by rw [hg]; trivial)
    rw [hg] at h2
    obtain ⟨es, c, rfl, h3, h4⟩ := h2
    obtain ⟨u, g1, g2⟩ := aLookS_ok hE hbd hr t hb ⟨es, c, h1, h3, h4⟩ hk ok hv
    exact BYields.pure hr g1 g2
   ·exact BYields.none
  ·rename_i b es hg
   have hx' := hx
   simp only [VR] at hx'
   obtain ⟨r, hb, rfl⟩ := hx'
   exact aLookM_ok hE hr t hb hg hk ok
  ·split
   ·rename_i r hr'
    have := aLookup0_ok hE hr t hx hk ok
    rw [hr'] at this; exact this
   ·exact aLookT_ok hE hr t hx hk ok
 ·exact aLookup0_ok hE hr t hx hk ok
theorem mset_keys {d : TypeDesc} {m : Array MapEntry × Nat} {k v : Value} (hk : IsKey d k) (h : ∀ e ∈ m.1.toList, IsKey d e.key) : ∀ e ∈ (mset d m k v).1.toList, IsKey d e.key := by
 unfold mset
 split
 ·rename_i j u hf
  rcases findNow_spec hk m.1.toList 0 h with ⟨h1, _⟩ | ⟨j', e', h1, h2, h3⟩
  ·rw [h1] at hf; cases hf
  ·refine isKey_modify h j _ fun e he => ?_
   rw [h1] at hf
   simp only [Option.some.injEq, Prod.mk.injEq, Nat.zero_add] at hf
   obtain ⟨rfl, _⟩ := hf
   have : m.1[j']? = some e' := by simpa using h2
   rw [this] at he; cases he
   exact h3.symm
 ·intro e he
  simp only [Array.toList_push, List.mem_append, List.mem_singleton] at he
  rcases he with he | rfl
  ·exact h e he
  ·exact hk
theorem mdel_keys {d : TypeDesc} {m : Array MapEntry × Nat} {k : Value} (h : ∀ e ∈ m.1.toList, IsKey d e.key) : ∀ e ∈ (mdel d m k).1.toList, IsKey d e.key := by
 unfold mdel
 split
 ·rename_i j u hf
  intro e he
  refine h e ?_
  unfold Array.eraseIdxIfInBounds at he
  split at he
  ·rw [Array.toList_eraseIdx] at he
   exact List.mem_of_mem_eraseIdx he
  ·exact he
 ·exact h
def aUpdS (E : Env) (t : TypeId) (b x : Nat) (d' : TypeDesc) (ups : List (V × Option V)) (k v : V) (h : H) : Option (V × H) :=
 match E.tt t with
 | some (_, .map kt _) =>
  match E.tt kt with
  | some (_, d) => cond (keyS E d k && sameKD d d') (some (.top, h.set b (.smp x d' (ups ++ [(k, some v)])))) none
  | _ => none
 | _ => none
theorem aUpdS_ok {E : Env} (hE : E.OK) {φ : Ren} (hbd : BD E φ) {h : H} {w : World} (hr : HR φ h w) (t : TypeId) {b r : Nat} (hb : φ b = some r) {x : Nat} {d' : TypeDesc} {ups : List (V × Option V)} (hg : h.get b = .smp x d' ups)
  {k v : V} {vk vv : Value} (hk : VR φ k vk) (hv : VR φ v vv) : Yields E.P φ w (do Instr.mapUpdate t (.map (some r)) vk vv; pure .skip) (aUpdS E t b x d' ups k v h) := by
 unfold aUpdS
 split
 ·rename_i it kt et ht
  obtain ⟨_, hu⟩ := hE.ty _ _ _ ht
  split
  ·rename_i ik d hkt
   obtain ⟨_, hd⟩ := hE.ty _ _ _ hkt
   cases hc : keyS E d k && sameKD d d' with
   | false => exact Yields.none
   | true =>
    simp only [Bool.and_eq_true] at hc
    have hdd := sameKD_ok hc.2
    subst hdd
    have hik := keyS_ok hbd hk hc.1
    obtain ⟨o, h1, h2⟩ := hr.blk b r hb (by rw [hg]; trivial)
    rw [hg] at h2
    obtain ⟨es, c, rfl, h3, h4⟩ := h2
    have hlt := (hr.dom b r hb).2
    intro y h' e'
    simp only [cond, Option.some.injEq, Prod.mk.injEq] at e'
    obtain ⟨rfl, rfl⟩ := e'
    have hMU : MU φ d (φ.g x) (ups ++ [(k, some v)]) (mset d (es, c) vk vv) := h3.snoc (by simp only [MU]; exact ⟨vk, vv, hk, hv, hik, rfl⟩)
    have hT := hr.turn (b := b) (r := r) (w' := { w with heap := w.heap.setIfInBounds r (.map (mset d (es, c) vk vv).1 (mset d (es, c) vk vv).2) }) (.smp x d (ups ++ [(k, some v)])) (.map (mset d (es, c) vk vv).1 (mset d (es, c) vk vv).2) hb (by rw [hg]; trivial)
     ⟨_, _, rfl, hMU, mset_keys hik h4⟩ (by simp) (by simp [hlt]) (fun s hs => by simp [Array.getElem?_setIfInBounds_ne (Ne.symm hs)]) rfl rfl rfl
    refine ⟨φ, undef, _, .inr ⟨?_, rfl⟩, hT.2, by simp [VR], hT.1⟩
    rcases findNow_spec hik es.toList 0 h4 with ⟨f1, _⟩ | ⟨j, e, f1, f2, f3⟩
    ·have em : mset d (es, c) vk vv = (es.push { key := vk, val := vv, born := c }, c + 1) := by simp only [mset, f1]
     rw [em]
     simp [Instr.mapUpdate, run_underlying hu, MapKept.run_getObj_map h1, run_checkKey hd hik, run_findKey hd f1, MapKept.run_setObj_map _ h1]
    ·rw [Nat.zero_add] at f1
     have em : mset d (es, c) vk vv = (es.modify j fun e => { e with key := vk, val := vv }, c) := by simp only [mset, f1]
     have hj : es[j]? = some e := by simpa using f2
     rw [em]
     simp [Instr.mapUpdate, run_underlying hu, MapKept.run_getObj_map h1, run_checkKey hd hik, run_findKey hd f1, hj, f3, run_keyThatStays hik, MapKept.run_setObj_map _ h1]
  ·exact Yields.none
 ·exact Yields.none
def aMapUpdate (E : Env) (t : TypeId) (x k v : V) (h : H) : Option (V × H) :=
 match x with
 | .m (some b) =>
  match h.get b with
  | .smp x' d' ups => aUpdS E t b x' d' ups k v h
  | .ms es => aUpdM E t b es k v h
  | _ =>
   match aMapUpdate0 E t x k v h with
   | some r => some r
   | none => aUpdT E t x k v h
 | _ => aMapUpdate0 E t x k v h
theorem aMapUpdate_ok {E : Env} (hE : E.OK) {φ : Ren} (hbd : BD E φ) {h : H} {w : World} (hr : HR φ h w) (t : TypeId) {x k v : V} {vx vk vv : Value} (hx : VR φ x vx) (hk : VR φ k vk) (hv : VR φ v vv) :
  Yields E.P φ w (do Instr.mapUpdate t vx vk vv; pure .skip) (aMapUpdate E t x k v h) := by
 unfold aMapUpdate
 split
 ·split
  ·rename_i b x' d' ups hg
   have hx' := hx
   simp only [VR] at hx'
   obtain ⟨r, hb, rfl⟩ := hx'
   exact aUpdS_ok hE hbd hr t hb hg hk hv
  ·rename_i b es hg
   have hx' := hx
   simp only [VR] at hx'
   obtain ⟨r, hb, rfl⟩ := hx'
   exact aUpdM_ok hE hr t hb hg hk hv
  ·split
   ·rename_i r hr'
    have := aMapUpdate0_ok hE hr t hx hk hv
    rw [hr'] at this; exact this
   ·exact aUpdT_ok hE hr t hx hk hv
 ·exact aMapUpdate0_ok hE hr t hx hk hv
def aDelS (E : Env) (t : TypeId) (b x : Nat) (d' : TypeDesc) (ups : List (V × Option V)) (k : V) (h : H) : Option (V × H) :=
 match E.tt t with
 | some (_, .map kt _) =>
  match E.tt kt with
  | some (_, d) => cond (keyS E d k && sameKD d d') (some (.t [], h.set b (.smp x d' (ups ++ [(k, none)])))) none
  | _ => none
 | _ => none
theorem aDelS_ok {E : Env} (hE : E.OK) {φ : Ren} (hbd : BD E φ) {h : H} {w : World} (hr : HR φ h w) (t t2 ty : TypeId) {b r : Nat} (hb : φ b = some r) {x : Nat} {d' : TypeDesc} {ups : List (V × Option V)} (hg : h.get b = .smp x d' ups)
  {k : V} {vk : Value} (hk : VR φ k vk) : BYields E.P φ w (Builtin.delete_ #[t, t2] ty #[.map (some r), vk]) (aDelS E t b x d' ups k h) := by
 unfold aDelS
 split
 ·rename_i it kt et ht
  obtain ⟨_, hu⟩ := hE.ty _ _ _ ht
  split
  ·rename_i ik d hkt
   obtain ⟨_, hd⟩ := hE.ty _ _ _ hkt
   cases hc : keyS E d k && sameKD d d' with
   | false => exact BYields.none
   | true =>
    simp only [Bool.and_eq_true] at hc
    have hdd := sameKD_ok hc.2
    subst hdd
    have hik := keyS_ok hbd hk hc.1
    obtain ⟨o, h1, h2⟩ := hr.blk b r hb (by rw [hg]; trivial)
    rw [hg] at h2
    obtain ⟨es, c, rfl, h3, h4⟩ := h2
    have hlt := (hr.dom b r hb).2
    intro y h' e'
    simp only [cond, Option.some.injEq, Prod.mk.injEq] at e'
    obtain ⟨rfl, rfl⟩ := e'
    have hMU : MU φ d (φ.g x) (ups ++ [(k, none)]) (mdel d (es, c) vk) := h3.snoc (by simp only [MU]; exact ⟨vk, hk, hik, rfl⟩)
    have hT := hr.turn (b := b) (r := r) (w' := { w with heap := w.heap.setIfInBounds r (.map (mdel d (es, c) vk).1 (mdel d (es, c) vk).2) }) (.smp x d (ups ++ [(k, none)])) (.map (mdel d (es, c) vk).1 (mdel d (es, c) vk).2) hb (by rw [hg]; trivial)
     ⟨_, _, rfl, hMU, mdel_keys h4⟩ (by simp) (by simp [hlt]) (fun s hs => by simp [Array.getElem?_setIfInBounds_ne (Ne.symm hs)]) rfl rfl rfl
    refine ⟨φ, .tuple #[], _, ?_, hT.2, by simp only [VR]; exact ⟨#[], rfl, VRs.nil⟩, hT.1⟩
    rcases findNow_spec hik es.toList 0 h4 with ⟨f1, _⟩ | ⟨j, e, f1, f2, f3⟩
    ·have em : mdel d (es, c) vk = (es, c) := by simp only [mdel, f1]
     rw [em]
     simp [Builtin.delete_, run_underlying hu, MapKept.run_getObj_map h1, run_checkKey hd hik, run_findKey hd f1, MapKept.run_setObj_map _ h1]
    ·rw [Nat.zero_add] at f1
     have em : mdel d (es, c) vk = (es.eraseIdxIfInBounds j, c) := by simp only [mdel, f1]
     rw [em]
     simp [Builtin.delete_, run_underlying hu, MapKept.run_getObj_map h1, run_checkKey hd hik, run_findKey hd f1, MapKept.run_setObj_map _ h1]
  ·exact BYields.none
 ·exact BYields.none
def aDelete (E : Env) (t : TypeId) (x k : V) (h : H) : Option (V × H) :=
 match x with
 | .m (some b) =>
  match h.get b with
  | .smp x' d' ups => aDelS E t b x' d' ups k h
  | _ => aDelete0 E t x k h
 | _ => aDelete0 E t x k h
theorem aDelete_ok {E : Env} (hE : E.OK) {φ : Ren} (hbd : BD E φ) {h : H} {w : World} (hr : HR φ h w) (t t2 ty : TypeId) {x k : V} {vx vk : Value} (hx : VR φ x vx) (hk : VR φ k vk) :
  BYields E.P φ w (Builtin.delete_ #[t, t2] ty #[vx, vk]) (aDelete E t x k h) := by
 unfold aDelete
 split
 ·split
  ·rename_i b x' d' ups hg
   have hx' := hx
   simp only [VR] at hx'
   obtain ⟨r, hb, rfl⟩ := hx'
   exact aDelS_ok hE hbd hr t t2 ty hb hg hk
  ·exact aDelete0_ok hE hr t t2 ty hx hk
 ·exact aDelete0_ok hE hr t t2 ty hx hk
end
end Go.Ev
namespace Go.Ev
noncomputable section
def aNil : V → Option V
 | .p (some a) => some (.p (some a))
 | .f fn a b => some (.f fn a b)
 | .ifc t v => some (.ifc t v)
 | .yl r => some (.yl r)
 | _ => none
def concreteD : TypeDesc → Bool
 | .interface _ => false
 | _ => true
def aRngS (E : Env) (t : TypeId) (x : V) (h : H) : Option (V × H) :=
 match E.tt t, x with
 | some (_, .string), .s l => some (.p (some (h.n, 0)), h.new (.iter l 0))
 | some (_, .map _ _), .m none => some (.p (some (h.n, 0)), h.new .mi0)
 | some (_, .map _ _), .m (some m) =>
  match h.get m with
  | .mp _ clk => some (.p (some (h.n, 0)), h.new (.mit m clk))
  | _ => none
 | _, _ => none
def findB (n : Nat) : List (V × V × Nat) → Option (V × V)
 | [] => none
 | (k, v, m) :: l => cond (Nat.beq m n) (some (k, v)) (findB n l)
def aEnt (x : V) (h : H) : Option (V × H) :=
 match x with
 | .p (some (b, 0)) =>
  match h.get b with
  | .mie m clk n =>
   match h.get m with
   | .mp es clk' =>
    match findB n es with
    | some (k, v) => cond (Nat.beq clk clk') (some (.t [k, v], h)) none
    | none => none
   | _ => none
  | _ => none
 | _ => none
theorem findB_ok {φ : Ren} {n : Nat} : ∀ {es : List (V × V × Nat)} {l : List MapEntry} {k v : V}, ERs φ es l → findB n es = some (k, v) → ∃ e, l.find? (·.born == n) = some e ∧ VR φ k e.key ∧ VR φ v e.val
 | [], _, _, _, _, h => by cases h
 | (k0, v0, m) :: es, l, k, v, he, h => by
  simp only [ERs] at he
  obtain ⟨e, l', rfl, h1, h2, h3, h4⟩ := he
  simp only [findB] at h
  cases hb : Nat.beq m n with
  | true =>
   rw [hb] at h
   simp only [cond, Option.some.injEq, Prod.mk.injEq] at h
   obtain ⟨rfl, rfl⟩ := h
   have := Nat.eq_of_beq_eq_true hb
   exact ⟨e, by simp [h3, this], h1, h2⟩
  | false =>
   rw [hb] at h
   obtain ⟨e', g1, g2⟩ := findB_ok h4 h
   have : ¬ e.born = n := fun e0 => by rw [← e0, h3, Nat.beq_refl] at hb; cases hb
   exact ⟨e', by rw [List.find?_cons_of_neg (by simpa using this)]; exact g1, g2⟩
theorem aEnt_ok {P : Program} {φ : Ren} {h : H} {w : World} (hr : HR φ h w) {x : V} {v : Value} (hx : VR φ x v) : Yields P φ w (do pure (.value (← Instr.entry v))) (aEnt x h) := by
 unfold aEnt
 split
 rotate_left
 ·exact Yields.none
 rename_i b
 split
 rotate_left
 ·exact Yields.none
 rename_i m clk n hg
 split
 rotate_left
 ·exact Yields.none
 rename_i es clk' hm
 split
 rotate_left
 ·exact Yields.none
 rename_i k u hf
 cases hc : Nat.beq clk clk' with
 | false => exact Yields.none
 | true =>
  have hc := Nat.eq_of_beq_eq_true hc
  subst hc
  simp only [cond]
  simp only [VR] at hx
  obtain ⟨r, hb, rfl⟩ := hx
  obtain ⟨o, h1, h2⟩ := hr.blk b r hb (by rw [hg]; trivial)
  rw [hg] at h2
  obtain ⟨rm, since, seen, h3, rfl⟩ := h2
  obtain ⟨om, h4, h5⟩ := hr.blk m rm h3 (by rw [hm]; trivial)
  rw [hm] at h5
  obtain ⟨es', rfl, h6⟩ := h5
  obtain ⟨e, g1, g2, g3⟩ := findB_ok h6 hf
  have hfind : es'.find? (·.born == n) = some e := by rw [← Array.find?_toList]; exact g1
  refine Yields.pure hr (v := .tuple #[e.key, e.val]) ?_ (by simp only [VR]; exact ⟨_, rfl, VRs.cons g2 (VRs.cons g3 VRs.nil)⟩)
  have : (Instr.entry (.pointer (some ⟨r, 0, none⟩))).run P w = .ok (.tuple #[e.key, e.val]) w := by
   simp only [Instr.entry, getObj, Sem.run_bind, Sem.run, h1, h4, Result.andThen, Array.back?_push, bne_self_eq_false, Bool.false_eq_true, if_false, hfind]
   rfl
  simp [this]
def aNxtS (x : V) (h : H) : Option (V × H) :=
 match x with
 | .p (some (b, 0)) =>
  match h.get b with
  | .iter l pos =>
   cond (Nat.blt pos l.length)
    (some (.t [.b true, .i .i64 (.ofNat pos), .i .i32 (.ofNat (Utf8.decode (bytes l) pos).1)], h.set b (.iter l (pos + (Utf8.decode (bytes l) pos).2))))
    (some (.t [.b false], h))
  | _ => none
 | _ => none
theorem aRngS_ok {E : Env} (hE : E.OK) {φ : Ren} {h : H} {w : World} (hr : HR φ h w) (t : TypeId) {x : V} {v : Value} (hx : VR φ x v) : Yields E.P φ w (do pure (.value (← Instr.range t v))) (aRngS E t x h) := by
 unfold aRngS
 split
 ·rename_i i l ht
  obtain ⟨_, hu⟩ := hE.ty _ _ _ ht
  simp only [VR] at hx
  obtain ⟨rfl, hl⟩ := hx
  intro y h' e
  cases e
  have hal := hr.alloc 0 (.iter l 0) (.stringIter (bytes l) 0) ⟨rfl, hl⟩
  refine ⟨_, .pointer (some ⟨w.heap.size, 0, none⟩), _, .inl ?_, hal.2, ?_, hal.1⟩
  ·simp [Instr.range, run_underlying hu]
  ·simp only [VR]; exact ⟨w.heap.size, by simp [up], rfl⟩
 ·rename_i i kt vt ht
  obtain ⟨_, hu⟩ := hE.ty _ _ _ ht
  simp only [VR] at hx
  subst hx
  intro y h' e
  cases e
  have hal := hr.alloc 0 .mi0 (.mapIter none 0 #[] 0) rfl
  refine ⟨_, .pointer (some ⟨w.heap.size, 0, none⟩), _, .inl ?_, hal.2, ?_, hal.1⟩
  ·simp [Instr.range, run_underlying hu]
  ·simp only [VR]; exact ⟨w.heap.size, by simp [up], rfl⟩
 ·rename_i i kt vt m ht
  obtain ⟨_, hu⟩ := hE.ty _ _ _ ht
  simp only [VR] at hx
  obtain ⟨r, hb, rfl⟩ := hx
  split
  ·rename_i es clk hm
   obtain ⟨o, h1, h2⟩ := hr.blk m r hb (by rw [hm]; trivial)
   rw [hm] at h2
   obtain ⟨es', rfl, _⟩ := h2
   intro y h' e
   cases e
   have hal := hr.alloc 0 (.mit m clk) (.mapIter (some r) clk #[] clk) ⟨r, by
    show (if m = h.n then some w.heap.size else φ m) = some r
    rw [if_neg (fun e => by have := (hr.dom _ _ hb).1; omega)]; exact hb, rfl⟩
   refine ⟨_, .pointer (some ⟨w.heap.size, 0, none⟩), _, .inl ?_, hal.2, ?_, hal.1⟩
   ·simp [Instr.range, run_underlying hu, getObj, Sem.run, h1]
   ·simp only [VR]; exact ⟨w.heap.size, by simp [up], rfl⟩
  ·exact Yields.none
 ·exact Yields.none
theorem aNxtS_ok {P : Program} {φ : Ren} {h : H} {w : World} (hr : HR φ h w) (ty : TypeId) {x : V} {v : Value} (hx : VR φ x v) : Yields P φ w (do pure (.value (← Instr.next v true ty))) (aNxtS x h) := by
 unfold aNxtS
 split
 ·rename_i b
  split
  ·rename_i l pos hg
   simp only [VR] at hx
   obtain ⟨r, hb, rfl⟩ := hx
   obtain ⟨o, h1, h2⟩ := hr.blk b r hb (by rw [hg]; trivial)
   rw [hg] at h2
   obtain ⟨rfl, hl⟩ := h2
   have hget : (getObj r).run P w = .ok (.stringIter (bytes l) pos) w := by simp [getObj, Sem.run, h1]
   cases hp : Nat.blt pos l.length with
   | false =>
    have hlt : ¬ pos < (bytes l).size := by
     rw [bytes_size]
     intro h; rw [blt_iff.2 h] at hp; cases hp
    refine Yields.pure hr (v := .tuple #[.bool false]) ?_ (by simp only [VR]; exact ⟨_, rfl, VRs.cons (by simp only [VR]) VRs.nil⟩)
    simp [Instr.next, hget, hlt]
   | true =>
    have hlt : pos < (bytes l).size := by rw [bytes_size]; exact blt_iff.1 hp
    simp only [cond]
    intro y h' e
    cases e
    have hrl : r < w.heap.size := (Array.getElem?_eq_some_iff.1 h1).1
    obtain ⟨t1, t2⟩ := hr.turn (w' := { w with heap := w.heap.setIfInBounds r (.stringIter (bytes l) (pos + (Utf8.decode (bytes l) pos).2)) }) (.iter l (pos + (Utf8.decode (bytes l) pos).2)) (.stringIter (bytes l) (pos + (Utf8.decode (bytes l) pos).2)) hb (by rw [hg]; trivial) ⟨rfl, hl⟩
     (by simp) (by simp [hrl]) (fun s hs => by
      simp only [Array.getElem?_setIfInBounds]
      rw [if_neg (fun e => hs e.symm)]) rfl rfl rfl
    have hset : (setObj r (.stringIter (bytes l) (pos + (Utf8.decode (bytes l) pos).2))).run P w = .ok () { w with heap := w.heap.setIfInBounds r (.stringIter (bytes l) (pos + (Utf8.decode (bytes l) pos).2)) } := by simp [setObj, Sem.run, h1]
    refine ⟨φ, .tuple #[.bool true, .int .i64 pos, .int .i32 (Utf8.decode (bytes l) pos).1], _, .inl ?_, t2, ?_, t1⟩
    ·simp [Instr.next, hget, hlt, hset, goInt]
    ·simp only [VR]
     exact ⟨_, rfl, VRs.cons (by simp only [VR]) (VRs.cons (by simp only [VR]; rfl) (VRs.cons (by simp only [VR]; rfl) VRs.nil))⟩
  ·exact Yields.none
 ·exact Yields.none
def aTA (E : Env) (u : TypeId) (ok : Bool) (x : V) : Option V :=
 match E.tt u, x with
 | some (i, d), .ifc ty v =>
  cond (concreteD d)
   (cond (Nat.beq ty u) (some (cond ok (.t [v, .b true]) v))
    (cond ok
     (match i.zero with
      | some z => some (.t [cv z, .b false])
      | none => none) none)) none
 | _, _ => none
def aop (E : Env) (fr : Fr) (o : Op) (h : H) : Option (V × H) :=
 match o with
 | .move x => some (ev E.ng fr x, h)
 | .assign x => some (ev E.ng fr x, h)
 | .pick c a b =>
  match ev E.ng fr c with
  | .b true => some (ev E.ng fr a, h)
  | .b false => some (ev E.ng fr b, h)
  | _ => none
 | .alloc t => aAlloc E t h
 | .box t x => aBox t (ev E.ng fr x) h
 | .build t ps => aBuild E t (aParts E.ng fr ps.toList) h
 | .buildSlice t n ps => aBuildSlice E t n (aParts E.ng fr ps.toList) h
 | .load t a => aLoad E t (ev E.ng fr a) h
 | .store t a x => aStore E t (ev E.ng fr a) (ev E.ng fr x) h
 | .nilCheck x =>
  match aNil (ev E.ng fr x) with
  | some y => some (y, h)
  | none => none
 | .binOp op t x y _ =>
  match aBinC E op t x y (ev E.ng fr x) (ev E.ng fr y) with
  | some r => some (r, h)
  | none => none
 | .unOp op _ x =>
  match aUn op (ev E.ng fr x) with
  | some r => some (r, h)
  | none => none
 | .convert s d x =>
  match aConv E s d (ev E.ng fr x) with
  | some r => some (r, h)
  | none =>
   match aBytes E s d (ev E.ng fr x) h with
   | some r => some (r, h)
   | none => aStrB E s d (ev E.ng fr x) h
 | .makeInterface t x =>
  match E.tt t with
  | some (_, d) => cond (concreteD d) (some (.ifc t (ev E.ng fr x), h)) none
  | none => none
 | .makeFunc (.func f) first caps => some (.f f (first.toList.map (ev E.ng fr)) (caps.toList.map (ev E.ng fr)), h)
 | .slice t x lo hi none => aSlice E t (ev E.ng fr x) (lo.map (ev E.ng fr)) (hi.map (ev E.ng fr)) h
 | .fieldAddr s x f => aFieldAddr E s (ev E.ng fr x) f h
 | .field t x f => aField E t (ev E.ng fr x) f h
 | .indexAddr t x i => aIndexAddr E t (ev E.ng fr x) (ev E.ng fr i) h
 | .index t x i => aIndex E t (ev E.ng fr x) (ev E.ng fr i) h
 | .makeMap t r => aMakeMap E t (r.map (ev E.ng fr)) h
 | .makeSlice t l c => aMakeSlice E t (ev E.ng fr l) (ev E.ng fr c) h
 | .lookup t x k ok => aLookup E t (ev E.ng fr x) (ev E.ng fr k) ok h
 | .mapUpdate t m k x => aMapUpdate E t (ev E.ng fr m) (ev E.ng fr k) (ev E.ng fr x) h
 | .insert t m k x => aMapUpdate E t (ev E.ng fr m) (ev E.ng fr k) (ev E.ng fr x) h
 | .extract x i =>
  match ev E.ng fr x with
  | .t vs =>
   match vs[i]? with
   | some y => some (y, h)
   | none => none
  | _ => none
 | .typeAssert x _ u ok =>
  match aTA E u ok (ev E.ng fr x) with
  | some r => some (r, h)
  | none => none
 | .range t x => aRngS E t (ev E.ng fr x) h
 | .next it true => aNxtS (ev E.ng fr it) h
 | .entry it => aEnt (ev E.ng fr it) h
 | _ => none
theorem aTA_ok {E : Env} (hE : E.OK) {φ : Ren} (w : World) (xt : TypeId) {u : TypeId} {ok : Bool} {x r : V} {vx : Value} (hx : VR φ x vx) (h : aTA E u ok x = some r) :
  ∃ v, (Instr.typeAssert vx xt u ok).run E.P w = .ok v w ∧ VR φ r v := by
 unfold aTA at h
 split at h
 ·rename_i i d ty v ht
  obtain ⟨hi, hu⟩ := hE.ty _ _ _ ht
  obtain ⟨hc, h0⟩ := cond_some h
  clear h
  simp only [VR] at hx
  obtain ⟨v', rfl, hv⟩ := hx
  have hd : ∀ (t : TypeId) (y : Value) , (Instr.typeAssert (.iface t y) xt u ok).run E.P w = (if t = u then (pure (if ok then .tuple #[y, .bool true] else y) : Sem Value) else (do if ok then pure (.tuple #[← zeroValue u, .bool false]) else runtimePanic (.typeAssertion (some xt) (some t) u "") : Sem Value)).run E.P w := fun t y => by
   by_cases e : t = u
   ·cases d <;> first | (simp [concreteD] at hc; done) | (simp [Instr.typeAssert, run_underlying hu, e]; done)
   ·cases d <;> first | (simp [concreteD] at hc; done) | (simp [Instr.typeAssert, run_underlying hu, e]; done)
  cases hb : Nat.beq ty u with
  | true =>
   rw [hb] at h0
   have e := Nat.eq_of_beq_eq_true hb
   subst e
   have h := Option.some.inj (show some (cond ok (V.t [v, .b true]) v) = some r from h0)
   subst h
   refine ⟨if ok then .tuple #[v', .bool true] else v', by rw [hd, if_pos rfl]; rfl, ?_⟩
   cases ok with
   | true => simp only [cond, if_true, VR]; exact ⟨_, rfl, VRs.cons hv (VRs.cons (by simp [VR]) VRs.nil)⟩
   | false => simpa [cond] using hv
  | false =>
   rw [hb] at h0
   have e : ty ≠ u := fun e => by rw [e, Nat.beq_refl] at hb; cases hb
   obtain ⟨hok, h1⟩ := cond_some (show cond ok _ none = some r from h0)
   subst hok
   split at h1
   ·rename_i z hz
    cases h1
    exact ⟨.tuple #[z, .bool false], by rw [hd, if_neg e]; simp [run_zeroValue hi hz w], by simp only [VR]; exact ⟨_, rfl, VRs.cons (cv_ok φ z) (VRs.cons (by simp [VR]) VRs.nil)⟩⟩
   ·cases h1
 ·cases h
theorem OR.map {ng : Nat} {φ : Ren} {fr : Fr} {a : Act} (hg : GL ng φ) (hf : FR φ fr a.tmps) (x : Option Operand) : OR φ (x.map (ev ng fr)) (x.map a.eval) := by
 cases x with
 | none => rfl
 | some x => exact ⟨_, rfl, ev_ok hg hf x⟩
theorem run_nil_ok {P : Program} {φ : Ren} {x y : V} {v : Value} (hx : VR φ x v) (h : aNil x = some y) (w : World) (ρ : Operand → Value) (o : Oper) (z : Operand) (ho : o.op = .nilCheck z) (hz : ρ z = v) :
  (execOp ρ o).run P w = .ok (.value v) w ∧ y = x := by
 cases x <;> try (cases h; done)
 ·rename_i a
  cases a with
  | none => cases h
  | some a =>
   obtain ⟨b, off⟩ := a
   simp only [aNil, Option.some.injEq] at h
   simp only [VR] at hx; obtain ⟨r, _, rfl⟩ := hx
   exact ⟨by simp [execOp, ho, hz], h.symm⟩
 ·simp only [aNil, Option.some.injEq] at h
  simp only [VR] at hx; obtain ⟨_, _, rfl, _⟩ := hx
  exact ⟨by simp [execOp, ho, hz], h.symm⟩
 ·simp only [aNil, Option.some.injEq] at h
  simp only [VR] at hx; obtain ⟨_, _, rfl⟩ := hx
  exact ⟨by simp [execOp, ho, hz], h.symm⟩
 ·simp only [aNil, Option.some.injEq] at h
  simp only [VR] at hx; obtain ⟨_, rfl, _⟩ := hx
  exact ⟨by simp [execOp, ho, hz], h.symm⟩
theorem aop_ok {E : Env} (hE : E.OK) {φ : Ren} (hg : GL E.ng φ) (hbd : BD E φ) {fr : Fr} {a : Act} (hf : FR φ fr a.tmps) {h : H} {w : World} (hr : HR φ h w) (o : Oper) :
  Yields E.P φ w (execOp a.eval o) (aop E fr o.op h) := by
 have he := fun x => ev_ok hg hf x
 cases hop : o.op with
 | move x => simp only [aop]; exact Yields.pure hr (by simp only [execOp, hop]; rfl) (he x)
 | assign x => simp only [aop]; exact Yields.pure hr (by simp only [execOp, hop]; rfl) (he x)
 | pick c x y =>
  simp only [aop]
  have hc := he c
  split
  ·rename_i e; rw [e] at hc; simp only [VR] at hc
   exact Yields.pure hr (by simp [execOp, hop, hc, asBool]) (he x)
  ·rename_i e; rw [e] at hc; simp only [VR] at hc
   exact Yields.pure hr (by simp [execOp, hop, hc, asBool]) (he y)
  ·exact Yields.none
 | alloc t => simp only [aop]; have := aAlloc_ok hE hr t; simpa only [execOp, hop] using this
 | box t x => simp only [aop]; have := aBox_ok (P := E.P) hr t (he x); simpa only [execOp, hop] using this
 | build t ps =>
  simp only [aop]
  have := aBuild_ok hE hr t (parts := aParts E.ng fr ps.toList) (parts' := ps.map fun p => (p.1, a.eval p.2)) (by rw [Array.toList_map]; exact aParts_ok hg hf ps.toList)
  simpa only [execOp, hop] using this
 | buildSlice t n ps =>
  simp only [aop]
  have := aBuildSlice_ok hE hr t n (parts := aParts E.ng fr ps.toList) (parts' := ps.map fun p => (p.1, a.eval p.2)) (by rw [Array.toList_map]; exact aParts_ok hg hf ps.toList)
  simpa only [execOp, hop] using this
 | load t x => simp only [aop]; have := aLoad_ok hE hbd hr t (he x); simpa only [execOp, hop] using this
 | store t x y => simp only [aop]; have := aStore_ok hE hr t (he x) (he y); simpa only [execOp, hop] using this
 | nilCheck x =>
  simp only [aop]
  split
  ·rename_i y hy
   obtain ⟨h1, h2⟩ := run_nil_ok (P := E.P) (he x) hy w a.eval o x hop rfl
   subst h2
   exact Yields.pure hr h1 (he x)
  ·exact Yields.none
 | binOp op t x y yt =>
  simp only [aop]
  split
  ·rename_i r hr'
   obtain ⟨v, h1, h2⟩ := aBinC_ok hE hbd op t x y (he x) (he y) hr' w
   exact Yields.pure hr (v := v) (by simp only [execOp, hop]; rw [Sem.run_bind, h1]; rfl) h2
  ·exact Yields.none
 | unOp op t x =>
  simp only [aop]
  split
  ·rename_i r hr'
   obtain ⟨v, h1, h2⟩ := aUn_ok (P := E.P) op (he x) hr' w
   exact Yields.pure hr (v := v) (by simp only [execOp, hop]; rw [Sem.run_bind, h1]; rfl) h2
  ·exact Yields.none
 | convert s d x =>
  simp only [aop]
  split
  ·rename_i r hr'
   obtain ⟨v, h1, h2⟩ := aConv_ok hE hbd s d (he x) hr' w
   exact Yields.pure hr (v := v) (by simp only [execOp, hop]; rw [Sem.run_bind, h1]; rfl) h2
  ·split
   ·rename_i r hr'
    obtain ⟨v, h1, h2⟩ := aBytes_ok hE hbd hr s d (he x) hr'
    exact Yields.pure hr (v := v) (by simp only [execOp, hop]; rw [Sem.run_bind, h1]; rfl) h2
   ·have := (aStrB_ok hE hr s d (he x)).yields
    simpa only [execOp, hop] using this
 | makeInterface t x =>
  simp only [aop]
  split
  ·rename_i i d ht
   obtain ⟨_, hu⟩ := hE.ty _ _ _ ht
   cases hc : concreteD d with
   | false => exact Yields.none
   | true =>
    simp only [cond]
    refine Yields.pure hr (v := .iface t (a.eval x)) ?_ (by simp only [VR]; exact ⟨_, rfl, he x⟩)
    cases d <;> first | (simp [concreteD] at hc; done) | simp [execOp, hop, Instr.makeInterface, run_underlying hu]
  ·exact Yields.none
 | makeFunc fn first caps =>
  cases fn with
  | func f =>
   simp only [aop]
   refine Yields.pure hr (v := .func (.func f) (first.map a.eval) (caps.map a.eval)) ?_ ?_
   ·simp only [execOp, hop, Instr.makeFunc]; rfl
   ·simp only [VR]
    exact ⟨_, _, rfl, by rw [Array.toList_map]; exact evs_ok hg hf _, by rw [Array.toList_map]; exact evs_ok hg hf _⟩
  | _ => simp only [aop]; exact Yields.none
 | slice t x lo hi mx =>
  cases mx with
  | some _ => simp only [aop]; exact Yields.none
  | none =>
   simp only [aop]
   have := (aSlice_ok hE hbd hr t (he x) (OR.map hg hf lo) (OR.map hg hf hi)).yields
   simpa only [execOp, hop, Option.map_none] using this
 | fieldAddr s x f => simp only [aop]; have := aFieldAddr_ok hE hr s (he x) f; simpa only [execOp, hop] using this
 | field s x f => simp only [aop]; have := aField_ok hE hr s (he x) f; simpa only [execOp, hop] using this
 | indexAddr t x i => simp only [aop]; have := aIndexAddr_ok hE hbd hr t (he x) (he i); simpa only [execOp, hop] using this
 | index t x i => simp only [aop]; have := aIndex_ok hE hr t (he x) (he i); simpa only [execOp, hop] using this
 | makeMap t r =>
  simp only [aop]
  have := (aMakeMap_ok hE hr t (OR.map hg hf r)).yields
  simpa only [execOp, hop] using this
 | makeSlice t l c =>
  simp only [aop]
  have := (aMakeSlice_ok hE hr t (he l) (he c)).yields
  simpa only [execOp, hop] using this
 | lookup t x k ok =>
  simp only [aop]
  have := (aLookup_ok hE hbd hr t (he x) (he k) ok).yields
  simpa only [execOp, hop] using this
 | mapUpdate t m k x =>
  simp only [aop]
  have := aMapUpdate_ok hE hbd hr t (he m) (he k) (he x)
  simpa only [execOp, hop] using this
 | insert t m k x =>
  simp only [aop]
  have := aMapUpdate_ok hE hbd hr t (he m) (he k) (he x)
  simpa only [execOp, hop] using this
 | extract x i =>
  simp only [aop]
  have hx := he x
  split
  ·rename_i vs e
   rw [e] at hx; simp only [VR] at hx
   obtain ⟨vs', hv, hvs⟩ := hx
   split
   ·rename_i y hy
    obtain ⟨z, hz, hyz⟩ := hvs.get hy
    have hz' : vs'[i]? = some z := by simpa using hz
    exact Yields.pure hr (v := z) (by simp [execOp, hop, hv, Instr.extract, hz']) hyz
   ·exact Yields.none
  ·exact Yields.none
 | typeAssert x xt u ok =>
  simp only [aop]
  split
  ·rename_i r e
   obtain ⟨v, h1, h2⟩ := aTA_ok hE w xt (he x) e
   exact Yields.pure hr (v := v) (by simp [execOp, hop, h1]) h2
  ·exact Yields.none
 | entry it => simp only [aop]; have := aEnt_ok (P := E.P) hr (he it); simpa only [execOp, hop] using this
 | range t x => simp only [aop]; have := aRngS_ok hE hr t (he x); simpa only [execOp, hop] using this
 | next it b =>
  cases b with
  | true => simp only [aop]; have := aNxtS_ok (P := E.P) hr o.type (he it); simpa only [execOp, hop] using this
  | false => simp only [aop]; exact Yields.none
 | _ => simp only [aop]; exact Yields.none
end
end Go.Ev
