/- The abstract machine, part M: regions, code, calls, ranges over functions: what is told is so. -/
import Derived.Test.YtolinijabfbjpaaGreatDoorA04
import Derived.OrdersIn
set_option linter.all false
namespace Go.Ev
noncomputable section

theorem yields_wpIn {E : Env} {ro : Option Nat} {n : Nat} {φ : Ren} {w : World} {a : Act} {o : Oper} {r : Option (V × H)} (hd : ∀ c, o.op ≠ .defer c) (hy : Yields E.P φ w (execOp a.eval o) r) {x : V} {h' : H} (hr : r = some (x, h'))
    {K : Act → World → Prop} {Q : Exit → Act → World → Prop} (hK : ∀ φ' v w', Ext φ w φ' w' → VR φ' x v → HR φ' h' w' → K (a.put o.dst v) w') : o.wpIn (W ro) n E.P a w K Q := by
  refine ⟨fun _ _ => trivial, ?_⟩
  rw [Oper.semAt_eq _ _ _ hd]
  obtain ⟨φ', v, w', h1, h2, h3, h4⟩ := hy x h' hr
  rcases h1 with h1 | ⟨h1, rfl⟩
  · rw [h1]; exact hK φ' v w' h2 h3 h4
  · rw [h1]; exact hK φ' undef w' h2 h3 h4

theorem astep_ok {E : Env} (hE : E.OK) {call yld : CallT} (hC : CallOK E call) (hY : YieldOK E yld) {φ : Ren} (hg : GL E.ng φ) (hbd : BD E φ) {fr : Fr} {a : Act} (hf : FR φ fr a.tmps) {h : H} {w : World} (hr : HR φ h w)
    (ro : Option Nat) (n : Nat) (o : Oper) {x : V} {h' : H} (hs : astep E call yld fr o.op h = some (x, h'))
    {K : Act → World → Prop} {Q : Exit → Act → World → Prop} (hK : ∀ φ' v w', Ext φ w φ' w' → VR φ' x v → HR φ' h' w' → K (a.put o.dst v) w') : o.wpIn (W ro) n E.P a w K Q := by
  cases hop : o.op with
  | call c =>
    rw [hop] at hs
    simp only [astep] at hs
    have hargs := evs_ok hg hf c.args.toList
    have hmap : c.args.toList.map a.eval = (c.args.map a.eval).toList := by simp
    split at hs
    · rename_i b hcal
      obtain ⟨cs, e⟩ : ∃ cs, execOp a.eval o = builtin b c.argTypes o.type cs (c.args.map a.eval) := ⟨_, by simp only [execOp, hop, resolve, hcal, pure_bind, invoke]; rfl⟩
      have hb := aBuiltin_ok hE hbd hr b c.argTypes o.type cs hargs
      refine yields_wpIn (fun c' e => by rw [hop] at e; cases e) (r := aBuiltin E b c.argTypes.toList (c.args.toList.map (ev E.ng fr)) h) ?_ hs hK
      rw [e]
      have harr : (c.args.toList.map a.eval).toArray = c.args.map a.eval := by
        apply Array.ext'
        simp
      rw [harr] at hb
      exact hb
    · rename_i f hcal
      have hfv := ev_ok hg hf f
      split at hs
      · rename_i g first caps hg'
        rw [hg'] at hfv
        simp only [VR] at hfv
        obtain ⟨first', caps', hv, h1, h2⟩ := hfv
        obtain ⟨⟨fn, cd, hfn, hbody, hname⟩, hcall⟩ := hC _ _ _ _ _ hs φ (first'.toList ++ c.args.toList.map a.eval ++ caps'.toList) w (n - 1) hg hbd ((h1.append hargs).append h2) hr
        refine ⟨fun _ _ => trivial, ?_⟩
        rw [Oper.semAt_eq _ _ _ (fun c' e => by rw [hop] at e; cases e)]
        have harr : (first'.toList ++ c.args.toList.map a.eval ++ caps'.toList).toArray = first' ++ c.args.map a.eval ++ caps' := by
          apply Array.ext'
          simp
        have hname' : ¬ fn.name = "runtime.NumGoroutine" := by simpa using hname
        have e : (execOp a.eval o).run E.P w = .ok (.enter g (first' ++ c.args.map a.eval ++ caps')) w := by
          simp [execOp, hop, resolve, hcal, hv, Deferred.ofValue, invoke, callFunc, hfn, hbody, hname']
        rw [e]
        refine ⟨(fun hd => (by cases hd)), ?_⟩
        rw [harr] at hcall
        refine (callsW (ro := ro) hcall).mono ?_
        rintro e w' ⟨φ', v', rfl, h3, h4, h5⟩
        exact hK φ' v' w' h3 h4 h5
      · rename_i l hl
        rw [hl] at hfv
        simp only [VR] at hfv
        obtain ⟨r, hlr, hv⟩ := hfv
        obtain ⟨fn, tmps, assign, body, hy1, hy2⟩ := hY _ _ _ _ _ hs φ _ w (n - 1) ro r hg hbd hargs hr hlr
        refine ⟨fun _ _ => trivial, ?_⟩
        rw [Oper.semAt_eq _ _ _ (fun c' e => by rw [hop] at e; cases e)]
        have harr : (c.args.toList.map a.eval).toArray = c.args.map a.eval := by
          apply Array.ext'
          simp
        rw [harr] at hy1
        have e : (execOp a.eval o).run E.P w = .ok (.round r fn tmps assign body) w := by
          simp [execOp, hop, resolve, hcal, hv, Deferred.ofValue, invoke, hy1]
        rw [e]
        refine ⟨(fun hd => (by cases hd)), ?_⟩
        refine hy2.mono ?_
        rintro e w' ⟨φ', v', rfl, h3, h4, h5⟩
        exact hK φ' v' w' h3 h4 h5
      · cases hs
    · cases hs
  | defer c => rw [hop] at hs; simp only [astep] at hs; cases hs
  | _ =>
    rw [hop] at hs
    simp only [astep] at hs
    refine yields_wpIn (fun c' e => by rw [hop] at e; cases e) (aop_ok hE hg hbd hf hr o) (by rw [hop]; exact hs) hK

theorem aops_ok {E : Env} (hE : E.OK) {call yld : CallT} (hC : CallOK E call) (hY : YieldOK E yld) (ops : Array Oper) (ro : Option Nat) (n : Nat) {Q : Exit → Act → World → Prop} : ∀ (l : List Oper) (fr : Fr) (h : H) (fr' : Fr) (h' : H), aops E call yld ops l fr h = some (fr', h') →
    ∀ (φ : Ren) (a : Act) (w : World), GL E.ng φ → BD E φ → FR φ fr a.tmps → HR φ h w →
    (∀ φ' a' w', Ext φ w φ' w' → FR φ' fr' a'.tmps → a'.defers = a.defers → HR φ' h' w' → Q .normal a' w') → wpListIn (W ro) n E.P ops Q l a w
  | [], fr, h, fr', h', e, φ, a, w, _, _, hf, hr, hQ => by
    simp only [aops_nil, Option.some.injEq, Prod.mk.injEq] at e
    obtain ⟨rfl, rfl⟩ := e
    exact hQ φ a w (Ext.refl φ w) hf rfl hr
  | o :: rest, fr, h, fr', h', e, φ, a, w, hg, hbd, hf, hr, hQ => by
    simp only [aops_cons] at e
    split at e
    · rename_i hw
      have hwant := aguard_ok hf hw
      simp only [wpListIn, hwant, if_true]
      split at e
      · rename_i v h1 hs
        refine astep_ok hE hC hY hg hbd hf hr ro n o hs fun φ' u w' hx hv hr' => ?_
        split at e
        · rename_i hd
          refine aops_ok hE hC hY ops ro n rest fr h1 fr' h' e φ' (a.put o.dst u) w' (hg.mono hx.le) (hbd.mono hx.le) ?_ hr' fun φ'' a'' w'' hx' hf'' hd'' hr'' => ?_
          · rw [hd]; exact hf.mono hx.le
          · exact hQ φ'' a'' w'' (hx.trans hx') hf'' (by rw [hd''] ; rw [hd]; rfl) hr''
        · rename_i d hd
          cases hlt : Nat.blt d fr.n with
          | false => rw [hlt] at e; cases e
          | true =>
            rw [hlt] at e
            simp only [cond] at e
            refine aops_ok hE hC hY ops ro n rest (fr.set d v) h1 fr' h' e φ' (a.put o.dst u) w' (hg.mono hx.le) (hbd.mono hx.le) ?_ hr' fun φ'' a'' w'' hx' hf'' hd'' hr'' => ?_
            · rw [hd]; exact (hf.mono hx.le).put (blt_iff.1 hlt) hv
            · exact hQ φ'' a'' w'' (hx.trans hx') hf'' (by rw [hd'']; rw [hd]; rfl) hr''
      · cases e
    · rename_i hw
      have hwant := aguard_ok hf hw
      simp only [wpListIn, hwant, Bool.false_eq_true, if_false]
      refine ⟨fun _ _ => trivial, ?_⟩
      split at e
      · rename_i hd
        refine aops_ok hE hC hY ops ro n rest fr h fr' h' e φ (a.put o.dst undef) w hg hbd ?_ hr fun φ'' a'' w'' hx' hf'' hd'' hr'' => ?_
        · rw [hd]; exact hf
        · exact hQ φ'' a'' w'' hx' hf'' (by rw [hd'']; rw [hd]; rfl) hr''
      · rename_i d hd
        cases hlt : Nat.blt d fr.n with
        | false => rw [hlt] at e; cases e
        | true =>
          rw [hlt] at e
          simp only [cond] at e
          refine aops_ok hE hC hY ops ro n rest (fr.set d (.t [])) h fr' h' e φ (a.put o.dst undef) w hg hbd ?_ hr fun φ'' a'' w'' hx' hf'' hd'' hr'' => ?_
          · rw [hd]; exact hf.put (blt_iff.1 hlt) (by simp only [VR]; exact ⟨#[], rfl, by simp [VRs]⟩)
          · exact hQ φ'' a'' w'' hx' hf'' (by rw [hd'']; rw [hd]; rfl) hr''
    · cases e

end
end Go.Ev

/- The abstract machine, part Q: a region that draws its order: any order of it comes to what its text's order comes to. -/
namespace Go.Ev
noncomputable section

/-- What an operation waits for, in whatever order. -/
def deps (o : Oper) : List Nat := o.after.toList.filterMap fun e => cond (Region.binds .any e) (some e.on) none

def Down (ops : Array Oper) (L : Nat → Prop) : Prop := ∀ i o, ops[i]? = some o → L i → ∀ j ∈ deps o, L j

/-- One operation comes ahead of another one (or is it), in whatever order. -/
def Anc (ops : Array Oper) (j i : Nat) : Prop := ∀ L, Down ops L → L i → L j
theorem Anc.refl {ops : Array Oper} (i : Nat) : Anc ops i i := fun _ _ h => h
theorem Anc.trans {ops : Array Oper} {i j k : Nat} (h : Anc ops i j) (h' : Anc ops j k) : Anc ops i k := fun L hd hk => h L hd (h' L hd hk)
theorem Anc.dep {ops : Array Oper} {i j : Nat} {o : Oper} (ho : ops[i]? = some o) (hj : j ∈ deps o) : Anc ops j i := fun _ hd h => hd i o ho h j hj

/-- Which temporaries an operation looks at. -/
def reads (ops : Array Oper) (o : Oper) : List Nat :=
  (match o.guard with
   | none => []
   | some (j, _) =>
     match (ops[j]?).bind (·.dst) with
     | some t => [t]
     | none => []) ++ o.op.operands.toList.filterMap fun x => match x with | .tmp t => some t | _ => none

/-! ### A new block of known cells, that may come at any time -/
/-- What an operation that only lays a new block makes, under a name. -/
def flO (E : Env) (o : Op) (b : Nat) : Option (V × Blk) :=
  match o with
  | .alloc t =>
    match E.tt t with
    | some (i, _) =>
      match i.zero with
      | some z => some (.p (some (b, 0)), .cells (z.cells.toList.map cv0) t false)
      | none => none
    | none => none
  | .makeSlice t (.const l) (.const c) =>
    match E.tt t, cv l, cv c with
    | some (_, .slice e), .i _ (.ofNat a), .i _ (.ofNat k) =>
      match E.tt e with
      | some (i, _) =>
        match i.zero with
        | some z => cond (Nat.ble a k && Nat.ble (i.bytes * k) 281474976710656 && Nat.ble k 9223372036854775807) (some (.sl (some (b, 0)) a (.kn k), .cells (zeros (z.cells.toList.map cv0) (k * i.size)) e false)) none
        | none => none
      | none => none
    | _, _, _ => none
  | _ => none
theorem flO_ok {E : Env} (hE : E.OK) {o : Oper} {b : Nat} {x : V} {blk : Blk} (h : flO E o.op b = some (x, blk)) (ρ : Operand → Value) (hρ : ∀ v, ρ (.const v) = v) (w : World) : (∀ c, o.op ≠ .defer c) ∧ ∃ v vs e, (execOp ρ o).run E.P w = .ok (.value v) { w with heap := w.heap.push (.cells vs e) } ∧
    ∀ φ' : Ren, φ' b = some w.heap.size → φ'.n b = vs.size → BR φ' vs.size blk (.cells vs e) ∧ VR φ' x v := by
  unfold flO at h
  split at h
  · rename_i t hop
    refine ⟨fun c e => (by rw [hop] at e; cases e), ?_⟩
    split at h
    · rename_i i d ht
      obtain ⟨hi, _⟩ := hE.ty t i d ht
      split at h
      · rename_i z hz
        simp only [Option.some.injEq, Prod.mk.injEq] at h
        obtain ⟨rfl, rfl⟩ := h
        refine ⟨.pointer (some ⟨w.heap.size, 0, none⟩), z.cells, t, ?_, fun φ' h1 h2 => ⟨⟨z.cells, rfl, ?_, by simp, fun _ => by simp, rfl⟩, by simp only [VR]; exact ⟨_, h1, rfl⟩⟩⟩
        · simp only [execOp, hop]
          simp [Instr.alloc, run_zeroValue hi hz, newVar, newRow]
        · rw [List.take_of_length_le (by simp)]
          exact cv0s_ok φ' z.cells.toList
      · cases h
    · cases h
  · rename_i t l c hop
    refine ⟨fun c e => (by rw [hop] at e; cases e), ?_⟩
    split at h
    · rename_i it e k1 a k2 k ht hl hc
      obtain ⟨_, hu⟩ := hE.ty _ _ _ ht
      have vl := cv_ok (⟨fun _ => none, fun _ => 0, ⟨fun _ => 0, fun _ => .bool true, fun _ => [], fun _ => (#[], 0), fun _ => none, false⟩, 0⟩ : Ren) l
      have vc := cv_ok (⟨fun _ => none, fun _ => 0, ⟨fun _ => 0, fun _ => .bool true, fun _ => [], fun _ => (#[], 0), fun _ => none, false⟩, 0⟩ : Ren) c
      rw [hl] at vl; rw [hc] at vc
      simp only [VR] at vl vc
      subst vl; subst vc
      split at h
      · rename_i i de he
        obtain ⟨hi, _⟩ := hE.ty _ _ _ he
        split at h
        · rename_i z hz
          obtain ⟨e1, e2⟩ := cond_some h
          simp only [Bool.and_eq_true] at e1
          simp only [Option.some.injEq, Prod.mk.injEq] at e2
          obtain ⟨rfl, rfl⟩ := e2
          have h1 : a ≤ k := Nat.le_of_ble_eq_true e1.1.1
          have h2 : i.bytes * k ≤ 281474976710656 := Nat.le_of_ble_eq_true e1.1.2
          have h3 : k ≤ 9223372036854775807 := Nat.le_of_ble_eq_true e1.2
          have hrun := run_make (P := E.P) w t e i z hu hi hz k1 k2 (a : Int) (k : Int) (by omega) (by omega) (by rw [← Int.natCast_mul]; omega) (by omega)
          have hz' : ∀ φ' : Ren, VRs φ' (zeros (z.cells.toList.map cv0) (k * i.size)) (madeCells z.cells (k * i.size)).toList := fun φ' => zeros_ok z.cells (k * i.size)
          have hlen : (madeCells z.cells (k * i.size)).size = (zeros (z.cells.toList.map cv0) (k * i.size)).length := by
            have := (hz' (⟨fun _ => none, fun _ => 0, ⟨fun _ => 0, fun _ => .bool true, fun _ => [], fun _ => (#[], 0), fun _ => none, false⟩, 0⟩ : Ren)).length
            rw [Array.length_toList] at this; exact this
          refine ⟨.slice (some ⟨w.heap.size, 0, none⟩) a k, madeCells z.cells (k * i.size), e, ?_, fun φ' g1 g2 => ⟨⟨_, rfl, ?_, by rw [hlen]; exact Nat.le_refl _, fun _ => hlen, rfl⟩, by simp only [VR]; exact ⟨_, g1, h1, rfl⟩⟩⟩
          · simp only [execOp, hop, hρ]
            rw [Sem.run_bind]
            have hrun' : (Instr.makeSlice t (Value.int k1 (Int.ofNat a)) (Value.int k2 (Int.ofNat k))).run E.P w = .ok (.slice (some ⟨w.heap.size, 0, none⟩) a k) { w with heap := w.heap.push (.cells (madeCells z.cells (k * i.size)) e) } := hrun
            rw [hrun']
            rfl
          · rw [List.take_of_length_le (by rw [Array.length_toList, hlen]; exact Nat.le_refl _)]
            exact hz' φ'
        · cases h
      · cases h
    · cases h
  · cases h

/-- What a run in the text's order has told, and why any other order tells the same. -/
structure Plan (E : Env) (call yld : CallT) (ops : Array Oper) (fr0 : Fr) (h0 : H) where
  x : Nat → V
  g : Nat → Bool
  rf : Nat → Fr
  frs : Nat → Fr
  st : Nat → H
  isE : Nat → Bool
  isF : Nat → Bool
  fb : Nat → Nat
  nf : Nat
  idx : Nat → Nat
  lo : Nat → Nat
  hi : Nat → Nat
  k : Nat
  top : ∀ i o, ops[i]? = some o → ∀ j ∈ deps o, j < i
  tmpW : ∀ i j oi oj t, i < j → ops[i]? = some oi → ops[j]? = some oj → oi.dst = some t → (oj.dst = some t ∨ t ∈ reads ops oj) → Anc ops i j
  tmpR : ∀ i j oi oj t, i < j → ops[i]? = some oi → ops[j]? = some oj → t ∈ reads ops oi → oj.dst = some t → Anc ops i j
  inj : ∀ i j oi oj, ops[i]? = some oi → ops[j]? = some oj → isE i = true → isE j = true → idx i = idx j → i = j
  lt : ∀ i oi, ops[i]? = some oi → isE i = true → idx i < k
  dense : ∀ p, p < k → ∃ i oi, ops[i]? = some oi ∧ isE i = true ∧ idx i = p
  chain : ∀ i j oi oj, ops[i]? = some oi → ops[j]? = some oj → isE i = true → isE j = true → idx i < idx j → Anc ops i j
  low : ∀ e i oe oi, ops[e]? = some oe → ops[i]? = some oi → isE e = true → idx e < lo i → isE i = false → Anc ops e i
  lowk : ∀ i oi, ops[i]? = some oi → isE i = false → lo i ≤ k
  high : ∀ e i oe oi, ops[e]? = some oe → ops[i]? = some oi → isE e = true → hi i ≤ idx e → isE i = false → Anc ops i e
  guard : ∀ i o, ops[i]? = some o → aguard ops (rf i) o = some (g i)
  skip : ∀ i o, ops[i]? = some o → g i = false → x i = .t [] ∧ (isE i = true → st (idx i + 1) = st (idx i))
  eff : ∀ i o, ops[i]? = some o → g i = true → isE i = true → astep E call yld (rf i) o.op (st (idx i)) = some (x i, st (idx i + 1))
  fl : ∀ i o, ops[i]? = some o → isF i = true → isE i = false ∧ g i = true ∧ h0.n ≤ fb i ∧ fb i < h0.n + nf ∧ ∃ blk, flO E o.op (fb i) = some (x i, blk) ∧ ∀ q, lo i ≤ q → q ≤ hi i → q ≤ k → (st q).get (fb i) = blk
  finj : ∀ i j oi oj, ops[i]? = some oi → ops[j]? = some oj → isF i = true → isF j = true → fb i = fb j → i = j
  quiet : ∀ i o, ops[i]? = some o → g i = true → isE i = false → isF i = false → ∀ q, lo i ≤ q → q ≤ hi i → q ≤ k → astep E call yld (rf i) o.op (st q) = some (x i, st q)
  dst : ∀ (i : Nat) (o : Oper) (d : Nat), ops[i]? = some o → o.dst = some d → d < fr0.n
  rfn : ∀ i, (rf i).n = fr0.n
  rfv : ∀ i o t, ops[i]? = some o → (rf i).get t = .top ∨ (t ∈ reads ops o ∧ (rf i).get t = (frs i).get t)
  f0 : frs 0 = fr0
  fs : ∀ i o, ops[i]? = some o → frs (i + 1) = match o.dst with | none => frs i | some d => (frs i).set d (x i)
  s0 : ∀ (φ : Ren) (w : World), HR φ h0 w → HR { φ with m := h0.n + nf } (st 0) w

variable {E : Env} {call yld : CallT} {ops : Array Oper} {fr0 : Fr} {h0 : H}

/-- What a temporary holds in the text's order. -/
theorem Plan.cur (p : Plan E call yld ops fr0 h0) (t : Nat) : ∀ i, i ≤ ops.size →
    (∃ j oj, j < i ∧ ops[j]? = some oj ∧ oj.dst = some t ∧ (p.frs i).get t = p.x j ∧ ∀ l ol, l < i → ops[l]? = some ol → ol.dst = some t → l ≤ j) ∨
    ((∀ l ol, l < i → ops[l]? = some ol → ol.dst ≠ some t) ∧ (p.frs i).get t = fr0.get t) := by
  intro i
  induction i with
  | zero => intro _; exact .inr ⟨fun l _ h => by omega, by rw [p.f0]⟩
  | succ i ih =>
    intro hi
    have hlt : i < ops.size := by omega
    have ho : ops[i]? = some ops[i] := Array.getElem?_eq_getElem hlt
    have hs := p.fs i _ ho
    by_cases hd : ops[i].dst = some t
    · refine .inl ⟨i, _, Nat.lt_succ_self i, ho, hd, ?_, fun l ol hl _ _ => by omega⟩
      rw [hs, hd]
      simp only [Fr.get_set, if_true]
    · have hg : (p.frs (i + 1)).get t = (p.frs i).get t := by
        rw [hs]
        cases e : ops[i].dst with
        | none => rfl
        | some d =>
          simp only [Fr.get_set]
          rw [if_neg (fun h => hd (by rw [e, h]))]
      rcases ih (by omega) with ⟨j, oj, h1, h2, h3, h4, h5⟩ | ⟨h1, h2⟩
      · refine .inl ⟨j, oj, by omega, h2, h3, hg.trans h4, fun l ol hl hol hdl => ?_⟩
        rcases Nat.lt_or_ge l i with h | h
        · exact h5 l ol h hol hdl
        · have : l = i := by omega
          subst this
          rw [ho] at hol; cases hol
          exact absurd hdl hd
      · refine .inr ⟨fun l ol hl hol hdl => ?_, hg.trans h2⟩
        rcases Nat.lt_or_ge l i with h | h
        · exact h1 l ol h hol hdl
        · have : l = i := by omega
          subst this
          rw [ho] at hol; cases hol
          exact hd hdl

def Lst (listed : Array Bool) (i : Nat) : Prop := listed.getD i false = true

/-- What holds behind some of the operations. -/
structure Inv (p : Plan E call yld ops fr0 h0) (φ0 : Ren) (a0 : Act) (w0 : World) (listed : Array Bool) (a : Act) (w : World) : Prop where
  size : listed.size = ops.size
  down : Down ops (Lst listed)
  st : ∃ φ q, Ext φ0 w0 φ w ∧ (h0.n + p.nf ≤ φ.m ∧ ∀ i oi, ops[i]? = some oi → p.isF i = true → ¬ Lst listed i → ∀ r, φ (p.fb i) ≠ some r) ∧ HR φ (p.st q) w ∧ q ≤ p.k ∧ (∀ i oi, ops[i]? = some oi → p.isE i = true → (Lst listed i ↔ p.idx i < q)) ∧
    (∀ t, (∀ i oi, ops[i]? = some oi → oi.dst = some t → ¬ Lst listed i) → VR φ (fr0.get t) (a.tmps.getD t undef)) ∧
    (∀ t i oi, ops[i]? = some oi → oi.dst = some t → Lst listed i → (∀ j oj, i < j → ops[j]? = some oj → oj.dst = some t → ¬ Lst listed j) → VR φ (p.x i) (a.tmps.getD t undef))
  ts : a.tmps.size = fr0.n
  df : a.defers = a0.defers

theorem mem_ready {ops : Array Oper} {listed : Array Bool} {i : Nat} (hi : i ∈ Region.ready .any ops listed) : ∃ o, ops[i]? = some o ∧ listed.getD i true = false ∧ ∀ j ∈ deps o, Lst listed j := by
  simp only [Region.ready, List.mem_filter, List.mem_range, Bool.and_eq_true, Bool.not_eq_true'] at hi
  obtain ⟨h1, h2, h3⟩ := hi
  have ho : ops[i]? = some ops[i] := Array.getElem?_eq_getElem h1
  refine ⟨_, ho, h2, fun j hj => ?_⟩
  rw [ho] at h3
  simp only [Option.map_some, Option.getD_some, Array.all_eq_true', Bool.or_eq_true, Bool.not_eq_true'] at h3
  simp only [deps, List.mem_filterMap] at hj
  obtain ⟨e, he, hb⟩ := hj
  cases hbe : Region.binds .any e with
  | false => rw [hbe] at hb; cases hb
  | true =>
    rw [hbe] at hb
    simp only [cond, Option.some.injEq] at hb
    subst hb
    rcases h3 e (by simpa using he) with h | h
    · rw [hbe] at h; cases h
    · exact h


theorem Lst.set {listed : Array Bool} {i j : Nat} (hi : i < listed.size) : Lst (listed.setIfInBounds i true) j ↔ (j = i ∨ Lst listed j) := by
  unfold Lst
  by_cases h : j = i
  · subst h; simp [Array.getD, hi]
  · simp only [Array.getD_eq_getD_getElem?, Array.getElem?_setIfInBounds_ne (Ne.symm h), h, false_or]

section
variable {p : Plan E call yld ops fr0 h0} {φ0 : Ren} {a0 : Act} {w0 : World} {listed : Array Bool} {a : Act} {w : World}

theorem Inv.anc (I : Inv p φ0 a0 w0 listed a w) {i : Nat} {o : Oper} (ho : ops[i]? = some o) (hd : ∀ j ∈ deps o, Lst listed j) {j : Nat} (hj : Anc ops j i) (hne : j ≠ i) : Lst listed j := by
  have : j = i ∨ Lst listed j := hj (fun l => l = i ∨ Lst listed l) (fun l ol hol hl m hm => by
    rcases hl with rfl | hl
    · rw [ho] at hol; cases hol
      exact .inr (hd m hm)
    · exact .inr (I.down l ol hol hl m hm)) (.inl rfl)
  rcases this with h | h
  · exact absurd h hne
  · exact h

/-- The frame that an operation looks at. -/
theorem Inv.frame (I : Inv p φ0 a0 w0 listed a w) {i : Nat} {o : Oper} (ho : ops[i]? = some o) (hd : ∀ j ∈ deps o, Lst listed j) (hn : ¬ Lst listed i) {φ : Ren}
    (h1 : ∀ t, (∀ i oi, ops[i]? = some oi → oi.dst = some t → ¬ Lst listed i) → VR φ (fr0.get t) (a.tmps.getD t undef))
    (h2 : ∀ t i oi, ops[i]? = some oi → oi.dst = some t → Lst listed i → (∀ j oj, i < j → ops[j]? = some oj → oj.dst = some t → ¬ Lst listed j) → VR φ (p.x i) (a.tmps.getD t undef)) :
    FR φ (p.rf i) a.tmps := by
  refine ⟨by rw [I.ts, p.rfn], fun t => ?_⟩
  rcases p.rfv i o t ho with h | ⟨ht, h⟩
  · rw [h]; simp [VR]
  · rw [h]
    have hlt : i < ops.size := by
      rcases Nat.lt_or_ge i ops.size with h | h
      · exact h
      · rw [Array.getElem?_eq_none h] at ho; cases ho
    have later : ∀ j oj, i ≤ j → ops[j]? = some oj → oj.dst = some t → ¬ Lst listed j := fun j oj hj hoj hdj hl => by
      rcases Nat.lt_or_ge i j with h | h
      · exact hn (p.tmpR i j o oj t h ho hoj ht hdj _ I.down hl)
      · have : j = i := by omega
        subst this; exact hn hl
    rcases p.cur t i (by omega) with ⟨j, oj, g1, g2, g3, g4, g5⟩ | ⟨g1, g2⟩
    · rw [g4]
      refine h2 t j oj g2 g3 (I.anc ho hd (p.tmpW j i oj o t g1 g2 ho g3 (.inr ht)) (by omega)) fun l ol hl hol hdl => ?_
      rcases Nat.lt_or_ge l i with h | h
      · have := g5 l ol h hol hdl; omega
      · exact later l ol h hol hdl
    · rw [g2]
      refine h1 t fun l ol hol hdl => ?_
      rcases Nat.lt_or_ge l i with h | h
      · exact absurd hdl (g1 l ol h hol)
      · exact later l ol h hol hdl

/-- One more operation is done. -/
theorem Inv.step (I : Inv p φ0 a0 w0 listed a w) {i : Nat} {o : Oper} (ho : ops[i]? = some o) (hd : ∀ j ∈ deps o, Lst listed j) (hn : ¬ Lst listed i) {φ φ' : Ren} {q q' : Nat} {w' : World} {v : Value}
    (h1 : ∀ t, (∀ i oi, ops[i]? = some oi → oi.dst = some t → ¬ Lst listed i) → VR φ (fr0.get t) (a.tmps.getD t undef))
    (h2 : ∀ t i oi, ops[i]? = some oi → oi.dst = some t → Lst listed i → (∀ j oj, i < j → ops[j]? = some oj → oj.dst = some t → ¬ Lst listed j) → VR φ (p.x i) (a.tmps.getD t undef))
    (hle : Le φ φ') (hx : Ext φ0 w0 φ' w') (hm : h0.n + p.nf ≤ φ'.m) (hfn : ∀ j oj, ops[j]? = some oj → p.isF j = true → ¬ (j = i ∨ Lst listed j) → ∀ r, φ' (p.fb j) ≠ some r) (hr : HR φ' (p.st q') w') (hq : q' ≤ p.k)
    (hs : ∀ j oj, ops[j]? = some oj → p.isE j = true → ((j = i ∨ Lst listed j) ↔ p.idx j < q')) (hv : VR φ' (p.x i) v) :
    Inv p φ0 a0 w0 (listed.setIfInBounds i true) (a.put o.dst v) w' := by
  have hlt : i < listed.size := by
    rw [I.size]
    rcases Nat.lt_or_ge i ops.size with h | h
    · exact h
    · rw [Array.getElem?_eq_none h] at ho; cases ho
  have hset : ∀ j, Lst (listed.setIfInBounds i true) j ↔ (j = i ∨ Lst listed j) := fun j => Lst.set hlt
  have hput : ∀ t, (a.put o.dst v).tmps.getD t undef = if o.dst = some t then v else a.tmps.getD t undef := fun t => by
    cases hdst : o.dst with
    | none => simp [Act.put]
    | some d =>
      have hdn := p.dst i o d ho hdst
      by_cases h : d = t
      · subst h
        have : d < a.tmps.size := by rw [I.ts]; exact hdn
        simp [Act.put, Array.getD, this]
      · rw [if_neg (fun e => h (Option.some.inj e))]
        simp only [Act.put, Array.getD_eq_getD_getElem?, Array.getElem?_setIfInBounds_ne h]
  refine ⟨by simp [I.size], fun j oj hoj hj m hm => ?_, ⟨φ', q', hx, ⟨hm, fun j oj hoj hf hn => hfn j oj hoj hf (fun h => hn ((hset j).2 h))⟩, hr, hq, fun j oj hoj he => (hset j).trans (hs j oj hoj he), fun t ht => ?_, fun t j oj hoj hdj hj hlast => ?_⟩, ?_, ?_⟩
  · rw [hset] at hj ⊢
    rcases hj with rfl | hj
    · rw [ho] at hoj; cases hoj
      exact .inr (hd m hm)
    · exact .inr (I.down j oj hoj hj m hm)
  · rw [hput]
    have hne : o.dst ≠ some t := fun e => ht i o ho e ((hset i).2 (.inl rfl))
    rw [if_neg hne]
    exact VR.mono hle _ _ (h1 t fun j oj hoj hdj hl => ht j oj hoj hdj ((hset j).2 (.inr hl)))
  · rw [hput]
    by_cases hdt : o.dst = some t
    · rw [if_pos hdt]
      have : j = i := by
        rcases (hset j).1 hj with h | h
        · exact h
        · rcases Nat.lt_trichotomy i j with hij | hij | hij
          · exact absurd (p.tmpW i j o oj t hij ho hoj hdt (.inl hdj) _ I.down h) hn
          · exact hij.symm
          · exact absurd ((hset i).2 (.inl rfl)) (hlast i o hij ho hdt)
      subst this
      exact hv
    · rw [if_neg hdt]
      have hji : j ≠ i := by rintro rfl; rw [ho] at hoj; cases hoj; exact hdt hdj
      have hj' : Lst listed j := by
        rcases (hset j).1 hj with h | h
        · exact absurd h hji
        · exact h
      exact VR.mono hle _ _ (h2 t j oj hoj hdj hj' fun l ol hl hol hdl hll => hlast l ol hl hol hdl ((hset l).2 (.inr hll)))
  · cases o.dst <;> simp [Act.put, I.ts]
  · rw [← I.df]; cases o.dst <;> rfl

end

theorem getD_true {listed : Array Bool} {i : Nat} (h : listed.getD i true = false) : ¬ Lst listed i := by
  unfold Lst
  rw [Array.getD_eq_getD_getElem?] at h ⊢
  cases e : listed[i]? with
  | none => rw [e] at h; cases h
  | some b => rw [e] at h; simp at h; subst h; simp

def left (listed : Array Bool) : Nat := listed.toList.countP (fun b => !b)

theorem countP_set (l : List Bool) (i : Nat) (h : l[i]? = some false) : (l.set i true).countP (fun b => !b) + 1 = l.countP (fun b => !b) := by
  induction l generalizing i with
  | nil => simp at h
  | cons b l ih =>
    cases i with
    | zero => simp at h; subst h; simp
    | succ i =>
      simp at h
      have := ih i h
      cases b <;> simp at this ⊢ <;> omega

theorem left_set {listed : Array Bool} {i : Nat} (hn : listed.getD i true = false) : left (listed.setIfInBounds i true) + 1 = left listed := by
  unfold left
  have : (listed.setIfInBounds i true).toList = listed.toList.set i true := by simp
  rw [this]
  refine countP_set _ i ?_
  rw [Array.getD_eq_getD_getElem?] at hn
  cases e : listed[i]? with
  | none => rw [e] at hn; cases hn
  | some b => rw [e] at hn; simp at hn; subst hn; simpa using e

theorem ready_nil {p : Plan E call yld ops fr0 h0} {listed : Array Bool} (hsz : listed.size = ops.size) (hr : Region.ready .any ops listed = []) : ∀ i, i < ops.size → Lst listed i := by
  intro i
  induction i using Nat.strongRecOn with
  | ind i ih =>
    intro hi
    refine Classical.byContradiction fun hn => ?_
    have ho : ops[i]? = some ops[i] := Array.getElem?_eq_getElem hi
    have : i ∈ Region.ready .any ops listed := by
      simp only [Region.ready, List.mem_filter, List.mem_range, Bool.and_eq_true, Bool.not_eq_true']
      refine ⟨hi, ?_, ?_⟩
      · unfold Lst at hn
        rw [Array.getD_eq_getD_getElem?] at hn ⊢
        have h' : i < listed.size := by omega
        rw [Array.getElem?_eq_getElem h'] at hn ⊢
        simpa using hn
      · rw [ho]
        simp only [Option.map_some, Option.getD_some, Array.all_eq_true', Bool.or_eq_true, Bool.not_eq_true']
        intro e he
        cases hb : Region.binds .any e with
        | false => exact .inl rfl
        | true =>
          refine .inr ?_
          have hm : e.on ∈ deps ops[i] := by
            simp only [deps, List.mem_filterMap]
            exact ⟨e, by simpa using he, by rw [hb]; rfl⟩
          have hlt := p.top i _ ho _ hm
          exact ih e.on hlt (by omega)
    rw [hr] at this
    cases this

theorem left_zero {listed : Array Bool} (h : left listed = 0) (i : Nat) (hi : i < listed.size) : Lst listed i := by
  unfold left at h
  rw [List.countP_eq_zero] at h
  have := h listed[i] (by simp)
  unfold Lst
  simp [Array.getD, hi]
  simpa using this

/-- Every order comes to the same. -/
theorem any_ok (hE : E.OK) (hC : CallOK E call) (hY : YieldOK E yld) (p : Plan E call yld ops fr0 h0) (ro : Option Nat) (n : Nat) {φ0 : Ren} {a0 : Act} {w0 : World} (h00 : φ0.m = h0.n) (hg : GL E.ng φ0) (hbd : BD E φ0)
    {Q : Exit → Act → World → Prop} (hQ : ∀ φ' a' w', Ext φ0 w0 φ' w' → FR φ' (p.frs ops.size) a'.tmps → a'.defers = a0.defers → HR φ' (p.st p.k) w' → Q .normal a' w') :
    ∀ (fuel : Nat) (listed : Array Bool) (a : Act) (w : World), left listed ≤ fuel → Inv p φ0 a0 w0 listed a w → wpAnyIn (W ro) n E.P .any ops Q fuel listed a w := by
  have done : ∀ (listed : Array Bool) (a : Act) (w : World), Region.ready .any ops listed = [] → Inv p φ0 a0 w0 listed a w → Q .normal a w := by
    intro listed a w hr I
    have hall := ready_nil (p := p) I.size hr
    obtain ⟨φ, q, hx, _, hh, hq, hs, h1, h2⟩ := I.st
    have hqk : q = p.k := by
      rcases Nat.lt_or_ge q p.k with h | h
      · obtain ⟨i, oi, hoi, hei, hidx⟩ := p.dense q h
        have hlt : i < ops.size := by
          rcases Nat.lt_or_ge i ops.size with h | h
          · exact h
          · rw [Array.getElem?_eq_none h] at hoi; cases hoi
        have := (hs i oi hoi hei).1 (hall i hlt)
        omega
      · omega
    subst hqk
    refine hQ φ a w hx ⟨?_, fun t => ?_⟩ I.df hh
    · rw [I.ts]
      have : ∀ i, i ≤ ops.size → (p.frs i).n = fr0.n := by
        intro i
        induction i with
        | zero => intro _; rw [p.f0]
        | succ i ih =>
          intro hi
          have hlt : i < ops.size := by omega
          rw [p.fs i _ (Array.getElem?_eq_getElem hlt)]
          split
          · exact ih (by omega)
          · simpa [Fr.set_n] using ih (by omega)
      rw [this _ (Nat.le_refl _)]
    · rcases p.cur t ops.size (Nat.le_refl _) with ⟨j, oj, g1, g2, g3, g4, g5⟩ | ⟨g1, g2⟩
      · rw [g4]
        refine h2 t j oj g2 g3 (hall j g1) fun l ol hl hol hdl _ => ?_
        have hlt : l < ops.size := by
          rcases Nat.lt_or_ge l ops.size with h | h
          · exact h
          · rw [Array.getElem?_eq_none h] at hol; cases hol
        have := g5 l ol hlt hol hdl
        omega
      · rw [g2]
        refine h1 t fun l ol hol hdl _ => ?_
        have hlt : l < ops.size := by
          rcases Nat.lt_or_ge l ops.size with h | h
          · exact h
          · rw [Array.getElem?_eq_none h] at hol; cases hol
        exact g1 l ol hlt hol hdl
  intro fuel
  induction fuel with
  | zero =>
    intro listed a w hl I
    have hr : Region.ready .any ops listed = [] := by
      cases e : Region.ready .any ops listed with
      | nil => rfl
      | cons i is =>
        obtain ⟨o, ho, hn, _⟩ := mem_ready (ops := ops) (listed := listed) (i := i) (by rw [e]; simp)
        have hlt : i < listed.size := by
          rw [I.size]
          rcases Nat.lt_or_ge i ops.size with h | h
          · exact h
          · rw [Array.getElem?_eq_none h] at ho; cases ho
        exact absurd (left_zero (by omega) i hlt) (getD_true hn)
    exact ⟨hr, done listed a w hr I⟩
  | succ fuel ih =>
    intro listed a w hl I
    refine ⟨fun hr => done listed a w hr I, fun i hi => ?_⟩
    obtain ⟨o, ho, hnt, hd⟩ := mem_ready hi
    have hn := getD_true hnt
    obtain ⟨φ, q, hx, ⟨hm, hfn⟩, hh, hq, hs, h1, h2⟩ := I.st
    have hf := I.frame ho hd hn h1 h2
    have hgd := aguard_ok hf (p.guard i o ho)
    have hfuel : left (listed.setIfInBounds i true) ≤ fuel := by have := left_set hnt; omega
    -- where effects stand
    have heq : p.isE i = true → q = p.idx i := fun he => by
      rcases Nat.lt_trichotomy q (p.idx i) with h | h | h
      · have hk := p.lt i o ho he
        obtain ⟨e, oe, hoe, hee, hidx⟩ := p.dense q (by omega)
        have hne : e ≠ i := by rintro rfl; omega
        have := (hs e oe hoe hee).1 (I.anc ho hd (p.chain e i oe o hoe ho hee he (by omega)) hne)
        omega
      · exact h
      · exact absurd ((hs i o ho he).2 h) hn
    have hsE : p.isE i = true → ∀ j oj, ops[j]? = some oj → p.isE j = true → ((j = i ∨ Lst listed j) ↔ p.idx j < q + 1) := fun he j oj hoj hej => by
      have hqi := heq he
      rw [hs j oj hoj hej]
      constructor
      · rintro (rfl | h) <;> omega
      · intro h
        rcases Nat.lt_or_ge (p.idx j) q with h' | h'
        · exact .inr h'
        · exact .inl (p.inj j i oj o hoj ho hej he (by omega))
    have hsQ : p.isE i = false → ∀ j oj, ops[j]? = some oj → p.isE j = true → ((j = i ∨ Lst listed j) ↔ p.idx j < q) := fun he j oj hoj hej => by
      rw [hs j oj hoj hej]
      constructor
      · rintro (rfl | h)
        · rw [he] at hej; cases hej
        · exact h
      · exact .inr
    have hfn' : ∀ {φ' : Ren} {w' : World}, Ext φ w φ' w' → ∀ j oj, ops[j]? = some oj → p.isF j = true → ¬ (j = i ∨ Lst listed j) → ∀ r, φ' (p.fb j) ≠ some r := fun {φ' w'} hx' j oj hoj hfj hnj r e => by
      rcases hx'.only _ _ e with e' | hle
      · exact hfn j oj hoj hfj (fun h => hnj (.inr h)) r e'
      · have := (p.fl j oj hoj hfj).2.2.2.1
        omega
    unfold wpOpIn
    rw [ho]
    simp only [hgd]
    cases hgi : p.g i with
    | false =>
      simp only [Bool.false_eq_true, if_false]
      refine ⟨fun _ _ => trivial, ?_⟩
      obtain ⟨hxi, hst⟩ := p.skip i o ho hgi
      refine ih _ _ _ hfuel ?_
      have hv : VR φ (p.x i) undef := by rw [hxi]; simp only [VR]; exact ⟨#[], rfl, by simp [VRs]⟩
      cases he : p.isE i with
      | true =>
        refine I.step ho hd hn h1 h2 (Le.refl φ) hx hm (hfn' (Ext.refl φ w)) (q := q) (q' := q + 1) ?_ ?_ (hsE he) hv
        · have := hst he
          rw [← heq he] at this
          rw [this]; exact hh
        · have := p.lt i o ho he
          have := heq he
          omega
      | false => exact I.step ho hd hn h1 h2 (Le.refl φ) hx hm (hfn' (Ext.refl φ w)) (q := q) hh hq (hsQ he) hv
    | true =>
      simp only [if_true]
      cases he : p.isE i with
      | true =>
        have hstep := p.eff i o ho hgi he
        have hqi := heq he
        rw [← hqi] at hstep
        refine astep_ok hE hC hY (hg.mono hx.le) (hbd.mono hx.le) hf hh ro n o hstep fun φ' v w' hx' hv' hr' => ?_
        refine ih _ _ _ hfuel (I.step ho hd hn h1 h2 hx'.le (hx.trans hx') (Nat.le_trans hm hx'.cnt) (hfn' hx') (q := q) hr' ?_ (hsE he) hv')
        have := p.lt i o ho he
        omega
      | false =>
        have hlo : p.lo i ≤ q := by
          rcases Nat.lt_or_ge q (p.lo i) with h | h
          · have := p.lowk i o ho he
            obtain ⟨e, oe, hoe, hee, hidx⟩ := p.dense q (by omega)
            have hne : e ≠ i := by rintro rfl; rw [he] at hee; cases hee
            have := (hs e oe hoe hee).1 (I.anc ho hd (p.low e i oe o hoe ho hee (by omega) he) hne)
            omega
          · exact h
        have hhi : q ≤ p.hi i := by
          rcases Nat.lt_or_ge (p.hi i) q with h | h
          · obtain ⟨e, oe, hoe, hee, hidx⟩ := p.dense (p.hi i) (by omega)
            exact absurd (p.high e i oe o hoe ho hee (by omega) he _ I.down ((hs e oe hoe hee).2 (by omega))) hn
          · exact h
        cases hfi : p.isF i with
        | false =>
          have hstep := p.quiet i o ho hgi he hfi q hlo hhi hq
          refine astep_ok hE hC hY (hg.mono hx.le) (hbd.mono hx.le) hf hh ro n o hstep fun φ' v w' hx' hv' hr' => ?_
          exact ih _ _ _ hfuel (I.step ho hd hn h1 h2 hx'.le (hx.trans hx') (Nat.le_trans hm hx'.cnt) (hfn' hx') (q := q) hr' hq (hsQ he) hv')
        | true =>
          obtain ⟨_, _, f1, f2, blk, f3, f4⟩ := p.fl i o ho hfi
          have f4 := f4 q hlo hhi hq
          obtain ⟨hnd, v, vs, te, hrun, hcon⟩ := flO_ok hE f3 a.eval (fun _ => rfl) w
          have hnone := hfn i o ho hfi hn
          let φ' : Ren := { f := fun c => if c = p.fb i then some w.heap.size else φ c, n := fun c => if c = p.fb i then vs.size else φ.n c, y := φ.y, m := φ.m }
          have hat : φ' (p.fb i) = some w.heap.size := by show (if _ then _ else _) = _; rw [if_pos rfl]
          have hatn : φ'.n (p.fb i) = vs.size := by show (if _ then _ else _) = _; rw [if_pos rfl]
          have hother : ∀ c, c ≠ p.fb i → φ' c = φ c ∧ φ'.n c = φ.n c := fun c hc => ⟨by show (if _ then _ else _) = _; rw [if_neg hc], by show (if _ then _ else _) = _; rw [if_neg hc]⟩
          have hle : Le φ φ' := ⟨fun c r e => by
            have hc : c ≠ p.fb i := fun hc => hnone r (hc ▸ e)
            rw [(hother c hc).1, (hother c hc).2]; exact ⟨e, rfl⟩, rfl⟩
          obtain ⟨hbr, hvx⟩ := hcon φ' hat hatn
          have hr' : HR φ' (p.st q) { w with heap := w.heap.push (.cells vs te) } := by
            refine ⟨hh.cnt, fun b r e => ?_, fun b r e hl => ?_, fun b b' r e e' hl hl' => ?_, fun r o' hk => ?_⟩
            · by_cases hb : b = p.fb i
              · rw [hb, hat] at e; cases e
                rw [hb]
                refine ⟨?_, by simp⟩
                have := hh.cnt; omega
              · rw [(hother b hb).1] at e
                have := hh.dom b r e
                refine ⟨this.1, ?_⟩
                have h3 : (w.heap.push (Obj.cells vs te)).size = w.heap.size + 1 := Array.size_push _
                show r < (w.heap.push (Obj.cells vs te)).size
                omega
            · by_cases hb : b = p.fb i
              · rw [hb, hat] at e; cases e
                refine ⟨.cells vs te, by simp, ?_⟩
                rw [hb, hatn, f4]; exact hbr
              · rw [(hother b hb).1] at e
                obtain ⟨o', g1, g2⟩ := hh.blk b r e hl
                have := (hh.dom b r e).2
                refine ⟨o', ?_, by rw [(hother b hb).2]; exact g2.mono hle⟩
                show (w.heap.push _)[r]? = _
                rw [Array.getElem?_push, if_neg (by omega)]; exact g1
            · by_cases hb : b = p.fb i
              · by_cases hb' : b' = p.fb i
                · rw [hb, hb']
                · rw [hb, hat] at e; cases e
                  rw [(hother b' hb').1] at e'
                  have := (hh.dom _ _ e').2; omega
              · rw [(hother b hb).1] at e
                by_cases hb' : b' = p.fb i
                · rw [hb', hat] at e'; cases e'
                  have := (hh.dom _ _ e).2; omega
                · rw [(hother b' hb').1] at e'
                  exact hh.inj b b' r e e' hl hl'
            · obtain ⟨k1, k2⟩ := hh.kp r o' hk
              have hlt : r < w.heap.size := by
                rcases Nat.lt_or_ge r w.heap.size with h | h
                · exact h
                · rw [Array.getElem?_eq_none h] at k1; cases k1
              refine ⟨?_, fun b e => ?_⟩
              · show (w.heap.push _)[r]? = _
                rw [Array.getElem?_push, if_neg (by omega)]; exact k1
              · by_cases hb : b = p.fb i
                · rw [hb, hat] at e; cases e; omega
                · rw [(hother b hb).1] at e; exact k2 b e
          have hx' : Ext φ0 w0 φ' { w with heap := w.heap.push (.cells vs te) } := by
            refine ⟨hx.le.trans hle, hx.cnt, fun b r e => ?_, hx.dr, ?_, hx.os, hx.tape, hx.output, fun r hr0 hb => ?_⟩
            · by_cases hb : b = p.fb i
              · rw [hb, hat] at e; cases e
                exact .inr ⟨by rw [hb, h00]; exact f1, .inl hx.size⟩
              · rw [(hother b hb).1] at e; exact hx.nw b r e
            · have h3 : (w.heap.push (Obj.cells vs te)).size = w.heap.size + 1 := Array.size_push _
              have := hx.size
              show w0.heap.size ≤ (w.heap.push (Obj.cells vs te)).size
              omega
            · have hlt := Nat.lt_of_lt_of_le hr0 hx.size
              show (w.heap.push _)[r]? = _
              rw [Array.getElem?_push, if_neg (by omega)]; exact hx.frame r hr0 hb
          have hfn2 : ∀ j oj, ops[j]? = some oj → p.isF j = true → ¬ (j = i ∨ Lst listed j) → ∀ r, φ' (p.fb j) ≠ some r := fun j oj hoj hfj hnj r e => by
            have hne : p.fb j ≠ p.fb i := fun e' => hnj (.inl (p.finj j i oj o hoj ho hfj hfi e'))
            rw [(hother _ hne).1] at e
            exact hfn j oj hoj hfj (fun h => hnj (.inr h)) r e
          refine ⟨fun _ _ => trivial, ?_⟩
          rw [Oper.semAt_eq _ _ _ hnd]
          rw [hrun]
          exact ih _ _ _ hfuel (I.step ho hd hn h1 h2 hle hx' hm hfn2 (q := q) hr' hq (hsQ he) hvx)

/-- A region that draws its order, in any of them. -/
theorem draw_any (hE : E.OK) (hC : CallOK E call) (hY : YieldOK E yld) (p : Plan E call yld ops fr0 h0) (ro : Option Nat) (n : Nat) {φ : Ren} {a : Act} {w : World} (hg : GL E.ng φ) (hbd : BD E φ) (hf : FR φ fr0 a.tmps) (hr : HR φ h0 w)
    {Q : Exit → Act → World → Prop} (hQ : ∀ φ' a' w', Ext φ w φ' w' → FR φ' (p.frs ops.size) a'.tmps → a'.defers = a.defers → HR φ' (p.st p.k) w' → Q .normal a' w') {d : Nat} (hd : w.drawn ≤ d) : wpAnyIn (W ro) n E.P .any ops Q ops.size (Array.replicate ops.size false) a { w with drawn := d } := by
  have hnot : ∀ i, ¬ Lst (Array.replicate ops.size false) i := fun i h => by
    unfold Lst at h
    rw [Array.getD_eq_getD_getElem?, Array.getElem?_replicate] at h
    split at h <;> simp at h
  refine any_ok hE hC hY p ro n (φ0 := φ) (a0 := a) (w0 := w) hr.cnt hg hbd hQ ops.size _ a _ ?_ ?_
  · unfold left
    refine Nat.le_trans List.countP_le_length ?_
    simp
  · have hle : Le φ { φ with m := h0.n + p.nf } := ⟨fun _ _ e => ⟨e, rfl⟩, rfl⟩
    refine ⟨by simp, fun i o _ h => absurd h (hnot i), ⟨{ φ with m := h0.n + p.nf }, 0, ⟨hle, by show φ.m ≤ h0.n + p.nf; rw [hr.cnt]; exact Nat.le_add_right _ _, fun _ _ e => .inl e, fun _ => hd, Nat.le_refl _, rfl, rfl, rfl, fun _ _ _ => rfl⟩,
      ⟨Nat.le_refl _, fun i oi hoi hfi _ r e => ?_⟩, (p.s0 φ w hr).drew _, Nat.zero_le _, fun i oi _ _ => ⟨fun h => absurd h (hnot i), fun h => by omega⟩, fun t _ => VR.mono hle _ _ (hf.2 t), fun t i oi _ _ h => absurd h (hnot i)⟩, hf.1, rfl⟩
    have := (hr.dom _ _ e).1
    have := (p.fl i oi hoi hfi).2.2.1
    omega

end
end Go.Ev

/- The abstract machine, part R: a region that draws its order, run in its text's order, with the tests that make every order alike. -/
namespace Go.Ev
noncomputable section

/-! ### Kinds of operations -/
inductive Kd where
  | pure
  | rd
  | ef

def kdB : Builtin → Kd
  | .len => .rd
  | .max => .pure
  | .min => .pure
  | _ => .ef
/-- Functions that are told by facts alone. -/
def qoF (_ : FuncId) : Bool := false
def kdC : Callee → Kd
  | .builtin b => kdB b
  | .value (.func f) => cond (qoF f) .rd .ef
  | _ => .ef
/-- Calls of those leave memory alone. -/
def QO (call : CallT) : Prop := ∀ f args h x h', qoF f = true → call f args h = some (x, h') → h' = h
def kd : Op → Kd
  | .move _ | .assign _ | .pick .. | .build .. | .nilCheck _ | .binOp .. | .unOp .. | .makeInterface .. | .makeFunc .. | .slice .. | .fieldAddr .. | .field .. | .indexAddr .. | .index .. | .extract .. => .pure
  | .load .. => .rd
  | .convert .. => .rd
  | .lookup .. => .rd
  | .call c => kdC c.callee
  | _ => .ef
def isEf (o : Oper) : Bool :=
  match kd o.op with
  | .ef => true
  | _ => false

/-- Those that only lay a new block of known cells, and hang on nothing. -/
def isFl (o : Oper) : Bool :=
  match o.guard with
  | some _ => false
  | none =>
    match o.op with
    | .alloc _ => true
    | .makeSlice _ (.const _) (.const _) => true
    | _ => false
def fM (m : Bool) (o : Oper) : Bool := cond m (isFl o) false
/-- Effects; in the second way those that may float are none. -/
def eF (m : Bool) (o : Oper) : Bool := cond (fM m o) false (isEf o)
theorem eF_isEf {m : Bool} {o : Oper} (h : eF m o = true) : isEf o = true ∧ fM m o = false := by
  unfold eF at h
  cases hf : fM m o with
  | true => rw [hf] at h; cases h
  | false => rw [hf] at h; exact ⟨h, rfl⟩
theorem fM_eF {m : Bool} {o : Oper} (h : fM m o = true) : eF m o = false := by unfold eF; rw [h]; rfl
theorem fM_guard {m : Bool} {o : Oper} (h : fM m o = true) : o.guard = none := by
  unfold fM at h
  cases m with
  | false => cases h
  | true =>
    simp only [cond, isFl] at h
    split at h
    · cases h
    · assumption

theorem cond_pure (c : Bool) (v : V) : ∃ r : Option V, ∀ h : H, (cond c (some (v, h)) none : Option (V × H)) = r.map fun v => (v, h) := by
  cases c
  · exact ⟨none, fun h => rfl⟩
  · exact ⟨some v, fun h => rfl⟩
theorem cond2_pure (c d : Bool) (v u : V) : ∃ r : Option V, ∀ h : H, (cond c (some (v, h)) (cond d (some (u, h)) none) : Option (V × H)) = r.map fun v => (v, h) := by
  cases c
  · cases d
    · exact ⟨none, fun h => rfl⟩
    · exact ⟨some u, fun h => rfl⟩
  · exact ⟨some v, fun h => rfl⟩
theorem b0_pure {E : Env} {b : Builtin} (hk : kdB b = .pure) (ts : List TypeId) (args : List V) : ∃ r : Option V, ∀ h, aBuiltin0 E b ts args h = r.map fun v => (v, h) := by
  cases b <;> try (simp only [kdB] at hk; cases hk; done)
  · simp only [aBuiltin0]
    split <;> first | contradiction | skip
    · exact cond_pure _ _
    · exact ⟨none, fun h => rfl⟩
  · simp only [aBuiltin0]
    split <;> first | contradiction | skip
    · exact cond_pure _ _
    · exact ⟨none, fun h => rfl⟩

theorem aLoad_same {E : Env} {t : TypeId} {a x : V} {h h' : H} (hs : aLoad E t a h = some (x, h')) : h' = h := by
  unfold aLoad at hs
  split at hs
  · split at hs
    · simp only [Option.some.injEq, Prod.mk.injEq] at hs; exact hs.2.symm
    · cases hs
  unfold aLoad0 at hs
  have key : ∀ {c : Bool} {m : Option (V × H)}, (cond c m none) = some (x, h') → m = some (x, h') := fun {c m} e => by
    cases c with
    | true => exact e
    | false => cases e
  split at hs
  · split at hs
    · split at hs
      · simp only [Option.some.injEq, Prod.mk.injEq] at hs; exact hs.2.symm
      · cases hs
    · split at hs
      · simp only [Option.some.injEq, Prod.mk.injEq] at hs; exact hs.2.symm
      · cases hs
    · cases hs
  · split at hs
    · have hs := key hs
      split at hs
      · split at hs
        · simp only [Option.some.injEq, Prod.mk.injEq] at hs; exact hs.2.symm
        · cases hs
      · cases hs
    · have hs := key hs
      split at hs
      · split at hs
        · simp only [Option.some.injEq, Prod.mk.injEq] at hs; exact hs.2.symm
        · cases hs
      · cases hs
    · cases hs
  · cases hs

theorem key2 {α : Type} {c : Bool} {m : Option α} {x : α} (e : (cond c m none) = some x) : m = some x := by
  cases c with
  | true => exact e
  | false => cases e

theorem aLookup_same {E : Env} {t : TypeId} {a k x : V} {ok : Bool} {h h' : H} (hs : aLookup E t a k ok h = some (x, h')) : h' = h := by
  have old : aLookup0 E t a k ok h = some (x, h') → h' = h := fun hs => by
    simp only [aLookup0] at hs
    split at hs
    · split at hs
      · rename_i d es _ _
        cases hk : keyV d k with
        | false => rw [hk] at hs; cases hs
        | true =>
          rw [hk] at hs
          simp only [cond_true] at hs
          split at hs
          · simp only [Option.some.injEq, Prod.mk.injEq] at hs; exact hs.2.symm
          · split at hs
            · split at hs
              · simp only [Option.some.injEq, Prod.mk.injEq] at hs; exact hs.2.symm
              · cases hs
            · cases hs
          · cases hs
      · cases hs
    · cases hs
  unfold aLookup at hs
  split at hs
  · split at hs
    · split at hs
      · simp only [Option.some.injEq, Prod.mk.injEq] at hs; exact hs.2.symm
      · cases hs
    · split at hs
      · simp only [Option.some.injEq, Prod.mk.injEq] at hs; exact hs.2.symm
      · cases hs
    · split at hs
      · rename_i r hr
        simp only [Option.some.injEq] at hs; subst hs
        exact old hr
      · unfold aLookT at hs
        split at hs
        · have hs := (key2 hs)
          split at hs
          · simp only [Option.some.injEq, Prod.mk.injEq] at hs; exact hs.2.symm
          · split at hs
            · split at hs
              · simp only [Option.some.injEq, Prod.mk.injEq] at hs; exact hs.2.symm
              · cases hs
            · cases hs
          · cases hs
        · cases hs
  · exact old hs

theorem len_same {E : Env} {ts : List TypeId} {args : List V} {h h' : H} {x : V} (hs : aBuiltin E .len ts args h = some (x, h')) : h' = h := by
  have old : ∀ args, aBuiltin0 E .len ts args h = some (x, h') → h' = h := fun args hs => by
    simp only [aBuiltin0] at hs
    split at hs <;> first | contradiction | skip
    · split at hs <;> first | (cases hs; done) | (simp only [Option.some.injEq, Prod.mk.injEq] at hs; exact hs.2.symm) | skip
      split at hs <;> first | (cases hs; done) | (simp only [Option.some.injEq, Prod.mk.injEq] at hs; exact hs.2.symm)
  unfold aBuiltin at hs
  split at hs <;> first | contradiction | skip
  · unfold aLenQ at hs
    split at hs
    · split at hs
      · simp only [Option.some.injEq, Prod.mk.injEq] at hs; exact hs.2.symm
      · cases hs
    · split at hs
      · simp only [Option.some.injEq, Prod.mk.injEq] at hs; exact hs.2.symm
      · cases hs
    · cases hs
  · split at hs
    · simp only [cond_eq_ite] at hs
      split at hs
      · simp only [Option.some.injEq, Prod.mk.injEq] at hs; exact hs.2.symm
      · cases hs
    · cases hs
  · split at hs
    · split at hs
      · simp only [Option.some.injEq, Prod.mk.injEq] at hs; exact hs.2.symm
      · cases hs
    · exact old _ hs
  · exact old _ hs

theorem pure_ok {E : Env} {call yld : CallT} {fr : Fr} {o : Op} (hk : kd o = .pure) : ∃ r : Option V, ∀ h, astep E call yld fr o h = r.map fun v => (v, h) := by
  cases o <;> try (simp only [kd] at hk; cases hk; done)
  case move x => exact ⟨some _, fun h => rfl⟩
  case assign x => exact ⟨some _, fun h => rfl⟩
  case pick c a b =>
    simp only [astep, aop]
    split
    · exact ⟨some _, fun h => rfl⟩
    · exact ⟨some _, fun h => rfl⟩
    · exact ⟨none, fun h => rfl⟩
  case build t ps =>
    simp only [astep, aop, aBuild]
    split
    · split
      · split
        · exact ⟨some _, fun h => rfl⟩
        · exact ⟨none, fun h => rfl⟩
      · exact ⟨none, fun h => rfl⟩
    · split
      · split
        · exact ⟨some _, fun h => rfl⟩
        · exact ⟨none, fun h => rfl⟩
      · exact ⟨none, fun h => rfl⟩
    · exact ⟨none, fun h => rfl⟩
  case nilCheck x =>
    simp only [astep, aop]
    split
    · exact ⟨some _, fun h => rfl⟩
    · exact ⟨none, fun h => rfl⟩
  case binOp op t x y z =>
    simp only [astep, aop]
    split
    · exact ⟨some _, fun h => rfl⟩
    · exact ⟨none, fun h => rfl⟩
  case unOp op t x =>
    simp only [astep, aop]
    split
    · exact ⟨some _, fun h => rfl⟩
    · exact ⟨none, fun h => rfl⟩
  case makeInterface t x =>
    simp only [astep, aop]
    split
    · rename_i i d _
      cases concreteD d
      · exact ⟨none, fun h => rfl⟩
      · exact ⟨some _, fun h => rfl⟩
    · exact ⟨none, fun h => rfl⟩
  case makeFunc f a b =>
    cases f
    case func => exact ⟨some _, fun h => rfl⟩
    all_goals exact ⟨none, fun h => rfl⟩
  case slice t x lo hi mx =>
    cases mx with
    | some _ => exact ⟨none, fun h => rfl⟩
    | none =>
      simp only [astep, aop, aSlice]
      split
      · split
        · exact ⟨some _, fun h => rfl⟩
        · split
          · split
            · exact ⟨some _, fun h => rfl⟩
            · exact ⟨none, fun h => rfl⟩
          · exact ⟨none, fun h => rfl⟩
      · split
        · exact ⟨some _, fun h => rfl⟩
        · exact ⟨none, fun h => rfl⟩
      simp only [aSlice0]
      split
      · split
        · split
          · exact ⟨some _, fun h => rfl⟩
          · exact ⟨none, fun h => rfl⟩
        · exact ⟨none, fun h => rfl⟩
      · split
        · split
          · exact ⟨some _, fun h => rfl⟩
          · exact ⟨none, fun h => rfl⟩
        · exact ⟨none, fun h => rfl⟩
      · split
        · split
          · rename_i len sz _ _ _ _ ie _ _ _ _ _ a _
            cases Nat.beq sz ie.size
            · exact ⟨none, fun h => rfl⟩
            · cases Nat.beq a 0
              · cases Nat.blt a len
                · exact ⟨some _, fun h => rfl⟩
                · exact ⟨some _, fun h => rfl⟩
              · exact ⟨some _, fun h => rfl⟩
          · exact ⟨none, fun h => rfl⟩
        · exact ⟨none, fun h => rfl⟩
      · split
        · split
          · exact ⟨some _, fun h => rfl⟩
          · exact ⟨none, fun h => rfl⟩
        · exact ⟨none, fun h => rfl⟩
      · split
        · split
          · exact ⟨some _, fun h => rfl⟩
          · exact ⟨none, fun h => rfl⟩
        · exact ⟨none, fun h => rfl⟩
      · exact ⟨none, fun h => rfl⟩
  case fieldAddr s x f =>
    simp only [astep, aop, aFieldAddr]
    split
    · split
      · split
        · rename_i i _ _
          cases Nat.beq i.size 0
          · exact ⟨some _, fun h => rfl⟩
          · exact ⟨none, fun h => rfl⟩
        · exact ⟨none, fun h => rfl⟩
      · exact ⟨none, fun h => rfl⟩
    · split
      · split
        · rename_i i _ _
          cases Nat.beq i.size 0
          · exact ⟨some _, fun h => rfl⟩
          · exact ⟨none, fun h => rfl⟩
        · exact ⟨none, fun h => rfl⟩
      · exact ⟨none, fun h => rfl⟩
    · exact ⟨none, fun h => rfl⟩
  case field t x f =>
    simp only [astep, aop, aField]
    split
    · split
      · split
        · exact ⟨some _, fun h => rfl⟩
        · exact ⟨none, fun h => rfl⟩
      · exact ⟨none, fun h => rfl⟩
    · exact ⟨none, fun h => rfl⟩
  case indexAddr t x i =>
    simp only [astep, aop, aIndexAddr]
    split
    · split
      · exact ⟨some _, fun h => rfl⟩
      · exact ⟨none, fun h => rfl⟩
    simp only [aIndexAddr0]
    split
    · split
      · exact ⟨some _, fun h => rfl⟩
      · exact ⟨none, fun h => rfl⟩
    · split
      · exact ⟨some _, fun h => rfl⟩
      · exact ⟨none, fun h => rfl⟩
    · split
      · exact cond_pure _ _
      · exact ⟨none, fun h => rfl⟩
    · exact ⟨none, fun h => rfl⟩
  case index t x i =>
    simp only [astep, aop, aIndex]
    split
    · split
      · split
        · exact ⟨some _, fun h => rfl⟩
        · exact ⟨none, fun h => rfl⟩
      · exact ⟨none, fun h => rfl⟩
    · split
      · split
        · exact ⟨some _, fun h => rfl⟩
        · exact ⟨none, fun h => rfl⟩
      · exact ⟨none, fun h => rfl⟩
    · exact ⟨none, fun h => rfl⟩
  case extract x i =>
    simp only [astep, aop]
    split
    · split
      · exact ⟨some _, fun h => rfl⟩
      · exact ⟨none, fun h => rfl⟩
    · exact ⟨none, fun h => rfl⟩
  case call c =>
    obtain ⟨callee, args, argTypes⟩ := c
    cases callee with
    | builtin b =>
      simp only [astep]
      cases b <;> try (simp only [kd, kdC, kdB] at hk; cases hk; done)
      · simp only [aBuiltin]
        split <;> first | contradiction | skip
        · split
          · exact ⟨some _, fun h => rfl⟩
          · exact b0_pure rfl _ _
        · exact b0_pure rfl _ _
      · simp only [aBuiltin]
        split <;> first | contradiction | skip
        · split
          · exact cond2_pure _ _ _ _
          · exact b0_pure rfl _ _
        · exact b0_pure rfl _ _
    | value x =>
      exfalso
      cases x with
      | func f => simp only [kd, kdC] at hk; cases hq : qoF f <;> rw [hq] at hk <;> cases hk
      | _ => simp only [kd, kdC] at hk; cases hk
    | _ => simp only [kd, kdC] at hk; cases hk

theorem rd_ok {E : Env} {call yld : CallT} (hq : QO call) {fr : Fr} {o : Op} (hk : kd o = .rd) {h h' : H} {x : V} (hs : astep E call yld fr o h = some (x, h')) : h' = h := by
  cases o <;> try (simp only [kd] at hk; cases hk; done)
  case load t a => exact aLoad_same (by simpa only [astep, aop] using hs)
  case convert s d x =>
    simp only [astep, aop] at hs
    split at hs
    · cases hs; rfl
    · split at hs
      · cases hs; rfl
      · cases hs
  case lookup t x k ok => exact aLookup_same (by simpa only [astep, aop] using hs)
  case call c =>
    obtain ⟨callee, args, argTypes⟩ := c
    cases callee with
    | builtin b =>
      simp only [astep] at hs
      cases b <;> try (simp only [kd, kdC, kdB] at hk; cases hk; done)
      exact len_same hs
    | value x =>
      cases x with
      | func f =>
        have hs : call f ([] ++ args.toList.map (ev E.ng fr) ++ []) h = some (x, h') := hs
        simp only [List.nil_append, List.append_nil] at hs
        refine hq f _ _ _ _ ?_ hs
        simp only [kd, kdC] at hk
        cases he : qoF f with
        | true => rfl
        | false => rw [he] at hk; cases hk
      | _ => simp only [kd, kdC] at hk; cases hk
    | _ => simp only [kd, kdC] at hk; cases hk

end
end Go.Ev

/- The abstract machine, part S: a region that draws its order: the tests, and the plan that they make. -/
namespace Go.Ev
noncomputable section

/-! ### Two values are one -/
def sameP : Option (Nat × Nat) → Option (Nat × Nat) → Bool
  | none, none => true
  | some (a, b), some (c, d) => Nat.beq a c && Nat.beq b d
  | _, _ => false
theorem sameP_ok {x y : Option (Nat × Nat)} (h : sameP x y = true) : x = y := by
  cases x <;> cases y <;> try (cases h; done)
  · rfl
  · rename_i a b
    obtain ⟨a, b⟩ := a
    rename_i c
    obtain ⟨c, d⟩ := c
    simp only [sameP, Bool.and_eq_true] at h
    rw [Nat.eq_of_beq_eq_true h.1, Nat.eq_of_beq_eq_true h.2]
def sameC : Cap → Cap → Bool
  | .kn a, .kn b => Nat.beq a b
  | .un a, .un b => Nat.beq a b
  | _, _ => false
theorem sameC_ok {x y : Cap} (h : sameC x y = true) : x = y := by
  cases x <;> cases y <;> try (cases h; done)
  · rw [Nat.eq_of_beq_eq_true h]
  · rw [Nat.eq_of_beq_eq_true h]
def sameN : List Nat → List Nat → Bool
  | [], [] => true
  | a :: as, b :: bs => Nat.beq a b && sameN as bs
  | _, _ => false
theorem sameN_ok : ∀ {x y : List Nat}, sameN x y = true → x = y
  | [], [], _ => rfl
  | a :: as, b :: bs, h => by
    simp only [sameN, Bool.and_eq_true] at h
    rw [Nat.eq_of_beq_eq_true h.1, sameN_ok h.2]
  | [], _ :: _, h => by cases h
  | _ :: _, [], h => by cases h
def sameI : Int → Int → Bool
  | .ofNat a, .ofNat b => Nat.beq a b
  | .negSucc a, .negSucc b => Nat.beq a b
  | _, _ => false
theorem sameI_ok {x y : Int} (h : sameI x y = true) : x = y := by
  cases x <;> cases y <;> try (cases h; done)
  · rw [Nat.eq_of_beq_eq_true h]
  · rw [Nat.eq_of_beq_eq_true h]

mutual
def same : V → V → Bool
  | .top, .top => true
  | .b x, .b y => cond x y (!y)
  | .i k n, .i k' n' => decide (k = k') && sameI n n'
  | .y k n, .y k' n' => decide (k = k') && Nat.beq n n'
  | .q n, .q n' => Nat.beq n n'
  | .sr a b c d, .sr a' b' c' d' => Nat.beq a a' && Nat.beq b b' && Nat.beq c c' && Nat.beq d d'
  | .pr a b c d e, .pr a' b' c' d' e' => Nat.beq a a' && Nat.beq b b' && Nat.beq c c' && Nat.beq d d' && Nat.beq e e'
  | .s l, .s l' => sameN l l'
  | .p a, .p b => sameP a b
  | .sl a n c, .sl a' n' c' => sameP a a' && Nat.beq n n' && sameC c c'
  | .es, .es => true
  | .m none, .m none => true
  | .m (some a), .m (some b) => Nat.beq a b
  | .f g a b, .f g' a' b' => Nat.beq g g' && same_s a a' && same_s b b'
  | .yl a, .yl b => Nat.beq a b
  | .o, .o => true
  | .nf, .nf => true
  | .ifc t x, .ifc t' x' => Nat.beq t t' && same x x'
  | .ni, .ni => true
  | .a l, .a l' => same_s l l'
  | .t l, .t l' => same_s l l'
  | _, _ => false
def same_s : List V → List V → Bool
  | [], [] => true
  | x :: xs, y :: ys => same x y && same_s xs ys
  | _, _ => false
end

mutual
theorem same_ok : ∀ (x y : V), same x y = true → x = y
  | .top, y, h => by cases y <;> simp only [same] at h <;> first | rfl | cases h
  | .b x, y, h => by
    cases y <;> simp only [same] at h <;> try (cases h; done)
    rename_i y
    cases x <;> cases y <;> first | rfl | cases h
  | .i k n, y, h => by
    cases y <;> simp only [same, Bool.and_eq_true, decide_eq_true_eq] at h <;> try (cases h; done)
    rw [h.1, sameI_ok h.2]
  | .y k n, y, h => by
    cases y <;> simp only [same, Bool.and_eq_true, decide_eq_true_eq] at h <;> try (cases h; done)
    rw [h.1, Nat.eq_of_beq_eq_true h.2]
  | .q n, y, h => by
    cases y <;> simp only [same] at h <;> try (cases h; done)
    rw [Nat.eq_of_beq_eq_true h]
  | .sr a b c d, y, h => by
    cases y <;> simp only [same, Bool.and_eq_true] at h <;> try (cases h; done)
    rw [Nat.eq_of_beq_eq_true h.1.1.1, Nat.eq_of_beq_eq_true h.1.1.2, Nat.eq_of_beq_eq_true h.1.2, Nat.eq_of_beq_eq_true h.2]
  | .pr a b c d e, y, h => by
    cases y <;> simp only [same, Bool.and_eq_true] at h <;> try (cases h; done)
    rw [Nat.eq_of_beq_eq_true h.1.1.1.1, Nat.eq_of_beq_eq_true h.1.1.1.2, Nat.eq_of_beq_eq_true h.1.1.2, Nat.eq_of_beq_eq_true h.1.2, Nat.eq_of_beq_eq_true h.2]
  | .s l, y, h => by
    cases y <;> simp only [same] at h <;> try (cases h; done)
    rw [sameN_ok h]
  | .p a, y, h => by
    cases y <;> simp only [same] at h <;> try (cases h; done)
    rw [sameP_ok h]
  | .sl a n c, y, h => by
    cases y <;> simp only [same, Bool.and_eq_true] at h <;> try (cases h; done)
    rw [sameP_ok h.1.1, Nat.eq_of_beq_eq_true h.1.2, sameC_ok h.2]
  | .es, y, h => by cases y <;> simp only [same] at h <;> first | rfl | cases h
  | .m a, y, h => by
    cases y <;> try (cases a <;> simp only [same] at h <;> cases h; done)
    rename_i b
    cases a <;> cases b <;> simp only [same] at h <;> first | rfl | (cases h; done) | rw [Nat.eq_of_beq_eq_true h]
  | .f g a b, y, h => by
    cases y <;> simp only [same, Bool.and_eq_true] at h <;> try (cases h; done)
    rw [Nat.eq_of_beq_eq_true h.1.1, same_s_ok _ _ h.1.2, same_s_ok _ _ h.2]
  | .yl a, y, h => by
    cases y <;> simp only [same] at h <;> try (cases h; done)
    rw [Nat.eq_of_beq_eq_true h]
  | .o, y, h => by cases y <;> simp only [same] at h <;> first | rfl | cases h
  | .nf, y, h => by cases y <;> simp only [same] at h <;> first | rfl | cases h
  | .ifc t x, y, h => by
    cases y <;> simp only [same, Bool.and_eq_true] at h <;> try (cases h; done)
    rw [Nat.eq_of_beq_eq_true h.1, same_ok _ _ h.2]
  | .ni, y, h => by cases y <;> simp only [same] at h <;> first | rfl | cases h
  | .a l, y, h => by
    cases y <;> simp only [same] at h <;> try (cases h; done)
    rw [same_s_ok _ _ h]
  | .t l, y, h => by
    cases y <;> simp only [same] at h <;> try (cases h; done)
    rw [same_s_ok _ _ h]
theorem same_s_ok : ∀ (x y : List V), same_s x y = true → x = y
  | [], y, h => by cases y <;> simp only [same_s] at h <;> first | rfl | cases h
  | x :: xs, y, h => by
    cases y <;> simp only [same_s, Bool.and_eq_true] at h <;> try (cases h; done)
    rw [same_ok _ _ h.1, same_s_ok _ _ h.2]
end

/-! ### The order's tests, of a region's text alone -/
def tb (m j : Nat) : Bool := Nat.beq (Nat.mod (Nat.shiftRight m j) 2) 1
theorem tb_iff (m j : Nat) : tb m j = m.testBit j := by
  have h2 : (m >>> j) % 2 = m / 2 ^ j % 2 := by rw [Nat.shiftRight_eq_div_pow]
  rw [Nat.testBit_eq_decide_div_mod_eq, ← h2]
  show Nat.beq ((m >>> j) % 2) 1 = _
  cases hb : Nat.beq ((m >>> j) % 2) 1 with
  | true => simp [Nat.eq_of_beq_eq_true hb]
  | false =>
    have : (m >>> j) % 2 ≠ 1 := fun e => by rw [e] at hb; cases hb
    simp [this]

def maskOf (mk : T Nat) : List Nat → Nat
  | [] => 0
  | d :: ds => Nat.lor (Nat.lor (Nat.pow 2 d) (T.get 0 mk d)) (maskOf mk ds)
def levOf (lv : T Nat) : List Nat → Nat
  | [] => 0
  | d :: ds => cond (Nat.blt (levOf lv ds) (T.get 0 lv d)) (T.get 0 lv d) (levOf lv ds)

theorem maskOf_bit (mk : T Nat) : ∀ (ds : List Nat) (a : Nat), (maskOf mk ds).testBit a = true → ∃ d ∈ ds, a = d ∨ (T.get 0 mk d).testBit a = true
  | [], a, h => by simp [maskOf] at h
  | d :: ds, a, h => by
    have e : maskOf mk (d :: ds) = (2 ^ d ||| T.get 0 mk d) ||| maskOf mk ds := rfl
    rw [e, Nat.testBit_or, Nat.testBit_or, Nat.testBit_two_pow] at h
    simp only [Bool.or_eq_true, decide_eq_true_eq] at h
    rcases h with (h | h) | h
    · exact ⟨d, by simp, .inl h.symm⟩
    · exact ⟨d, by simp, .inr h⟩
    · obtain ⟨d', h1, h2⟩ := maskOf_bit mk ds a h
      exact ⟨d', by simp [h1], h2⟩
theorem levOf_at (lv : T Nat) : ∀ (ds : List Nat) (n : Nat), n < levOf lv ds → ∃ d ∈ ds, n < T.get 0 lv d
  | [], n, h => by simp [levOf] at h
  | d :: ds, n, h => by
    simp only [levOf] at h
    cases hb : Nat.blt (levOf lv ds) (T.get 0 lv d) with
    | true => rw [hb] at h; exact ⟨d, by simp, h⟩
    | false =>
      rw [hb] at h
      obtain ⟨d', h1, h2⟩ := levOf_at lv ds n h
      exact ⟨d', by simp [h1], h2⟩

structure SS where
  ms : T Nat
  lv : T Nat
  lw : T Nat
  rd : T Nat

def okW (lw : T Nat) (m t : Nat) : Bool :=
  match T.get 0 lw t with
  | 0 => true
  | c + 1 => tb m c
def okD (s : SS) (m : Nat) : Option Nat → Bool
  | none => true
  | some t => okW s.lw m t && Nat.beq (Nat.land (T.get 0 s.rd t) m) (T.get 0 s.rd t)
def addR (i : Nat) : List Nat → T Nat → T Nat
  | [], rd => rd
  | t :: ts, rd => addR i ts (T.set 0 rd t (Nat.lor (T.get 0 rd t) (Nat.pow 2 i)))
def setW (lw : T Nat) (i : Nat) : Option Nat → T Nat
  | none => lw
  | some t => T.set 0 lw t (i + 1)
def allLt (i : Nat) : List Nat → Bool
  | [] => true
  | d :: ds => Nat.blt d i && allLt i ds
def allW (lw : T Nat) (m : Nat) : List Nat → Bool
  | [] => true
  | t :: ts => okW lw m t && allW lw m ts

def fwd (m : Bool) (ops : Array Oper) : List Oper → Nat → Nat → SS → Option SS
  | [], _, _, s => some s
  | o :: os, i, p, s =>
    cond (allLt i (deps o) && allW s.lw (maskOf s.ms (deps o)) (reads ops o) && okD s (maskOf s.ms (deps o)) o.dst && (cond (eF m o) (Nat.beq (levOf s.lv (deps o)) p) true))
      (fwd m ops os (i + 1) (cond (eF m o) (p + 1) p)
        { ms := T.set 0 s.ms i (maskOf s.ms (deps o)), lv := T.set 0 s.lv i (cond (eF m o) (p + 1) (levOf s.lv (deps o))), lw := setW s.lw i o.dst, rd := addR i (reads ops o) s.rd }) none

/-- How many effects there are. -/
def cnt (m : Bool) : List Oper → Nat
  | [] => 0
  | o :: os => cond (eF m o) (cnt m os + 1) (cnt m os)
theorem cnt_append {m : Bool} : ∀ (a b : List Oper), cnt m (a ++ b) = cnt m a + cnt m b
  | [], b => by simp [cnt]
  | o :: a, b => by
    simp only [List.cons_append, cnt, cnt_append a b]
    cases eF m o <;> simp [cond]; omega

def idxOf (m : Bool) (ops : Array Oper) (i : Nat) : Nat := cnt m (ops.toList.take i)
theorem idxOf_succ {m : Bool} {ops : Array Oper} {i : Nat} {o : Oper} (ho : ops[i]? = some o) : idxOf m ops (i + 1) = cond (eF m o) (idxOf m ops i + 1) (idxOf m ops i) := by
  have h : ops.toList[i]? = some o := by simpa using ho
  unfold idxOf
  rw [List.take_add_one, h, cnt_append]
  simp only [Option.toList_some, cnt]
  cases eF m o <;> simp [cond]
theorem idxOf_mono {m : Bool} {ops : Array Oper} {i j : Nat} (h : i ≤ j) : idxOf m ops i ≤ idxOf m ops j := by
  unfold idxOf
  obtain ⟨d, rfl⟩ := Nat.exists_eq_add_of_le h
  rw [List.take_add, cnt_append]
  omega
theorem idxOf_lt {m : Bool} {ops : Array Oper} {i j : Nat} {o : Oper} (ho : ops[i]? = some o) (he : eF m o = true) (h : i < j) : idxOf m ops i < idxOf m ops j := by
  have := idxOf_succ (m := m) ho
  rw [he] at this
  have h2 := idxOf_mono (m := m) (ops := ops) (i := i + 1) (j := j) h
  simp only [cond] at this
  omega

structure SInv (m : Bool) (ops : Array Oper) (i : Nat) (s : SS) : Prop where
  ms : ∀ j a, (T.get 0 s.ms j).testBit a = true → Anc ops a j
  lv : ∀ j e oe, ops[e]? = some oe → eF m oe = true → idxOf m ops e < T.get 0 s.lv j → Anc ops e j
  lve : ∀ j oj, j < i → ops[j]? = some oj → eF m oj = true → T.get 0 s.lv j = idxOf m ops j + 1
  lvk : ∀ j, T.get 0 s.lv j ≤ idxOf m ops i
  lw0 : ∀ t, T.get 0 s.lw t = 0 → ∀ j oj, j < i → ops[j]? = some oj → oj.dst ≠ some t
  lw1 : ∀ t c, T.get 0 s.lw t = c + 1 → ∀ j oj, j < i → ops[j]? = some oj → oj.dst = some t → Anc ops j c
  rd : ∀ t j oj, j < i → ops[j]? = some oj → t ∈ reads ops oj → (T.get 0 s.rd t).testBit j = true
  top : ∀ j oj, j < i → ops[j]? = some oj → ∀ d ∈ deps oj, d < j
  tmpW : ∀ j l oj ol t, j < l → l < i → ops[j]? = some oj → ops[l]? = some ol → oj.dst = some t → (ol.dst = some t ∨ t ∈ reads ops ol) → Anc ops j l
  tmpR : ∀ j l oj ol t, j < l → l < i → ops[j]? = some oj → ops[l]? = some ol → t ∈ reads ops oj → ol.dst = some t → Anc ops j l

theorem allLt_ok {i : Nat} : ∀ {l : List Nat}, allLt i l = true → ∀ d ∈ l, d < i
  | [], _, d, hd => by cases hd
  | a :: l, h, d, hd => by
    simp only [allLt, Bool.and_eq_true] at h
    rcases List.mem_cons.1 hd with rfl | hd
    · exact blt_iff.1 h.1
    · exact allLt_ok h.2 d hd
theorem allW_ok {lw : T Nat} {m : Nat} : ∀ {l : List Nat}, allW lw m l = true → ∀ t ∈ l, okW lw m t = true
  | [], _, d, hd => by cases hd
  | a :: l, h, d, hd => by
    simp only [allW, Bool.and_eq_true] at h
    rcases List.mem_cons.1 hd with rfl | hd
    · exact h.1
    · exact allW_ok h.2 d hd
theorem addR_bit (i : Nat) : ∀ (l : List Nat) (rd : T Nat) (t j : Nat), ((T.get 0 rd t).testBit j = true ∨ (j = i ∧ t ∈ l)) → (T.get 0 (addR i l rd) t).testBit j = true
  | [], rd, t, j, h => by
    rcases h with h | ⟨_, h⟩
    · exact h
    · cases h
  | a :: l, rd, t, j, h => by
    refine addR_bit i l _ t j ?_
    rw [T.get_set]
    by_cases ht : t = a
    · subst ht
      rw [if_pos rfl]
      refine .inl ?_
      have e : Nat.lor (T.get 0 rd t) (Nat.pow 2 i) = T.get 0 rd t ||| 2 ^ i := rfl
      rw [e, Nat.testBit_or, Nat.testBit_two_pow]
      rcases h with h | ⟨rfl, _⟩
      · simp [h]
      · simp
    · rw [if_neg ht]
      rcases h with h | ⟨h, hm⟩
      · exact .inl h
      · rcases List.mem_cons.1 hm with hm | hm
        · exact absurd hm ht
        · exact .inr ⟨h, hm⟩

theorem fwd_ok {m : Bool} {ops : Array Oper} : ∀ (os : List Oper) (i : Nat) (s s' : SS), os = ops.toList.drop i → fwd m ops os i (idxOf m ops i) s = some s' → SInv m ops i s → SInv m ops (i + os.length) s'
  | [], i, s, s', _, h, I => by
    simp only [fwd, Option.some.injEq] at h
    subst h; exact I
  | o :: os, i, s, s', hos, h, I => by
    have ho : ops[i]? = some o := by
      have : (ops.toList.drop i)[0]? = some o := by rw [← hos]; rfl
      simpa using this
    have hos' : os = ops.toList.drop (i + 1) := by
      have : (ops.toList.drop i).drop 1 = os := by rw [← hos]; rfl
      rw [← this, List.drop_drop]
    simp only [fwd] at h
    cases hc : allLt i (deps o) && allW s.lw (maskOf s.ms (deps o)) (reads ops o) && okD s (maskOf s.ms (deps o)) o.dst && (cond (eF m o) (Nat.beq (levOf s.lv (deps o)) (idxOf m ops i)) true) with
    | false => rw [hc] at h; cases h
    | true =>
      rw [hc] at h
      simp only [cond_true] at h
      simp only [Bool.and_eq_true] at hc
      obtain ⟨⟨⟨c1, c2⟩, c3⟩, c4⟩ := hc
      rw [← idxOf_succ ho] at h
      have elen : i + (o :: os).length = i + 1 + os.length := by simp; omega
      rw [elen]
      refine fwd_ok os (i + 1) _ s' hos' h ?_
      have hdep : ∀ d ∈ deps o, Anc ops d i := fun d hd => Anc.dep ho hd
      have hmask : ∀ a, (maskOf s.ms (deps o)).testBit a = true → Anc ops a i := fun a ha => by
        obtain ⟨d, hd, h⟩ := maskOf_bit _ _ _ ha
        rcases h with rfl | h
        · exact hdep _ hd
        · exact (I.ms d a h).trans (hdep d hd)
      have hlev : ∀ e oe, ops[e]? = some oe → eF m oe = true → idxOf m ops e < levOf s.lv (deps o) → Anc ops e i := fun e oe hoe hee hlt => by
        obtain ⟨d, hd, hlt⟩ := levOf_at _ _ _ hlt
        exact (I.lv d e oe hoe hee hlt).trans (hdep d hd)
      have hlevk : levOf s.lv (deps o) ≤ idxOf m ops i := by
        rcases Nat.lt_or_ge (idxOf m ops i) (levOf s.lv (deps o)) with h | h
        · obtain ⟨d, _, hlt⟩ := levOf_at _ _ _ h
          have := I.lvk d
          omega
        · exact h
      have hW : ∀ t, okW s.lw (maskOf s.ms (deps o)) t = true → ∀ j oj, j < i → ops[j]? = some oj → oj.dst = some t → Anc ops j i := fun t ht j oj hj hoj hd => by
        unfold okW at ht
        split at ht
        · rename_i h0
          exact absurd hd (I.lw0 t h0 j oj hj hoj)
        · rename_i c h1
          rw [tb_iff] at ht
          exact (I.lw1 t c h1 j oj hj hoj hd).trans (hmask c ht)
      have hsi := idxOf_succ (m := m) ho
      have hlast : ∀ j, j < i + 1 → j = i ∨ j < i := fun j h => by omega
      refine ⟨fun j a h => ?_, fun j e oe hoe hee hlt => ?_, fun j oj hj hoj hej => ?_, fun j => ?_, fun t ht j oj hj hoj => ?_, fun t c ht j oj hj hoj hdj => ?_, fun t j oj hj hoj ht => ?_, fun j oj hj hoj d hd => ?_, fun j l oj ol t hjl hl hoj hol hdj hdl => ?_, fun j l oj ol t hjl hl hoj hol hdj hdl => ?_⟩
      · simp only [T.get_set] at h
        by_cases hj : j = i
        · subst hj; rw [if_pos rfl] at h; exact hmask a h
        · rw [if_neg hj] at h; exact I.ms j a h
      · simp only [T.get_set] at hlt
        by_cases hj : j = i
        · subst hj
          rw [if_pos rfl] at hlt
          cases hoe' : eF m o with
          | false => rw [hoe'] at hlt; exact hlev e oe hoe hee hlt
          | true =>
            rw [hoe'] at hlt c4
            simp only [cond] at hlt c4
            have c4 := Nat.eq_of_beq_eq_true c4
            rcases Nat.lt_or_ge (idxOf m ops e) (idxOf m ops j) with h | h
            · exact hlev e oe hoe hee (by omega)
            · have heq : e = j := by
                rcases Nat.lt_trichotomy e j with h' | h' | h'
                · have := idxOf_lt (m := m) hoe hee h'; omega
                · exact h'
                · have := idxOf_lt (m := m) ho hoe' h'; omega
              subst heq
              exact Anc.refl _
        · rw [if_neg hj] at hlt; exact I.lv j e oe hoe hee hlt
      · simp only [T.get_set]
        rcases hlast j hj with rfl | hj'
        · rw [if_pos rfl]
          rw [ho] at hoj; cases hoj
          rw [hej]; rfl
        · rw [if_neg (by omega)]; exact I.lve j oj hj' hoj hej
      · simp only [T.get_set]
        rw [hsi]
        by_cases hj : j = i
        · rw [if_pos hj]
          cases eF m o with
          | true => exact Nat.le_refl _
          | false => exact hlevk
        · rw [if_neg hj]
          have := I.lvk j
          cases eF m o <;> simp only [cond] <;> omega
      · cases hd : o.dst with
        | none =>
          rw [hd] at ht
          simp only [setW] at ht
          rcases hlast j hj with rfl | hj'
          · rw [ho] at hoj; cases hoj; rw [hd]; simp
          · exact I.lw0 t ht j oj hj' hoj
        | some u =>
          rw [hd] at ht
          simp only [setW, T.get_set] at ht
          by_cases htu : t = u
          · rw [if_pos htu] at ht; omega
          · rw [if_neg htu] at ht
            rcases hlast j hj with rfl | hj'
            · rw [ho] at hoj; cases hoj; rw [hd]; exact fun e => htu (Option.some.inj e).symm
            · exact I.lw0 t ht j oj hj' hoj
      · cases hd : o.dst with
        | none =>
          rw [hd] at ht
          simp only [setW] at ht
          rcases hlast j hj with rfl | hj'
          · rw [ho] at hoj; cases hoj; rw [hd] at hdj; cases hdj
          · exact I.lw1 t c ht j oj hj' hoj hdj
        | some u =>
          rw [hd] at ht c3
          simp only [setW, T.get_set] at ht
          by_cases htu : t = u
          · rw [if_pos htu] at ht
            have : c = i := by omega
            subst this
            rcases hlast j hj with rfl | hj'
            · exact Anc.refl _
            · simp only [okD, Bool.and_eq_true] at c3
              subst htu
              exact hW t c3.1 j oj hj' hoj hdj
          · rw [if_neg htu] at ht
            rcases hlast j hj with rfl | hj'
            · rw [ho] at hoj; cases hoj; rw [hd] at hdj; exact absurd (Option.some.inj hdj).symm htu
            · exact I.lw1 t c ht j oj hj' hoj hdj
      · refine addR_bit i _ _ t j ?_
        rcases hlast j hj with rfl | hj'
        · rw [ho] at hoj; cases hoj; exact .inr ⟨rfl, ht⟩
        · exact .inl (I.rd t j oj hj' hoj ht)
      · rcases hlast j hj with rfl | hj'
        · rw [ho] at hoj; cases hoj; exact allLt_ok c1 d hd
        · exact I.top j oj hj' hoj d hd
      · rcases hlast l hl with rfl | hl'
        · rw [ho] at hol; cases hol
          rcases hdl with hdl | hdl
          · rw [hdl] at c3
            simp only [okD, Bool.and_eq_true] at c3
            exact hW t c3.1 j oj hjl hoj hdj
          · exact hW t (allW_ok c2 t hdl) j oj hjl hoj hdj
        · exact I.tmpW j l oj ol t hjl hl' hoj hol hdj hdl
      · rcases hlast l hl with rfl | hl'
        · rw [ho] at hol; cases hol
          rw [hdl] at c3
          simp only [okD, Bool.and_eq_true] at c3
          have hb := I.rd t j oj hjl hoj hdj
          have e := Nat.eq_of_beq_eq_true c3.2
          have e' : T.get 0 s.rd t &&& maskOf s.ms (deps o) = T.get 0 s.rd t := e
          rw [← e', Nat.testBit_and] at hb
          simp only [Bool.and_eq_true] at hb
          exact hmask j hb.2
        · exact I.tmpR j l oj ol t hjl hl' hoj hol hdj hdl

theorem SInv.init {m : Bool} (ops : Array Oper) : SInv m ops 0 ⟨.leaf, .leaf, .leaf, .leaf⟩ := by
  refine ⟨fun j a h => ?_, fun j e oe _ _ h => ?_, fun j oj hj => by omega, fun j => by simp [T.get_leaf], fun t _ j oj hj => by omega, fun t c h => ?_, fun t j oj hj => by omega, fun j oj hj => by omega, fun j l oj ol t _ hl => by omega, fun j l oj ol t _ hl => by omega⟩
  · rw [T.get_leaf] at h; simp at h
  · rw [T.get_leaf] at h; omega
  · rw [T.get_leaf] at h; omega

end
end Go.Ev
