/- The abstract machine, part O: rounds; code. -/
import Derived.Test.YtcnckmkbidklgaaGreatDoorA06
namespace Go.Ev

theorem HR.getLoop {P : Program} {φ : Ren} {h : H} {w : World} (hr : HR φ h w) {l r : Nat} (hl : φ l = some r) {st : LoopState} {pend : Option Code} {fr : Fr} {ps : Array Tmp} {as bd : Code} {df : Nat} (hg : h.get l = .loop st pend fr ps as bd df) :
    ∃ fn tmps d, (Instr.getLoop r).run P w = .ok { state := st, pending := pend, fn, tmps, params := ps, assign := as, body := bd, defers := d } w ∧ w.heap[r]? = some (.loop { state := st, pending := pend, fn, tmps, params := ps, assign := as, body := bd, defers := d }) ∧ FR φ fr tmps ∧ φ df = some d := by
  obtain ⟨o, h1, h2⟩ := hr.blk l r hl (by rw [hg]; trivial)
  rw [hg] at h2
  obtain ⟨fn, tmps, d, rfl, h3, h4⟩ := h2
  exact ⟨fn, tmps, d, by simp [Instr.getLoop, getObj, Sem.run, h1], h1, h3, h4⟩

/-- A loop's record is turned. -/
theorem HR.setLoop {P : Program} {φ : Ren} {h : H} {w : World} (hr : HR φ h w) {l r : Nat} (hl : φ l = some r) {st : LoopState} {pend : Option Code} {fr : Fr} {ps : Array Tmp} {as bd : Code} {df : Nat} (hg : h.get l = .loop st pend fr ps as bd df)
    {fn : FuncId} {tmps : Array Value} {d : Nat} (ho : w.heap[r]? = some (.loop { state := st, pending := pend, fn, tmps, params := ps, assign := as, body := bd, defers := d })) (hf : FR φ fr tmps) (hd : φ df = some d) (st' : LoopState) (pend' : Option Code) :
    ∃ w', (setObj r (.loop { state := st', pending := pend', fn, tmps, params := ps, assign := as, body := bd, defers := d })).run P w = .ok () w' ∧ HR φ (h.set l (.loop st' pend' fr ps as bd df)) w' ∧ Ext φ w φ w' := by
  have hlt := (hr.dom l r hl).2
  let w' : World := { w with heap := w.heap.setIfInBounds r (.loop { state := st', pending := pend', fn, tmps, params := ps, assign := as, body := bd, defers := d }) }
  have hT := hr.turn (w' := w') (.loop st' pend' fr ps as bd df) (.loop { state := st', pending := pend', fn, tmps, params := ps, assign := as, body := bd, defers := d }) hl (by rw [hg]; trivial) ⟨fn, tmps, d, rfl, hf, hd⟩
    (by simp [w']) (by simp [w', hlt]) (fun s hs => by simp [w', Array.getElem?_setIfInBounds_ne (Ne.symm hs)]) rfl rfl rfl
  exact ⟨w', by simp [setObj, Sem.run, ho, w'], hT.1, hT.2⟩

theorem setAll_ok {φ : Ren} : ∀ (ts : List Tmp) (vs : List V) (vs' : List Value) (fr fr' : Fr) (tmps : Array Value), VRs φ vs vs' → FR φ fr tmps → setAll fr ts vs = some fr' → ts.length = vs'.length ∧
    FR φ fr' ((ts.zip vs').foldl (fun (tm : Array Value) (x : Tmp × Value) => tm.setIfInBounds x.1 x.2) tmps)
  | [], [], vs', fr, fr', tmps, hv, hf, h => by
    simp only [VRs] at hv; subst hv
    simp only [setAll, Option.some.injEq] at h; subst h
    exact ⟨rfl, hf⟩
  | [], _ :: _, _, _, _, _, _, _, h => by simp [setAll] at h
  | _ :: _, [], _, _, _, _, _, _, h => by simp [setAll] at h
  | t :: ts, v :: vs, vs', fr, fr', tmps, hv, hf, h => by
    simp only [VRs] at hv
    obtain ⟨y, ys, rfl, h1, h2⟩ := hv
    simp only [setAll] at h
    cases hlt : Nat.blt t fr.n with
    | false => rw [hlt] at h; cases h
    | true =>
      rw [hlt] at h
      simp only [cond] at h
      have hf' : FR φ (fr.set t v) (tmps.setIfInBounds t y) := by
        rcases hf.set t h1 with g | g
        · exact g
        · have := blt_iff.1 hlt; omega
      obtain ⟨h3, h4⟩ := setAll_ok ts vs ys (fr.set t v) fr' (tmps.setIfInBounds t y) h2 hf' h
      exact ⟨by simp [h3], by simpa using h4⟩

theorem yieldF_ok {E : Env} {ex : ExecT} (hX : ExecOK E ex) : YieldOK E (yieldF ex) := by
  intro l args h v h' hs φ args' w n ro r hg hbd hargs hr hl
  unfold yieldF at hs
  split at hs
  · rename_i st pend fr ps as bd df hlp
    obtain ⟨fn, tmps, d, hget, ho, hf, hd⟩ := hr.getLoop (P := E.P) hl hlp
    split at hs
    · rename_i fr1 hfr1
      obtain ⟨hlen, hF1⟩ := setAll_ok ps.toList args args' fr fr1 tmps hargs hf hfr1
      refine ⟨fn, (ps.toList.zip args').foldl (fun (tm : Array Value) (x : Tmp × Value) => tm.setIfInBounds x.1 x.2) tmps, as, bd, ?_, ?_⟩
      · have hsz : args'.length = ps.size := by rw [← hlen]; simp
        have hfold : (ps.zip args'.toArray).foldl (fun (tm : Array Value) (x : Tmp × Value) => tm.setIfInBounds x.1 x.2) tmps = (ps.toList.zip args').foldl (fun (tm : Array Value) (x : Tmp × Value) => tm.setIfInBounds x.1 x.2) tmps := by
          rw [← Array.foldl_toList, Array.toList_zip]
        simp only [Instr.yield, Sem.run_bind, hget, Result.andThen_ok]
        rw [if_neg (by simp [hsz])]
        simp only [pure_bind, Sem.run_pure]
        rw [← hfold]
      · split at hs
        · rename_i fr2 h1 hex1
          refine roundIn_of_wpIn trivial ?_
          have hwp := hX (some l) as fr1 [] h .n fr2 [] h1 hex1 φ { tmps := (ps.toList.zip args').foldl (fun (tm : Array Value) (x : Tmp × Value) => tm.setIfInBounds x.1 x.2) tmps, defers := [] } w (some r) n hg hbd ⟨r, rfl, hl⟩ hF1 rfl hr
          refine wpIn_mono hwp ?_
          rintro e a1 w1 ⟨φ1, hx1, rfl, hf1, hd1, hr1⟩
          have hl1 := (hx1.le l r hl).1
          split at hs
          · rename_i pend' fr' ps' as' bd' df' hlp1
            obtain ⟨fn1, tmps1, d1, hget1, ho1, hff1, hdd1⟩ := hr1.getLoop (P := E.P) hl1 hlp1
            obtain ⟨w2, hset, hr2, hx2⟩ := hr1.setLoop (P := E.P) hl1 hlp1 ho1 hff1 hdd1 .busy pend'
            refine ⟨w2, ?_, ?_⟩
            · simp [Instr.beginRound, hget1, hset]
            · split at hs
              · rename_i x frx dsx2 h2 hex2
                have hwp2 := hX (some l) bd fr2 [] _ x frx dsx2 h2 hex2 φ1 a1 w2 (some r) n (hg.mono hx1.le) (hbd.mono hx1.le) ⟨r, rfl, hl1⟩ hf1 hd1 hr2
                refine wpIn_mono hwp2 ?_
                rintro e a3 w3 ⟨φ3, hx3, rfl, hf3, hd3, hr3⟩
                have hl3 := (hx3.le l r hl1).1
                have hxx : Ext φ w φ3 w3 := hx1.trans (hx2.trans hx3)
                split at hs
                · rename_i st3 pend3 fr3 ps3 as3 bd3 df3 hlp3
                  obtain ⟨fn3, tmps3, d3, hget3, ho3, hff3, hdd3⟩ := hr3.getLoop (P := E.P) hl3 hlp3
                  cases x with
                  | n =>
                    simp only [Option.some.injEq, Prod.mk.injEq] at hs
                    obtain ⟨rfl, rfl⟩ := hs
                    obtain ⟨w4, hset4, hr4, hx4⟩ := hr3.setLoop (P := E.P) hl3 hlp3 ho3 hff3 hdd3 .ready none
                    exact ⟨.bool true, w4, by simp [Instr.endRound, hget3, hset4], φ3, .bool true, rfl, hxx.trans hx4, by simp only [VR], hr4⟩
                  | r =>
                    simp only [Option.some.injEq, Prod.mk.injEq] at hs
                    obtain ⟨rfl, rfl⟩ := hs
                    obtain ⟨w4, hset4, hr4, hx4⟩ := hr3.setLoop (P := E.P) hl3 hlp3 ho3 hff3 hdd3 .done (some .ret)
                    exact ⟨.bool false, w4, by simp [Instr.endRound, hget3, hset4], φ3, .bool false, rfl, hxx.trans hx4, by simp only [VR], hr4⟩
                  | e id =>
                    simp only [Option.some.injEq, Prod.mk.injEq] at hs
                    obtain ⟨rfl, rfl⟩ := hs
                    obtain ⟨w4, hset4, hr4, hx4⟩ := hr3.setLoop (P := E.P) hl3 hlp3 ho3 hff3 hdd3 .done (some (.exit id))
                    exact ⟨.bool false, w4, by simp [Instr.endRound, hget3, hset4], φ3, .bool false, rfl, hxx.trans hx4, by simp only [VR], hr4⟩
                · cases hs
              · cases hs
          · cases hs
        · cases hs
    · cases hs
  · cases hs

theorem roundsIn_mono {F : Fence} {n : Nat} {P : Program} {c : Code} {Q Q' : Exit → Act → World → Prop} (hq : ∀ e a w, Q e a w → Q' e a w) : ∀ (m : Nat) (a : Act) (w : World), Code.roundsIn F n P c Q m a w → Code.roundsIn F n P c Q' m a w
  | 0, _, _, h => h
  | m + 1, a, w, h => wpIn_mono h fun e a' w' he => by
    cases e with
    | normal => exact roundsIn_mono hq m a' w' he
    | _ => exact hq _ _ _ he

theorem afterRange_ok {E : Env} {φ : Ren} {w : World} {l : Nat} {fr : Fr} {ds : List Nat} {h : H} {x : X} {fr' : Fr} {ds' : List Nat} {h' : H} (hs : afterRange l fr ds h = some (x, fr', ds', h'))
    {φ' : Ren} {w' : World} (hx : Ext φ w φ' w') (hr : HR φ' h w') {r : Nat} (hl : φ' l = some r) {a' : Act} (hf : FR φ' fr a'.tmps) (hd : DR φ' ds a'.defers) (ro : Option Nat) (n : Nat) :
    ∃ jump w₄, (Instr.endLoop r).run E.P w' = .ok jump w₄ ∧
      (match jump with
       | none => PostX φ w x fr' ds' h' .normal a' w₄
       | some c => c.wpIn (W ro) n E.P (PostX φ w x fr' ds' h') a' w₄) := by
  unfold afterRange at hs
  split at hs
  · rename_i st pend fr0 ps as bd df hlp
    obtain ⟨fn, tmps, d, hget, ho, hff, hdd⟩ := hr.getLoop (P := E.P) hl hlp
    obtain ⟨w4, hset, hr4, hx4⟩ := hr.setLoop (P := E.P) hl hlp ho hff hdd .exhausted pend
    split at hs
    · cases hs
    · rename_i hnb
      have hst : ¬ (st == LoopState.busy) = true := fun e => hnb (by simpa using e)
      have hend : (Instr.endLoop r).run E.P w' = .ok pend w4 := by
        simp only [Instr.endLoop, Sem.run_bind, hget, Result.andThen_ok]
        rw [if_neg hst]
        simp [hset]
      refine ⟨pend, w4, hend, ?_⟩
      split at hs
      · simp only [Option.some.injEq, Prod.mk.injEq] at hs
        obtain ⟨rfl, rfl, rfl, rfl⟩ := hs
        exact ⟨φ', hx.trans hx4, rfl, hf, hd, hr4⟩
      · simp only [Option.some.injEq, Prod.mk.injEq] at hs
        obtain ⟨rfl, rfl, rfl, rfl⟩ := hs
        exact wpIn_ret ⟨φ', hx.trans hx4, rfl, hf, hd, hr4⟩
      · simp only [Option.some.injEq, Prod.mk.injEq] at hs
        obtain ⟨rfl, rfl, rfl, rfl⟩ := hs
        exact wpIn_exit ⟨φ', hx.trans hx4, rfl, hf, hd, hr4⟩
      · cases hs
  · cases hs

theorem aRange_ok {E : Env} {call : CallT} (hC : CallOK E call) {ro : Option Nat} {g : Operand} {ps : Array Tmp} {as bd : Code} {fr : Fr} {ds : List Nat} {h : H} {x : X} {fr' : Fr} {ds' : List Nat} {h' : H}
    (hs : aRange E call ro g ps as bd fr ds h = some (x, fr', ds', h')) {φ : Ren} {a : Act} {w : World} {ro' : Option Nat} {n : Nat} (hg : GL E.ng φ) (hbd : BD E φ) (hro : RO φ ro ro') (hf : FR φ fr a.tmps) (hd : DR φ ds a.defers) (hr : HR φ h w) :
    (Code.rangeFunc g ps as bd).wpIn (W ro') n E.P (PostX φ w x fr' ds' h') a w := by
  unfold aRange at hs
  have hfv := ev_ok hg hf g
  split at hs
  · rename_i gf first caps hgv
    rw [hgv] at hfv
    simp only [VR] at hfv
    obtain ⟨first', caps', hv, h1, h2⟩ := hfv
    refine wpIn_rangeFunc fun fn _ => ?_
    cases ro with
    | none =>
      simp only [RO] at hro; subst hro
      simp only [] at hs
      split at hs
      · rename_i v0 h3 hcs
        -- the block for deferred calls, and the record
        have hA := hr.alloc 0 .dfr (.deferred (some [])) rfl
        have hle1 : Le φ (up φ h.n w.heap.size 0) := le_up hr.fresh
        let φ1 := up φ h.n w.heap.size 0
        let w1 : World := { w with heap := w.heap.push (.deferred (some [])) }
        have hdn : φ1 h.n = some w.heap.size := by simp [φ1, up]
        let lp : Loop := { state := .ready, pending := none, fn, tmps := a.tmps, params := ps, assign := as, body := bd, defers := w.heap.size }
        have hfresh2 : ∀ s, φ1 (h.new .dfr).n ≠ some s := hA.1.fresh
        have hle2 : Le φ1 (up φ1 (h.new .dfr).n w1.heap.size 0) := le_up hfresh2
        have hB := hA.1.alloc 0 (.loop .ready none fr ps as bd h.n) (.loop lp) ⟨fn, a.tmps, w.heap.size, rfl, (hf.mono hle1).mono hle2, (hle2 _ _ hdn).1⟩
        let φ2 := up φ1 (h.new .dfr).n w1.heap.size 0
        let w2 : World := { w1 with heap := w1.heap.push (.loop lp) }
        have hx2 : Ext φ w φ2 w2 := hA.2.trans hB.2
        have hll : φ2 (h.n + 1) = some w1.heap.size := by simp [φ2, up]
        have hw1 : w1.heap.size = w.heap.size + 1 := by simp [w1]
        have hargs : VRs φ2 (first ++ [.yl (h.n + 1)] ++ caps) (first'.toList ++ [Value.func (.yield w1.heap.size) #[] #[]] ++ caps'.toList) :=
          ((VRs.mono hx2.le _ _ h1).append (VRs.cons (by simp only [VR]; exact ⟨_, hll, rfl⟩) VRs.nil)).append (VRs.mono hx2.le _ _ h2)
        obtain ⟨⟨fn', cd, hfn, hbody, hname⟩, hcall⟩ := hC _ _ _ _ _ hcs φ2 _ w2 (n - 1) (hg.mono hx2.le) (hbd.mono hx2.le) hargs hB.1
        have hname' : ¬ fn'.name = "runtime.NumGoroutine" := by simpa using hname
        refine ⟨w1.heap.size, [{ target := .collected w.heap.size, args := #[] }], w2, { target := .fn (.func gf) caps', args := first' ++ #[Value.func (.yield w1.heap.size) #[] #[]] }, w2, gf, first' ++ #[Value.func (.yield w1.heap.size) #[] #[]] ++ caps', w2, ?_, ?_, fun _ _ => trivial, ?_, (fun hd => (by cases hd)), ?_⟩
        · simp [Instr.enterLoop, W, w1, w2, lp]
        · have hm : (#[Operand.const (Value.func (.yield w1.heap.size) #[] #[])] : Array Operand).map a.eval = #[Value.func (.yield w1.heap.size) #[] #[]] := by simp [Act.eval]
          simp only [resolve, rangeCall, hv, Deferred.ofValue, Sem.run_pure, hm]
        · simp [invoke, callFunc, hfn, hbody, hname']
        · have harr : (first'.toList ++ [Value.func (.yield w1.heap.size) #[] #[]] ++ caps'.toList).toArray = first' ++ #[Value.func (.yield w1.heap.size) #[] #[]] ++ caps' := by
            apply Array.ext'
            simp
          rw [harr] at hcall
          refine (callsW (ro := none) hcall).mono ?_
          rintro e w3 ⟨φ3, v3, rfl, hx3, _, hr3⟩
          have hle3 := hx2.le.trans hx3.le
          exact afterRange_ok hs (hx2.trans hx3) hr3 (hx3.le _ _ hll).1 (a' := { a with defers := [{ target := .collected w.heap.size, args := #[] }] ++ a.defers }) (hf.mono hle3)
            ⟨w.heap.size, a.defers, rfl, ((hle2.trans hx3.le) _ _ hdn).1, hd.mono hle3⟩ none n
      · cases hs
    | some l0 =>
      obtain ⟨r0, rfl, hr0⟩ := hro
      simp only [] at hs
      split at hs
      · rename_i st0 pend0 fr0 ps0 as0 bd0 df hlp0
        obtain ⟨fn0, tmps0, d0, hget0, ho0, hff0, hdd0⟩ := hr.getLoop (P := E.P) hr0 hlp0
        split at hs
        · rename_i v0 h3 hcs
          let lp : Loop := { state := .ready, pending := none, fn, tmps := a.tmps, params := ps, assign := as, body := bd, defers := d0 }
          have hle2 : Le φ (up φ h.n w.heap.size 0) := le_up hr.fresh
          have hB := hr.alloc 0 (.loop .ready none fr ps as bd df) (.loop lp) ⟨fn, a.tmps, d0, rfl, hf.mono hle2, (hle2 _ _ hdd0).1⟩
          let φ2 := up φ h.n w.heap.size 0
          let w2 : World := { w with heap := w.heap.push (.loop lp) }
          have hx2 : Ext φ w φ2 w2 := hB.2
          have hll : φ2 h.n = some w.heap.size := by simp [φ2, up]
          have hargs : VRs φ2 (first ++ [.yl h.n] ++ caps) (first'.toList ++ [Value.func (.yield w.heap.size) #[] #[]] ++ caps'.toList) :=
            ((VRs.mono hx2.le _ _ h1).append (VRs.cons (by simp only [VR]; exact ⟨_, hll, rfl⟩) VRs.nil)).append (VRs.mono hx2.le _ _ h2)
          obtain ⟨⟨fn', cd, hfn, hbody, hname⟩, hcall⟩ := hC _ _ _ _ _ hcs φ2 _ w2 (n - 1) (hg.mono hx2.le) (hbd.mono hx2.le) hargs hB.1
          have hname' : ¬ fn'.name = "runtime.NumGoroutine" := by simpa using hname
          refine ⟨w.heap.size, [], w2, { target := .fn (.func gf) caps', args := first' ++ #[Value.func (.yield w.heap.size) #[] #[]] }, w2, gf, first' ++ #[Value.func (.yield w.heap.size) #[] #[]] ++ caps', w2, ?_, ?_, fun _ _ => trivial, ?_, (fun hd => (by cases hd)), ?_⟩
          · simp [Instr.enterLoop, W, hget0, w2, lp]
          · have hm : (#[Operand.const (Value.func (.yield w.heap.size) #[] #[])] : Array Operand).map a.eval = #[Value.func (.yield w.heap.size) #[] #[]] := by simp [Act.eval]
            simp only [resolve, rangeCall, hv, Deferred.ofValue, Sem.run_pure, hm]
          · simp [invoke, callFunc, hfn, hbody, hname']
          · have harr : (first'.toList ++ [Value.func (.yield w.heap.size) #[] #[]] ++ caps'.toList).toArray = first' ++ #[Value.func (.yield w.heap.size) #[] #[]] ++ caps' := by
              apply Array.ext'
              simp
            rw [harr] at hcall
            refine (callsW (ro := some r0) hcall).mono ?_
            rintro e w3 ⟨φ3, v3, rfl, hx3, _, hr3⟩
            have hle3 := hx2.le.trans hx3.le
            exact afterRange_ok hs (hx2.trans hx3) hr3 (hx3.le _ _ hll).1 (a' := { a with defers := [] ++ a.defers }) (hf.mono hle3) (by simpa using hd.mono hle3) (some r0) n
        · cases hs
      · cases hs
  · cases hs

end Go.Ev

/- The abstract machine, part P: what is told of code is so. -/
namespace Go.Ev

def LoopOK (E : Env) (ex : ExecT) (k : Nat) : Prop := ∀ ro b fr ds h x fr' ds' h', ex ro (.loop b) fr ds h = some (x, fr', ds', h') → ∀ φ a w ro' n, GL E.ng φ → BD E φ → RO φ ro ro' → FR φ fr a.tmps → DR φ ds a.defers → HR φ h w →
  Code.roundsIn (W ro') n E.P b (PostX φ w x fr' ds' h') k a w

theorem exec_ok {E : Env} (hE : E.OK) : ∀ k, ExecOK E (exec E k) ∧ LoopOK E (exec E k) k
  | 0 => ⟨fun _ _ _ _ _ _ _ _ _ h => by simp [exec] at h, fun _ _ _ _ _ _ _ _ _ h => by simp [exec] at h⟩
  | k + 1 => by
    obtain ⟨ihX, ihL⟩ := exec_ok hE k
    have hC := callF_ok hE ihX
    have hY := yieldF_ok ihX
    have hloop : LoopOK E (exec E (k + 1)) (k + 1) := by
      intro ro b fr ds h x fr' ds' h' hs φ a w ro' n hg hbd hro hf hd hr
      simp only [exec] at hs
      rw [roundsIn_succ]
      split at hs
      · rename_i fr1 ds1 h1 hex
        refine wpIn_mono (ihX _ _ _ _ _ _ _ _ _ hex φ a w ro' n hg hbd hro hf hd hr) ?_
        rintro e a1 w1 ⟨φ1, hx1, rfl, hf1, hd1, hr1⟩
        have := ihL _ _ _ _ _ _ _ _ _ hs φ1 a1 w1 ro' n (hg.mono hx1.le) (hbd.mono hx1.le) (hro.mono hx1.le) hf1 hd1 hr1
        exact roundsIn_mono (fun e a w hp => hp.back hx1) k a1 w1 this
      · rename_i r hne
        refine wpIn_mono (ihX _ _ _ _ _ _ _ _ _ hs φ a w ro' n hg hbd hro hf hd hr) ?_
        rintro e a1 w1 hp
        have hp' := hp
        obtain ⟨φ1, hx1, rfl, hf1, hd1, hr1⟩ := hp
        cases x with
        | n => exact absurd hs (hne _ _ _)
        | e id => exact hp'
        | r => exact hp'
    refine ⟨?_, hloop⟩
    intro ro c fr ds h x fr' ds' h' hs φ a w ro' n hg hbd hro hf hd hr
    cases c with
    | skip =>
      simp only [exec, Option.some.injEq, Prod.mk.injEq] at hs
      obtain ⟨rfl, rfl, rfl, rfl⟩ := hs
      exact wpIn_skip ⟨φ, Ext.refl φ w, rfl, hf, hd, hr⟩
    | label l =>
      simp only [exec, Option.some.injEq, Prod.mk.injEq] at hs
      obtain ⟨rfl, rfl, rfl, rfl⟩ := hs
      exact wpIn_label ⟨φ, Ext.refl φ w, rfl, hf, hd, hr⟩
    | exit id =>
      simp only [exec, Option.some.injEq, Prod.mk.injEq] at hs
      obtain ⟨rfl, rfl, rfl, rfl⟩ := hs
      exact wpIn_exit ⟨φ, Ext.refl φ w, rfl, hf, hd, hr⟩
    | ret =>
      simp only [exec, Option.some.injEq, Prod.mk.injEq] at hs
      obtain ⟨rfl, rfl, rfl, rfl⟩ := hs
      exact wpIn_ret ⟨φ, Ext.refl φ w, rfl, hf, hd, hr⟩
    | region id ops draw =>
      cases draw with
      | true =>
        simp only [exec] at hs
        split at hs
        · rename_i fr1 h1 hops
          simp only [Option.some.injEq, Prod.mk.injEq] at hs
          obtain ⟨rfl, rfl, rfl, rfl⟩ := hs
          obtain ⟨p, hp1, hp2⟩ := plan_of hops
          refine draw_ok hE hE.mixed hC hY p ro' n id hg hbd hf hr fun φ' a' w' hx hf' hd' hr' => ?_
          rw [hp1] at hf'
          rw [hp2] at hr'
          exact ⟨φ', hx, rfl, hf', by rw [hd']; exact hd.mono hx.le, hr'⟩
        · cases hs
      | false =>
        simp only [exec] at hs
        split at hs
        · rename_i fr1 h1 hops
          simp only [Option.some.injEq, Prod.mk.injEq] at hs
          obtain ⟨rfl, rfl, rfl, rfl⟩ := hs
          refine wpIn_region_list (aops_ok hE hC hY ops ro' n ops.toList fr h fr1 h1 hops φ a w hg hbd hf hr fun φ' a' w' hx hf' hd' hr' => ?_)
          exact ⟨φ', hx, rfl, hf', by rw [hd']; exact hd.mono hx.le, hr'⟩
        · cases hs
    | seq p q =>
      simp only [exec] at hs
      refine wpIn_seq ?_
      split at hs
      · rename_i fr1 ds1 h1 hex
        refine wpIn_mono (ihX _ _ _ _ _ _ _ _ _ hex φ a w ro' n hg hbd hro hf hd hr) ?_
        rintro e a1 w1 ⟨φ1, hx1, rfl, hf1, hd1, hr1⟩
        exact wpIn_mono (ihX _ _ _ _ _ _ _ _ _ hs φ1 a1 w1 ro' n (hg.mono hx1.le) (hbd.mono hx1.le) (hro.mono hx1.le) hf1 hd1 hr1) fun e a w hp => hp.back hx1
      · rename_i r hne
        refine wpIn_mono (ihX _ _ _ _ _ _ _ _ _ hs φ a w ro' n hg hbd hro hf hd hr) ?_
        rintro e a1 w1 hp
        have hp' := hp
        obtain ⟨φ1, hx1, rfl, hf1, hd1, hr1⟩ := hp
        cases x with
        | n => exact absurd hs (hne _ _ _)
        | e id => exact hp'
        | r => exact hp'
    | cond c p q =>
      simp only [exec] at hs
      have hv := ev_ok hg hf c
      split at hs
      · rename_i e; rw [e] at hv; simp only [VR] at hv
        exact wpIn_cond_true hv (ihX _ _ _ _ _ _ _ _ _ hs φ a w ro' n hg hbd hro hf hd hr)
      · rename_i e; rw [e] at hv; simp only [VR] at hv
        exact wpIn_cond_false hv (ihX _ _ _ _ _ _ _ _ _ hs φ a w ro' n hg hbd hro hf hd hr)
      · cases hs
    | block id b =>
      simp only [exec] at hs
      refine wpIn_block ?_
      split at hs
      · rename_i j fr1 ds1 h1 hex
        refine wpIn_mono (ihX _ _ _ _ _ _ _ _ _ hex φ a w ro' n hg hbd hro hf hd hr) ?_
        rintro e a1 w1 ⟨φ1, hx1, rfl, hf1, hd1, hr1⟩
        simp only [X.exit, Exit.inBlock]
        cases hj : Nat.beq j id with
        | true =>
          rw [hj] at hs
          simp only [cond, Option.some.injEq, Prod.mk.injEq] at hs
          obtain ⟨rfl, rfl, rfl, rfl⟩ := hs
          rw [if_pos (Nat.eq_of_beq_eq_true hj)]
          exact ⟨φ1, hx1, rfl, hf1, hd1, hr1⟩
        | false =>
          rw [hj] at hs
          simp only [cond, Option.some.injEq, Prod.mk.injEq] at hs
          obtain ⟨rfl, rfl, rfl, rfl⟩ := hs
          rw [if_neg (fun e => by rw [e, Nat.beq_refl] at hj; cases hj)]
          exact ⟨φ1, hx1, rfl, hf1, hd1, hr1⟩
      · rename_i r hne
        refine wpIn_mono (ihX _ _ _ _ _ _ _ _ _ hs φ a w ro' n hg hbd hro hf hd hr) ?_
        rintro e a1 w1 hp
        have hp' := hp
        obtain ⟨φ1, hx1, rfl, hf1, hd1, hr1⟩ := hp
        cases x with
        | n => exact hp'
        | e j => exact absurd hs (hne _ _ _ _)
        | r => exact hp'
    | loop b => exact wpIn_loop_rounds (k + 1) (hloop _ _ _ _ _ _ _ _ _ hs φ a w ro' n hg hbd hro hf hd hr)
    | rangeFunc g ps as bd =>
      simp only [exec] at hs
      exact aRange_ok hC hs hg hbd hro hf hd hr
    | scope b =>
      simp only [exec] at hs
      refine wpIn_scope (wpIn_mono (ihX _ _ _ _ _ _ _ _ _ hs φ a w ro' n hg hbd hro hf hd hr) ?_)
      rintro e a1 w1 hp
      have hp' := hp
      obtain ⟨φ1, hx1, rfl, hf1, hd1, hr1⟩ := hp
      exact ⟨fun l => by cases x <;> simp [X.exit], hp'⟩
    | goto l => simp only [exec] at hs; cases hs
    | refuse s => simp only [exec] at hs; cases hs

/-- **A call that the abstract machine tells, in the model.** -/
theorem call_ok {E : Env} (hE : E.OK) (k : Nat) {f : FuncId} {args : List V} {h : H} {v : V} {h' : H} (hs : callF E (exec E k) f args h = some (v, h')) {φ : Ren} {args' : List Value} {w : World} (hg : GL E.ng φ) (hbd : BD E φ)
    (ha : VRs φ args args') (hr : HR φ h w) : Calls E.P f args'.toArray w (Res φ w v h') :=
  (callsIn_wide (n := 0)).1 (callF_ok hE (exec_ok hE k).1 _ _ _ _ _ hs φ args' w 0 hg hbd ha hr).2

end Go.Ev

/- The abstract machine, part W: states by hand: what is known of temporaries and of memory, matched with what a run came to. -/
namespace Go.Ev

/-! ### Frames and heaps out of lists -/
def lkV : List (Nat × V) → Nat → V
  | [], _ => .top
  | (k, v) :: l, j => if j = k then v else lkV l j
def lkB : List (Nat × Blk) → Nat → Blk
  | [], _ => .gone
  | (k, v) :: l, j => if j = k then v else lkB l j
def frT : List (Nat × V) → T V
  | [] => .leaf
  | (k, v) :: l => T.set .top (frT l) k v
def hT : List (Nat × Blk) → T Blk
  | [] => .leaf
  | (k, v) :: l => T.set .gone (hT l) k v
def frOf (n : Nat) (L : List (Nat × V)) : Fr := ⟨n, frT L⟩
def hOf (n : Nat) (L : List (Nat × Blk)) : H := ⟨n, hT L⟩
theorem frT_get : ∀ (L : List (Nat × V)) (j : Nat), T.get .top (frT L) j = lkV L j
  | [], j => T.get_leaf _ _
  | (k, v) :: l, j => by rw [frT, T.get_set, lkV, frT_get l]
theorem hT_get : ∀ (L : List (Nat × Blk)) (j : Nat), T.get .gone (hT L) j = lkB L j
  | [], j => T.get_leaf _ _
  | (k, v) :: l, j => by rw [hT, T.get_set, lkB, hT_get l]
theorem frOf_get (n : Nat) (L : List (Nat × V)) (j : Nat) : (frOf n L).get j = lkV L j := frT_get L j
theorem hOf_get (n : Nat) (L : List (Nat × Blk)) (j : Nat) : (hOf n L).get j = lkB L j := hT_get L j
theorem lkB_mem : ∀ {L : List (Nat × Blk)} {j : Nat}, (lkB L j).live → (j, lkB L j) ∈ L
  | [], j, h => h.elim
  | (k, v) :: l, j, h => by
    simp only [lkB] at h ⊢
    by_cases e : j = k
    · rw [if_pos e]; rw [e]; simp
    · rw [if_neg e] at h ⊢; exact List.mem_cons_of_mem _ (lkB_mem h)

/-! ### What is matched -/
def lk {α : Type} : List (Nat × α) → Nat → Option α
  | [], _ => none
  | (k, v) :: l, j => cond (Nat.beq j k) (some v) (lk l j)
inductive SV where
  | y (x : Nat)
  | i (n : Int)
inductive WV where
  | same (x : Nat)
  | fold (b : Nat)
structure Tab where
  s : List (Nat × SV) := []
  q : List (Nat × V) := []
  w : List (Nat × WV) := []
  g : List (Nat × WV) := []

abbrev Bd := List (Nat × Nat)
def hasV : Bd → Nat → Bool
  | [], _ => false
  | (_, c) :: σ, b => cond (Nat.beq b c) true (hasV σ b)
def bindB (b c : Nat) (σ : Bd) : Option Bd :=
  match lk σ b with
  | some c' => cond (Nat.beq c' c) (some σ) none
  | none => cond (hasV σ c) none (some ((b, c) :: σ))

def LeB (σ σ' : Bd) : Prop := ∀ b c, lk σ b = some c → lk σ' b = some c
def InjB (σ : Bd) : Prop := ∀ b b' c, lk σ b = some c → lk σ b' = some c → b = b'
theorem LeB.refl (σ : Bd) : LeB σ σ := fun _ _ h => h
theorem LeB.trans {a b c : Bd} (h : LeB a b) (h' : LeB b c) : LeB a c := fun x y e => h' x y (h x y e)
theorem lk_cons {α : Type} {k : Nat} {v : α} {l : List (Nat × α)} {j : Nat} : lk ((k, v) :: l) j = if j = k then some v else lk l j := by
  simp only [lk]
  by_cases h : j = k
  · subst h; simp
  · rw [nbf h, if_neg h]; rfl
theorem hasV_ok : ∀ {σ : Bd} {c : Nat}, hasV σ c = false → ∀ b, lk σ b ≠ some c
  | [], c, _, b, e => by cases e
  | (k, d) :: σ, c, h, b, e => by
    simp only [hasV] at h
    cases hb : Nat.beq c d with
    | true => rw [hb] at h; cases h
    | false =>
      rw [hb] at h
      rw [lk_cons] at e
      by_cases hk : b = k
      · rw [if_pos hk] at e; cases e; rw [Nat.beq_refl] at hb; cases hb
      · rw [if_neg hk] at e; exact hasV_ok h b e
theorem bindB_ok {b c : Nat} {σ σ' : Bd} (h : bindB b c σ = some σ') : LeB σ σ' ∧ lk σ' b = some c ∧ (InjB σ → InjB σ') := by
  unfold bindB at h
  split at h
  · rename_i c' hc
    cases hb : Nat.beq c' c with
    | false => rw [hb] at h; cases h
    | true =>
      rw [hb] at h
      simp only [cond, Option.some.injEq] at h; subst h
      rw [Nat.eq_of_beq_eq_true hb] at hc
      exact ⟨LeB.refl _, hc, id⟩
  · rename_i hn
    cases hb : hasV σ c with
    | true => rw [hb] at h; cases h
    | false =>
      rw [hb] at h
      simp only [cond, Option.some.injEq] at h; subst h
      have hno := hasV_ok hb
      refine ⟨fun x y e => ?_, ?_, fun hi x x' y e e' => ?_⟩
      · rw [lk_cons]
        by_cases hx : x = b
        · rw [hx, hn] at e; cases e
        · rw [if_neg hx]; exact e
      · rw [lk_cons, if_pos rfl]
      · rw [lk_cons] at e e'
        by_cases hx : x = b
        · rw [if_pos hx] at e; cases e
          by_cases hx' : x' = b
          · rw [hx, hx']
          · rw [if_neg hx'] at e'; exact absurd e' (hno x')
        · rw [if_neg hx] at e
          by_cases hx' : x' = b
          · rw [if_pos hx'] at e'; cases e'; exact absurd e (hno x)
          · rw [if_neg hx'] at e'; exact hi x x' y e e'

/-- Values of which one alone stands to what is known. -/
def detV : V → Bool
  | .b _ | .i _ _ | .y _ _ | .q _ | .s _ | .p _ | .sl none _ _ | .sl (some _) _ (.kn _) | .m _ | .nf | .ni | .sr .. => true
  | _ => false
theorem detV_ok {φ : Ren} {x : V} {v u : Value} (hd : detV x = true) (hv : VR φ x v) (hu : VR φ x u) : v = u := by
  cases x with
  | b => simp only [VR] at hv hu; rw [hv, hu]
  | i => simp only [VR] at hv hu; rw [hv, hu]
  | y => simp only [VR] at hv hu; rw [hv, hu]
  | q => simp only [VR] at hv hu; rw [hv.1, hu.1]
  | s => simp only [VR] at hv hu; rw [hv.1, hu.1]
  | p a =>
    cases a with
    | none => simp only [VR] at hv hu; rw [hv, hu]
    | some bo =>
      obtain ⟨b, o⟩ := bo
      simp only [VR] at hv hu
      obtain ⟨r, h1, rfl⟩ := hv; obtain ⟨r', h2, rfl⟩ := hu
      rw [h1] at h2; cases h2; rfl
  | sl a n c =>
    cases a with
    | none => simp only [VR] at hv hu; rw [hv.2, hu.2]
    | some bo =>
      obtain ⟨b, o⟩ := bo
      cases c with
      | kn c =>
        simp only [VR] at hv hu
        obtain ⟨r, h1, _, rfl⟩ := hv; obtain ⟨r', h2, _, rfl⟩ := hu
        rw [h1] at h2; cases h2; rfl
      | un => cases hd
  | m a =>
    cases a with
    | none => simp only [VR] at hv hu; rw [hv, hu]
    | some b =>
      simp only [VR] at hv hu
      obtain ⟨r, h1, rfl⟩ := hv; obtain ⟨r', h2, rfl⟩ := hu
      rw [h1] at h2; cases h2; rfl
  | nf => simp only [VR] at hv hu; rw [hv, hu]
  | ni => simp only [VR] at hv hu; rw [hv, hu]
  | sr b x k sz =>
    simp only [VR] at hv hu
    obtain ⟨r, n, cap, h1, hz, h2, _, h3, rfl⟩ := hv; obtain ⟨r', n', cap', g1, _, g2, _, g3, rfl⟩ := hu
    rw [h1] at g1; cases g1
    have e1 : n = n' := Nat.eq_of_mul_eq_mul_right hz (h2.trans g2.symm)
    have e2 : cap = cap' := Nat.eq_of_mul_eq_mul_right hz (h3.trans g3.symm)
    rw [e1, e2]
  | _ => cases hd
theorem detV_atom {x : V} (hd : detV x = true) : atomV x = true := by
  cases x <;> first | rfl | cases hd

/-! ### Matching -/
def capOK (sz : Nat) (l : List V) (g : Bool) : Cap → Bool
  | .un sz' => Nat.beq sz sz'
  | .kn c => (!g) && Nat.beq (c * sz) l.length

def mFold (h : H) (c k sz x' k' : Nat) : Bool :=
  match h.get c with
  | .row x'' l _ => Nat.beq x'' x' && Nat.beq (k * sz + l.length) (k' * sz)
  | _ => false
def mFoldC (h : H) (c k sz n : Nat) (cp : Cap) : Bool :=
  match h.get c with
  | .cells l _ g => Nat.beq (k * sz + l.length) (n * sz) && Nat.blt 0 sz && capOK sz l g cp
  | _ => false

mutual
def mV (tb : Tab) (h : H) : V → V → Bd → Option Bd
  | .top, _, σ => some σ
  | .b x, .b y, σ => cond (cond x y (!y)) (some σ) none
  | .i k n, .i k' n', σ => cond (decide (k = k') && sameI n n') (some σ) none
  | .y k x, .y k' x', σ =>
    match lk tb.s x with
    | some (.y z) => cond (decide (k = k') && Nat.beq z x') (some σ) none
    | _ => none
  | .y k x, .i k' n, σ =>
    match lk tb.s x with
    | some (.i m) => cond (decide (k = k') && sameI m n) (some σ) none
    | _ => none
  | .q x, a, σ =>
    match lk tb.q x with
    | some a' => cond (same a' a && detV a) (some σ) none
    | none => none
  | .s l, .s l', σ => cond (sameN l l') (some σ) none
  | .p none, .p none, σ => some σ
  | .p (some (b, o)), .p (some (b', o')), σ => cond (Nat.beq o o') (bindB b b' σ) none
  | .sl none n _, .sl none n' _, σ => cond (Nat.beq n n') (some σ) none
  | .sl (some (b, o)) n c, .sl (some (b', o')) n' c', σ => cond (Nat.beq o o' && Nat.beq n n' && sameC c c') (bindB b b' σ) none
  | .sr b x k sz, .sr b' x' k' sz', σ =>
    match lk tb.w x with
    | some (.same z) => cond (Nat.beq z x' && Nat.beq k k' && Nat.beq sz sz') (bindB b b' σ) none
    | some (.fold c) => cond (Nat.beq c b' && Nat.beq sz sz' && mFold h b' k sz x' k') (bindB b b' σ) none
    | none => none
  | .sr b x k sz, .sl (some (b', o')) n cp, σ =>
    match lk tb.w x with
    | some (.fold c) => cond (Nat.beq c b' && Nat.beq o' 0 && mFoldC h b' k sz n cp) (bindB b b' σ) none
    | _ => none
  | .es, .es, σ => some σ
  | .m none, .m none, σ => some σ
  | .m (some b), .m (some b'), σ => bindB b b' σ
  | .f fn a b, .f fn' a' b', σ =>
    cond (Nat.beq fn fn')
      (match mVs tb h a a' σ with
       | some σ1 => mVs tb h b b' σ1
       | none => none) none
  | .yl b, .yl b', σ => bindB b b' σ
  | .o, a, σ => cond (atomV a) (some σ) none
  | .nf, .nf, σ => some σ
  | .ifc t x, .ifc t' x', σ => cond (Nat.beq t t') (mV tb h x x' σ) none
  | .ni, .ni, σ => some σ
  | .a l, .a l', σ => mVs tb h l l' σ
  | .t l, .t l', σ => mVs tb h l l' σ
  | _, _, _ => none
def mVs (tb : Tab) (h : H) : List V → List V → Bd → Option Bd
  | [], [], σ => some σ
  | x :: xs, y :: ys, σ =>
    match mV tb h x y σ with
    | some σ1 => mVs tb h xs ys σ1
    | none => none
  | _, _, _ => none
end

/-- What is named alone is so. -/
structure Agree (tb : Tab) (φ : Ren) (h : H) (w : World) (y : Sym) : Prop where
  s : ∀ x v, lk tb.s x = some v → y.s x = match v with | .y z => φ.s z | .i n => n
  q : ∀ x a, lk tb.q x = some a → VR φ a (y.q x)
  ws : ∀ x z, lk tb.w x = some (.same z) → y.w x = φ.w z
  wf : ∀ x c, lk tb.w x = some (.fold c) → ∀ r cs e, φ c = some r → w.heap[r]? = some (.cells cs e (0, 0)) →
    (∀ z l e', h.get c = .row z l e' → y.w x = cs.toList.take ((φ.w z).length + l.length)) ∧ (∀ l e' g, h.get c = .cells l e' g → y.w x = cs.toList.take l.length)
  gs : ∀ x z, lk tb.g x = some (.same z) → y.g x = φ.g z
  gf : ∀ x c, lk tb.g x = some (.fold c) → ∀ r es n, φ c = some r → w.heap[r]? = some (.map es n) → y.g x = (es, n)

def Rel (φ φ2 : Ren) (σ : Bd) : Prop := ∀ b c, lk σ b = some c → φ2 b = φ c ∧ φ2.n b = φ.n c
theorem Rel.sub {φ φ2 : Ren} {σ σ' : Bd} (h : Rel φ φ2 σ') (hl : LeB σ σ') : Rel φ φ2 σ := fun b c e => h b c (hl b c e)

def MOK (tb : Tab) (h : H) (σ σ' : Bd) (P : Ren → Ren → Prop) : Prop :=
  LeB σ σ' ∧ (InjB σ → InjB σ') ∧ ∀ (φ φ2 : Ren) (w : World), HR φ h w → Agree tb φ h w φ2.y → Rel φ φ2 σ' → P φ φ2
theorem MOK.id {tb : Tab} {h : H} {σ : Bd} {P : Ren → Ren → Prop} (hp : ∀ (φ φ2 : Ren) (w : World), HR φ h w → Agree tb φ h w φ2.y → P φ φ2) : MOK tb h σ σ P :=
  ⟨LeB.refl _, fun x => x, fun φ φ2 w hr ha _ => hp φ φ2 w hr ha⟩
theorem MOK.bind {tb : Tab} {h : H} {σ σ' : Bd} {b c : Nat} (hb : bindB b c σ = some σ') {P : Ren → Ren → Prop} (hp : ∀ (φ φ2 : Ren) (w : World), HR φ h w → Agree tb φ h w φ2.y → φ2 b = φ c → φ2.n b = φ.n c → P φ φ2) : MOK tb h σ σ' P := by
  obtain ⟨h1, h2, h3⟩ := bindB_ok hb
  exact ⟨h1, h3, fun φ φ2 w hr ha hrel => hp φ φ2 w hr ha (hrel b c h2).1 (hrel b c h2).2⟩

theorem cond_some {α : Type} {c : Bool} {m : Option α} {x : α} (h : cond c m none = some x) : c = true ∧ m = some x := by
  cases c with
  | true => exact ⟨rfl, h⟩
  | false => cases h

theorem b_eq {x y : Bool} (h : cond x y (!y) = true) : x = y := by cases x <;> cases y <;> first | rfl | cases h

theorem mFold_ok {h : H} {c k sz x' k' : Nat} (hm : mFold h c k sz x' k' = true) : ∃ l e, h.get c = .row x' l e ∧ k * sz + l.length = k' * sz := by
  unfold mFold at hm
  split at hm
  · rename_i x'' l e hg
    simp only [Bool.and_eq_true] at hm
    have := Nat.eq_of_beq_eq_true hm.1
    subst this
    exact ⟨l, e, hg, Nat.eq_of_beq_eq_true hm.2⟩
  · cases hm
theorem mFoldC_ok {h : H} {c k sz n : Nat} {cp : Cap} (hm : mFoldC h c k sz n cp = true) : ∃ l e g, h.get c = .cells l e g ∧ k * sz + l.length = n * sz ∧ 0 < sz ∧ capOK sz l g cp = true := by
  unfold mFoldC at hm
  split at hm
  · rename_i l e g hg
    simp only [Bool.and_eq_true] at hm
    exact ⟨l, e, g, hg, Nat.eq_of_beq_eq_true hm.1.1, blt_iff.1 hm.1.2, hm.2⟩
  · cases hm

mutual
theorem mV_ok (tb : Tab) (h : H) : ∀ (p a : V) (σ σ' : Bd), mV tb h p a σ = some σ' → MOK tb h σ σ' fun φ φ2 => ∀ v, VR φ a v → VR φ2 p v
  | .top, a, σ, σ', e => by
    simp only [mV, Option.some.injEq] at e; subst e
    exact MOK.id fun _ _ _ _ _ _ _ => by simp [VR]
  | .b x, a, σ, σ', e => by
    cases a <;> (try simp only [mV] at e) <;> (try (cases e; done))
    obtain ⟨e1, e2⟩ := cond_some e
    cases e2; rw [b_eq e1]
    exact MOK.id fun _ _ _ _ _ v hv => by simpa [VR] using hv
  | .i k n, a, σ, σ', e => by
    cases a <;> (try simp only [mV] at e) <;> (try (cases e; done))
    obtain ⟨e1, e2⟩ := cond_some e
    simp only [Bool.and_eq_true, decide_eq_true_eq] at e1
    cases e2; rw [e1.1, sameI_ok e1.2]
    exact MOK.id fun _ _ _ _ _ v hv => by simpa [VR] using hv
  | .y k x, a, σ, σ', e => by
    cases a <;> (try simp only [mV] at e) <;> (try (cases e; done))
    · split at e
      · rename_i m hm
        obtain ⟨e1, e2⟩ := cond_some e
        simp only [Bool.and_eq_true, decide_eq_true_eq] at e1
        cases e2
        refine MOK.id fun φ φ2 w hr ha v hv => ?_
        have := ha.s _ _ hm
        simp only [VR] at hv ⊢
        rw [hv, e1.1, ← sameI_ok e1.2]
        show Value.int _ m = .int _ (φ2.y.s x)
        rw [this]
      · cases e
    · split at e
      · rename_i z hz
        obtain ⟨e1, e2⟩ := cond_some e
        simp only [Bool.and_eq_true, decide_eq_true_eq] at e1
        cases e2
        refine MOK.id fun φ φ2 w hr ha v hv => ?_
        have := ha.s _ _ hz
        simp only [VR] at hv ⊢
        rw [hv, e1.1, ← Nat.eq_of_beq_eq_true e1.2]
        show Value.int _ (φ.s z) = .int _ (φ2.y.s x)
        rw [this]
      · cases e
  | .q x, a, σ, σ', e => by
    have e : (match lk tb.q x with
      | some a' => cond (same a' a && detV a) (some σ) none
      | none => none) = some σ' := by cases a <;> simpa only [mV] using e
    split at e
    · rename_i a' ha'
      obtain ⟨e1, e2⟩ := cond_some e
      simp only [Bool.and_eq_true] at e1
      cases e2
      have hs := same_ok _ _ e1.1
      subst hs
      refine MOK.id fun φ φ2 w hr ha v hv => ?_
      have hq := ha.q _ _ ha'
      have hvq : v = φ2.y.q x := detV_ok e1.2 hv hq
      simp only [VR]
      exact ⟨hvq, atomV_ok hv (detV_atom e1.2)⟩
    · cases e
  | .s l, a, σ, σ', e => by
    cases a <;> (try simp only [mV] at e) <;> (try (cases e; done))
    obtain ⟨e1, e2⟩ := cond_some e
    cases e2; rw [sameN_ok e1]
    exact MOK.id fun _ _ _ _ _ v hv => by simpa [VR] using hv
  | .p none, a, σ, σ', e => by
    cases a <;> (try simp only [mV] at e) <;> (try (cases e; done))
    rename_i b
    cases b <;> (try simp only [mV] at e) <;> (try (cases e; done))
    cases e
    exact MOK.id fun _ _ _ _ _ v hv => by simpa [VR] using hv
  | .p (some (b, o)), a, σ, σ', e => by
    cases a <;> (try simp only [mV] at e) <;> (try (cases e; done))
    rename_i bo
    cases bo with
    | none => simp only [mV] at e; cases e
    | some bo =>
      obtain ⟨b', o'⟩ := bo
      simp only [mV] at e
      obtain ⟨e1, e2⟩ := cond_some e
      rw [Nat.eq_of_beq_eq_true e1]
      refine MOK.bind e2 fun φ φ2 w hr ha hb hn v hv => ?_
      simp only [VR] at hv ⊢
      obtain ⟨r, h1, h2⟩ := hv
      exact ⟨r, hb.trans h1, h2⟩
  | .sl none n c, a, σ, σ', e => by
    cases a <;> (try simp only [mV] at e) <;> (try (cases e; done))
    rename_i bo n' c'
    cases bo <;> (try simp only [mV] at e) <;> (try (cases e; done))
    obtain ⟨e1, e2⟩ := cond_some e
    cases e2; rw [Nat.eq_of_beq_eq_true e1]
    exact MOK.id fun _ _ _ _ _ v hv => by simpa [VR] using hv
  | .sl (some (b, o)) n c, a, σ, σ', e => by
    cases a <;> (try simp only [mV] at e) <;> (try (cases e; done))
    rename_i bo n' c'
    cases bo with
    | none => simp only [mV] at e; cases e
    | some bo =>
      obtain ⟨b', o'⟩ := bo
      simp only [mV] at e
      obtain ⟨e1, e2⟩ := cond_some e
      simp only [Bool.and_eq_true] at e1
      rw [Nat.eq_of_beq_eq_true e1.1.1, Nat.eq_of_beq_eq_true e1.1.2, sameC_ok e1.2]
      refine MOK.bind e2 fun φ φ2 w hr ha hb hn v hv => ?_
      cases c' with
      | kn c' =>
        simp only [VR] at hv ⊢
        obtain ⟨r, h1, h2⟩ := hv
        exact ⟨r, hb.trans h1, h2⟩
      | un s =>
        simp only [VR] at hv ⊢
        obtain ⟨r, cap, h1, h2, h3, h4⟩ := hv
        exact ⟨r, cap, hb.trans h1, h2, by rw [hn]; exact h3, h4⟩
  | .sr b x k sz, a, σ, σ', e => by
    cases a <;> (try simp only [mV] at e) <;> (try (cases e; done))
    · rename_i b' x' k' sz'
      split at e
      · rename_i z hz
        obtain ⟨e1, e2⟩ := cond_some e
        simp only [Bool.and_eq_true] at e1
        have c1 := Nat.eq_of_beq_eq_true e1.1.1
        have c2 := Nat.eq_of_beq_eq_true e1.1.2
        have c3 := Nat.eq_of_beq_eq_true e1.2
        subst c1; subst c2; subst c3
        refine MOK.bind e2 fun φ φ2 w hr ha hb hn v hv => ?_
        simp only [VR] at hv ⊢
        obtain ⟨r, n, cap, h1, h2, h3, h4, h5, h6⟩ := hv
        have hw : φ2.w x = φ.w z := ha.ws _ _ hz
        exact ⟨r, n, cap, hb.trans h1, h2, by rw [hw]; exact h3, h4, by rw [hn]; exact h5, h6⟩
      · rename_i c hc
        obtain ⟨e1, e2⟩ := cond_some e
        simp only [Bool.and_eq_true] at e1
        have c1 := Nat.eq_of_beq_eq_true e1.1.1
        have c2 := Nat.eq_of_beq_eq_true e1.1.2
        subst c1; subst c2
        obtain ⟨l, el, hg, hlen⟩ := mFold_ok e1.2
        refine MOK.bind e2 fun φ φ2 w hr ha hb hn v hv => ?_
        simp only [VR] at hv ⊢
        obtain ⟨r, n, cap, h1, h2, h3, h4, h5, h6⟩ := hv
        obtain ⟨cs, vs, k1, k2, k3, k4, k5⟩ := hr.rowAt h1 hg
        have hw : φ2.w x = cs.toList.take ((φ.w x').length + l.length) := (ha.wf _ _ hc r cs _ h1 k1).1 _ _ _ hg
        have hlw : (φ2.w x).length = (φ.w x').length + l.length := by rw [hw]; simp; omega
        have hdiv : ∃ d, l.length = d * sz ∧ k + d = k' := by
          refine ⟨k' - k, ?_, ?_⟩
          · rw [Nat.sub_mul]; omega
          · have : k * sz ≤ k' * sz := by omega
            have := Nat.le_of_mul_le_mul_right this h2
            omega
        obtain ⟨d, hd1, hd2⟩ := hdiv
        refine ⟨r, n + d, cap, hb.trans h1, h2, by rw [hlw, ← h3, hd1, Nat.add_mul], by omega, by rw [hn]; exact h5, ?_⟩
        rw [h6]; congr 1; omega
      · cases e
    · rename_i bo n cp
      cases bo with
      | none => simp only [mV] at e; cases e
      | some bo =>
        obtain ⟨b', o'⟩ := bo
        simp only [mV] at e
        split at e
        · rename_i c hc
          obtain ⟨e1, e2⟩ := cond_some e
          simp only [Bool.and_eq_true] at e1
          have c1 := Nat.eq_of_beq_eq_true e1.1.1
          have c2 := Nat.eq_of_beq_eq_true e1.1.2
          subst c1; subst c2
          obtain ⟨l, el, g, hg, hlen, hsz, hcap⟩ := mFoldC_ok e1.2
          refine MOK.bind e2 fun φ φ2 w hr ha hb hn v hv => ?_
          have hdiv : ∃ d, l.length = d * sz ∧ k + d = n := by
            refine ⟨n - k, ?_, ?_⟩
            · rw [Nat.sub_mul]; omega
            · have : k * sz ≤ n * sz := by omega
              have := Nat.le_of_mul_le_mul_right this hsz
              omega
          obtain ⟨d, hd1, hd2⟩ := hdiv
          have fin : ∀ r cap, φ c = some r → n ≤ cap → cap * sz = φ.n c → v = .slice (some ⟨r, 0, none⟩) n cap → VR φ2 (.sr b x k sz) v := fun r cap h1 h2 h3 h4 => by
            obtain ⟨ob, o1, o2⟩ := hr.blk c r h1 (by rw [hg]; trivial)
            rw [hg] at o2
            obtain ⟨cs, rfl, o3, o4, o5, o6⟩ := o2
            have hw : φ2.w x = cs.toList.take l.length := (ha.wf _ _ hc r cs _ h1 o1).2 _ _ _ hg
            have hlw : (φ2.w x).length = l.length := by rw [hw]; simp; omega
            simp only [VR]
            exact ⟨r, d, cap, hb.trans h1, hsz, by rw [hlw, hd1], by omega, by rw [hn]; exact h3, by rw [h4]; congr 1; omega⟩
          cases cp with
          | un s =>
            simp only [VR] at hv
            obtain ⟨r, cap, h1, h2, h3, h4⟩ := hv
            have hs : sz = s := Nat.eq_of_beq_eq_true hcap
            exact fin r cap h1 h2 (by rw [hs, ← h3]; omega) h4
          | kn cc =>
            simp only [VR] at hv
            obtain ⟨r, h1, h2, h4⟩ := hv
            simp only [capOK, Bool.and_eq_true, Bool.not_eq_true'] at hcap
            obtain ⟨ob, o1, o2⟩ := hr.blk c r h1 (by rw [hg]; trivial)
            rw [hg] at o2
            obtain ⟨cs, rfl, o3, o4, o5, o6⟩ := o2
            exact fin r cc h1 h2 (by rw [Nat.eq_of_beq_eq_true hcap.2, ← o6, o5 hcap.1]) h4
        · cases e
  | .pr b x y sz off, a, σ, σ', e => by cases a <;> simp only [mV] at e <;> cases e
  | .es, a, σ, σ', e => by
    cases a <;> (try simp only [mV] at e) <;> (try (cases e; done))
    cases e
    exact MOK.id fun _ _ _ _ _ v hv => by simpa [VR] using hv
  | .m none, a, σ, σ', e => by
    cases a <;> (try simp only [mV] at e) <;> (try (cases e; done))
    rename_i b
    cases b <;> (try simp only [mV] at e) <;> (try (cases e; done))
    cases e
    exact MOK.id fun _ _ _ _ _ v hv => by simpa [VR] using hv
  | .m (some b), a, σ, σ', e => by
    cases a <;> (try simp only [mV] at e) <;> (try (cases e; done))
    rename_i b'
    cases b' with
    | none => simp only [mV] at e; cases e
    | some b' =>
      simp only [mV] at e
      refine MOK.bind e fun φ φ2 w hr ha hb hn v hv => ?_
      simp only [VR] at hv ⊢
      obtain ⟨r, h1, h2⟩ := hv
      exact ⟨r, hb.trans h1, h2⟩
  | .f fn x y, a, σ, σ', e => by
    cases a <;> (try simp only [mV] at e) <;> (try (cases e; done))
    rename_i fn' x' y'
    obtain ⟨e1, e2⟩ := cond_some e
    rw [Nat.eq_of_beq_eq_true e1]
    split at e2
    · rename_i σ1 h1
      have m1 := mVs_ok tb h x x' σ σ1 h1
      have m2 := mVs_ok tb h y y' σ1 σ' e2
      refine ⟨m1.1.trans m2.1, fun i => m2.2.1 (m1.2.1 i), fun φ φ2 w hr ha hrel v hv => ?_⟩
      simp only [VR] at hv ⊢
      obtain ⟨f', c', g1, g2, g3⟩ := hv
      exact ⟨f', c', g1, m1.2.2 φ φ2 w hr ha (hrel.sub m2.1) _ g2, m2.2.2 φ φ2 w hr ha hrel _ g3⟩
    · cases e2
  | .yl b, a, σ, σ', e => by
    cases a <;> (try simp only [mV] at e) <;> (try (cases e; done))
    refine MOK.bind e fun φ φ2 w hr ha hb hn v hv => ?_
    simp only [VR] at hv ⊢
    obtain ⟨r, h1, h2⟩ := hv
    exact ⟨r, hb.trans h1, h2⟩
  | .o, a, σ, σ', e => by
    simp only [mV] at e
    obtain ⟨e1, e2⟩ := cond_some e
    cases e2
    exact MOK.id fun φ φ2 w _ _ v hv => by simp only [VR]; exact atomV_ok hv e1
  | .nf, a, σ, σ', e => by
    cases a <;> (try simp only [mV] at e) <;> (try (cases e; done))
    cases e
    exact MOK.id fun _ _ _ _ _ v hv => by simpa [VR] using hv
  | .ifc t x, a, σ, σ', e => by
    cases a <;> (try simp only [mV] at e) <;> (try (cases e; done))
    rename_i t' x'
    obtain ⟨e1, e2⟩ := cond_some e
    rw [Nat.eq_of_beq_eq_true e1]
    have m := mV_ok tb h x x' σ σ' e2
    refine ⟨m.1, m.2.1, fun φ φ2 w hr ha hrel v hv => ?_⟩
    simp only [VR] at hv ⊢
    obtain ⟨y, g1, g2⟩ := hv
    exact ⟨y, g1, m.2.2 φ φ2 w hr ha hrel _ g2⟩
  | .ni, a, σ, σ', e => by
    cases a <;> (try simp only [mV] at e) <;> (try (cases e; done))
    cases e
    exact MOK.id fun _ _ _ _ _ v hv => by simpa [VR] using hv
  | .a l, a, σ, σ', e => by
    cases a <;> (try simp only [mV] at e) <;> (try (cases e; done))
    rename_i l'
    have m := mVs_ok tb h l l' σ σ' e
    refine ⟨m.1, m.2.1, fun φ φ2 w hr ha hrel v hv => ?_⟩
    simp only [VR] at hv ⊢
    obtain ⟨y, g1, g2⟩ := hv
    exact ⟨y, g1, m.2.2 φ φ2 w hr ha hrel _ g2⟩
  | .t l, a, σ, σ', e => by
    cases a <;> (try simp only [mV] at e) <;> (try (cases e; done))
    rename_i l'
    have m := mVs_ok tb h l l' σ σ' e
    refine ⟨m.1, m.2.1, fun φ φ2 w hr ha hrel v hv => ?_⟩
    simp only [VR] at hv ⊢
    obtain ⟨y, g1, g2⟩ := hv
    exact ⟨y, g1, m.2.2 φ φ2 w hr ha hrel _ g2⟩
theorem mVs_ok (tb : Tab) (h : H) : ∀ (p a : List V) (σ σ' : Bd), mVs tb h p a σ = some σ' → MOK tb h σ σ' fun φ φ2 => ∀ v, VRs φ a v → VRs φ2 p v
  | [], a, σ, σ', e => by
    cases a <;> simp only [mVs] at e <;> try (cases e; done)
    cases e
    exact MOK.id fun _ _ _ _ _ v hv => by simpa [VRs] using hv
  | x :: xs, a, σ, σ', e => by
    cases a with
    | nil => simp only [mVs] at e; cases e
    | cons y ys =>
      simp only [mVs] at e
      split at e
      · rename_i σ1 h1
        have m1 := mV_ok tb h x y σ σ1 h1
        have m2 := mVs_ok tb h xs ys σ1 σ' e
        refine ⟨m1.1.trans m2.1, fun i => m2.2.1 (m1.2.1 i), fun φ φ2 w hr ha hrel v hv => ?_⟩
        simp only [VRs] at hv
        obtain ⟨u, us, rfl, g1, g2⟩ := hv
        exact VRs.cons (m1.2.2 φ φ2 w hr ha (hrel.sub m2.1) _ g1) (m2.2.2 φ φ2 w hr ha hrel _ g2)
      · cases e
end

end Go.Ev
