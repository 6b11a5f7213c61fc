/- Chains, part J: slices.Sorted(maps.Keys(m)). -/
import Derived.Shelf.SlIterI.Nil
import Derived.Shelf.SortM.Plain
import Derived.Shelf.SortM.SortNone
import Derived.Ground.GgzProg
import Derived.Ground.SlgmProg
import Derived.Test.YtcnckmkbidklgaaGreatDoorA11
import Derived.Test.YtcnckmkbidklgaaGreatDoorA12
import Derived.Maps.OwnSet
import Derived.Test.YtcnckmkbidklgaaGreatDoorA10
namespace Go.Proofs
open Go.RowKit Go.Maps Go.Sort Go.Shelf


theorem Tryz.sorts27 (m : Nat) : AnyZI.SortsIn Tryz.prog Tryz.sorted27_ren Fence.wide m :=
  ⟨fun blk off cap ss W hH hblk hsz => callsIn_wide.2 (AnyM.slices_Sort_int Tryz.sort51 blk off cap ss W hH hblk hsz),
   fun p cap W => callsIn_wide.2 (AnyM.slices_Sort_int_none Tryz.sort51 p cap W)⟩

theorem Tryz.maps_Keys_28 (n : Nat) (mb : Option Nat) (W : World) : CallsIn Fence.wide n Tryz.prog 28 #[.map mb] W fun e w' => e = .returned (.func (.func 52) #[] #[.pointer (some ⟨W.heap.size, 0, none⟩)]) ∧ w' = W.alloc (.cells #[.map mb] 93) :=
  AnyZI.keys_in Tryz.keys28 Fence.wide n trivial rfl mb W

set_option maxHeartbeats 1000000 in
theorem Tryz.slices_Sorted_27 {H : Type} (b nn : Nat) (D0 : DataW H) (R : Value → Option (DataW H × List MemPlace)) (w : World) (hown : w.ownsMap Tryz.prog 3 R b nn D0) (hmax : Maps.size D0 ≤ maxLen) (hbytes : Maps.size D0 * 8 ≤ 140737488355328) :
    CallsIn Fence.wide 5 Tryz.prog 27 #[.func (.func 52) #[] #[.pointer (some ⟨w.heap.size, 0, none⟩)]] (w.alloc (.cells #[.map (some b)] 93)) fun e w' => ∃ (v : Value) (ss : List Int), e = .returned v ∧ ss.Perm (intKeys D0) ∧
      w'.ownsRow (w.alloc (.cells #[.map (some b)] 93)).heap.size 3 1 v ss.length ((ss.mergeSort (fun x y => decide (x ≤ y))).map encZ) ∧ (v = .slice none 0 0 ↔ ss = []) ∧ Below (w.alloc (.cells #[.map (some b)] 93)).heap.size (w.alloc (.cells #[.map (some b)] 93)) w' := by
  have hbl := hown.lt
  have hseq : SeqGives Fence.wide 2 Tryz.prog 52 #[.pointer (some ⟨w.heap.size, 0, none⟩)] encZ (fun ss => ss.Perm (intKeys D0)) (Maps.size D0) (w.alloc (.cells #[.map (some b)] 93)) :=
    AnyZI.keys_gives (ρ := Tryz.keys28_ren) { Tryz.keys28 with } Fence.wide _ trivial rfl (by omega) w.heap.size b nn D0 _ (by simp) (by simp) (by
      obtain ⟨es, clock, hb, Ft, hs, hD⟩ := hown
      exact ⟨es, clock, (Below.heap_alloc _ _ b hbl).trans hb, Ft, hs, hD⟩)
  exact AnyZI.sorted_in Tryz.sorted27 Fence.wide 5 trivial trivial trivial trivial rfl (by omega) (Tryz.sorts27 _) (enters_of Tryz.func51 (by kernel_rfl) rfl) 52 #[.pointer (some ⟨w.heap.size, 0, none⟩)] trivial (enters_of Tryz.func52 (by kernel_rfl) rfl) _ _ hmax hbytes _ hseq

end Go.Proofs

/- Chains, part K: the keys of what was seen. -/
namespace Go.Ev
open Go.Proofs

theorem sm_stamped {p : List Nat} (hnd : p.Nodup) : MapKept.Stamped (sm p).1 (sm p).2 := by
  rw [MapKept.stamped_iff]
  refine ⟨fun x hx => ?_, ?_, ?_⟩
  · simp only [sm, List.mem_mapIdx] at hx
    obtain ⟨i, hi, rfl⟩ := hx
    exact hi
  · have : ((sm p).1.toList.map (·.born)) = List.range p.length := by
      apply List.ext_getElem?
      intro i
      simp only [sm, List.getElem?_map, List.getElem?_mapIdx]
      rcases Nat.lt_or_ge i p.length with h | h
      · rw [List.getElem?_eq_getElem h, List.getElem?_range h]; rfl
      · rw [List.getElem?_eq_none h, List.getElem?_eq_none (by simpa using h)]; rfl
    rw [this]; exact List.nodup_range
  · rw [List.pairwise_iff_getElem]
    intro i j hi hj hij e
    simp only [sm, List.getElem_mapIdx, sment, Value.int.injEq, true_and, Int.natCast_inj] at e
    have hi' : i < p.length := by simpa [sm] using hi
    have hj' : j < p.length := by simpa [sm] using hj
    have := (List.getElem?_inj hi' hnd (j := j)).1 (by rw [List.getElem?_eq_getElem hi', List.getElem?_eq_getElem hj', e])
    omega

theorem sm_owns {w : World} {r : Nat} {p : List Nat} (hm : w.heap[r]? = some (.map (sm p).1 (sm p).2)) (hnd : p.Nodup) (hpos : ∀ x ∈ p, 1 ≤ x ∧ x ≤ 100000) (hlen : p.length ≤ 100000) :
    ∃ D : DataW Unit, w.ownsMap Tryz.prog 3 (plainElem Tryz.prog 4) r p.length D ∧ Maps.size D = p.length := by
  have hsz : (sm p).1.size = p.length := by simp [sm]
  refine ⟨_, ⟨_, _, hm, ⟨?_, sm_stamped hnd, fun x hx => ?_⟩, by rw [hsz]; exact Nat.le_refl _, rfl⟩, ?_⟩
  · rw [hsz]; exact Nat.le_trans hlen (by simp [maxLen])
  · simp only [sm, List.mem_mapIdx] at hx
    obtain ⟨i, hi, rfl⟩ := hx
    have hx := hpos p[i] (List.getElem_mem hi)
    refine ⟨(.int .i64 p[i], .lit (.bool true)), ?_⟩
    simp only [WideElems.rd, sment]
    rw [Maps.keyOf_int_mk (k := 3) (q := .i64) Tryz.underlying3, plainElem_bool (e := 4) Tryz.underlying4]
    · rfl
    · have := i64_in (n := (p[i] : Int)) (by omega)
      have h1 : IntKind.i64.min ≤ (p[i] : Int) := by show (-9223372036854775808 : Int) ≤ _; omega
      have h2 : (p[i] : Int) ≤ IntKind.i64.max := by show _ ≤ (9223372036854775807 : Int); omega
      simp only [Lit.wf, decide_eq_true h1, decide_eq_true h2, Bool.and_self]
  · show ((List.map (WideElems.rg Tryz.prog 3 (plainElem Tryz.prog 4)) (sm p).1.toList).foldr DataW.insert []).length = _
    rw [length_sorted]; simp [sm]

theorem keys_ok (n : Nat) (r : Nat) (w : World) : CallsIn (W none) n Tryz.prog 28 #[.map (some r)] w fun e w' => e = .returned (.func (.func 52) #[] #[.pointer (some ⟨w.heap.size, 0, none⟩)]) ∧ w' = w.alloc (.cells #[.map (some r)] 93) :=
  Tryz.maps_Keys_28 n (some r) w

theorem sorted_ok (n : Nat) {w : World} {r : Nat} {p : List Nat} (hm : w.heap[r]? = some (.map (sm p).1 (sm p).2)) (hnd : p.Nodup) (hpos : ∀ x ∈ p, 1 ≤ x ∧ x ≤ 100000) (hlen : p.length ≤ 100000) (hne : p ≠ []) :
    CallsIn (W none) n Tryz.prog 27 #[.func (.func 52) #[] #[.pointer (some ⟨w.heap.size, 0, none⟩)]] (w.alloc (.cells #[.map (some r)] 93)) fun e w' => ∃ v, e = .returned v ∧ (∃ row, row.length = p.length ∧ IsRow w' 3 1 v row) ∧ Grown (w.alloc (.cells #[.map (some r)] 93)) w' := by
  obtain ⟨D, hown, hsz⟩ := sm_owns hm hnd hpos hlen
  have h := Tryz.slices_Sorted_27 r p.length D _ w hown (by rw [hsz]; exact Nat.le_trans hlen (by simp [maxLen])) (by omega)
  refine CallsIn.mono (callsIn_wide.2 (callsIn_wide.1 h) : CallsIn (W none) n _ _ _ _ _) ?_
  rintro e w' ⟨v, ss, rfl, hperm, hrow, hnil, hb⟩
  have hl : ss.length = p.length := by
    rw [hperm.length_eq, ← hsz]
    obtain ⟨es, clock, _, _, _, rfl⟩ := hown
    simp [intKeys, Maps.size]
  refine ⟨v, rfl, ⟨(ss.mergeSort (fun x y => decide (x ≤ y))).map encZ, ?_, ?_⟩, ⟨hb.size, hb.block, hb.os, hb.tape, hb.output⟩⟩
  · simp [hl]
  · obtain ⟨h1, h2 | ⟨g, cap, cur, rfl, _, h3, h4, _, h5, h6⟩⟩ := hrow
    · have : ss = [] := hnil.1 h2.1
      rw [this] at hl
      cases p with
      | nil => exact (hne rfl).elim
      | cons _ _ => cases hl
    · exact ⟨g, ss.length, cap, cur, rfl, by decide, by simp, h4, by rw [h5], h3, by rw [show ((ss.mergeSort (fun x y => decide (x ≤ y))).map encZ).length = ss.length * 1 by simp]; exact h6⟩

end Go.Ev

/- The abstract machine, part Za: stops inside a region; calls by contract. -/
namespace Go.Ev

theorem aopsL_ok {E : Env} (hE : E.OK) {call yld : CallT} (hC : CallOK E call) (hY : YieldOK E yld) (ops : Array Oper) (ro : Option Nat) (n : Nat) {Q : Exit → Act → World → Prop} (l2 : List Oper) : ∀ (l : List Oper) (fr : Fr) (h : H) (fr' : Fr) (h' : H), aops E call yld ops l fr h = some (fr', h') →
    ∀ (φ : Ren) (a : Act) (w : World), GL E.ng φ → BD E φ → FR φ fr a.tmps → HR φ h w →
    (∀ φ' a' w', Ext φ w φ' w' → FR φ' fr' a'.tmps → a'.defers = a.defers → HR φ' h' w' → wpListIn (W ro) n E.P ops Q l2 a' w') → wpListIn (W ro) n E.P ops Q (l ++ l2) a w
  | [], fr, h, fr', h', e, φ, a, w, _, _, hf, hr, hQ => by
    simp only [aops, Option.some.injEq, Prod.mk.injEq] at e
    obtain ⟨rfl, rfl⟩ := e
    exact hQ φ a w (Ext.refl φ w) hf rfl hr
  | o :: rest, fr, h, fr', h', e, φ, a, w, hg, hbd, hf, hr, hQ => by
    simp only [aops] at e
    rw [List.cons_append]
    split at e
    · rename_i hw
      have hwant := aguard_ok hf hw
      simp only [wpListIn, hwant, if_true]
      split at e
      · rename_i v h1 hs
        refine astep_ok hE hC hY hg hbd hf hr ro n o hs fun φ' u w' hx hv hr' => ?_
        split at e
        · rename_i hd
          refine aopsL_ok hE hC hY ops ro n l2 rest fr h1 fr' h' e φ' (a.put o.dst u) w' (hg.mono hx.le) (hbd.mono hx.le) ?_ hr' fun φ'' a'' w'' hx' hf'' hd'' hr'' => ?_
          · rw [hd]; exact hf.mono hx.le
          · exact hQ φ'' a'' w'' (hx.trans hx') hf'' (by rw [hd''] ; rw [hd]; rfl) hr''
        · rename_i d hd
          cases hlt : Nat.blt d fr.n with
          | false => rw [hlt] at e; cases e
          | true =>
            rw [hlt] at e
            simp only [cond] at e
            refine aopsL_ok hE hC hY ops ro n l2 rest (fr.set d v) h1 fr' h' e φ' (a.put o.dst u) w' (hg.mono hx.le) (hbd.mono hx.le) ?_ hr' fun φ'' a'' w'' hx' hf'' hd'' hr'' => ?_
            · rw [hd]; exact (hf.mono hx.le).put (blt_iff.1 hlt) hv
            · exact hQ φ'' a'' w'' (hx.trans hx') hf'' (by rw [hd'']; rw [hd]; rfl) hr''
      · cases e
    · rename_i hw
      have hwant := aguard_ok hf hw
      simp only [wpListIn, hwant, Bool.false_eq_true, if_false]
      refine ⟨fun _ _ => trivial, ?_⟩
      split at e
      · rename_i hd
        refine aopsL_ok hE hC hY ops ro n l2 rest fr h fr' h' e φ (a.put o.dst undef) w hg hbd ?_ hr fun φ'' a'' w'' hx' hf'' hd'' hr'' => ?_
        · rw [hd]; exact hf
        · exact hQ φ'' a'' w'' hx' hf'' (by rw [hd'']; rw [hd]; rfl) hr''
      · rename_i d hd
        cases hlt : Nat.blt d fr.n with
        | false => rw [hlt] at e; cases e
        | true =>
          rw [hlt] at e
          simp only [cond] at e
          refine aopsL_ok hE hC hY ops ro n l2 rest (fr.set d (.t [])) h fr' h' e φ (a.put o.dst undef) w hg hbd ?_ hr fun φ'' a'' w'' hx' hf'' hd'' hr'' => ?_
          · rw [hd]; exact hf.put (blt_iff.1 hlt) (by simp only [VR]; exact ⟨#[], rfl, by simp [VRs]⟩)
          · exact hQ φ'' a'' w'' hx' hf'' (by rw [hd'']; rw [hd]; rfl) hr''
    · cases e

def runsO (E : Env) (k : Nat) (ops : Array Oper) (l : List Oper) (fr : Fr) (h : H) (tb : Tab) (nt : Nat) (L : List (Nat × V)) (nb : Nat) (HB : List (Nat × Blk)) : Bool :=
  plainT tb &&
  match aops E (callF E (exec E k)) (yieldF (exec E k)) ops l fr h with
  | some (fr', h') => (mAll tb fr' h' nt L nb HB).isSome
  | none => false

/-- **Some operations of a region, from a state to a state.** -/
theorem StAt.runO {E : Env} (hE : E.OK) (hng : E.ng = 0) (m : Nat) {k : Nat} {ops : Array Oper} {l : List Oper} {fr : Fr} {nb0 : Nat} {HB0 : List (Nat × Blk)} {tb : Tab} {nt : Nat} {L : List (Nat × V)} {nb : Nat} {HB : List (Nat × Blk)} (hc : runsO E k ops (l.take m) fr (hOf nb0 HB0) tb nt L nb HB = true)
    {φ : Ren} {B : Nat} {a : Act} {w : World} {n : Nat} (hs : StAt φ B fr (hOf nb0 HB0) a w) (hbd : BD E φ) (y : Sym) (hy : AgreeS tb φ.y y) {Q : Exit → Act → World → Prop}
    (hQ : ∀ φ' a' w', StAt φ' B (frOf nt L) (hOf nb HB) a' w' → a'.defers = a.defers → GB B w w' → KeepT HB0 w w' → φ'.s = y.s → φ'.q = y.q → φ'.w = y.w → φ'.g = y.g → wpListIn (W none) n E.P ops Q (l.drop m) a' w') : wpListIn (W none) n E.P ops Q l a w := by
  simp only [runsO, Bool.and_eq_true] at hc
  obtain ⟨hp, hc⟩ := hc
  split at hc
  · rename_i fr' h' hex
    cases e : mAll tb fr' h' nt L nb HB with
    | none => rw [e] at hc; cases hc
    | some σ =>
      have := aopsL_ok hE (callF_ok hE (exec_ok hE k).1) (yieldF_ok (exec_ok hE k).1) ops none n (Q := Q) (l.drop m) (l.take m) fr (hOf nb0 HB0) fr' h' hex φ a w (by rw [hng]; exact fun g hg => by omega) hbd hs.fr hs.hr fun φ' a' w' hxt hf' hd' hr' => by
        obtain ⟨hgb, hloc⟩ := hs.after hxt hr'
        have hst := conv_ok e hf' hr' hloc (Nat.le_trans hs.bz hxt.size) y (hy.agree hp hxt.le.yy h' w')
        exact hQ _ a' w' hst hd' hgb (hs.keepT hxt hr') rfl rfl rfl rfl
      rwa [List.take_append_drop] at this
  · cases hc

/-- What there was is as it was: a state stays. -/
theorem StAt.grow {φ : Ren} {B nt nb : Nat} {L : List (Nat × V)} {HB : List (Nat × Blk)} {a : Act} {w w' : World} (hs : StAt φ B (frOf nt L) (hOf nb HB) a w) (hg : Grown w w') {tb : Tab} (hc : selfOK tb nt L nb HB = true) {y : Sym} (hy : Ag tb φ.y y) :
    ∃ φ', StAt φ' B (frOf nt L) (hOf nb HB) a w' ∧ φ'.s = y.s ∧ φ'.q = y.q ∧ φ'.w = y.w ∧ φ'.g = y.g := by
  simp only [selfOK, Bool.and_eq_true] at hc
  cases e : mAll tb (frOf nt L) (hOf nb HB) nt L nb HB with
  | none => rw [e] at hc; cases hc.2
  | some σ => exact ⟨_, conv_ok e hs.fr (hg.ok hs.hr).1 hs.loc (Nat.le_trans hs.bz hg.size) y ((hy.agreeS rfl rfl rfl rfl).agree hc.1 rfl _ _), rfl, rfl, rfl, rfl⟩

theorem StAt.put {φ : Ren} {B nt : Nat} {L : List (Nat × V)} {h : H} {a : Act} {w : World} (hs : StAt φ B (frOf nt L) h a w) {d : Nat} (hd : d < nt) {x : V} {v : Value} (hv : VR φ x v) : StAt φ B (frOf nt ((d, x) :: L)) h (a.put (some d) v) w :=
  ⟨FR.put hs.fr hd hv, hs.hr, hs.loc, hs.kf, hs.bz⟩

/-- A call, by its contract. -/
theorem call_op {P : Program} {n : Nat} {ops : Array Oper} {Q : Exit → Act → World → Prop} {o : Oper} {rest : List Oper} {a : Act} {w : World} {c : Call} {f : Operand} {g : FuncId} {first caps : Array Value} {fn : Func} {cd : Code} (hop : o.op = .call c) (hcal : c.callee = .value f)
    (hgd : o.guard = none) (hv : a.eval f = .func (.func g) first caps) (hfn : P.funcs[g]? = some fn) (hbody : fn.body = some cd) (hname : (fn.name == "runtime.NumGoroutine") = false)
    (hcall : CallsIn (W none) (n - 1) P g (first ++ c.args.map a.eval ++ caps) w fun e w' => ∃ v, e = .returned v ∧ wpListIn (W none) n P ops Q rest (a.put o.dst v) w') : wpListIn (W none) n P ops Q (o :: rest) a w := by
  have hw : Region.wanted o (yielded ops a.tmps) = true := by simp [Region.wanted, hgd]
  simp only [wpListIn, hw, if_true]
  refine ⟨fun _ _ => trivial, ?_⟩
  rw [Oper.semAt_eq _ _ _ (fun c' e => by rw [hop] at e; cases e)]
  have hname' : ¬ fn.name = "runtime.NumGoroutine" := by simpa using hname
  have e : (execOp a.eval o).run P w = .ok (.enter g (first ++ c.args.map a.eval ++ caps)) w := by
    simp [execOp, hop, resolve, hcal, hv, Deferred.ofValue, invoke, callFunc, hfn, hbody, hname']
  rw [e]
  refine ⟨(fun hd => (by cases hd)), ?_⟩
  refine hcall.mono ?_
  rintro e w' ⟨v', rfl, h3⟩
  exact h3

theorem StAt.callO {φ : Ren} {B : Nat} {fr : Fr} {h : H} {a : Act} {w : World} (hs : StAt φ B fr h a w) {P : Program} {n : Nat} {ops : Array Oper} {Q : Exit → Act → World → Prop} {l : List Oper} {o : Oper} {rest : List Oper} (hl : l = o :: rest) {c : Call} {f : Operand} {g : FuncId} {fn : Func} {cd : Code} (hop : o.op = .call c) (hcal : c.callee = .value f)
    (hgd : o.guard = none) (hev : ev 0 fr f = .f g [] []) (hfn : P.funcs[g]? = some fn) (hbody : fn.body = some cd) (hname : (fn.name == "runtime.NumGoroutine") = false) {Vs : List V} (hVs : c.args.toList.map (ev 0 fr) = Vs)
    (hcall : ∀ args', VRs φ Vs args' → CallsIn (W none) (n - 1) P g args'.toArray w fun e w' => ∃ v, e = .returned v ∧ wpListIn (W none) n P ops Q rest (a.put o.dst v) w') : wpListIn (W none) n P ops Q l a w := by
  subst hl
  have hg : GL 0 φ := fun g hg => by omega
  have hfv := ev_ok hg hs.fr f
  rw [hev] at hfv
  simp only [VR] at hfv
  obtain ⟨first', caps', hv, h1, h2⟩ := hfv
  simp only [VRs] at h1 h2
  have e1 : first' = #[] := Array.toList_inj.1 h1
  have e2 : caps' = #[] := Array.toList_inj.1 h2
  subst e1; subst e2
  refine call_op hop hcal hgd hv hfn hbody hname ?_
  have hargs := evs_ok hg hs.fr c.args.toList
  rw [hVs] at hargs
  have := hcall _ hargs
  have harr : (c.args.toList.map a.eval).toArray = #[] ++ c.args.map a.eval ++ #[] := by
    apply Array.ext'
    simp
  rw [harr] at this
  exact this

end Go.Ev

/- Chains, part L: 'Reach', its runs. -/
namespace Go.Ev
open Go.Proofs

noncomputable def c11 : List Code := flatL ((Tryz.f11.body).getD .skip)
/-- The operations of a region. -/
def opsOf : List Code → Array Oper
  | .region _ ops _ :: _ => ops
  | _ => #[]
theorem wpCs_region {n : Nat} {P : Program} {Q : Exit → Act → World → Prop} {id : Nat} {ops : Array Oper} {rest : List Code} {a : Act} {w : World} (h : wpListIn (W none) n P ops (Exit.then (wpCs none n P Q rest) Q) ops.toList a w) : wpCs none n P Q (.region id ops false :: rest) a w :=
  wpIn_region_list h
def Rea_LA : List (Nat × V) := [(1, .p (some (0, 0))), (2, .sl none 0 (.kn 0)), (3, .i .i64 0)]
def Rea_B : Blk := .cells [.q 0, .q 1, .q 2, .y .i64 3] 30 false
def Rea_HA : List (Nat × Blk) := [(0, Rea_B)]
def w_T : Tab := { s := [(3, .y 3)], q := [(0, .q 0), (1, .q 1), (2, .q 2)] }
theorem Rea_A : runsL (withF E0 {}) 100 (c11.take 1) ⟨20, load w_args 0 .leaf⟩ (hOf 0 []) .n w_T 20 Rea_LA 1 Rea_HA = true := by decide +kernel
theorem Rea_r1 : ∃ id, c11.drop 1 = .region id (opsOf (c11.drop 1)) false :: c11.drop 2 := ⟨_, rfl⟩
def Rea_LB : List (Nat × V) := (7, .a [.q 0, .q 1, .q 2, .y .i64 3]) :: Rea_LA
theorem Rea_B1 : runsO (withF E0 {}) 100 (opsOf (c11.drop 1)) ((opsOf (c11.drop 1)).toList.take 1) (frOf 20 Rea_LA) (hOf 1 Rea_HA) w_T 20 Rea_LB 1 Rea_HA = true := by decide +kernel
theorem Rea_S1 : selfOK w_T 20 Rea_LB 1 Rea_HA = true := by decide +kernel
def Rea_LC : List (Nat × V) := (8, .t [.a [.q 5, .q 6], .i .i64 0]) :: Rea_LB
def Rea_LD : List (Nat × V) := [(1, .p (some (0, 0))), (4, .p (some (1, 0))), (5, .i .i64 0)]
def Rea_HD : List (Nat × Blk) := [(0, Rea_B), (1, .cells [.q 5, .q 6] 86 false)]
def Rea_TD : Tab := { s := [(3, .y 3)], q := [(0, .q 0), (1, .q 1), (2, .q 2), (5, .q 5), (6, .q 6)] }
theorem Rea_D : runsO (withF E0 {}) 100 (opsOf (c11.drop 1)) (((opsOf (c11.drop 1)).toList.drop 2).take 100) (frOf 20 Rea_LC) (hOf 1 Rea_HA) Rea_TD 20 Rea_LD 2 Rea_HD = true := by decide +kernel
theorem Rea_E : runsL (withF E0 {}) 100 ((c11.drop 2).take 2) (frOf 20 Rea_LD) (hOf 2 Rea_HD) .n Rea_TD 20 Rea_LD 2 Rea_HD = true := by decide +kernel
theorem Rea_r4 : ∃ id, c11.drop 4 = .region id (opsOf (c11.drop 4)) false :: c11.drop 5 := ⟨_, rfl⟩
def Rea_LF : List (Nat × V) := [(14, .a [.q 5, .q 6]), (16, .q 2)]
def Rea_TF : Tab := { q := [(2, .q 2), (5, .q 5), (6, .q 6)] }
theorem Rea_F : runsO (withF E0 {}) 100 (opsOf (c11.drop 4)) ((opsOf (c11.drop 4)).toList.take 3) (frOf 20 Rea_LD) (hOf 2 Rea_HD) Rea_TF 20 Rea_LF 0 [] = true := by decide +kernel
def Rea_TG : Tab := { q := [(8, .q 8)] }
def Rea_LH : List (Nat × V) := [(2, .q 8), (3, .i .i64 0)]
theorem Rea_G : runsO (withF E0 {}) 100 (opsOf (c11.drop 4)) (((opsOf (c11.drop 4)).toList.drop 6).take 100) (frOf 20 [(19, .q 8)]) (hOf 0 []) Rea_TG 20 Rea_LH 0 [] = true := by decide +kernel
theorem Rea_H : runsL (withF E0 {}) 100 ((c11.drop 5).take 1) (frOf 20 Rea_LH) (hOf 0 []) .r Rea_TG 20 Rea_LH 0 [] = true := by decide +kernel

end Go.Ev

/- Chains, part M: 'Reach'. -/
namespace Go.Ev
open Go.Proofs

theorem reachG_ok {n : Nat} {w : World} {lines ov rv : Value} {next : Nat} {l : List (O × Value)} {rs : List (ByteArray × Nat)} {p : List Nat} (h : GW w lines ov rv next l rs) (hW : Whole l rs) (hne : l ≠ []) (hnd : p.Nodup) (hpos : ∀ x ∈ p, 1 ≤ x ∧ x ≤ 100000) (hpn : p ≠ []) (hpl : p.length ≤ 100000)
    (hreach : ∀ n w' lv mv, Found w' l lv mv → IsRow w' 72 2 rv (rRow rs) → CallsIn (W none) n Tryz.prog 29 #[.agg #[lv, mv], rv] w' fun e w'' => ∃ v, e = .returned v ∧ (∃ r, v = .map (some r) ∧ w''.heap[r]? = some (.map (sm p).1 (sm p).2)) ∧ Grown w' w'') :
    CallsIn (W none) n Tryz.prog 11 #[wV lines ov rv next] w fun e w' => ∃ v, e = .returned v ∧ (∃ u row, v = .tuple #[u, .int .i64 0] ∧ row.length = p.length ∧ IsRow w' 3 1 u row) ∧ Grown w w' := by
  let y0 : Sym := mkY [0, 0, 0, next] [lines, ov, rv] [] []
  have o0 := h.sch.one
  have o1 := h.objs.one
  have o2 := h.roots.one
  have hst := StAt.enter (nt := 20) (φ0_hr y0 w) rfl rfl (w_args_ok (φ := φ0 y0 w) rfl rfl rfl rfl o0 o1 o2) (by decide)
  refine callIn (fn := Tryz.f11) (c := (Tryz.f11.body).getD .skip) Tryz.func11 rfl (wpIn_flat _ ?_)
  show wpCs none n E0.P _ c11 _ _
  refine StAt.runL (withF_ok E0_ok {}) rfl 1 Rea_A hst (FactsOK.bd' ⟨trivial, trivial, trivial, trivial, trivial, trivial, trivial, trivial, trivial⟩) rfl y0 ?_ fun φ a w1 hs hd hg _ n1 n2 n3 n4 => ?_
  · exact Ag.agreeS (o := y0) ⟨⟨rfl, trivial⟩, ⟨⟨rfl, o0⟩, ⟨rfl, o1⟩, ⟨rfl, o2⟩, trivial⟩, trivial, trivial⟩ rfl rfl rfl rfl
  show wpCs none n E0.P _ (c11.drop 1) a w1
  obtain ⟨id1, hr1⟩ := Rea_r1
  rw [hr1]
  refine wpCs_region ?_
  refine StAt.runO (withF_ok E0_ok {}) rfl 1 Rea_B1 hs (FactsOK.bd' ⟨trivial, trivial, trivial, trivial, trivial, trivial, trivial, trivial, trivial⟩) y0 ?_ fun φ a w2 hs hd2 hg2 _ n1 n2 n3 n4 => ?_
  · exact Ag.agreeS (o := y0) ⟨⟨rfl, trivial⟩, ⟨⟨rfl, o0⟩, ⟨rfl, o1⟩, ⟨rfl, o2⟩, trivial⟩, trivial, trivial⟩ n1 n2 n3 n4
  have g02 : GB w.heap.size w w2 := hg.trans hg2
  have hW2 : GW w2 lines ov rv next l rs := h.kept fun r o ho => g02.at_ rfl ho
  -- 'survey'
  refine hs.callO (o := ((opsOf (c11.drop 1)).toList.drop 1).headD default) (rest := (opsOf (c11.drop 1)).toList.drop 2) rfl rfl rfl rfl rfl Tryz.func26 rfl rfl (Vs := w_args) rfl ?_
  intro args' ha
  have := w_args_eq (φ := φ) (lines := lines) (ov := ov) (rv := rv) (next := next) (congrFun n2 0) (congrFun n2 1) (congrFun n2 2) (congrFun n1 3) ha
  subst this
  refine (hW2.survey hW hne (n := n - 1)).mono ?_
  rintro e w3 ⟨v, rfl, ⟨lv, mv, rfl, hF⟩, hgr⟩
  refine ⟨_, rfl, ?_⟩
  let y1 : Sym := mkY [0, 0, 0, next] [lines, ov, rv, .bool false, .bool false, lv, mv] [] []
  obtain ⟨φ3, hs3, m1, m2, m3, m4⟩ := hs.grow hgr Rea_S1 (y := y1) ⟨⟨(congrFun n1 3).symm, trivial⟩, ⟨⟨(congrFun n2 0).symm, o0⟩, ⟨(congrFun n2 1).symm, o1⟩, ⟨(congrFun n2 2).symm, o2⟩, trivial⟩, trivial, trivial⟩
  have hs4 := hs3.put (d := 8) (by decide) (x := .t [.a [.q 5, .q 6], .i .i64 0]) (v := .tuple #[.agg #[lv, mv], .int .i64 0]) (by
    simp only [VR]
    refine ⟨_, rfl, VRs.cons ?_ (VRs.cons vI VRs.nil)⟩
    simp only [VR]
    refine ⟨_, rfl, VRs.cons ?_ (VRs.cons ?_ VRs.nil)⟩
    · simp only [VR]; exact ⟨(congrFun m2 5).symm, hF.one1⟩
    · simp only [VR]; exact ⟨(congrFun m2 6).symm, hF.one2⟩)
  have g03 : GB w.heap.size w w3 := g02.trans (hgr.gb g02.size)
  have ok : ∀ φ : Ren, φ.s = y1.s → φ.q = y1.q → φ.w = y1.w → φ.g = y1.g → AgreeS Rea_TD φ.y y1 := fun φ e1 e2 e3 e4 =>
    Ag.agreeS (o := y1) ⟨⟨rfl, trivial⟩, ⟨⟨rfl, o0⟩, ⟨rfl, o1⟩, ⟨rfl, o2⟩, ⟨rfl, hF.one1⟩, ⟨rfl, hF.one2⟩, trivial⟩, trivial, trivial⟩ e1 e2 e3 e4
  refine StAt.runO (withF_ok E0_ok {}) rfl 100 Rea_D hs4 (FactsOK.bd' ⟨trivial, trivial, trivial, trivial, trivial, trivial, trivial, trivial, trivial⟩) y1 (ok _ m1 m2 m3 m4) fun φ a4 w4 hs hd4 hg4 hk4 n1 n2 n3 n4 => ?_
  show wpCs none n E0.P _ (c11.drop 2) a4 w4
  have hF4 : Found w4 l lv mv := hF.kept (fun r c T hT ho => hk4.c r c T (by rcases hT with rfl | rfl <;> rfl) ho) fun r es c ho => hk4.m rfl r es c ho
  have hd4' : a4.defers = [] := by rw [hd4]; show a.defers = []; rw [hd2, hd]
  refine StAt.runL (withF_ok E0_ok {}) rfl 2 Rea_E hs (FactsOK.bd' ⟨trivial, trivial, trivial, trivial, trivial, trivial, trivial, trivial, trivial⟩) hd4' y1 (ok _ n1 n2 n3 n4) fun φ a5 w5 hs hd5 hg5 hk5 n1 n2 n3 n4 => ?_
  show wpCs none n E0.P _ (c11.drop 4) a5 w5
  have hF5 : Found w5 l lv mv := hF4.kept (fun r c T hT ho => hk5.c r c T (by rcases hT with rfl | rfl <;> rfl) ho) fun r es c ho => hk5.m rfl r es c ho
  obtain ⟨id4, hr4⟩ := Rea_r4
  rw [hr4]
  refine wpCs_region ?_
  refine StAt.runO (withF_ok E0_ok {}) rfl 3 Rea_F hs (FactsOK.bd' ⟨trivial, trivial, trivial, trivial, trivial, trivial, trivial, trivial, trivial⟩) y1 (Ag.agreeS (o := y1) ⟨trivial, ⟨⟨rfl, o2⟩, ⟨rfl, hF.one1⟩, ⟨rfl, hF.one2⟩, trivial⟩, trivial, trivial⟩ n1 n2 n3 n4) fun φ a6 w6 hs hd6 hg6 hk6 n1 n2 n3 n4 => ?_
  have hF6 : Found w6 l lv mv := hF5.kept (fun r c T hT ho => hk6.c r c T (by rcases hT with rfl | rfl <;> rfl) ho) fun r es c ho => hk6.m rfl r es c ho
  have g06 : GB w.heap.size w w6 := ((g03.trans hg4).trans hg5).trans hg6
  have hr6 : IsRow w6 72 2 rv (rRow rs) := h.roots.kept fun r o ho => g06.at_ rfl ho
  -- 'reach'
  refine hs.callO (o := ((opsOf (c11.drop 4)).toList.drop 3).headD default) (rest := (opsOf (c11.drop 4)).toList.drop 4) rfl rfl rfl rfl rfl Tryz.func29 rfl rfl (Vs := [.a [.q 5, .q 6], .q 2]) rfl ?_
  intro args' ha
  have : args' = [.agg #[lv, mv], rv] := by
    simp only [VRs, VR] at ha
    obtain ⟨_, _, rfl, ⟨cs, rfl, _, _, e1, ⟨rfl, _⟩, _, _, rfl, ⟨rfl, _⟩, rfl⟩, _, _, rfl, ⟨rfl, _⟩, rfl⟩ := ha
    rw [n2] at e1 ⊢
    congr 2
    exact Array.toList_inj.1 e1
  subst this
  refine (hreach (n - 1) w6 lv mv hF6 hr6).mono ?_
  rintro e w7 ⟨v, rfl, ⟨r, rfl, hm⟩, hgr7⟩
  refine ⟨_, rfl, ?_⟩
  let y2 : Sym := mkY [] [.bool false, .bool false, .bool false, .bool false, .bool false, .bool false, .bool false, .map (some r)] [] []
  obtain ⟨φ, hs, n1, n2, n3, n4⟩ := hs.conv (tb := {}) (nt := 20) (L := []) (nb := 0) (HB := []) (by decide +kernel) y2 (mkAgree trivial trivial trivial trivial)
  obtain ⟨φ, hs, n1, n2, n3, n4⟩ := hs.grow hgr7 (tb := {}) (by decide +kernel) (y := y2) ⟨trivial, trivial, trivial, trivial⟩
  have hs := hs.put (d := 17) (by decide) (x := .q 7) (v := .map (some r)) (by simp only [VR]; exact ⟨(congrFun n2 7).symm, rfl⟩)
  -- 'maps.Keys'
  refine hs.callO (o := ((opsOf (c11.drop 4)).toList.drop 4).headD default) (rest := (opsOf (c11.drop 4)).toList.drop 5) rfl rfl rfl rfl rfl Tryz.func28 rfl rfl (Vs := [.q 7]) rfl ?_
  intro args' ha
  have : args' = [.map (some r)] := by
    simp only [VRs, VR] at ha
    obtain ⟨_, _, rfl, ⟨rfl, _⟩, rfl⟩ := ha
    rw [n2]; rfl
  subst this
  refine (keys_ok (n - 1) r w7).mono ?_
  rintro e w8 ⟨rfl, rfl⟩
  refine ⟨_, rfl, ?_⟩
  let y3 : Sym := mkY [] [.func (.func 52) #[] #[.pointer (some ⟨w7.heap.size, 0, none⟩)]] [] []
  have hgr8 : Grown w7 (w7.alloc (.cells #[.map (some r)] 93)) := ⟨by simp, fun r' hr' => (MapKept.heap_alloc w7 _).2 r' hr', rfl, rfl, rfl⟩
  obtain ⟨φ, hs, n1, n2, n3, n4⟩ := hs.conv (tb := {}) (nt := 20) (L := []) (nb := 0) (HB := []) (by decide +kernel) y3 (mkAgree trivial trivial trivial trivial)
  obtain ⟨φ, hs, n1, n2, n3, n4⟩ := hs.grow hgr8 (tb := {}) (by decide +kernel) (y := y3) ⟨trivial, trivial, trivial, trivial⟩
  have hs := hs.put (d := 18) (by decide) (x := .q 0) (v := .func (.func 52) #[] #[.pointer (some ⟨w7.heap.size, 0, none⟩)]) (by simp only [VR]; exact ⟨(congrFun n2 0).symm, rfl⟩)
  -- 'slices.Sorted'
  refine hs.callO (o := ((opsOf (c11.drop 4)).toList.drop 5).headD default) (rest := (opsOf (c11.drop 4)).toList.drop 6) rfl rfl rfl rfl rfl Tryz.func27 rfl rfl (Vs := [.q 0]) rfl ?_
  intro args' ha
  have : args' = [.func (.func 52) #[] #[.pointer (some ⟨w7.heap.size, 0, none⟩)]] := by
    simp only [VRs, VR] at ha
    obtain ⟨_, _, rfl, ⟨rfl, _⟩, rfl⟩ := ha
    rw [n2]; rfl
  subst this
  refine (sorted_ok (n - 1) hm hnd hpos hpl hpn).mono ?_
  rintro e w9 ⟨u, rfl, ⟨row, hrow, hu⟩, hgr9⟩
  refine ⟨_, rfl, ?_⟩
  have hu1 := hu.one
  let y4 : Sym := mkY [] [.bool false, .bool false, .bool false, .bool false, .bool false, .bool false, .bool false, .bool false, u] [] []
  obtain ⟨φ, hs, n1, n2, n3, n4⟩ := hs.conv (tb := {}) (nt := 20) (L := []) (nb := 0) (HB := []) (by decide +kernel) y4 (mkAgree trivial trivial trivial trivial)
  obtain ⟨φ, hs, n1, n2, n3, n4⟩ := hs.grow hgr9 (tb := {}) (by decide +kernel) (y := y4) ⟨trivial, trivial, trivial, trivial⟩
  have hs := hs.put (d := 19) (by decide) (x := .q 8) (v := u) (by simp only [VR]; exact ⟨(congrFun n2 8).symm, hu1⟩)
  have g09 : GB w.heap.size w w9 := ((g06.trans (hgr7.gb g06.size)).trans (hgr8.gb (Nat.le_trans g06.size hgr7.size))).trans (hgr9.gb (Nat.le_trans (Nat.le_trans g06.size hgr7.size) hgr8.size))
  refine StAt.runO (withF_ok E0_ok {}) rfl 100 Rea_G hs (FactsOK.bd' ⟨trivial, trivial, trivial, trivial, trivial, trivial, trivial, trivial, trivial⟩) y4 (Ag.agreeS (o := y4) ⟨trivial, ⟨⟨rfl, hu1⟩, trivial⟩, trivial, trivial⟩ n1 n2 n3 n4) fun φ aa wa hs hda hga hka n1 n2 n3 n4 => ?_
  show wpCs none n E0.P _ (c11.drop 5) aa wa
  have hda' : aa.defers = [] := by rw [hda]; show a6.defers = []; rw [hd6, hd5]
  refine StAt.runL (withF_ok E0_ok {}) rfl 1 Rea_H hs (FactsOK.bd' ⟨trivial, trivial, trivial, trivial, trivial, trivial, trivial, trivial, trivial⟩) hda' y4 (Ag.agreeS (o := y4) ⟨trivial, ⟨⟨rfl, hu1⟩, trivial⟩, trivial, trivial⟩ n1 n2 n3 n4) fun φ ab wb hs hdb hgb hkb n1 n2 n3 n4 => ?_
  refine ⟨.inl rfl, hdb, ?_⟩
  obtain ⟨v, hv1, hv2⟩ := hs.leave E0_ok (fn := Tryz.f11) (l := [.q 8, .i .i64 0]) rfl
  refine ⟨v, hv1, v, rfl, ⟨u, row, ?_, hrow, ?_⟩, ((g09.trans hga).trans hgb).grown⟩
  · simp only [aRets, VR, VRs] at hv2
    obtain ⟨vs, rfl, _, _, e1, ⟨rfl, _⟩, _, _, rfl, rfl, rfl⟩ := hv2
    rw [n2] at e1
    congr 1
    exact Array.toList_inj.1 e1
  · exact (hu.keptC (Ts := [3]) (fun r c T hT ho => hkb.c r c T rfl (hka.c r c T rfl ho)) (by decide))

theorem reachF_ok {n : Nat} {w : World} {lines ov rv : Value} {next : Nat} {l : List (O × Value)} {rs : List (ByteArray × Nat)} {p : List Nat} {k : Nat} (h : GW w lines ov rv next l rs) (hW : Whole l rs) (hne : l ≠ []) (hP : Path l p) (hk : p[0]? = some k) (hrs : ∀ q ∈ rs, q.2 = k) (hnr : rs ≠ []) (hpl : p.length ≤ 100000) :
    CallsIn (W none) n Tryz.prog 11 #[wV lines ov rv next] w fun e w' => ∃ v, e = .returned v ∧ (∃ u row, v = .tuple #[u, .int .i64 0] ∧ row.length = p.length ∧ IsRow w' 3 1 u row) ∧ Grown w w' :=
  reachG_ok h hW hne hP.nd hP.pos (by rintro rfl; cases hk) hpl fun _ _ _ _ hF hr => reach_ok hF hr h.asc hP hk hrs hnr h.ln h.rl

end Go.Ev

/- Chains, part N: 'lay', its runs. -/
namespace Go.Ev
open Go.Proofs

noncomputable def c19 : List Code := flatL ((Tryz.f19.body).getD .skip)
def lay_LA : List (Nat × V) := [(1, .p (some (2, 0))), (3, .p (some (3, 0)))]
def lay_W : Blk := .cells [.sl (some (1, 0)) 1 (.kn 1), .q 1, .q 2, .y .i64 3] 30 false
def lay_bench : Blk := .cells [.sl (some (1, 0)) 1 (.kn 1), .p (some (4, 0)), .m (some 6), .m (some 7), .y .i64 3] 106 false
def lay_book : Blk := .cells [.sl (some (1, 0)) 1 (.kn 1), .m (some 5)] 145 false
def lay_HA : List (Nat × Blk) := [(2, lay_W), (3, lay_bench), (4, lay_book), (5, .mp [] 0), (6, .mp [] 0), (7, .mp [] 0), (1, schL), (0, schF)]
theorem lay_A : runsL (withF E0 {}) 300 (c19.take 3) ⟨57, load sur_args 0 .leaf⟩ (hOf 2 sur_h) .n sur_TA 57 lay_LA 8 lay_HA = true := by decide +kernel

def lay_W1 : Blk := .cells [.sl (some (1, 0)) 1 (.kn 1), .sr 8 0 0 4, .q 2, .y .i64 3] 30 false
def lay_HR : List (Nat × Blk) := (8, .rw 0 36) :: subH 1 (.sr 8 0 0 4) lay_HA
def lay_L1 : List (Nat × V) := [(1, .p (some (2, 0))), (3, .p (some (3, 0))), (26, .sr 8 0 0 4), (27, .y .i64 1), (28, .y .i64 0)]
def lay_H0 : List (Nat × Blk) := [(2, lay_W1), (3, lay_bench), (4, lay_book), (5, .mp [] 0), (6, .mp [] 0), (7, .mp [] 0), (1, schL), (0, schF), (8, .rw 0 36)]
theorem lay_B : runsL (withF E0 sur_FB) 300 ((c19.drop 3).take 1) (frOf 57 (subL 1 (.sr 8 0 0 4) lay_LA)) (hOf 9 lay_HR) .n sur_TB 57 lay_L1 9 lay_H0 = true := by decide +kernel
def lay_H1 : List (Nat × Blk) := [(2, lay_W1), (3, lay_bench), (4, lay_book), (5, .mp [] 0), (6, .smp 1 (.int .i64) []), (7, .smp 2 .string []), (1, schL), (0, schF), (8, .rw 0 36)]
def lay_TBs : Tab := { s := [(0, .y 0), (1, .y 1), (3, .y 3)], q := [(2, .q 2)], w := [(0, .same 0)], g := [(1, .fold 6), (2, .fold 7)] }
theorem lay_Bs : (mAll lay_TBs (frOf 57 lay_L1) (hOf 9 lay_H0) 57 lay_L1 9 lay_H1).isSome = true := by decide +kernel
def lay_TS : Tab := { s := [(0, .y 0), (1, .y 1), (3, .y 3)], q := [(2, .q 2)], w := [(0, .same 0)], g := [(1, .same 1), (2, .same 2)] }
theorem lay_S1 : selfOK lay_TS 57 lay_L1 9 lay_H1 = true := by decide +kernel
/-- A round: an object. -/
def lay_F1 : Facts := { bd := [(4, 1, 100000)], bin := [(.lss, .y .i64 0, .y .i64 1, .b true), (.add, .y .i64 0, .i .i64 1, .y .i64 5)], rz := [(0, 4)], re := [(0, 0, [.y .i64 4, .i .i64 0, .i .i64 0, .q 7])] }
def lay_G1 : List (Nat × Blk) := [(2, lay_W1), (3, lay_bench), (4, lay_book), (5, .mp [] 0), (6, .smp 1 (.int .i64) [(.y .i64 4, some (.a [.y .i64 4, .i .i64 0, .i .i64 0, .q 7]))]), (7, .smp 2 .string []), (1, schL), (0, schF), (8, .rw 0 36)]
def lay_T1 : Tab := { s := [(0, .y 5), (1, .y 1), (3, .y 3), (4, .y 4)], q := [(2, .q 2), (7, .q 7)], w := [(0, .same 0)], g := [(1, .same 1), (2, .same 2)] }
theorem lay_R1 : runsL (withF E0 lay_F1) 300 ((roundOf (c19.drop 4)).take 100) (frOf 57 lay_L1) (hOf 9 lay_H1) .n lay_T1 57 lay_L1 9 lay_G1 = true := by decide +kernel

/-- Behind a round; behind the loop. -/
def lay_TC : Tab := { s := [(0, .y 0), (1, .y 1), (3, .y 3)], q := [(2, .q 2)], w := [(0, .same 0)], g := [(1, .fold 6), (2, .same 2)] }
theorem lay_C : (mAll lay_TC (frOf 57 lay_L1) (hOf 9 lay_G1) 57 lay_L1 9 lay_H1).isSome = true := by decide +kernel
def lay_LE : List (Nat × V) := [(1, .p (some (2, 0))), (3, .p (some (3, 0)))]
def lay_W2 : Blk := .cells [.sl (some (1, 0)) 1 (.kn 1), .top, .q 2, .y .i64 3] 30 false
def lay_HE : List (Nat × Blk) := [(2, lay_W2), (3, lay_bench), (4, lay_book), (5, .mp [] 0), (6, .smp 1 (.int .i64) []), (7, .smp 2 .string []), (1, schL), (0, schF)]
def lay_TE : Tab := { s := [(3, .y 3)], q := [(2, .q 2)], g := [(1, .same 1), (2, .same 2)] }
theorem lay_E : runsL (withF E0 sur_FE) 300 ((roundOf (c19.drop 4)).take 100) (frOf 57 lay_L1) (hOf 9 lay_H1) (.e 0) lay_TE 57 lay_LE 8 lay_HE = true := by decide +kernel
/-- The roots' row is looked into. -/
def lay_W3 : Blk := .cells [.sl (some (1, 0)) 1 (.kn 1), .top, .sr 8 3 0 2, .y .i64 3] 30 false
def lay_HR2 : List (Nat × Blk) := (8, .rw 3 72) :: subH 2 (.sr 8 3 0 2) lay_HE
def lay_L2 : List (Nat × V) := [(1, .p (some (2, 0))), (3, .p (some (3, 0))), (41, .sr 8 3 0 2), (42, .y .i64 1), (43, .y .i64 0)]
def lay_H2 : List (Nat × Blk) := [(2, lay_W3), (3, lay_bench), (4, lay_book), (5, .mp [] 0), (6, .smp 1 (.int .i64) []), (7, .smp 2 .string []), (1, schL), (0, schF), (8, .rw 3 72)]
def lay_FF : Facts := { rz := [(3, 2)], rl := [(3, 0, 1)] }
def lay_TF : Tab := { s := [(0, .i 0), (1, .y 1), (3, .y 3)], w := [(3, .same 3)], g := [(1, .same 1), (2, .same 2)] }
theorem lay_F : runsL (withF E0 lay_FF) 300 ((c19.drop 5).take 1) (frOf 57 (subL 2 (.sr 8 3 0 2) lay_LE)) (hOf 9 lay_HR2) .n lay_TF 57 lay_L2 9 lay_H2 = true := by decide +kernel
def lay_TS2 : Tab := { s := [(0, .y 0), (1, .y 1), (3, .y 3)], w := [(3, .same 3)], g := [(1, .same 1), (2, .same 2)] }
theorem lay_S2 : selfOK lay_TS2 57 lay_L2 9 lay_H2 = true := by decide +kernel
def lay_F2 : Facts := { bd := [(6, 1, 100000)], bin := [(.lss, .y .i64 0, .y .i64 1, .b true), (.add, .y .i64 0, .i .i64 1, .y .i64 5)], rz := [(3, 2)], re := [(3, 0, [.q 4, .y .i64 6])], qs := [4] }
def lay_G2 : List (Nat × Blk) := [(2, lay_W3), (3, lay_bench), (4, lay_book), (5, .mp [] 0), (6, .smp 1 (.int .i64) []), (7, .smp 2 .string [(.q 4, some (.y .i64 6))]), (1, schL), (0, schF), (8, .rw 3 72)]
def lay_T2 : Tab := { s := [(0, .y 5), (1, .y 1), (3, .y 3), (6, .y 6)], q := [(4, .q 4)], w := [(3, .same 3)], g := [(1, .same 1), (2, .same 2)] }
theorem lay_R2 : runsL (withF E0 lay_F2) 300 ((roundOf (c19.drop 6)).take 100) (frOf 57 lay_L2) (hOf 9 lay_H2) .n lay_T2 57 lay_L2 9 lay_G2 = true := by decide +kernel
def lay_TC2 : Tab := { s := [(0, .y 0), (1, .y 1), (3, .y 3)], w := [(3, .same 3)], g := [(1, .same 1), (2, .fold 7)] }
theorem lay_C2 : (mAll lay_TC2 (frOf 57 lay_L2) (hOf 9 lay_G2) 57 lay_L2 9 lay_H2).isSome = true := by decide +kernel
def lay_HE2 : List (Nat × Blk) := [(3, lay_bench), (4, lay_book), (5, .mp [] 0), (6, .smp 1 (.int .i64) []), (7, .smp 2 .string []), (1, schL), (0, schF)]
def lay_TE2 : Tab := { s := [(3, .y 3)], g := [(1, .same 1), (2, .same 2)] }
theorem lay_E2 : runsL (withF E0 sur_FE) 300 ((roundOf (c19.drop 6)).take 100) (frOf 57 lay_L2) (hOf 9 lay_H2) (.e 2) lay_TE2 57 [(3, .p (some (3, 0)))] 8 lay_HE2 = true := by decide +kernel
def lay_LX : List (Nat × V) := [(2, .p (some (3, 0)))]
def lay_HX : List (Nat × Blk) := [(3, lay_bench), (4, lay_book), (5, .mp [] 0), (6, .smp 1 (.int .i64) []), (7, .smp 2 .string []), (1, schL), (0, schF)]
theorem lay_X : runsL (withF E0 {}) 300 ((c19.drop 7).take 2) (frOf 57 [(3, .p (some (3, 0)))]) (hOf 8 lay_HE2) .r lay_TE2 57 lay_LX 8 lay_HX = true := by decide +kernel

end Go.Ev

/- The abstract machine, part Zb: new blocks taken up. -/
namespace Go.Ev

/-- Two renamings that say the same of values. -/
structure Eqv (φ φ' : Ren) : Prop where
  f : φ'.f = φ.f
  n : φ'.n = φ.n
  s : φ'.s = φ.s
  q : φ'.q = φ.q
  w : φ'.w = φ.w
  g : φ'.g = φ.g
mutual
theorem Eqv.vr {φ φ' : Ren} (h : Eqv φ φ') : ∀ (x : V) (v : Value), VR φ x v → VR φ' x v
  | .top, _, _ => by simp [VR]
  | .b x, v, e => by simpa [VR] using e
  | .i k n, v, e => by simpa [VR] using e
  | .y k x, v, e => by simpa only [VR, h.s] using e
  | .q x, v, e => by simpa only [VR, h.q] using e
  | .sr b x k sz, v, e => by simpa only [VR, h.w, h.f, h.n] using e
  | .pr b x y sz off, v, e => by simpa only [VR, h.s, h.f] using e
  | .s l, v, e => by simpa [VR] using e
  | .p none, v, e => by simpa [VR] using e
  | .p (some (b, o)), v, e => by simpa only [VR, h.f] using e
  | .sl none n c, v, e => by simpa [VR] using e
  | .sl (some (b, o)) n (.kn c), v, e => by simpa only [VR, h.f] using e
  | .sl (some (b, o)) n (.un sz), v, e => by simpa only [VR, h.f, h.n] using e
  | .es, v, e => by simpa [VR] using e
  | .m none, v, e => by simpa [VR] using e
  | .m (some b), v, e => by simpa only [VR, h.f] using e
  | .f fn first caps, v, e => by
    simp only [VR] at e ⊢
    obtain ⟨f', c', hv, h1, h2⟩ := e
    exact ⟨f', c', hv, h.vrs first _ h1, h.vrs caps _ h2⟩
  | .yl b, v, e => by simpa only [VR, h.f] using e
  | .o, v, e => by simpa [VR] using e
  | .nf, v, e => by simpa [VR] using e
  | .ifc t x, v, e => by
    simp only [VR] at e ⊢
    obtain ⟨x', hv, hx⟩ := e
    exact ⟨x', hv, h.vr x x' hx⟩
  | .ni, v, e => by simpa [VR] using e
  | .a cs, v, e => by
    simp only [VR] at e ⊢
    obtain ⟨cs', hv, hx⟩ := e
    exact ⟨cs', hv, h.vrs cs _ hx⟩
  | .t cs, v, e => by
    simp only [VR] at e ⊢
    obtain ⟨cs', hv, hx⟩ := e
    exact ⟨cs', hv, h.vrs cs _ hx⟩
theorem Eqv.vrs {φ φ' : Ren} (h : Eqv φ φ') : ∀ (x : List V) (v : List Value), VRs φ x v → VRs φ' x v
  | [], v, e => by simpa [VRs] using e
  | x :: xs, v, e => by
    simp only [VRs] at e
    obtain ⟨y, ys, rfl, h1, h2⟩ := e
    exact VRs.cons (h.vr x y h1) (h.vrs xs ys h2)
end

theorem Eqv.ers {φ φ' : Ren} (h : Eqv φ φ') : ∀ {x : List (V × V × Nat)} {l : List MapEntry}, ERs φ x l → ERs φ' x l
  | [], _, e => by simpa [ERs] using e
  | (k, v, n) :: xs, l, e => by
    simp only [ERs] at e ⊢
    obtain ⟨e1, es, rfl, h1, h2, h3, h4⟩ := e
    exact ⟨e1, es, rfl, h.vr _ _ h1, h.vr _ _ h2, h3, h.ers h4⟩
theorem Eqv.mu {φ φ' : Ren} (h : Eqv φ φ') {d : TypeDesc} : ∀ {us : List (V × Option V)} {m m' : Array MapEntry × Nat}, MU φ d m us m' → MU φ' d m us m'
  | [], _, _, e => by simpa [MU] using e
  | (k, some v) :: us, _, _, e => by
    simp only [MU] at e ⊢
    obtain ⟨kv, vv, h1, h2, h3, h4⟩ := e
    exact ⟨kv, vv, h.vr _ _ h1, h.vr _ _ h2, h3, h.mu h4⟩
  | (k, none) :: us, _, _, e => by
    simp only [MU] at e ⊢
    obtain ⟨kv, h1, h3, h4⟩ := e
    exact ⟨kv, h.vr _ _ h1, h3, h.mu h4⟩
theorem Eqv.frr {φ φ' : Ren} (h : Eqv φ φ') {fr : Fr} {t : Array Value} (hf : FR φ fr t) : FR φ' fr t := ⟨hf.1, fun k => h.vr _ _ (hf.2 k)⟩
theorem Eqv.br {φ φ' : Ren} (h : Eqv φ φ') {N : Nat} {x : Blk} {o : Obj} (hb : BR φ N x o) : BR φ' N x o := by
  cases x with
  | gone => trivial
  | cells l e g => obtain ⟨c, h1, h2, h3, h4, h5⟩ := hb; exact ⟨c, h1, h.vrs _ _ h2, h3, h4, h5⟩
  | mp es k => obtain ⟨c, h1, h2⟩ := hb; exact ⟨c, h1, h.ers h2⟩
  | row x l e => obtain ⟨c, vs, h1, h2, h3, h4, h5⟩ := hb; exact ⟨c, vs, h1, h.vrs _ _ h2, by rw [h.w]; exact h3, by rw [h.w]; exact h4, h5⟩
  | smp x d ups => obtain ⟨es, c, h1, h2, h3⟩ := hb; exact ⟨es, c, h1, by rw [h.g]; exact h.mu h2, h3⟩
  | rc l e => obtain ⟨c, h1, h2, h3, h4⟩ := hb; exact ⟨c, h1, h.vrs _ _ h2, h3, h4⟩
  | rw x e => obtain ⟨c, h1, h2, h3, h4⟩ := hb; exact ⟨c, h1, by rw [h.w]; exact h2, by rw [h.w]; exact h3, h4⟩
  | rm x d => obtain ⟨es, c, h1, h2, h3⟩ := hb; exact ⟨es, c, h1, by rw [h.g]; exact h.mu h2, h3⟩
  | iter s k => exact hb
  | loop st pend fr ps az bd df => obtain ⟨fn, t, d, h1, h2, h3⟩ := hb; exact ⟨fn, t, d, h1, h.frr h2, by rw [h.f]; exact h3⟩
  | dfr => exact hb

/-- A block that a state does not speak of is turned. -/
theorem StAt.other {φ : Ren} {B : Nat} {fr : Fr} {h : H} {a : Act} {w w' : World} (hs : StAt φ B fr h a w) {r : Nat} (hn : ∀ b, φ b = some r → ¬ (h.get b).live) (hsz : w'.heap.size = w.heap.size) (hsame : ∀ i, i ≠ r → w'.heap[i]? = w.heap[i]?) :
    ∃ φ', StAt φ' B fr h a w' ∧ φ'.s = φ.s ∧ φ'.q = φ.q ∧ φ'.w = φ.w ∧ φ'.g = φ.g ∧ (∀ b, φ' b = φ b) ∧ φ'.n = φ.n := by
  let φ' : Ren := { φ with y := { φ.y with k := fun x => if x = r then w'.heap[r]? else φ.y.k x } }
  have hq : Eqv φ φ' := ⟨rfl, rfl, rfl, rfl, rfl, rfl⟩
  refine ⟨φ', ⟨hq.frr hs.fr, ⟨hs.hr.cnt, fun b s es => ?_, fun b s es hl => ?_, hs.hr.inj, fun s o hk => ?_⟩, hs.loc, fun s hs' => ?_, by rw [hsz]; exact hs.bz⟩, rfl, rfl, rfl, rfl, fun _ => rfl, rfl⟩
  · rw [hsz]; exact hs.hr.dom b s es
  · obtain ⟨o, h1, h2⟩ := hs.hr.blk b s es hl
    refine ⟨o, ?_, hq.br h2⟩
    rw [hsame s (by rintro rfl; exact hn b es hl)]; exact h1
  · have hk : (if s = r then w'.heap[r]? else φ.y.k s) = some o := hk
    by_cases hsr : s = r
    · subst hsr
      rw [if_pos rfl] at hk
      exact ⟨hk, fun b es hm => hn b es hm.live⟩
    · rw [if_neg hsr] at hk
      have := hs.hr.kp s o hk
      exact ⟨by rw [hsame s hsr]; exact this.1, this.2⟩
  · show (if s = r then w'.heap[r]? else φ.y.k s) = _
    by_cases hsr : s = r
    · subst hsr; rw [if_pos rfl]
    · rw [if_neg hsr, hsame s hsr]
      exact hs.kf s hs'

/-- A block that is there already is taken up as one that may be turned. -/
theorem StAt.adopt {φ : Ren} {B nt nb : Nat} {L : List (Nat × V)} {HB : List (Nat × Blk)} {a : Act} {w : World} (hs : StAt φ B (frOf nt L) (hOf nb HB) a w) {r : Nat} {ob : Obj} {N : Nat} (ho : w.heap[r]? = some ob) (hB : B ≤ r) (hn : ∀ b, φ b ≠ some r) (blk : Blk) (hmut : blk.mut) (hbr : BR φ N blk ob) :
    ∃ φ', StAt φ' B (frOf nt L) (hOf (nb + 1) ((nb, blk) :: HB)) a w ∧ φ' nb = some r ∧ φ'.n nb = N ∧ (∀ b, b ≠ nb → φ' b = φ b) ∧ φ'.s = φ.s ∧ φ'.q = φ.q ∧ φ'.w = φ.w ∧ φ'.g = φ.g := by
  have hfr : ∀ s, φ nb ≠ some s := fun s es => by have := (hs.hr.dom _ _ es).1; exact absurd this (Nat.lt_irrefl _)
  let φ1 : Ren := up φ nb r N
  let φ2 : Ren := { φ1 with y := { φ1.y with k := fun x => if x = r then none else φ.y.k x } }
  have hle : Le φ φ1 := le_up hfr
  have hq : Eqv φ1 φ2 := ⟨rfl, rfl, rfl, rfl, rfl, rfl⟩
  have hlt : r < w.heap.size := (Array.getElem?_eq_some_iff.1 ho).1
  have hup : ∀ b s, φ2 b = some s → (b = nb ∧ s = r) ∨ (b ≠ nb ∧ φ b = some s) := fun b s es => by
    have es : (up φ nb r N) b = some s := es
    simp only [up] at es
    by_cases hb' : b = nb
    · rw [if_pos hb'] at es; cases es; exact .inl ⟨hb', rfl⟩
    · rw [if_neg hb'] at es; exact .inr ⟨hb', es⟩
  have hget : ∀ b, (hOf (nb + 1) ((nb, blk) :: HB)).get b = if b = nb then blk else (hOf nb HB).get b := fun b => by
    rw [hOf_get, hOf_get]; rfl
  refine ⟨φ2, ⟨hq.frr (hs.fr.mono hle), ⟨by show φ.m + 1 = nb + 1; rw [hs.hr.cnt]; rfl, fun b s es => ?_, fun b s es hl => ?_, fun b b' s es es' hl hl' => ?_, fun s o hk => ?_⟩, fun b s es hm => ?_, fun s hs' => ?_, hs.bz⟩, by simp [φ2, φ1, up], by simp [φ2, φ1, up], fun b hb => by simp [φ2, φ1, up, hb], rfl, rfl, rfl, rfl⟩
  · rcases hup b s es with ⟨rfl, rfl⟩ | ⟨_, es⟩
    · exact ⟨Nat.lt_succ_self _, hlt⟩
    · have := hs.hr.dom b s es
      exact ⟨Nat.lt_succ_of_lt this.1, this.2⟩
  · rw [hget] at hl ⊢
    rcases hup b s es with ⟨rfl, rfl⟩ | ⟨hne, es⟩
    · rw [if_pos rfl]
      refine ⟨_, ho, hq.br ?_⟩
      have : φ2.n b = N := by simp [φ2, φ1, up]
      rw [this]; exact hbr.mono hle
    · rw [if_neg hne] at hl ⊢
      obtain ⟨o, h1, h2⟩ := hs.hr.blk b s es hl
      refine ⟨o, h1, hq.br ?_⟩
      have : φ2.n b = φ.n b := (hle b s es).2
      rw [this]; exact h2.mono hle
  · rw [hget] at hl hl'
    rcases hup b s es with ⟨h1, h2⟩ | ⟨hne, es1⟩
    · rcases hup b' s es' with ⟨h3, _⟩ | ⟨hne', es2⟩
      · rw [h1, h3]
      · exact absurd (h2 ▸ es2) (hn b')
    · rcases hup b' s es' with ⟨h3, h4⟩ | ⟨hne', es2⟩
      · exact absurd (h4 ▸ es1) (hn b)
      · rw [if_neg hne] at hl; rw [if_neg hne'] at hl'
        exact hs.hr.inj b b' s es1 es2 hl hl'
  · have hk : (if s = r then none else φ.y.k s) = some o := hk
    by_cases hsr : s = r
    · rw [if_pos hsr] at hk; cases hk
    · rw [if_neg hsr] at hk
      have := hs.hr.kp s o hk
      refine ⟨this.1, fun b es => ?_⟩
      rw [hget]
      rcases hup b s es with ⟨_, h2⟩ | ⟨hne, es⟩
      · exact absurd h2 hsr
      · rw [if_neg hne]; exact this.2 b es
  · rw [hget] at hm
    rcases hup b s es with ⟨_, rfl⟩ | ⟨hne, es1⟩
    · exact hB
    · rw [if_neg hne] at hm; exact hs.loc b s es1 hm
  · show (if s = r then none else φ.y.k s) = _
    by_cases hsr : s = r
    · exact absurd hmut (by have := hs' nb (by simp [φ2, φ1, up, hsr]); rw [hget, if_pos rfl] at this; exact this)
    · rw [if_neg hsr]
      refine hs.kf s fun b es hm => ?_
      have hbn : b ≠ nb := fun e => hfr s (e ▸ es)
      exact hs' b (by simp [φ2, φ1, up, hbn, es]) (by rw [hget, if_neg hbn]; exact hm)

end Go.Ev

/- Chains, part O: the bench's maps; 'lay'. -/
namespace Go.Ev
open Go.Proofs

/-! ### The maps of objects and of roots -/
def oAgg (p : O × Value) : Value := .agg (oCells p).toArray
def om (l : List (O × Value)) : Nat → Array MapEntry × Nat
  | 0 => (#[], 0)
  | i + 1 => mset (.int .i64) (om l i) (.int .i64 (lastId l (i + 1))) (((l[i]?).map oAgg).getD (.bool false))
def oent (i : Nat) (p : O × Value) : MapEntry := { key := .int .i64 p.1.id, val := oAgg p, born := i }
theorem om_eq {l : List (O × Value)} (h : Asc l) : ∀ n, n ≤ l.length → om l n = (((l.take n).mapIdx oent).toArray, n)
  | 0, _ => rfl
  | n + 1, hn => by
    obtain ⟨p, hp⟩ : ∃ p, l[n]? = some p := ⟨l[n], List.getElem?_eq_getElem (by omega)⟩
    have hid : lastId l (n + 1) = p.1.id := by simp [lastId, hp]
    have hlen : (l.take n).length = n := by simp; omega
    rw [om, om_eq h n (by omega), mset, hp, hid]
    have : Instr.findNow (.int .i64) (.int .i64 p.1.id) ((l.take n).mapIdx oent).toArray.toList 0 = some none := by
      rcases MapKept.findNow_spec (d := .int .i64) (k := .int .i64 p.1.id) rfl ((l.take n).mapIdx oent) 0 (fun x hx => by
        simp only [List.mem_mapIdx] at hx
        obtain ⟨i, _, rfl⟩ := hx
        exact rfl) with ⟨h1, _⟩ | ⟨j, e, _, h2, h3⟩
      · exact h1
      · rw [List.getElem?_mapIdx] at h2
        cases hj : (l.take n)[j]? with
        | none => rw [hj] at h2; cases h2
        | some z =>
          rw [hj] at h2; cases h2
          have hjn : j < n := by
            rcases Nat.lt_or_ge j n with h | h
            · exact h
            · rw [List.getElem?_eq_none (by omega)] at hj; cases hj
          rw [List.getElem?_take_of_lt hjn] at hj
          simp only [oent, Value.int.injEq, true_and, Int.natCast_inj] at h3
          have e1 : lastId l (j + 1) = z.1.id := by simp [lastId, hj]
          have := h.inj (i := j + 1) (j := n + 1) (by omega) (by omega) (by rw [e1, hid, h3])
          omega
    rw [this, List.take_add_one, hp]
    simp [List.mapIdx_append, oent, hlen]

def rent (i : Nat) (p : ByteArray × Nat) : MapEntry := { key := .string p.1, val := .int .i64 p.2, born := i }
def rmm (l : List (ByteArray × Nat)) : Nat → Array MapEntry × Nat
  | 0 => (#[], 0)
  | i + 1 => match l[i]? with
    | some p => mset .string (rmm l i) (.string p.1) (.int .i64 p.2)
    | none => rmm l i
theorem rmm_eq {l : List (ByteArray × Nat)} (h : (l.map (·.1)).Nodup) : ∀ n, n ≤ l.length → rmm l n = (((l.take n).mapIdx rent).toArray, n)
  | 0, _ => rfl
  | n + 1, hn => by
    obtain ⟨p, hp⟩ : ∃ p, l[n]? = some p := ⟨l[n], List.getElem?_eq_getElem (by omega)⟩
    have hlen : (l.take n).length = n := by simp; omega
    rw [rmm, hp]
    simp only
    rw [rmm_eq h n (by omega), mset]
    have : Instr.findNow .string (.string p.1) ((l.take n).mapIdx rent).toArray.toList 0 = some none := by
      rcases MapKept.findNow_spec (d := .string) (k := .string p.1) trivial ((l.take n).mapIdx rent) 0 (fun x hx => by
        simp only [List.mem_mapIdx] at hx
        obtain ⟨i, _, rfl⟩ := hx
        trivial) with ⟨h1, _⟩ | ⟨j, e, _, h2, h3⟩
      · exact h1
      · rw [List.getElem?_mapIdx] at h2
        cases hj : (l.take n)[j]? with
        | none => rw [hj] at h2; cases h2
        | some z =>
          rw [hj] at h2; cases h2
          have hjn : j < n := by
            rcases Nat.lt_or_ge j n with h | h
            · exact h
            · rw [List.getElem?_eq_none (by omega)] at hj; cases hj
          rw [List.getElem?_take_of_lt hjn] at hj
          simp only [rent, Value.string.injEq] at h3
          have := (List.getElem?_inj (l := l.map (·.1)) (i := j) (j := n) (by simp; omega) h).1 (by simp [hj, hp, h3])
          omega
    rw [this, List.take_add_one, hp]
    simp [List.mapIdx_append, rent, hlen]

/-! ### A bench in memory -/
structure BenchAt (w : World) (B : Nat) (lines : Value) (next : Nat) (mo mr : Array MapEntry × Nat) (rb rk rv ro rr : Nat) : Prop where
  bench : w.heap[rb]? = some (.cells #[lines, .pointer (some ⟨rk, 0, none⟩), .map (some ro), .map (some rr), .int .i64 next] 106 (0, 0))
  book : w.heap[rk]? = some (.cells #[lines, .map (some rv)] 145 (0, 0))
  views : w.heap[rv]? = some (.map #[] 0)
  objs : w.heap[ro]? = some (.map mo.1 mo.2)
  roots : w.heap[rr]? = some (.map mr.1 mr.2)
  above : B ≤ rb ∧ B ≤ rk ∧ B ≤ rv ∧ B ≤ ro ∧ B ≤ rr
  apart : rv ≠ ro ∧ rv ≠ rr ∧ ro ≠ rr

end Go.Ev

/- Chains, part P: 'lay'. -/
namespace Go.Ev
open Go.Proofs

theorem HR.rcL {φ : Ren} {nb : Nat} {HB : List (Nat × Blk)} {w : World} (hr : HR φ (hOf nb HB) w) {b r : Nat} (hb : φ b = some r) {l : List V} {e : TypeId} (hl : lkB HB b = .rc l e) :
    ∃ c, w.heap[r]? = some (.cells c e (0, 0)) ∧ VRs φ l (c.toList.take l.length) ∧ c.size = φ.n b ∧ l.length ≤ c.size := by
  obtain ⟨o, h1, h2⟩ := hr.blk b r hb (by rw [hOf_get, hl]; trivial)
  rw [hOf_get, hl] at h2
  obtain ⟨c, rfl, h2, h3, h4⟩ := h2
  exact ⟨c, h1, h2, h4, h3⟩
theorem HR.isSch {φ : Ren} {nb : Nat} {HB : List (Nat × Blk)} {w : World} (hr : HR φ (hOf nb HB) w) (h1 : lkB HB 1 = schL) (h0 : lkB HB 0 = schF) {v : Value} (hv : VR φ (.sl (some (1, 0)) 1 (.kn 1)) v) : IsSch w v := by
  simp only [VR] at hv
  obtain ⟨r1, hr1, _, rfl⟩ := hv
  obtain ⟨c1, g1, v1, z1, _⟩ := hr.rcL hr1 h1
  simp only [VRs, VR] at v1
  obtain ⟨_, _, e1, ⟨rfl, _⟩, _, _, rfl, ⟨r0, hr0, _, rfl⟩, _, _, rfl, ⟨_, rfl⟩, rfl⟩ := v1
  obtain ⟨c0, g0, v0, z0, _⟩ := hr.rcL hr0 h0
  simp only [VRs, VR] at v0
  obtain ⟨_, _, e0, ⟨rfl, _⟩, _, _, rfl, rfl, _, _, rfl, rfl, _, _, rfl, rfl, rfl⟩ := v0
  exact ⟨r1, r0, c1, c0, rfl, g0, g1, e0, e1⟩

theorem lay_ok {n : Nat} {w : World} {lines ov rv : Value} {next : Nat} {l : List (O × Value)} {rs : List (ByteArray × Nat)} (H : GW w lines ov rv next l rs) (hrp : ∀ q ∈ rs, 1 ≤ q.2 ∧ q.2 ≤ 100000) :
    CallsIn (W none) n Tryz.prog 19 #[wV lines ov rv next] w fun e w' => ∃ v, e = .returned v ∧ (∃ ln rb rk rv' ro rr, v = .pointer (some ⟨rb, 0, none⟩) ∧ IsSch w' ln ∧ BenchAt w' w.heap.size ln next (om l l.length) (rmm rs rs.length) rb rk rv' ro rr) ∧ Grown w w' := by
  have hov := H.objs.one
  have hrv := H.roots.one
  let y0 : Sym := mkY [0, l.length, 0, next] [.bool false, ov, rv] [oRow l] []
  obtain ⟨φ1, h1, hy1, v1⟩ := H.sch.add y0
  have hargs : VRs φ1 sur_args [wV lines ov rv next] := by
    refine VRs.cons ?_ VRs.nil
    simp only [VR]
    refine ⟨_, rfl, VRs.cons v1 (VRs.cons ?_ (VRs.cons ?_ (VRs.cons ?_ VRs.nil)))⟩
    · simp only [VR, Ren.q, hy1]; exact ⟨rfl, hov⟩
    · simp only [VR, Ren.q, hy1]; exact ⟨rfl, hrv⟩
    · simp only [VR, Ren.s, hy1]; rfl
  have hst := StAt.enter (nt := 57) h1 rfl (by rw [hy1]; rfl) hargs (by decide)
  refine callIn (fn := Tryz.f19) (c := (Tryz.f19.body).getD .skip) Tryz.func19 rfl (wpIn_flat _ ?_)
  show wpCs none n E0.P _ c19 _ _
  refine StAt.runL (withF_ok E0_ok {}) rfl 3 lay_A hst (FactsOK.bd' ⟨trivial, trivial, trivial, trivial, trivial, trivial, trivial, trivial, trivial⟩) rfl y0 ?_ fun φ a w1 hs hd hg _ n1 n2 n3 n4 => ?_
  · refine Ag.agreeS (o := y0) ⟨⟨rfl, trivial⟩, ⟨⟨rfl, hov⟩, ⟨rfl, hrv⟩, trivial⟩, trivial, trivial⟩ ?_ ?_ ?_ ?_ <;> rw [hy1] <;> rfl
  show wpCs none n E0.P _ (c19.drop 3) a w1
  -- the row is looked into
  obtain ⟨φ2, hs2, hy2⟩ := hs.revealRow (H.objs.kept fun r o h => hg.at_ rfl h) rfl 1 0 (congrFun n2 1) (congrFun n3 0)
  refine StAt.runL (withF_ok E0_ok sur_FB) rfl 1 lay_B hs2 (FactsOK.bd' ?_) hd y0 ?_ fun φ3 a3 w3 hs3 hd3 hg3 _ m1 m2 m3 m4 => ?_
  · refine ⟨trivial, trivial, trivial, ⟨⟨l.length, by decide, ?_, ?_⟩, trivial⟩, trivial, trivial, trivial, trivial, trivial⟩
    · show l.length * 4 = (φ2.y.w 0).length
      rw [hy2, show φ.y.w 0 = oRow l from congrFun n3 0, oRow_len]
    · show φ2.y.s 1 = _
      rw [hy2]; exact congrFun n1 1
  · refine Ag.agreeS (o := y0) ⟨⟨rfl, rfl, rfl, trivial⟩, ⟨⟨rfl, hrv⟩, trivial⟩, ⟨rfl, trivial⟩, trivial⟩ ?_ ?_ ?_ ?_ <;> rw [hy2]
    · exact n1
    · exact n2
    · exact n3
    · exact n4
  show wpCs none n E0.P _ (c19.drop 4) a3 w3
  -- the maps are named
  let Y1 : Nat → Sym := fun i => mkY [i, l.length, 0, next] [.bool false, .bool false, rv] [oRow l] [(#[], 0), om l i, (#[], 0)]
  have empty : ∀ (b : Nat), lkB lay_H0 b = .mp [] 0 → ∀ r es c, φ3 b = some r → w3.heap[r]? = some (.map es c) → ((#[], 0) : Array MapEntry × Nat) = (es, c) := by
    intro b hb r es c hr hes
    obtain ⟨o, h1, h2⟩ := hs3.hr.blk b r hr (by rw [hOf_get, hb]; trivial)
    rw [hOf_get, hb] at h2
    rw [hes] at h1; cases h1
    obtain ⟨el, h1, h2⟩ := h2
    cases h1
    simp only [ERs] at h2
    have : es = #[] := Array.toList_inj.1 h2
    rw [this]
  have hag : Agree lay_TBs φ3 (hOf 9 lay_H0) w3 (Y1 0) := by
    refine mkAgree ⟨(congrFun m1 0).symm, (congrFun m1 1).symm, (congrFun m1 3).symm, trivial⟩ ⟨?_, trivial⟩ ⟨(congrFun m3 0).symm, trivial⟩ ⟨?_, ?_, trivial⟩
    · simp only [VR]; exact ⟨(congrFun m2 2).symm, hrv⟩
    · exact empty 6 rfl
    · exact empty 7 rfl
  obtain ⟨φ4, hs4, k1, k2, k3, k4⟩ := hs3.conv lay_Bs _ hag
  let Inv1 : Nat → Act → World → Prop := fun i a w' => ∃ φ, StAt φ w.heap.size (frOf 57 lay_L1) (hOf 9 lay_H1) a w' ∧ a.defers = [] ∧ GB w.heap.size w w' ∧ Named φ (Y1 i)
  refine for_loop (id := 0) (b := (match c19.drop 4 with | .block _ (.loop b) :: _ => b | _ => .skip)) (rest := c19.drop 5) l.length Inv1 ?_ ?_ ⟨φ4, hs4, hd3, hg.trans hg3, k1, k2, k3, k4⟩
  · rintro i a w' hi ⟨φ, hs, hd, hg, n1, n2, n3, n4⟩
    obtain ⟨p, hp⟩ : ∃ p, l[i]? = some p := ⟨l[i], List.getElem?_eq_getElem hi⟩
    have hid : 1 ≤ p.1.id ∧ p.1.id ≤ 100000 := by have := H.ids i p hp; have := H.nx; omega
    have hp1 := (H.vals p (List.mem_of_getElem? hp)).one
    refine StAt.go E0_ok rfl lay_F1 100 (cs := roundOf (c19.drop 4)) lay_S1 lay_R1 hs hd (mkY [i, l.length, 0, next, p.1.id, i + 1] [.bool false, .bool false, rv, .bool false, .bool false, .bool false, .bool false, p.2] [oRow l] [(#[], 0), om l i, (#[], 0)]) ?_ (fun φ1 hs1 m1 m2 m3 m4 => ?_)
      (mkY [i + 1, l.length, 0, next, p.1.id] [.bool false, .bool false, rv, .bool false, .bool false, .bool false, .bool false, p.2] [oRow l] [(#[], 0), om l i, (#[], 0)]) ?_ fun φ' a' w'' hs' hd' hg' _ k1 k2 k3 k4 => ?_
    · exact ⟨⟨(congrFun n1 0).symm, (congrFun n1 1).symm, (congrFun n1 3).symm, trivial⟩, ⟨⟨(congrFun n2 2).symm, hrv⟩, trivial⟩, ⟨(congrFun n3 0).symm, trivial⟩, ⟨(congrFun n4 1).symm, (congrFun n4 2).symm, trivial⟩⟩
    · have s0 : φ1.y.s 0 = i := congrFun m1 0
      have s1 : φ1.y.s 1 = l.length := congrFun m1 1
      have s4 : φ1.y.s 4 = p.1.id := congrFun m1 4
      have s5 : φ1.y.s 5 = i + 1 := congrFun m1 5
      have hln := H.ln
      refine ⟨⟨⟨?_, ?_⟩, trivial⟩, ⟨?_, ?_, trivial⟩, trivial, trivial, ⟨⟨by decide, rfl, i, s0, ?_, ?_⟩, trivial⟩, trivial, trivial, trivial, trivial⟩
      · show (1 : Int) ≤ _; simp only [Ren.s, s4]; omega
      · show _ ≤ (100000 : Int); simp only [Ren.s, s4]; omega
      · exact .lss (k := .i64) (x := i) (y := l.length) (by simp only [ival, s0]) (by simp only [ival, s1]) (by simp; omega)
      · exact .add (k := .i64) (x := i) (y := 1) (by simp only [ival, s0]) rfl (by simp only [ival, s5]) (i64_in (by omega))
      · show (i + 1) * 4 ≤ (φ1.w 0).length
        rw [show φ1.w 0 = oRow l from congrFun m3 0, oRow_len]; omega
      · show VRs φ1 [.y .i64 4, .i .i64 0, .i .i64 0, .q 7] (((φ1.w 0).drop (i * 4)).take 4)
        rw [show φ1.w 0 = oRow l from congrFun m3 0, oRow_at hp]
        refine VRs.cons ?_ (VRs.cons vI (VRs.cons vI (VRs.cons ?_ VRs.nil)))
        · simp only [VR, Ren.s, s4]
        · simp only [VR]; exact ⟨(congrFun m2 7).symm, hp1⟩
    · exact ⟨⟨rfl, rfl, rfl, rfl, trivial⟩, ⟨⟨rfl, hrv⟩, ⟨rfl, hp1⟩, trivial⟩, ⟨rfl, trivial⟩, ⟨rfl, rfl, trivial⟩⟩
    · have hag : Agree lay_TC φ' (hOf 9 lay_G1) w'' (Y1 (i + 1)) := by
        refine mkAgree ⟨?_, (congrFun k1 1).symm, (congrFun k1 3).symm, trivial⟩ ⟨?_, trivial⟩ ⟨(congrFun k3 0).symm, trivial⟩ ⟨?_, (congrFun k4 2).symm, trivial⟩
        · show ((i + 1 : Nat) : Int) = φ'.s 0
          have : φ'.s 0 = (i : Int) + 1 := congrFun k1 0
          rw [this]; omega
        · simp only [VR]; exact ⟨(congrFun k2 2).symm, hrv⟩
        · intro r es m hr hes
          obtain ⟨es', c', g7, mu, _⟩ := hs'.hr.smpL hr (x := 1) (d := .int .i64) (us := [(.y .i64 4, some (.a [.y .i64 4, .i .i64 0, .i .i64 0, .q 7]))]) rfl
          rw [hes] at g7; cases g7
          simp only [MU, VR, VRs] at mu
          obtain ⟨_, _, rfl, ⟨cs, rfl, _, _, e1, rfl, _, _, rfl, rfl, _, _, rfl, rfl, _, _, rfl, ⟨rfl, _⟩, rfl⟩, _, mu⟩ := mu
          rw [mu]
          have g1 : φ'.g 1 = om l i := congrFun k4 1
          have e4 : φ'.s 4 = p.1.id := congrFun k1 4
          have e7 : φ'.q 7 = p.2 := congrFun k2 7
          rw [e4, e7] at e1
          rw [g1, e4]
          show om l (i + 1) = _
          rw [om]
          have : cs = (oCells p).toArray := Array.toList_inj.1 (by rw [e1]; rfl)
          rw [this]
          simp [lastId, hp, oAgg]
      obtain ⟨φ2, hs2, j1, j2, j3, j4⟩ := hs'.conv lay_C _ hag
      exact ⟨rfl, φ2, hs2, hd', hg.trans hg', j1, j2, j3, j4⟩
  · rintro a w' ⟨φ, hs, hd, hg, n1, n2, n3, n4⟩
    let Z : Sym := mkY [0, rs.length, 0, next] [.bool false, .bool false, rv] [[], [], [], rRow rs] [(#[], 0), om l l.length, (#[], 0)]
    refine StAt.go E0_ok rfl sur_FE 100 (cs := roundOf (c19.drop 4)) lay_S1 lay_E hs hd (Y1 l.length) ?_ (fun φ1 hs1 m1 m2 m3 m4 => ?_) Z ?_ fun φ' a' w'' hs' hd' hg' hk k1 k2 k3 k4 => ⟨rfl, ?_⟩
    · exact ⟨⟨(congrFun n1 0).symm, (congrFun n1 1).symm, (congrFun n1 3).symm, trivial⟩, ⟨⟨(congrFun n2 2).symm, hrv⟩, trivial⟩, ⟨(congrFun n3 0).symm, trivial⟩, ⟨(congrFun n4 1).symm, (congrFun n4 2).symm, trivial⟩⟩
    · have s0 : φ1.y.s 0 = l.length := congrFun m1 0
      have s1 : φ1.y.s 1 = l.length := congrFun m1 1
      exact ⟨trivial, ⟨.lss (k := .i64) (x := l.length) (y := l.length) (by simp only [ival, s0]) (by simp only [ival, s1]) (by simp), trivial⟩, trivial, trivial, trivial, trivial, trivial, trivial, trivial⟩
    · exact ⟨⟨rfl, trivial⟩, ⟨⟨rfl, hrv⟩, trivial⟩, trivial, ⟨rfl, rfl, trivial⟩⟩
    -- the roots' row is looked into
    have hg' := hg.trans hg'
    obtain ⟨φ2, hs2, hy2⟩ := hs'.revealRow (H.roots.kept fun r o h => hg'.at_ rfl h) rfl 2 3 (congrFun k2 2) (congrFun k3 3)
    let Y2 : Nat → Sym := fun i => mkY [i, rs.length, 0, next] [] [[], [], [], rRow rs] [(#[], 0), om l l.length, rmm rs i]
    refine StAt.runL (withF_ok E0_ok lay_FF) rfl 1 (cs := c19.drop 5) lay_F hs2 (FactsOK.bd' ?_) hd' (Y2 0) ?_ fun φ3 a3 w3 hs3 hd3 hg3 _ m1 m2 m3 m4 => ?_
    · refine ⟨trivial, trivial, trivial, ⟨⟨rs.length, by decide, ?_, ?_⟩, trivial⟩, trivial, trivial, trivial, trivial, trivial⟩
      · show rs.length * 2 = (φ2.y.w 3).length
        rw [hy2, show φ'.y.w 3 = rRow rs from congrFun k3 3, rRow_len]
      · show φ2.y.s 1 = _
        rw [hy2]; exact congrFun k1 1
    · refine Ag.agreeS (o := Z) ⟨⟨rfl, rfl, rfl, trivial⟩, trivial, ⟨rfl, trivial⟩, ⟨rfl, rfl, trivial⟩⟩ ?_ ?_ ?_ ?_ <;> rw [hy2]
      · exact k1
      · exact k2
      · exact k3
      · exact k4
    show wpCs none n E0.P _ (c19.drop 6) a3 w3
    have hg3' := hg'.trans hg3
    let Inv2 : Nat → Act → World → Prop := fun i a w' => ∃ φ, StAt φ w.heap.size (frOf 57 lay_L2) (hOf 9 lay_H2) a w' ∧ a.defers = [] ∧ GB w.heap.size w w' ∧ Named φ (Y2 i)
    refine for_loop (id := 2) (b := (match c19.drop 6 with | .block _ (.loop b) :: _ => b | _ => .skip)) (rest := c19.drop 7) rs.length Inv2 ?_ ?_ ⟨φ3, hs3, hd3, hg3', m1, m2, m3, m4⟩
    · rintro i a w' hi ⟨φ, hs, hd, hg, n1, n2, n3, n4⟩
      obtain ⟨p, hp⟩ : ∃ p, rs[i]? = some p := ⟨rs[i], List.getElem?_eq_getElem hi⟩
      have hid := hrp p (List.mem_of_getElem? hp)
      refine StAt.go E0_ok rfl lay_F2 100 (cs := roundOf (c19.drop 6)) lay_S2 lay_R2 hs hd (mkY [i, rs.length, 0, next, 0, i + 1, p.2] [.bool false, .bool false, .bool false, .bool false, .string p.1] [[], [], [], rRow rs] [(#[], 0), om l l.length, rmm rs i]) ?_ (fun φ1 hs1 m1 m2 m3 m4 => ?_)
        (mkY [i + 1, rs.length, 0, next, 0, 0, p.2] [.bool false, .bool false, .bool false, .bool false, .string p.1] [[], [], [], rRow rs] [(#[], 0), om l l.length, rmm rs i]) ?_ fun φ' a' w'' hs' hd' hg' _ k1 k2 k3 k4 => ?_
      · exact ⟨⟨(congrFun n1 0).symm, (congrFun n1 1).symm, (congrFun n1 3).symm, trivial⟩, trivial, ⟨(congrFun n3 3).symm, trivial⟩, ⟨(congrFun n4 1).symm, (congrFun n4 2).symm, trivial⟩⟩
      · have s0 : φ1.y.s 0 = i := congrFun m1 0
        have s1 : φ1.y.s 1 = rs.length := congrFun m1 1
        have s5 : φ1.y.s 5 = i + 1 := congrFun m1 5
        have s6 : φ1.y.s 6 = p.2 := congrFun m1 6
        have hrl := H.rl
        refine ⟨⟨⟨?_, ?_⟩, trivial⟩, ⟨?_, ?_, trivial⟩, trivial, trivial, ⟨⟨by decide, rfl, i, s0, ?_, ?_⟩, trivial⟩, ⟨⟨p.1, congrFun m2 4⟩, trivial⟩, trivial, trivial, trivial⟩
        · show (1 : Int) ≤ _; simp only [Ren.s, s6]; omega
        · show _ ≤ (100000 : Int); simp only [Ren.s, s6]; omega
        · exact .lss (k := .i64) (x := i) (y := rs.length) (by simp only [ival, s0]) (by simp only [ival, s1]) (by simp; omega)
        · exact .add (k := .i64) (x := i) (y := 1) (by simp only [ival, s0]) rfl (by simp only [ival, s5]) (i64_in (by omega))
        · show (i + 1) * 2 ≤ (φ1.w 3).length
          rw [show φ1.w 3 = rRow rs from congrFun m3 3, rRow_len]; omega
        · show VRs φ1 [.q 4, .y .i64 6] (((φ1.w 3).drop (i * 2)).take 2)
          rw [show φ1.w 3 = rRow rs from congrFun m3 3, rRow_at hp]
          refine VRs.cons ?_ (VRs.cons ?_ VRs.nil)
          · simp only [VR]; exact ⟨(congrFun m2 4).symm, rfl⟩
          · simp only [VR, Ren.s, s6]
      · exact ⟨⟨rfl, rfl, rfl, rfl, trivial⟩, ⟨⟨rfl, rfl⟩, trivial⟩, ⟨rfl, trivial⟩, ⟨rfl, rfl, trivial⟩⟩
      · have hag : Agree lay_TC2 φ' (hOf 9 lay_G2) w'' (Y2 (i + 1)) := by
          refine mkAgree ⟨?_, (congrFun k1 1).symm, (congrFun k1 3).symm, trivial⟩ trivial ⟨(congrFun k3 3).symm, trivial⟩ ⟨(congrFun k4 1).symm, ?_, trivial⟩
          · show ((i + 1 : Nat) : Int) = φ'.s 0
            have : φ'.s 0 = (i : Int) + 1 := congrFun k1 0
            rw [this]; omega
          · intro r es m hr hes
            obtain ⟨es', c', g7, mu, _⟩ := hs'.hr.smpL hr (x := 2) (d := .string) (us := [(.q 4, some (.y .i64 6))]) rfl
            rw [hes] at g7; cases g7
            simp only [MU, VR] at mu
            obtain ⟨_, _, ⟨rfl, _⟩, rfl, _, mu⟩ := mu
            rw [mu]
            have g2 : φ'.g 2 = rmm rs i := congrFun k4 2
            have e6 : φ'.s 6 = p.2 := congrFun k1 6
            have e4 : φ'.q 4 = .string p.1 := congrFun k2 4
            rw [g2, e6, e4]
            show rmm rs (i + 1) = _
            rw [rmm, hp]
        obtain ⟨φ2, hs2, j1, j2, j3, j4⟩ := hs'.conv lay_C2 _ hag
        exact ⟨rfl, φ2, hs2, hd', hg.trans hg', j1, j2, j3, j4⟩
    · rintro a w' ⟨φ, hs, hd, hg, n1, n2, n3, n4⟩
      refine StAt.go E0_ok rfl sur_FE 100 (cs := roundOf (c19.drop 6)) lay_S2 lay_E2 hs hd (Y2 rs.length) ?_ (fun φ1 hs1 m1 m2 m3 m4 => ?_) (Y2 rs.length) ?_ fun φ' a' w'' hs' hd' hg' hk k1 k2 k3 k4 => ⟨rfl, ?_⟩
      · exact ⟨⟨(congrFun n1 0).symm, (congrFun n1 1).symm, (congrFun n1 3).symm, trivial⟩, trivial, ⟨(congrFun n3 3).symm, trivial⟩, ⟨(congrFun n4 1).symm, (congrFun n4 2).symm, trivial⟩⟩
      · have s0 : φ1.y.s 0 = rs.length := congrFun m1 0
        have s1 : φ1.y.s 1 = rs.length := congrFun m1 1
        exact ⟨trivial, ⟨.lss (k := .i64) (x := rs.length) (y := rs.length) (by simp only [ival, s0]) (by simp only [ival, s1]) (by simp), trivial⟩, trivial, trivial, trivial, trivial, trivial, trivial, trivial⟩
      · exact ⟨⟨rfl, trivial⟩, trivial, trivial, ⟨rfl, rfl, trivial⟩⟩
      refine StAt.runL (withF_ok E0_ok {}) rfl 2 (cs := c19.drop 7) lay_X hs' (FactsOK.bd' ⟨trivial, trivial, trivial, trivial, trivial, trivial, trivial, trivial, trivial⟩) hd' (Y2 rs.length) ?_ fun φ6 a6 w6 hs6 hd6 hg6 hk6 i1 i2 i3 i4 => ?_
      · exact Ag.agreeS (o := Y2 rs.length) ⟨⟨rfl, trivial⟩, trivial, trivial, ⟨rfl, rfl, trivial⟩⟩ k1 k2 k3 k4
      refine ⟨.inl rfl, hd6, ?_⟩
      obtain ⟨v, hv1, hv2⟩ := hs6.leave E0_ok (fn := Tryz.f19) (l := [.p (some (3, 0))]) rfl
      have hgg := (hg.trans hg').trans hg6
      refine ⟨v, hv1, v, rfl, ?_, hgg.grown⟩
      simp only [aRets, VR] at hv2
      obtain ⟨rb, hb, rfl⟩ := hv2
      obtain ⟨c3, g3, v3, _, z3, _⟩ := hs6.hr.cellsL hb (l := [.sl (some (1, 0)) 1 (.kn 1), .p (some (4, 0)), .m (some 6), .m (some 7), .y .i64 3]) rfl
      have z3 := z3 rfl
      rw [List.take_of_length_le (by rw [Array.length_toList, z3]; exact Nat.le_refl _)] at v3
      simp only [VRs] at v3
      obtain ⟨lv, _, e3, hlv, kv, _, rfl, hkv, ov', _, rfl, hov', rv', _, rfl, hrv', nv, _, rfl, hnv, rfl⟩ := v3
      simp only [VR] at hkv hov' hrv' hnv
      obtain ⟨rk, hk4, rfl⟩ := hkv
      obtain ⟨ro, ho6, rfl⟩ := hov'
      obtain ⟨rr, hr7, rfl⟩ := hrv'
      obtain ⟨c4, g4, v4, _, z4, _⟩ := hs6.hr.cellsL hk4 (l := [.sl (some (1, 0)) 1 (.kn 1), .m (some 5)]) rfl
      have z4 := z4 rfl
      rw [List.take_of_length_le (by rw [Array.length_toList, z4]; exact Nat.le_refl _)] at v4
      simp only [VRs] at v4
      obtain ⟨lv', _, e4, hlv', vv, _, rfl, hvv, rfl⟩ := v4
      simp only [VR] at hvv
      obtain ⟨rw', hv5, rfl⟩ := hvv
      have hlines : lv' = lv := detV_ok rfl hlv' hlv
      subst hlines
      have hsch : IsSch w6 lv' := hs6.hr.isSch rfl rfl hlv
      have hs3 : φ6.s 3 = next := congrFun i1 3
      rw [hs3] at hnv
      subst hnv
      have hc3 : c3 = _ := Array.toList_inj.1 (e3.trans (by rfl : _ = (#[lv', .pointer (some ⟨rk, 0, none⟩), .map (some ro), .map (some rr), .int .i64 next] : Array Value).toList))
      have hc4 : c4 = _ := Array.toList_inj.1 (e4.trans (by rfl : _ = (#[lv', .map (some rw')] : Array Value).toList))
      subst hc3; subst hc4
      obtain ⟨es6, n6, g6, mu6, _⟩ := hs6.hr.smpL ho6 (x := 1) (d := .int .i64) (us := []) rfl
      obtain ⟨es7, n7, g7, mu7, _⟩ := hs6.hr.smpL hr7 (x := 2) (d := .string) (us := []) rfl
      simp only [MU] at mu6 mu7
      have q6 : φ6.g 1 = om l l.length := congrFun i4 1
      have q7 : φ6.g 2 = rmm rs rs.length := congrFun i4 2
      obtain ⟨o5, g5, b5⟩ := hs6.hr.blk 5 rw' hv5 (by rw [hOf_get]; trivial)
      rw [hOf_get] at b5
      obtain ⟨es5, rfl, er5⟩ := b5
      simp only [ERs] at er5
      have e5 : es5 = #[] := Array.toList_inj.1 er5
      subst e5
      have loc := fun b r e h => hs6.loc b r e h
      refine ⟨_, rb, rk, rw', ro, rr, rfl, hsch, ⟨g3, g4, g5, ?_, ?_, ⟨hs6.loc 3 _ hb (by rw [hOf_get]; trivial), hs6.loc 4 _ hk4 (by rw [hOf_get]; trivial), hs6.loc 5 _ hv5 (by rw [hOf_get]; trivial), hs6.loc 6 _ ho6 (by rw [hOf_get]; trivial), hs6.loc 7 _ hr7 (by rw [hOf_get]; trivial)⟩, ⟨?_, ?_, ?_⟩⟩⟩
      · rw [g6, ← q6, ← mu6]
      · rw [g7, ← q7, ← mu7]
      · rintro rfl
        have := hs6.hr.inj 5 6 _ hv5 ho6 (by rw [hOf_get]; trivial) (by rw [hOf_get]; trivial)
        omega
      · rintro rfl
        have := hs6.hr.inj 5 7 _ hv5 hr7 (by rw [hOf_get]; trivial) (by rw [hOf_get]; trivial)
        omega
      · rintro rfl
        have := hs6.hr.inj 6 7 _ ho6 hr7 (by rw [hOf_get]; trivial) (by rw [hOf_get]; trivial)
        omega

end Go.Ev
