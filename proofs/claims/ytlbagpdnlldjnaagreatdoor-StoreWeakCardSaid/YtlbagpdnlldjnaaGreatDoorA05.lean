/- The abstract machine, part L: regions, code, calls, ranges over functions; and what it tells is so. -/
import Derived.Test.YtlbagpdnlldjnaaGreatDoorA04
import Derived.LoopNIn
import Derived.RangeFuncLeaves
import Derived.OrdersIn
set_option linter.all false
namespace Go.Ev
noncomputable section
inductive X where
 | n
 | e (id : Nat)
 | r
def X.exit : X → Exit
 | .n => .normal
 | .e id => .exit id
 | .r => .ret
def DR (D : List Deferred) (φ : Ren) : List Nat → List Deferred → Prop
 | [], l => l = D
 | b :: bs, l => ∃ r ds, l = { target := .collected r, args := #[] } :: ds ∧ φ b = some r ∧ DR D φ bs ds
theorem DR.mono {D : List Deferred} {φ φ' : Ren} (h : Le φ φ') : ∀ {bs : List Nat} {l : List Deferred}, DR D φ bs l → DR D φ' bs l
 | [], _, e => by simpa [DR] using e
 | b :: bs, l, e => by
  simp only [DR] at e ⊢
  obtain ⟨r, ds, rfl, h1, h2⟩ := e
  exact ⟨r, ds, rfl, (h b r h1).1, DR.mono h h2⟩
def RO (φ : Ren) : Option Nat → Option Nat → Prop
 | none, y => y = none
 | some l, y => ∃ r, y = some r ∧ φ l = some r
theorem RO.mono {φ φ' : Ren} (h : Le φ φ') {x y : Option Nat} (hr : RO φ x y) : RO φ' x y := by
 cases x with
 | none => exact hr
 | some l => obtain ⟨r, h1, h2⟩ := hr; exact ⟨r, h1, (h _ _ h2).1⟩
def agS (ops : Array Oper) (fr : Fr) (p : Nat × Bool) : Option Bool :=
 match (ops[p.1]?).bind (·.dst) with
 | some t =>
  match fr.get t with
  | .b x => some (x == p.2)
  | .t _ => some false
  | _ => none
 | none => none
def aguard (ops : Array Oper) (fr : Fr) (o : Oper) : Option Bool := @Option.rec _ (fun _ => Option Bool) (some true) (agS ops fr) o.guard
theorem aguard_eq (ops : Array Oper) (fr : Fr) (o : Oper) : aguard ops fr o =
  match o.guard with
  | none => some true
  | some (j, want) =>
   match (ops[j]?).bind (·.dst) with
   | some t =>
    match fr.get t with
    | .b x => some (x == want)
    | .t _ => some false
    | _ => none
   | none => none := by
 unfold aguard
 cases o.guard with
 | none => rfl
 | some p => obtain ⟨j, w⟩ := p; rfl
theorem aguard_ok {φ : Ren} {ops : Array Oper} {fr : Fr} {tmps : Array Value} (hf : FR φ fr tmps) {o : Oper} {b : Bool} (h : aguard ops fr o = some b) : Region.wanted o (yielded ops tmps) = b := by
 rw [aguard_eq] at h
 unfold Region.wanted
 split at h
 ·rename_i e
  simp only [Option.some.injEq] at h
  simp [e, h]
 ·rename_i j want e
  simp only [e]
  split at h
  ·rename_i t ht
   have hv := hf.2 t
   have hget : ∀ v, tmps.getD t undef = v → v ≠ undef → tmps[t]? = some v := fun v hv hne => by
    rw [Array.getD_eq_getD_getElem?] at hv
    cases hg : tmps[t]? with
    | none => rw [hg] at hv; simp at hv; exact absurd hv.symm hne
    | some u => rw [hg] at hv; simp at hv; rw [hv]
   split at h
   ·rename_i x hx
    rw [hx] at hv; simp only [VR] at hv
    simp only [Option.some.injEq] at h
    have := hget _ hv (by simp [undef])
    simp only [yielded, ht, Option.bind_some, this]
    rw [← h]
    cases x <;> cases want <;> rfl
   ·rename_i vs hx
    rw [hx] at hv; simp only [VR] at hv
    obtain ⟨vs', hv, _⟩ := hv
    simp only [Option.some.injEq] at h
    have hy : yielded ops tmps j = none := by
     simp only [yielded, ht, Option.bind_some]
     rw [Array.getD_eq_getD_getElem?] at hv
     cases hg : tmps[t]? with
     | none => rfl
     | some u =>
      rw [hg] at hv; simp at hv
      subst hv; rfl
    rw [hy, ← h]; rfl
   ·cases h
  ·cases h
abbrev CallT := Nat → List V → H → Option (V × H)
def aBuiltin0 (E : Env) (b : Builtin) (ts : List TypeId) (args : List V) (h : H) : Option (V × H) :=
 match b, ts, args with
 | .append, [t, tx], [s, x] =>
  match aAppend E t tx s x h with
  | some r => some r
  | none => aAppendB E t tx s x h
 | .delete, [t, _], [x, k] => aDelete E t x k h
 | .copy, [t, tx], [s, x] => aCopy E t tx s x h
 | .clear, [t], [s] => aClear E t s h
 | .len, [t], [x] =>
  match E.tt t, x with
  | some (_, .string), .s l => some (.i .i64 (.ofNat l.length), h)
  | some (_, .slice _), .sl none 0 _ => some (.i .i64 0, h)
  | some (_, .slice _), .sl (some _) n _ => some (.i .i64 (.ofNat n), h)
  | some (_, .slice _), .es => some (.i .i64 0, h)
  | some (_, .array n _), _ => some (.i .i64 (.ofNat n), h)
  | some (_, .map _ _), .m none => some (.i .i64 0, h)
  | some (_, .map _ _), .m (some b) =>
   match h.get b with
   | .mp es _ => some (.i .i64 (.ofNat es.length), h)
   | _ => none
  | _, _ => none
 | .max, _, [.i k x, .i k' y] => cond (decide (k = k')) (some (.i k (cond (iLt x y) y x), h)) none
 | .min, _, [.i k x, .i k' y] => cond (decide (k = k')) (some (.i k (cond (iLt y x) y x), h)) none
 | _, _, _ => none
def aLenQ (E : Env) (t : TypeId) (z : Nat) (h : H) : Option (V × H) :=
 match E.tt t with
 | some (_, .string) =>
  match E.xt.ql z with
  | some y => some (.y .i64 y, h)
  | none => none
 | some (_, .slice _) =>
  match E.xt.on z with
  | some y => some (.y .i64 y, h)
  | none => none
 | _ => none
theorem aLenQ_ok {E : Env} (hE : E.OK) {φ : Ren} (hbd : BD E φ) {h : H} {w : World} (hr : HR φ h w) (t : TypeId) (ty : TypeId) (cs : Array Bool) {z : Nat} {v : Value} (hx : VR φ (.q z) v) :
  Yields E.P φ w (builtin .len #[t] ty cs #[v]) (aLenQ E t z h) := by
 unfold aLenQ
 simp only [VR] at hx
 obtain ⟨rfl, _⟩ := hx
 split
 ·rename_i i ht
  obtain ⟨_, hu⟩ := hE.ty _ _ _ ht
  split
  ·rename_i y hy
   obtain ⟨s, s1, s2⟩ := hbd.here.xt.ql _ _ hy
   rw [show φ.q z = .string s from s1]
   exact Yields.pure hr (v := .int .i64 (s.size : Int)) (by simp [builtin, Builtin.len_, run_underlying hu, goInt]) (by simp only [VR, s2])
  ·exact Yields.none
 ·rename_i i e ht
  obtain ⟨_, hu⟩ := hE.ty _ _ _ ht
  split
  ·rename_i y hy
   obtain ⟨a, n, cap, s1, s2⟩ := hbd.here.xt.on _ _ hy
   rw [show φ.q z = .slice a n cap from s1]
   exact Yields.pure hr (v := .int .i64 (n : Int)) (by simp [builtin, Builtin.len_, run_underlying hu, goInt]) (by simp only [VR, s2])
  ·exact Yields.none
 ·exact Yields.none
def nmEq : V → V → Bool
 | .y k x, .y k' x' => decide (k = k') && Nat.beq x x'
 | .i k n, .i k' n' => decide (k = k') && decide (n = n')
 | _, _ => false
theorem nmEq_det {φ : Ren} {r a : V} (h : nmEq r a = true) {k : IntKind} {p q : Int} (h1 : VR φ a (.int k p)) (h2 : VR φ r (.int k q)) : p = q := by
 cases r <;> cases a <;> simp only [nmEq, Bool.and_eq_true, decide_eq_true_eq] at h <;> first | (cases h; done) | skip
 ·obtain ⟨h3, h4⟩ := h
  subst h3; subst h4
  simp only [VR, Value.int.injEq] at h1 h2
  omega
 ·obtain ⟨h3, h4⟩ := h
  subst h3
  have := Nat.eq_of_beq_eq_true h4
  subst this
  simp only [VR, Value.int.injEq] at h1 h2
  omega
def aBuiltin (E : Env) (b : Builtin) (ts : List TypeId) (args : List V) (h : H) : Option (V × H) :=
 match b, ts, args with
 | .len, [t], [.q z] => aLenQ E t z h
 | .len, [t], [.sr _ x k sz] =>
  match E.tt t, E.rl x k with
  | some (_, .slice _), some y => cond (Nat.beq sz (E.rz x)) (some (.y .i64 y, h)) none
  | _, _ => none
 | .len, [t], [.m (some b)] =>
  match h.get b with
  | .smp x _ ups =>
   match E.tt t, ups, E.ml x with
   | some (_, .map _ _), [], some v => some (v, h)
   | _, _, _ => none
  | _ => aBuiltin0 E .len [t] [.m (some b)] h
 | .max, ts, [a, b] =>
  match E.mx a b with
  | some r => some (r, h)
  | none => aBuiltin0 E .max ts [a, b] h
 | .min, ts, [a, b] =>
  match E.mx a b with
  | some r => cond (nmEq r a) (some (b, h)) (cond (nmEq r b) (some (a, h)) none)
  | none => aBuiltin0 E .min ts [a, b] h
 | b, ts, args => aBuiltin0 E b ts args h
def aInv (E : Env) (call : CallT) (x : V) (name : String) (args : List V) (h : H) : Option (V × H) :=
 match x with
 | .ifc t v =>
  match E.iv t name with
  | some (f, none) => call f (v :: args) h
  | some (f, some e) =>
   match v with
   | .p (some _) =>
    match aLoad E e v h with
    | some (u, h') => call f (u :: args) h'
    | none => none
   | _ => none
  | none => none
 | _ => none
def astep (E : Env) (call yld : CallT) (fr : Fr) (o : Op) (h : H) : Option (V × H) :=
 match o with
 | .call c =>
  match c.callee with
  | .builtin b => aBuiltin E b c.argTypes.toList (c.args.toList.map (ev E.ng fr)) h
  | .value f =>
   match ev E.ng fr f with
   | .f g first caps => call g (first ++ c.args.toList.map (ev E.ng fr) ++ caps) h
   | .yl l => yld l (c.args.toList.map (ev E.ng fr)) h
   | _ => none
  | .invoke f name => aInv E call (ev E.ng fr f) name (c.args.toList.map (ev E.ng fr)) h
 | .defer _ => none
 | o => aop E fr o h
section
variable (E : Env) (fr : Fr) (h : H)
def sMove (x : Operand) : Option (V × H) := some (ev E.ng fr x, h)
def sPick (c a b : Operand) : Option (V × H) := match ev E.ng fr c with | .b true => some (ev E.ng fr a, h) | .b false => some (ev E.ng fr b, h) | _ => none
def sAlloc (t : TypeId) : Option (V × H) := aAlloc E t h
def sBox (t : TypeId) (x : Operand) : Option (V × H) := aBox t (ev E.ng fr x) h
def sBuild (t : TypeId) (ps : Array (Nat × Operand)) : Option (V × H) := aBuild E t (aParts E.ng fr ps.toList) h
def sBuildS (t : TypeId) (n : Nat) (ps : Array (Nat × Operand)) : Option (V × H) := aBuildSlice E t n (aParts E.ng fr ps.toList) h
def sLoad (t : TypeId) (a : Operand) : Option (V × H) := aLoad E t (ev E.ng fr a) h
def sStore (t : TypeId) (a x : Operand) : Option (V × H) := aStore E t (ev E.ng fr a) (ev E.ng fr x) h
def sNil (x : Operand) : Option (V × H) := match aNil (ev E.ng fr x) with | some y => some (y, h) | none => none
def sBin (op : BinOp) (t : TypeId) (x y : Operand) (_ : TypeId) : Option (V × H) := match aBinC E op t x y (ev E.ng fr x) (ev E.ng fr y) with | some r => some (r, h) | none => none
def sUn (op : UnOp) (_ : TypeId) (x : Operand) : Option (V × H) := match aUn op (ev E.ng fr x) with | some r => some (r, h) | none => none
def sConv (s d : TypeId) (x : Operand) : Option (V × H) :=
 match aConv E s d (ev E.ng fr x) with
 | some r => some (r, h)
 | none =>
  match aBytes E s d (ev E.ng fr x) h with
  | some r => some (r, h)
  | none => aStrB E s d (ev E.ng fr x) h
def sMkI (t : TypeId) (x : Operand) : Option (V × H) :=
 match E.tt t with
 | some (_, d) => cond (concreteD d) (some (.ifc t (ev E.ng fr x), h)) none
 | none => none
def sMkF (fn : Fn) (first caps : Array Operand) : Option (V × H) := match fn with | .func f => some (.f f (first.toList.map (ev E.ng fr)) (caps.toList.map (ev E.ng fr)), h) | _ => none
def sSlice (t : TypeId) (x : Operand) (lo hi mx : Option Operand) : Option (V × H) := match mx with | none => aSlice E t (ev E.ng fr x) (lo.map (ev E.ng fr)) (hi.map (ev E.ng fr)) h | some _ => none
def sFA (t : TypeId) (x : Operand) (f : Nat) : Option (V × H) := aFieldAddr E t (ev E.ng fr x) f h
def sF (t : TypeId) (x : Operand) (f : Nat) : Option (V × H) := aField E t (ev E.ng fr x) f h
def sIA (t : TypeId) (x i : Operand) : Option (V × H) := aIndexAddr E t (ev E.ng fr x) (ev E.ng fr i) h
def sI (t : TypeId) (x i : Operand) : Option (V × H) := aIndex E t (ev E.ng fr x) (ev E.ng fr i) h
def sMkM (t : TypeId) (r : Option Operand) : Option (V × H) := aMakeMap E t (r.map (ev E.ng fr)) h
def sMkS (t : TypeId) (l c : Operand) : Option (V × H) := aMakeSlice E t (ev E.ng fr l) (ev E.ng fr c) h
def sLk (t : TypeId) (x k : Operand) (ok : Bool) : Option (V × H) := aLookup E t (ev E.ng fr x) (ev E.ng fr k) ok h
def sMU (t : TypeId) (m k x : Operand) : Option (V × H) := aMapUpdate E t (ev E.ng fr m) (ev E.ng fr k) (ev E.ng fr x) h
def sExt (x : Operand) (i : Nat) : Option (V × H) :=
 match ev E.ng fr x with
 | .t vs =>
  match vs[i]? with
  | some y => some (y, h)
  | none => none
 | _ => none
def sTA (x : Operand) (u : TypeId) (ok : Bool) : Option (V × H) := match aTA E u ok (ev E.ng fr x) with | some r => some (r, h) | none => none
def sRng (t : TypeId) (x : Operand) : Option (V × H) := aRngS E t (ev E.ng fr x) h
def sEnt (it : Operand) : Option (V × H) := aEnt (ev E.ng fr it) h
def sNxt (it : Operand) (b : Bool) : Option (V × H) := match b with | true => aNxtS (ev E.ng fr it) h | false => none
def sCall (call yld : CallT) (c : Call) : Option (V × H) :=
 match c.callee with
 | .builtin b => aBuiltin E b c.argTypes.toList (c.args.toList.map (ev E.ng fr)) h
 | .value f =>
  match ev E.ng fr f with
  | .f g first caps => call g (first ++ c.args.toList.map (ev E.ng fr) ++ caps) h
  | .yl l => yld l (c.args.toList.map (ev E.ng fr)) h
  | _ => none
 | .invoke f name => aInv E call (ev E.ng fr f) name (c.args.toList.map (ev E.ng fr)) h
end
structure OpW where
 f : Env → Fr → H → CallT → CallT → Option (V × H)
def opN : OpW := ⟨fun _ _ _ _ _ => none⟩
def opW (o : Op) : OpW := @Op.rec (fun _ => OpW) (fun x => ⟨fun E fr h _ _ => sMove E fr h x⟩) (fun x => ⟨fun E fr h _ _ => sMove E fr h x⟩) (fun c a b => ⟨fun E fr h _ _ => sPick E fr h c a b⟩) (fun t => ⟨fun E _ h _ _ => sAlloc E h t⟩) (fun t x => ⟨fun E fr h _ _ => sBox E fr h t x⟩) (fun t ps => ⟨fun E fr h _ _ => sBuild E fr h t ps⟩) (fun t n ps => ⟨fun E fr h _ _ => sBuildS E fr h t n ps⟩) (fun t m k x => ⟨fun E fr h _ _ => sMU E fr h t m k x⟩) (fun t a => ⟨fun E fr h _ _ => sLoad E fr h t a⟩) (fun t a x => ⟨fun E fr h _ _ => sStore E fr h t a x⟩) (fun _ => opN) (fun _ => opN) (fun x => ⟨fun E fr h _ _ => sNil E fr h x⟩) (fun op t x y u => ⟨fun E fr h _ _ => sBin E fr h op t x y u⟩) (fun op t x => ⟨fun E fr h _ _ => sUn E fr h op t x⟩) (fun s d x => ⟨fun E fr h _ _ => sConv E fr h s d x⟩) (fun _ _ => opN) (fun t x => ⟨fun E fr h _ _ => sMkI E fr h t x⟩) (fun f a b => ⟨fun E fr h _ _ => sMkF E fr h f a b⟩) (fun t r => ⟨fun E fr h _ _ => sMkM E fr h t r⟩) (fun _ _ => opN) (fun t l c => ⟨fun E fr h _ _ => sMkS E fr h t l c⟩) (fun t x a b c => ⟨fun E fr h _ _ => sSlice E fr h t x a b c⟩) (fun t x f => ⟨fun E fr h _ _ => sFA E fr h t x f⟩) (fun t x f => ⟨fun E fr h _ _ => sF E fr h t x f⟩) (fun t x i => ⟨fun E fr h _ _ => sIA E fr h t x i⟩) (fun t x i => ⟨fun E fr h _ _ => sI E fr h t x i⟩) (fun t x k ok => ⟨fun E fr h _ _ => sLk E fr h t x k ok⟩) (fun t m k x => ⟨fun E fr h _ _ => sMU E fr h t m k x⟩) (fun _ _ _ => opN) (fun _ _ _ _ => opN) (fun t x => ⟨fun E fr h _ _ => sRng E fr h t x⟩) (fun x b => ⟨fun E fr h _ _ => sNxt E fr h x b⟩) (fun x => ⟨fun E fr h _ _ => sEnt E fr h x⟩) (fun x _ u ok => ⟨fun E fr h _ _ => sTA E fr h x u ok⟩) (fun x i => ⟨fun E fr h _ _ => sExt E fr h x i⟩) (fun c => ⟨fun E fr h call yld => sCall E fr h call yld c⟩) (fun _ => opN) (fun _ => opN) (fun _ => opN) (fun _ _ => opN) (fun _ _ _ => opN) (fun _ _ => opN) o
def astepR (E : Env) (fr : Fr) (h : H) (call yld : CallT) (o : Op) : Option (V × H) := @OpW.rec (fun _ => Option (V × H)) (fun f => f E fr h call yld) (opW o)
theorem astepR_eq (E : Env) (call yld : CallT) (fr : Fr) (o : Op) (h : H) : astepR E fr h call yld o = astep E call yld fr o h := by
 cases o <;> first | rfl | skip
 ·rename_i fn first caps; cases fn <;> rfl
 ·rename_i t x lo hi mx; cases mx <;> rfl
 ·rename_i it b; cases b <;> rfl
abbrev OpsT := Fr → H → Option (Fr × H)
structure PW where
 p : OpsT → V → Fr → H → Option (Fr × H)
def frN (s : Option V → T V → T V) (v : V) (n : Nat) (t : T V) : Fr := ⟨n, s (some v) t⟩
def frP (s : Option V → T V → T V) (v : V) (fr : Fr) : Fr := @Fr.rec (fun _ => Fr) (frN s v) fr
def putW (d : Option Nat) : PW :=
 @Option.rec Nat (fun _ => PW) ⟨fun k _ fr h => k fr h⟩ (fun d => @AcT.rec V (fun _ => PW) (fun _ s => ⟨fun k v fr h => cond (Nat.blt d fr.n) (k (frP s v fr) h) none⟩) (acT V d)) d
def pDst (k : OpsT) (fr : Fr) (h : H) (v : V) (d : Option Nat) : Option (Fr × H) := @PW.rec (fun _ => Option (Fr × H)) (fun p => p k v fr h) (putW d)
theorem pDst_none (k : OpsT) (fr : Fr) (h : H) (v : V) : pDst k fr h v none = k fr h := rfl
theorem pDst_some (k : OpsT) (fr : Fr) (h : H) (v : V) (d : Nat) : pDst k fr h v (some d) = cond (Nat.blt d fr.n) (k (fr.set d v) h) none := by
 obtain ⟨n, t⟩ := fr
 show @PW.rec (fun _ => Option (Fr × H)) (fun p => p k v ⟨n, t⟩ h) (@AcT.rec V (fun _ => PW) (fun _ s => ⟨fun k v fr h => cond (Nat.blt d fr.n) (k (frP s v fr) h) none⟩) (acT V d)) = cond (Nat.blt d n) (k ⟨n, @AcT.rec V (fun _ => T V) (fun _ s => s (some v) t) (acT V d)⟩ h) none
 cases acT V d; rfl
def pRes (k : OpsT) (fr : Fr) (d : Option Nat) (p : V × H) : Option (Fr × H) := @Prod.rec _ _ (fun _ => Option (Fr × H)) (fun v h => pDst k fr h v d) p
def pDo (k : OpsT) (fr : Fr) (d : Option Nat) (r : Option (V × H)) : Option (Fr × H) := @Option.rec _ (fun _ => Option (Fr × H)) none (pRes k fr d) r
def pGd (E : Env) (call yld : CallT) (k : OpsT) (fr : Fr) (h : H) (o : Oper) (b : Bool) : Option (Fr × H) :=
 @Bool.rec (fun _ => Option (Fr × H)) (pDst k fr h (.t []) o.dst) (pDo k fr o.dst (astepR E fr h call yld o.op)) b
def pCons (E : Env) (call yld : CallT) (ops : Array Oper) (o : Oper) (_ : List Oper) (k : OpsT) (fr : Fr) (h : H) : Option (Fr × H) :=
 @Option.rec _ (fun _ => Option (Fr × H)) (pDo k fr o.dst (astepR E fr h call yld o.op)) (fun p => @Option.rec _ (fun _ => Option (Fr × H)) none (pGd E call yld k fr h o) (agS ops fr p)) o.guard
def aops (E : Env) (call yld : CallT) (ops : Array Oper) (l : List Oper) : OpsT := @List.rec _ (fun _ => OpsT) (fun fr h => some (fr, h)) (pCons E call yld ops) l
theorem pDst_eq (k : OpsT) (fr : Fr) (h : H) (v : V) (dst : Option Nat) : pDst k fr h v dst = match dst with | none => k fr h | some d => cond (Nat.blt d fr.n) (k (fr.set d v) h) none := by
 cases dst with
 | none => rfl
 | some d => exact pDst_some k fr h v d
theorem pDo_eq (E : Env) (call yld : CallT) (k : OpsT) (fr : Fr) (h : H) (dst : Option Nat) (op : Op) : pDo k fr dst (astepR E fr h call yld op) = match astep E call yld fr op h with
  | some (v, h') => (match dst with | none => k fr h' | some d => cond (Nat.blt d fr.n) (k (fr.set d v) h') none)
  | none => none := by
 rw [astepR_eq]
 cases astep E call yld fr op h with
 | none => rfl
 | some p => obtain ⟨v, h'⟩ := p; exact pDst_eq k fr h' v dst
theorem aops_nil (E : Env) (call yld : CallT) (ops : Array Oper) (fr : Fr) (h : H) : aops E call yld ops [] fr h = some (fr, h) := rfl
theorem aops_cons (E : Env) (call yld : CallT) (ops : Array Oper) (o : Oper) (rest : List Oper) (fr : Fr) (h : H) : aops E call yld ops (o :: rest) fr h =
  match aguard ops fr o with
  | some true =>
   match astep E call yld fr o.op h with
   | some (v, h') =>
    match o.dst with
    | none => aops E call yld ops rest fr h'
    | some d => cond (Nat.blt d fr.n) (aops E call yld ops rest (fr.set d v) h') none
   | none => none
  | some false =>
   match o.dst with
   | none => aops E call yld ops rest fr h
   | some d => cond (Nat.blt d fr.n) (aops E call yld ops rest (fr.set d (.t [])) h) none
  | none => none := by
 obtain ⟨dst, op, ty, ps, af, gd⟩ := o
 cases gd with
 | none => exact pDo_eq E call yld _ fr h dst op
 | some p =>
  show @Option.rec _ (fun _ => Option (Fr × H)) none (pGd E call yld (aops E call yld ops rest) fr h ⟨dst, op, ty, ps, af, some p⟩) (agS ops fr p) = match agS ops fr p with
   | some true => _
   | some false => _
   | none => _
  cases agS ops fr p with
  | none => rfl
  | some b =>
   cases b with
   | false => exact pDst_eq _ fr h (.t []) dst
   | true => exact pDo_eq E call yld _ fr h dst op
def Res (φ : Ren) (w : World) (v : V) (h' : H) (e : Ending) (w' : World) : Prop := ∃ φ' v', e = .returned v' ∧ Ext φ w φ' w' ∧ VR φ' v v' ∧ HR φ' h' w'
def CallOK (E : Env) (call : CallT) : Prop := ∀ f args h v h', call f args h = some (v, h') → ∀ φ args' w n, GL E.ng φ → BD E φ → VRs φ args args' → HR φ h w →
 (∃ fn c, E.P.funcs[f]? = some fn ∧ fn.body = some c ∧ (fn.name == "runtime.NumGoroutine") = false) ∧ CallsIn (W none) n E.P f args'.toArray w (Res φ w v h')
def YieldOK (E : Env) (yld : CallT) : Prop := ∀ l args h v h', yld l args h = some (v, h') → ∀ φ args' w n ro r, GL E.ng φ → BD E φ → VRs φ args args' → HR φ h w → φ l = some r →
 ∃ fn tmps assign body, (Instr.yield r args'.toArray).run E.P w = .ok (.round r fn tmps assign body) w ∧ RoundIn (W ro) n E.P r fn tmps assign body w (Res φ w v h')
theorem callsW {E : Env} {ro : Option Nat} {n : Nat} {f : FuncId} {args : Array Value} {w : World} {R : Ending → World → Prop} (h : CallsIn (W none) n E.P f args w R) : CallsIn (W ro) n E.P f args w R := h
theorem FR.put {φ : Ren} {fr : Fr} {a : Act} (hf : FR φ fr a.tmps) {d : Nat} (hd : d < fr.n) {x : V} {v : Value} (hv : VR φ x v) : FR φ (fr.set d x) (a.put (some d) v).tmps := by
 rcases hf.set d hv with h | h
 ·exact h
 ·omega
theorem ERs.length {φ : Ren} : ∀ {x : List (V × V × Nat)} {l : List MapEntry}, ERs φ x l → l.length = x.length
 | [], l, e => by simp only [ERs] at e; subst e; rfl
 | (k, v, n) :: xs, l, e => by
  simp only [ERs] at e
  obtain ⟨e1, es, rfl, _, _, _, h⟩ := e
  simp [ERs.length h]
theorem aBuiltin0_ok {E : Env} (hE : E.OK) {φ : Ren} (hbd : BD E φ) {h : H} {w : World} (hr : HR φ h w) (b : Builtin) (ts : Array TypeId) (ty : TypeId) (cs : Array Bool) {args : List V} {args' : List Value} (ha : VRs φ args args') :
  Yields E.P φ w (builtin b ts ty cs args'.toArray) (aBuiltin0 E b ts.toList args h) := by
 unfold aBuiltin0
 split
 ·rename_i t tx s x e
  have e' : ts = #[t, tx] := Array.ext' e
  simp only [VRs] at ha
  obtain ⟨vs, _, rfl, hs, vx, _, rfl, hx, rfl⟩ := ha
  rw [e']
  split
  ·rename_i r hr'
   have := (aAppend_ok hE hbd hr t tx ty hs hx).yields
   rw [hr'] at this
   simpa only [builtin] using this
  ·have := (aAppendB_ok hE hr t tx ty hs hx).yields
   simpa only [builtin] using this
 ·rename_i t t2 x k e
  have e' : ts = #[t, t2] := Array.ext' e
  subst e'
  simp only [VRs] at ha
  obtain ⟨vx, _, rfl, hx, vk, _, rfl, hk, rfl⟩ := ha
  have := (aDelete_ok hE hbd hr t t2 ty hx hk).yields
  simpa only [builtin] using this
 ·rename_i t tx s x e
  have e' : ts = #[t, tx] := Array.ext' e
  simp only [VRs] at ha
  obtain ⟨vs, _, rfl, hs, vx, _, rfl, hx, rfl⟩ := ha
  have := (aCopy_ok hE hr t tx ty hs hx).yields
  rw [e']
  simpa only [builtin] using this
 ·rename_i t s e
  have e' : ts = #[t] := Array.ext' e
  simp only [VRs] at ha
  obtain ⟨vs, _, rfl, hs, rfl⟩ := ha
  have := (aClear_ok hE hr t ty hs).yields
  rw [e']
  simpa only [builtin] using this
 ·rename_i t x e
  have e' : ts = #[t] := Array.ext' e
  subst e'
  simp only [VRs] at ha
  obtain ⟨vx, _, rfl, hx, rfl⟩ := ha
  split
  ·rename_i i l ht
   obtain ⟨_, hu⟩ := hE.ty _ _ _ ht
   simp only [VR] at hx; obtain ⟨rfl, _⟩ := hx
   exact Yields.pure hr (v := .int .i64 l.length) (by simp [builtin, Builtin.len_, run_underlying hu, goInt, bytes_size]) (by simp only [VR]; rfl)
  ·rename_i i e c ht
   obtain ⟨_, hu⟩ := hE.ty _ _ _ ht
   simp only [VR] at hx; obtain ⟨_, rfl⟩ := hx
   exact Yields.pure hr (v := .int .i64 0) (by simp [builtin, Builtin.len_, run_underlying hu, goInt]) (by simp only [VR])
  ·rename_i i e bo n c ht
   obtain ⟨_, hu⟩ := hE.ty _ _ _ ht
   obtain ⟨b, o⟩ := bo
   obtain ⟨r, cap, _, rfl⟩ := VR.slAt hx
   exact Yields.pure hr (v := .int .i64 n) (by simp [builtin, Builtin.len_, run_underlying hu, goInt]) (by simp only [VR]; rfl)
  ·rename_i i e ht
   obtain ⟨_, hu⟩ := hE.ty _ _ _ ht
   simp only [VR] at hx; obtain ⟨_, _, rfl⟩ := hx
   exact Yields.pure hr (v := .int .i64 0) (by simp [builtin, Builtin.len_, run_underlying hu, goInt]) (by simp only [VR])
  ·rename_i i n e ht
   obtain ⟨_, hu⟩ := hE.ty _ _ _ ht
   exact Yields.pure hr (v := .int .i64 n) (by simp [builtin, Builtin.len_, run_underlying hu, goInt]) (by simp only [VR]; rfl)
  ·rename_i i k e ht
   obtain ⟨_, hu⟩ := hE.ty _ _ _ ht
   simp only [VR] at hx; subst hx
   exact Yields.pure hr (v := .int .i64 0) (by simp [builtin, Builtin.len_, run_underlying hu, goInt]) (by simp only [VR])
  ·rename_i i k e b ht
   obtain ⟨_, hu⟩ := hE.ty _ _ _ ht
   simp only [VR] at hx; obtain ⟨r, hb, rfl⟩ := hx
   split
   ·rename_i es clock hes
    obtain ⟨o, h1, h2⟩ := hr.blk b r hb (by rw [hes]; trivial)
    rw [hes] at h2
    obtain ⟨es', rfl, h3⟩ := h2
    have hl : es'.size = es.length := by simpa using h3.length
    refine Yields.pure hr (v := .int .i64 es.length) ?_ (by simp only [VR]; rfl)
    have hg : (getObj r).run E.P w = .ok (.map es' clock) w := by simp [getObj, Sem.run, h1]
    simp [builtin, Builtin.len_, run_underlying hu, goInt, hg, hl]
   ·exact Yields.none
  ·exact Yields.none
 ·rename_i k x k' y
  simp only [VRs] at ha
  obtain ⟨v1, _, rfl, h1, v2, _, rfl, h2, rfl⟩ := ha
  simp only [VR] at h1 h2; subst h1; subst h2
  by_cases hk : k = k'
  ·subst hk
   simp only [decide_true, cond]
   refine Yields.pure hr (v := .int k (if y > x then y else x)) (by simp [builtin, Builtin.max_, Builtin.max2]) ?_
   simp only [VR]
   cases e : iLt x y with
   | true => rw [if_pos ((iLt_ok _ _).1 e)]
   | false => rw [if_neg (by have := (iLt_no _ _).1 e; omega)]
  ·rw [decide_eq_false hk]; exact Yields.none
 ·rename_i k x k' y
  simp only [VRs] at ha
  obtain ⟨v1, _, rfl, h1, v2, _, rfl, h2, rfl⟩ := ha
  simp only [VR] at h1 h2; subst h1; subst h2
  by_cases hk : k = k'
  ·subst hk
   simp only [decide_true, cond]
   refine Yields.pure hr (v := .int k (if y < x then y else x)) (by simp [builtin, Builtin.min_, Builtin.min2]) ?_
   simp only [VR]
   cases e : iLt y x with
   | true => rw [if_pos ((iLt_ok _ _).1 e)]
   | false => rw [if_neg (by have := (iLt_no _ _).1 e; omega)]
  ·rw [decide_eq_false hk]; exact Yields.none
 ·exact Yields.none
theorem aBuiltin_ok {E : Env} (hE : E.OK) {φ : Ren} (hbd : BD E φ) {h : H} {w : World} (hr : HR φ h w) (b : Builtin) (ts : Array TypeId) (ty : TypeId) (cs : Array Bool) {args : List V} {args' : List Value} (ha : VRs φ args args') :
  Yields E.P φ w (builtin b ts ty cs args'.toArray) (aBuiltin E b ts.toList args h) := by
 unfold aBuiltin
 split
 ·rename_i t z e
  have e' : ts = #[t] := Array.ext' e
  subst e'
  simp only [VRs] at ha
  obtain ⟨vx, _, rfl, hx, rfl⟩ := ha
  exact aLenQ_ok hE hbd hr t ty cs hx
 ·rename_i t bb x k sz e
  have e' : ts = #[t] := Array.ext' e
  subst e'
  simp only [VRs] at ha
  obtain ⟨vx, _, rfl, hx, rfl⟩ := ha
  split
  ·rename_i i el y ht hrl
   obtain ⟨_, hu⟩ := hE.ty _ _ _ ht
   cases hc : Nat.beq sz (E.rz x) with
   | false => exact Yields.none
   | true =>
    have hsz : sz = E.rz x := Nat.eq_of_beq_eq_true hc
    simp only [VR] at hx
    obtain ⟨r, n, cap, hb, hz, hn, hk, hcap, rfl⟩ := hx
    obtain ⟨m, _, hm, hs⟩ := hbd.here.rl _ _ _ hrl
    have hmn : m = n := Nat.eq_of_mul_eq_mul_right hz (by rw [hn, ← hm, hsz])
    subst hmn
    exact Yields.pure hr (v := .int .i64 ((m + k : Nat) : Int)) (by simp [builtin, Builtin.len_, run_underlying hu, goInt]) (by simp only [VR]; rw [hs])
  ·exact Yields.none
 ·rename_i t bb e
  split
  ·rename_i x d ups hg
   have e' : ts = #[t] := Array.ext' e
   subst e'
   simp only [VRs] at ha
   obtain ⟨vx, _, rfl, hx, rfl⟩ := ha
   split
   ·rename_i i kt et v ht hml
    obtain ⟨_, hu⟩ := hE.ty _ _ _ ht
    simp only [VR] at hx; obtain ⟨r, hb, rfl⟩ := hx
    obtain ⟨o, h1, h2⟩ := hr.blk bb r hb (by rw [hg]; trivial)
    rw [hg] at h2
    obtain ⟨es, c, rfl, h3, h4⟩ := h2
    simp only [MU] at h3
    have hes : es = (φ.g x).1 := congrArg Prod.fst h3
    refine Yields.pure hr (v := .int .i64 ((φ.g x).1.size : Nat)) ?_ (hbd.here.ml _ _ hml)
    have hg' : (getObj r).run E.P w = .ok (.map es c) w := by simp [getObj, Sem.run, h1]
    simp [builtin, Builtin.len_, run_underlying hu, goInt, hg', hes]
   ·exact Yields.none
  ·have := aBuiltin0_ok hE hbd hr .len ts ty cs ha
   rw [e] at this
   exact this
 ·rename_i a b
  split
  ·rename_i r hmx
   simp only [VRs] at ha
   obtain ⟨v1, _, rfl, h1, v2, _, rfl, h2, rfl⟩ := ha
   obtain ⟨k, p, q, rfl, rfl, h3⟩ := hbd.here.mx _ _ _ hmx _ _ h1 h2
   exact Yields.pure hr (v := .int k (if q > p then q else p)) (by simp [builtin, Builtin.max_, Builtin.max2]) h3
  ·exact aBuiltin0_ok hE hbd hr .max ts ty cs ha
 ·rename_i a b
  split
  ·rename_i r hmx
   simp only [VRs] at ha
   obtain ⟨v1, _, rfl, h1, v2, _, rfl, h2, rfl⟩ := ha
   obtain ⟨k, p, q, rfl, rfl, h3⟩ := hbd.here.mx _ _ _ hmx _ _ h1 h2
   cases ea : nmEq r a with
   | true =>
    have := nmEq_det ea h1 h3
    exact Yields.pure hr (v := .int k (if q < p then q else p)) (by simp [builtin, Builtin.min_, Builtin.min2]) (by
     have : (if q < p then q else p) = q := by split at this <;> split <;> omega
     rw [this]; exact h2)
   | false =>
    cases eb : nmEq r b with
    | true =>
     have := nmEq_det eb h2 h3
     exact Yields.pure hr (v := .int k (if q < p then q else p)) (by simp [builtin, Builtin.min_, Builtin.min2]) (by
      have : (if q < p then q else p) = p := by split at this <;> split <;> omega
      rw [this]; exact h1)
    | false => exact Yields.none
  ·exact aBuiltin0_ok hE hbd hr .min ts ty cs ha
 ·exact aBuiltin0_ok hE hbd hr _ ts ty cs ha
end
end Go.Ev
namespace Go.Ev
noncomputable section
theorem yields_wpIn {E : Env} {ro : Option Nat} {n : Nat} {φ : Ren} {w : World} {a : Act} {o : Oper} {r : Option (V × H)} (hd : ∀ c, o.op ≠ .defer c) (hy : Yields E.P φ w (execOp a.eval o) r) {x : V} {h' : H} (hr : r = some (x, h'))
  {K : Act → World → Prop} {Q : Exit → Act → World → Prop} (hK : ∀ φ' v w', Ext φ w φ' w' → VR φ' x v → HR φ' h' w' → K (a.put o.dst v) w') : o.wpIn (W ro) n E.P a w K Q := by
 refine ⟨fun _ _ => trivial, ?_⟩
 rw [Oper.semAt_eq _ _ _ hd]
 obtain ⟨φ', v, w', h1, h2, h3, h4⟩ := hy x h' hr
 rcases h1 with h1 | ⟨h1, rfl⟩
 ·rw [h1]; exact hK φ' v w' h2 h3 h4
 ·rw [h1]; exact hK φ' undef w' h2 h3 h4
theorem astep_ok {E : Env} (hE : E.OK) {call yld : CallT} (hC : CallOK E call) (hY : YieldOK E yld) {φ : Ren} (hg : GL E.ng φ) (hbd : BD E φ) {fr : Fr} {a : Act} (hf : FR φ fr a.tmps) {h : H} {w : World} (hr : HR φ h w)
  (ro : Option Nat) (n : Nat) (o : Oper) {x : V} {h' : H} (hs : astep E call yld fr o.op h = some (x, h'))
  {K : Act → World → Prop} {Q : Exit → Act → World → Prop} (hK : ∀ φ' v w', Ext φ w φ' w' → VR φ' x v → HR φ' h' w' → K (a.put o.dst v) w') : o.wpIn (W ro) n E.P a w K Q := by
 cases hop : o.op with
 | call c =>
  rw [hop] at hs
  simp only [astep] at hs
  have hargs := evs_ok hg hf c.args.toList
  have hmap : c.args.toList.map a.eval = (c.args.map a.eval).toList := by simp
  split at hs
  ·rename_i b hcal
   obtain ⟨cs, e⟩ : ∃ cs, execOp a.eval o = builtin b c.argTypes o.type cs (c.args.map a.eval) := ⟨_, by simp only [execOp, hop, resolve, hcal, pure_bind, invoke]; rfl⟩
   have hb := aBuiltin_ok hE hbd hr b c.argTypes o.type cs hargs
   refine yields_wpIn (fun c' e => by rw [hop] at e; cases e) (r := aBuiltin E b c.argTypes.toList (c.args.toList.map (ev E.ng fr)) h) ?_ hs hK
   rw [e]
   have harr : (c.args.toList.map a.eval).toArray = c.args.map a.eval := by
    apply Array.ext'
    simp
   rw [harr] at hb
   exact hb
  ·rename_i f hcal
   have hfv := ev_ok hg hf f
   split at hs
   ·rename_i g first caps hg'
    rw [hg'] at hfv
    simp only [VR] at hfv
    obtain ⟨first', caps', hv, h1, h2⟩ := hfv
    obtain ⟨⟨fn, cd, hfn, hbody, hname⟩, hcall⟩ := hC _ _ _ _ _ hs φ (first'.toList ++ c.args.toList.map a.eval ++ caps'.toList) w (n - 1) hg hbd ((h1.append hargs).append h2) hr
    refine ⟨fun _ _ => trivial, ?_⟩
    rw [Oper.semAt_eq _ _ _ (fun c' e => by rw [hop] at e; cases e)]
    have harr : (first'.toList ++ c.args.toList.map a.eval ++ caps'.toList).toArray = first' ++ c.args.map a.eval ++ caps' := by
     apply Array.ext'
     simp
    have hname' : ¬ fn.name = "runtime.NumGoroutine" := by simpa using hname
    have e : (execOp a.eval o).run E.P w = .ok (.enter g (first' ++ c.args.map a.eval ++ caps')) w := by
     simp [execOp, hop, resolve, hcal, hv, Deferred.ofValue, invoke, callFunc, hfn, hbody, hname']
    rw [e]
    refine ⟨(fun hd => (by cases hd)), ?_⟩
    rw [harr] at hcall
    refine (callsW (ro := ro) hcall).mono ?_
    rintro e w' ⟨φ', v', rfl, h3, h4, h5⟩
    exact hK φ' v' w' h3 h4 h5
   ·rename_i l hl
    rw [hl] at hfv
    simp only [VR] at hfv
    obtain ⟨r, hlr, hv⟩ := hfv
    obtain ⟨fn, tmps, assign, body, hy1, hy2⟩ := hY _ _ _ _ _ hs φ _ w (n - 1) ro r hg hbd hargs hr hlr
    refine ⟨fun _ _ => trivial, ?_⟩
    rw [Oper.semAt_eq _ _ _ (fun c' e => by rw [hop] at e; cases e)]
    have harr : (c.args.toList.map a.eval).toArray = c.args.map a.eval := by
     apply Array.ext'
     simp
    rw [harr] at hy1
    have e : (execOp a.eval o).run E.P w = .ok (.round r fn tmps assign body) w := by
     simp [execOp, hop, resolve, hcal, hv, Deferred.ofValue, invoke, hy1]
    rw [e]
    refine ⟨(fun hd => (by cases hd)), ?_⟩
    refine hy2.mono ?_
    rintro e w' ⟨φ', v', rfl, h3, h4, h5⟩
    exact hK φ' v' w' h3 h4 h5
   ·cases hs
  ·rename_i f name hcal
   have hfv := ev_ok hg hf f
   unfold aInv at hs
   split at hs
   rotate_left
   ·cases hs
   rename_i t v hfe
   rw [hfe] at hfv
   simp only [VR] at hfv
   obtain ⟨v', hv, hvv⟩ := hfv
   have fin : ∀ {g : FuncId} {u : V} {u' : Value} {h1 : H} {w1 : World} {φ1 : Ren}, Ext φ w φ1 w1 → HR φ1 h1 w1 → VR φ1 u u' → (method (E.P.types.size + Made.depth) t v' name).run E.P w = .ok (g, u') w1 →
     call g (u :: c.args.toList.map (ev E.ng fr)) h1 = some (x, h') → o.wpIn (W ro) n E.P a w K Q := fun {g u u' h1 w1 φ1} hx hr1 hu hrun hs => by
    obtain ⟨⟨fn, cd, hfn, hbody, hname⟩, hcall⟩ := hC _ _ _ _ _ hs φ1 (u' :: c.args.toList.map a.eval) w1 (n - 1) (hg.mono hx.le) (hbd.mono hx.le) (VRs.cons hu (VRs.mono hx.le _ _ hargs)) hr1
    refine ⟨fun _ _ => trivial, ?_⟩
    rw [Oper.semAt_eq _ _ _ (fun c' e => by rw [hop] at e; cases e)]
    have harr : (u' :: c.args.toList.map a.eval).toArray = #[u'] ++ c.args.map a.eval := by
     apply Array.ext'
     simp
    have hname' : ¬ fn.name = "runtime.NumGoroutine" := by simpa using hname
    have e : (execOp a.eval o).run E.P w = .ok (.enter g (#[u'] ++ c.args.map a.eval)) w1 := by
     have h0 : (#[a.eval f] ++ c.args.map a.eval)[0]? = some (.iface t v') := by
      rw [← Array.getElem?_toList, Array.toList_append, hv]; rfl
     have h2 : (#[a.eval f] ++ c.args.map a.eval).extract 1 (#[a.eval f] ++ c.args.map a.eval).size = c.args.map a.eval := by
      apply Array.ext'
      simp
      exact List.take_of_length_le (by simp)
     have h3 : execOp a.eval o = Go.invoke (.fn (.method name) #[]) (#[a.eval f] ++ c.args.map a.eval) := by simp only [execOp, hop, resolve, hcal, pure_bind]
     have h4 : Go.invoke (.fn (.method name) #[]) (#[a.eval f] ++ c.args.map a.eval) = callMethod (.iface t v') name (c.args.map a.eval) := by
      simp only [Go.invoke]
      rw [h0, h2]
     rw [h3, h4]
     simp [callMethod, hrun, callFunc, hfn, hbody, hname']
    rw [e]
    refine ⟨(fun hd => (by cases hd)), ?_⟩
    rw [harr] at hcall
    refine (callsW (ro := ro) hcall).mono ?_
    rintro e w' ⟨φ', v'', rfl, h3, h4, h5⟩
    exact hK φ' v'' w' (hx.trans h3) h4 h5
   split at hs
   ·rename_i g hiv
    exact fin (Ext.refl φ w) hr hvv (hE.iv _ _ _ _ hiv v' w) hs
   ·rename_i g e hiv
    split at hs
    rotate_left
    ·cases hs
    rename_i ad
    split at hs
    rotate_left
    ·cases hs
    rename_i u h1 hld
    obtain ⟨φ1, u', w1, hrun, hx, hu, hr1⟩ := aLoad_ok hE hbd hr e hvv u h1 hld
    obtain ⟨ab, ao⟩ := ad
    simp only [VR] at hvv
    obtain ⟨r, _, rfl⟩ := hvv
    refine fin hx hr1 hu ?_ hs
    rw [hE.iv _ _ _ _ hiv _ w]
    have hl0 : (Instr.loadAt e (.pointer (some ⟨r, ao, none⟩)) : Sem Value) = loadVar e ⟨r, ao, none⟩ := by simp [Instr.loadAt, Instr.sureAddr]
    rw [hl0] at hrun
    simp only [Sem.run_bind] at hrun ⊢
    rcases hrun with hrun | ⟨hrun, _⟩
    ·cases hl : (loadVar e ⟨r, ao, none⟩).run E.P w with
     | ok y w2 =>
      rw [hl] at hrun
      simp [Result.andThen] at hrun
      obtain ⟨rfl, rfl⟩ := hrun
      simp [Result.andThen]
     | _ => rw [hl] at hrun; simp [Result.andThen] at hrun
    ·cases hl : (loadVar e ⟨r, ao, none⟩).run E.P w with
     | ok y w2 => rw [hl] at hrun; simp [Result.andThen] at hrun
     | _ => rw [hl] at hrun; simp [Result.andThen] at hrun
   ·cases hs
 | defer c => rw [hop] at hs; simp only [astep] at hs; cases hs
 | _ =>
  rw [hop] at hs
  simp only [astep] at hs
  refine yields_wpIn (fun c' e => by rw [hop] at e; cases e) (aop_ok hE hg hbd hf hr o) (by rw [hop]; exact hs) hK
theorem aops_ok {E : Env} (hE : E.OK) {call yld : CallT} (hC : CallOK E call) (hY : YieldOK E yld) (ops : Array Oper) (ro : Option Nat) (n : Nat) {Q : Exit → Act → World → Prop} : ∀ (l : List Oper) (fr : Fr) (h : H) (fr' : Fr) (h' : H), aops E call yld ops l fr h = some (fr', h') →
  ∀ (φ : Ren) (a : Act) (w : World), GL E.ng φ → BD E φ → FR φ fr a.tmps → HR φ h w →
  (∀ φ' a' w', Ext φ w φ' w' → FR φ' fr' a'.tmps → a'.defers = a.defers → HR φ' h' w' → Q .normal a' w') → wpListIn (W ro) n E.P ops Q l a w
 | [], fr, h, fr', h', e, φ, a, w, _, _, hf, hr, hQ => by
  simp only [aops_nil, Option.some.injEq, Prod.mk.injEq] at e
  obtain ⟨rfl, rfl⟩ := e
  exact hQ φ a w (Ext.refl φ w) hf rfl hr
 | o :: rest, fr, h, fr', h', e, φ, a, w, hg, hbd, hf, hr, hQ => by
  simp only [aops_cons] at e
  split at e
  ·rename_i hw
   have hwant := aguard_ok hf hw
   simp only [wpListIn, hwant, if_true]
   split at e
   ·rename_i v h1 hs
    refine astep_ok hE hC hY hg hbd hf hr ro n o hs fun φ' u w' hx hv hr' => ?_
    split at e
    ·rename_i hd
     refine aops_ok hE hC hY ops ro n rest fr h1 fr' h' e φ' (a.put o.dst u) w' (hg.mono hx.le) (hbd.mono hx.le) ?_ hr' fun φ'' a'' w'' hx' hf'' hd'' hr'' => ?_
     ·rw [hd]; exact hf.mono hx.le
     ·exact hQ φ'' a'' w'' (hx.trans hx') hf'' (by rw [hd''] ; rw [hd]; rfl) hr''
    ·rename_i d hd
     cases hlt : Nat.blt d fr.n with
     | false => rw [hlt] at e; cases e
     | true =>
      rw [hlt] at e
      simp only [cond] at e
      refine aops_ok hE hC hY ops ro n rest (fr.set d v) h1 fr' h' e φ' (a.put o.dst u) w' (hg.mono hx.le) (hbd.mono hx.le) ?_ hr' fun φ'' a'' w'' hx' hf'' hd'' hr'' => ?_
      ·rw [hd]; exact (hf.mono hx.le).put (blt_iff.1 hlt) hv
      ·exact hQ φ'' a'' w'' (hx.trans hx') hf'' (by rw [hd'']; rw [hd]; rfl) hr''
   ·cases e
  ·rename_i hw
   have hwant := aguard_ok hf hw
   simp only [wpListIn, hwant, Bool.false_eq_true, if_false]
   refine ⟨fun _ _ => trivial, ?_⟩
   split at e
   ·rename_i hd
    refine aops_ok hE hC hY ops ro n rest fr h fr' h' e φ (a.put o.dst undef) w hg hbd ?_ hr fun φ'' a'' w'' hx' hf'' hd'' hr'' => ?_
    ·rw [hd]; exact hf
    ·exact hQ φ'' a'' w'' hx' hf'' (by rw [hd'']; rw [hd]; rfl) hr''
   ·rename_i d hd
    cases hlt : Nat.blt d fr.n with
    | false => rw [hlt] at e; cases e
    | true =>
     rw [hlt] at e
     simp only [cond] at e
     refine aops_ok hE hC hY ops ro n rest (fr.set d (.t [])) h fr' h' e φ (a.put o.dst undef) w hg hbd ?_ hr fun φ'' a'' w'' hx' hf'' hd'' hr'' => ?_
     ·rw [hd]; exact hf.put (blt_iff.1 hlt) (by simp only [VR]; exact ⟨#[], rfl, by simp [VRs]⟩)
     ·exact hQ φ'' a'' w'' hx' hf'' (by rw [hd'']; rw [hd]; rfl) hr''
  ·cases e
end
end Go.Ev
namespace Go.Ev
noncomputable section
def deps (o : Oper) : List Nat := o.after.toList.filterMap fun e => cond (Region.binds .any e) (some e.on) none
def Down (ops : Array Oper) (L : Nat → Prop) : Prop := ∀ i o, ops[i]? = some o → L i → ∀ j ∈ deps o, L j
def Anc (ops : Array Oper) (j i : Nat) : Prop := ∀ L, Down ops L → L i → L j
theorem Anc.refl {ops : Array Oper} (i : Nat) : Anc ops i i := fun _ _ h => h
theorem Anc.trans {ops : Array Oper} {i j k : Nat} (h : Anc ops i j) (h' : Anc ops j k) : Anc ops i k := fun L hd hk => h L hd (h' L hd hk)
theorem Anc.dep {ops : Array Oper} {i j : Nat} {o : Oper} (ho : ops[i]? = some o) (hj : j ∈ deps o) : Anc ops j i := fun _ hd h => hd i o ho h j hj
def reads (ops : Array Oper) (o : Oper) : List Nat :=
 (match o.guard with
  | none => []
  | some (j, _) =>
   match (ops[j]?).bind (·.dst) with
   | some t => [t]
   | none => []) ++ o.op.operands.toList.filterMap fun x => match x with | .tmp t => some t | _ => none
def flO (E : Env) (o : Op) (b : Nat) : Option (V × Blk) :=
 match o with
 | .alloc t =>
  match E.tt t with
  | some (i, _) =>
   match i.zero with
   | some z => some (.p (some (b, 0)), .cells (z.cells.toList.map cv0) t false)
   | none => none
  | none => none
 | .makeSlice t (.const l) (.const c) =>
  match E.tt t, cv l, cv c with
  | some (_, .slice e), .i _ (.ofNat a), .i _ (.ofNat k) =>
   match E.tt e with
   | some (i, _) =>
    match i.zero with
    | some z => cond (Nat.ble a k && Nat.ble (i.bytes * k) 281474976710656 && Nat.ble k 9223372036854775807) (some (.sl (some (b, 0)) a (.kn k), .cells (zeros (z.cells.toList.map cv0) (k * i.size)) e false)) none
    | none => none
   | none => none
  | _, _, _ => none
 | _ => none
theorem flO_ok {E : Env} (hE : E.OK) {o : Oper} {b : Nat} {x : V} {blk : Blk} (h : flO E o.op b = some (x, blk)) (ρ : Operand → Value) (hρ : ∀ v, ρ (.const v) = v) (w : World) : (∀ c, o.op ≠ .defer c) ∧ ∃ v vs e, (execOp ρ o).run E.P w = .ok (.value v) { w with heap := w.heap.push (.cells vs e) } ∧
  ∀ φ' : Ren, φ' b = some w.heap.size → φ'.n b = vs.size → BR φ' vs.size blk (.cells vs e) ∧ VR φ' x v := by
 unfold flO at h
 split at h
 ·rename_i t hop
  refine ⟨fun c e => (by rw [hop] at e; cases e), ?_⟩
  split at h
  ·rename_i i d ht
   obtain ⟨hi, _⟩ := hE.ty t i d ht
   split at h
   ·rename_i z hz
    simp only [Option.some.injEq, Prod.mk.injEq] at h
    obtain ⟨rfl, rfl⟩ := h
    refine ⟨.pointer (some ⟨w.heap.size, 0, none⟩), z.cells, t, ?_, fun φ' h1 h2 => ⟨⟨z.cells, rfl, ?_, by simp, fun _ => by simp, rfl⟩, by simp only [VR]; exact ⟨_, h1, rfl⟩⟩⟩
    ·simp only [execOp, hop]
     simp [Instr.alloc, run_zeroValue hi hz, newVar, newRow]
    ·rw [List.take_of_length_le (by simp)]
     exact cv0s_ok φ' z.cells.toList
   ·cases h
  ·cases h
 ·rename_i t l c hop
  refine ⟨fun c e => (by rw [hop] at e; cases e), ?_⟩
  split at h
  ·rename_i it e k1 a k2 k ht hl hc
   obtain ⟨_, hu⟩ := hE.ty _ _ _ ht
   have vl := cv_ok (⟨fun _ => none, fun _ => 0, ⟨fun _ => 0, fun _ => .bool true, fun _ => [], fun _ => (#[], 0), fun _ => none, false⟩, 0⟩ : Ren) l
   have vc := cv_ok (⟨fun _ => none, fun _ => 0, ⟨fun _ => 0, fun _ => .bool true, fun _ => [], fun _ => (#[], 0), fun _ => none, false⟩, 0⟩ : Ren) c
   rw [hl] at vl; rw [hc] at vc
   simp only [VR] at vl vc
   subst vl; subst vc
   split at h
   ·rename_i i de he
    obtain ⟨hi, _⟩ := hE.ty _ _ _ he
    split at h
    ·rename_i z hz
     obtain ⟨e1, e2⟩ := cond_some h
     simp only [Bool.and_eq_true] at e1
     simp only [Option.some.injEq, Prod.mk.injEq] at e2
     obtain ⟨rfl, rfl⟩ := e2
     have h1 : a ≤ k := Nat.le_of_ble_eq_true e1.1.1
     have h2 : i.bytes * k ≤ 281474976710656 := Nat.le_of_ble_eq_true e1.1.2
     have h3 : k ≤ 9223372036854775807 := Nat.le_of_ble_eq_true e1.2
     have hrun := run_make (P := E.P) w t e i z hu hi hz k1 k2 (a : Int) (k : Int) (by omega) (by omega) (by rw [← Int.natCast_mul]; omega) (by omega)
     have hz' : ∀ φ' : Ren, VRs φ' (zeros (z.cells.toList.map cv0) (k * i.size)) (madeCells z.cells (k * i.size)).toList := fun φ' => zeros_ok z.cells (k * i.size)
     have hlen : (madeCells z.cells (k * i.size)).size = (zeros (z.cells.toList.map cv0) (k * i.size)).length := by
      have := (hz' (⟨fun _ => none, fun _ => 0, ⟨fun _ => 0, fun _ => .bool true, fun _ => [], fun _ => (#[], 0), fun _ => none, false⟩, 0⟩ : Ren)).length
      rw [Array.length_toList] at this; exact this
     refine ⟨.slice (some ⟨w.heap.size, 0, none⟩) a k, madeCells z.cells (k * i.size), e, ?_, fun φ' g1 g2 => ⟨⟨_, rfl, ?_, by rw [hlen]; exact Nat.le_refl _, fun _ => hlen, rfl⟩, by simp only [VR]; exact ⟨_, g1, h1, rfl⟩⟩⟩
     ·simp only [execOp, hop, hρ]
      rw [Sem.run_bind]
      have hrun' : (Instr.makeSlice t (Value.int k1 (Int.ofNat a)) (Value.int k2 (Int.ofNat k))).run E.P w = .ok (.slice (some ⟨w.heap.size, 0, none⟩) a k) { w with heap := w.heap.push (.cells (madeCells z.cells (k * i.size)) e) } := hrun
      rw [hrun']
      rfl
     ·rw [List.take_of_length_le (by rw [Array.length_toList, hlen]; exact Nat.le_refl _)]
      exact hz' φ'
    ·cases h
   ·cases h
  ·cases h
 ·cases h
structure Plan (E : Env) (call yld : CallT) (ops : Array Oper) (fr0 : Fr) (h0 : H) where
 x : Nat → V
 g : Nat → Bool
 rf : Nat → Fr
 frs : Nat → Fr
 st : Nat → H
 isE : Nat → Bool
 isF : Nat → Bool
 fb : Nat → Nat
 nf : Nat
 idx : Nat → Nat
 lo : Nat → Nat
 hi : Nat → Nat
 k : Nat
 top : ∀ i o, ops[i]? = some o → ∀ j ∈ deps o, j < i
 tmpW : ∀ i j oi oj t, i < j → ops[i]? = some oi → ops[j]? = some oj → oi.dst = some t → (oj.dst = some t ∨ t ∈ reads ops oj) → Anc ops i j
 tmpR : ∀ i j oi oj t, i < j → ops[i]? = some oi → ops[j]? = some oj → t ∈ reads ops oi → oj.dst = some t → Anc ops i j
 inj : ∀ i j oi oj, ops[i]? = some oi → ops[j]? = some oj → isE i = true → isE j = true → idx i = idx j → i = j
 lt : ∀ i oi, ops[i]? = some oi → isE i = true → idx i < k
 dense : ∀ p, p < k → ∃ i oi, ops[i]? = some oi ∧ isE i = true ∧ idx i = p
 chain : ∀ i j oi oj, ops[i]? = some oi → ops[j]? = some oj → isE i = true → isE j = true → idx i < idx j → Anc ops i j
 low : ∀ e i oe oi, ops[e]? = some oe → ops[i]? = some oi → isE e = true → idx e < lo i → isE i = false → Anc ops e i
 lowk : ∀ i oi, ops[i]? = some oi → isE i = false → lo i ≤ k
 high : ∀ e i oe oi, ops[e]? = some oe → ops[i]? = some oi → isE e = true → hi i ≤ idx e → isE i = false → Anc ops i e
 guard : ∀ i o, ops[i]? = some o → aguard ops (rf i) o = some (g i)
 skip : ∀ i o, ops[i]? = some o → g i = false → x i = .t [] ∧ (isE i = true → st (idx i + 1) = st (idx i))
 eff : ∀ i o, ops[i]? = some o → g i = true → isE i = true → astep E call yld (rf i) o.op (st (idx i)) = some (x i, st (idx i + 1))
 fl : ∀ i o, ops[i]? = some o → isF i = true → isE i = false ∧ g i = true ∧ h0.n ≤ fb i ∧ fb i < h0.n + nf ∧ ∃ blk, flO E o.op (fb i) = some (x i, blk) ∧ ∀ q, lo i ≤ q → q ≤ hi i → q ≤ k → (st q).get (fb i) = blk
 finj : ∀ i j oi oj, ops[i]? = some oi → ops[j]? = some oj → isF i = true → isF j = true → fb i = fb j → i = j
 quiet : ∀ i o, ops[i]? = some o → g i = true → isE i = false → isF i = false → ∀ q, lo i ≤ q → q ≤ hi i → q ≤ k → astep E call yld (rf i) o.op (st q) = some (x i, st q)
 dst : ∀ (i : Nat) (o : Oper) (d : Nat), ops[i]? = some o → o.dst = some d → d < fr0.n
 rfn : ∀ i, (rf i).n = fr0.n
 rfv : ∀ i o t, ops[i]? = some o → (rf i).get t = .top ∨ (t ∈ reads ops o ∧ (rf i).get t = (frs i).get t)
 f0 : frs 0 = fr0
 fs : ∀ i o, ops[i]? = some o → frs (i + 1) = match o.dst with | none => frs i | some d => (frs i).set d (x i)
 s0 : ∀ (φ : Ren) (w : World), HR φ h0 w → HR { φ with m := h0.n + nf } (st 0) w
variable {E : Env} {call yld : CallT} {ops : Array Oper} {fr0 : Fr} {h0 : H}
theorem Plan.cur (p : Plan E call yld ops fr0 h0) (t : Nat) : ∀ i, i ≤ ops.size →
  (∃ j oj, j < i ∧ ops[j]? = some oj ∧ oj.dst = some t ∧ (p.frs i).get t = p.x j ∧ ∀ l ol, l < i → ops[l]? = some ol → ol.dst = some t → l ≤ j) ∨
  ((∀ l ol, l < i → ops[l]? = some ol → ol.dst ≠ some t) ∧ (p.frs i).get t = fr0.get t) := by
 intro i
 induction i with
 | zero => intro _; exact .inr ⟨fun l _ h => by omega, by rw [p.f0]⟩
 | succ i ih =>
  intro hi
  have hlt : i < ops.size := by omega
  have ho : ops[i]? = some ops[i] := Array.getElem?_eq_getElem hlt
  have hs := p.fs i _ ho
  by_cases hd : ops[i].dst = some t
  ·refine .inl ⟨i, _, Nat.lt_succ_self i, ho, hd, ?_, fun l ol hl _ _ => by omega⟩
   rw [hs, hd]
   simp only [Fr.get_set, if_true]
  ·have hg : (p.frs (i + 1)).get t = (p.frs i).get t := by
    rw [hs]
    cases e : ops[i].dst with
    | none => rfl
    | some d =>
     simp only [Fr.get_set]
     rw [if_neg (fun h => hd (by rw [e, h]))]
   rcases ih (by omega) with ⟨j, oj, h1, h2, h3, h4, h5⟩ | ⟨h1, h2⟩
   ·refine .inl ⟨j, oj, by omega, h2, h3, hg.trans h4, fun l ol hl hol hdl => ?_⟩
    rcases Nat.lt_or_ge l i with h | h
    ·exact h5 l ol h hol hdl
    ·have : l = i := by omega
     subst this
     rw [ho] at hol; cases hol
     exact absurd hdl hd
   ·refine .inr ⟨fun l ol hl hol hdl => ?_, hg.trans h2⟩
    rcases Nat.lt_or_ge l i with h | h
    ·exact h1 l ol h hol hdl
    ·have : l = i := by omega
     subst this
     rw [ho] at hol; cases hol
     exact hd hdl
def Lst (listed : Array Bool) (i : Nat) : Prop := listed.getD i false = true
structure Inv (p : Plan E call yld ops fr0 h0) (φ0 : Ren) (a0 : Act) (w0 : World) (listed : Array Bool) (a : Act) (w : World) : Prop where
 size : listed.size = ops.size
 down : Down ops (Lst listed)
 st : ∃ φ q, Ext φ0 w0 φ w ∧ (h0.n + p.nf ≤ φ.m ∧ ∀ i oi, ops[i]? = some oi → p.isF i = true → ¬ Lst listed i → ∀ r, φ (p.fb i) ≠ some r) ∧ HR φ (p.st q) w ∧ q ≤ p.k ∧ (∀ i oi, ops[i]? = some oi → p.isE i = true → (Lst listed i ↔ p.idx i < q)) ∧
  (∀ t, (∀ i oi, ops[i]? = some oi → oi.dst = some t → ¬ Lst listed i) → VR φ (fr0.get t) (a.tmps.getD t undef)) ∧
  (∀ t i oi, ops[i]? = some oi → oi.dst = some t → Lst listed i → (∀ j oj, i < j → ops[j]? = some oj → oj.dst = some t → ¬ Lst listed j) → VR φ (p.x i) (a.tmps.getD t undef))
 ts : a.tmps.size = fr0.n
 df : a.defers = a0.defers
theorem mem_ready {ops : Array Oper} {listed : Array Bool} {i : Nat} (hi : i ∈ Region.ready .any ops listed) : ∃ o, ops[i]? = some o ∧ listed.getD i true = false ∧ ∀ j ∈ deps o, Lst listed j := by
 simp only [Region.ready, List.mem_filter, List.mem_range, Bool.and_eq_true, Bool.not_eq_true'] at hi
 obtain ⟨h1, h2, h3⟩ := hi
 have ho : ops[i]? = some ops[i] := Array.getElem?_eq_getElem h1
 refine ⟨_, ho, h2, fun j hj => ?_⟩
 rw [ho] at h3
 simp only [Option.map_some, Option.getD_some, Array.all_eq_true', Bool.or_eq_true, Bool.not_eq_true'] at h3
 simp only [deps, List.mem_filterMap] at hj
 obtain ⟨e, he, hb⟩ := hj
 cases hbe : Region.binds .any e with
 | false => rw [hbe] at hb; cases hb
 | true =>
  rw [hbe] at hb
  simp only [cond, Option.some.injEq] at hb
  subst hb
  rcases h3 e (by simpa using he) with h | h
  ·rw [hbe] at h; cases h
  ·exact h
theorem Lst.set {listed : Array Bool} {i j : Nat} (hi : i < listed.size) : Lst (listed.setIfInBounds i true) j ↔ (j = i ∨ Lst listed j) := by
 unfold Lst
 by_cases h : j = i
 ·subst h; simp [Array.getD, hi]
 ·simp only [Array.getD_eq_getD_getElem?, Array.getElem?_setIfInBounds_ne (Ne.symm h), h, false_or]
section
variable {p : Plan E call yld ops fr0 h0} {φ0 : Ren} {a0 : Act} {w0 : World} {listed : Array Bool} {a : Act} {w : World}
theorem Inv.anc (I : Inv p φ0 a0 w0 listed a w) {i : Nat} {o : Oper} (ho : ops[i]? = some o) (hd : ∀ j ∈ deps o, Lst listed j) {j : Nat} (hj : Anc ops j i) (hne : j ≠ i) : Lst listed j := by
 have : j = i ∨ Lst listed j := hj (fun l => l = i ∨ Lst listed l) (fun l ol hol hl m hm => by
  rcases hl with rfl | hl
  ·rw [ho] at hol; cases hol
   exact .inr (hd m hm)
  ·exact .inr (I.down l ol hol hl m hm)) (.inl rfl)
 rcases this with h | h
 ·exact absurd h hne
 ·exact h
theorem Inv.frame (I : Inv p φ0 a0 w0 listed a w) {i : Nat} {o : Oper} (ho : ops[i]? = some o) (hd : ∀ j ∈ deps o, Lst listed j) (hn : ¬ Lst listed i) {φ : Ren}
  (h1 : ∀ t, (∀ i oi, ops[i]? = some oi → oi.dst = some t → ¬ Lst listed i) → VR φ (fr0.get t) (a.tmps.getD t undef))
  (h2 : ∀ t i oi, ops[i]? = some oi → oi.dst = some t → Lst listed i → (∀ j oj, i < j → ops[j]? = some oj → oj.dst = some t → ¬ Lst listed j) → VR φ (p.x i) (a.tmps.getD t undef)) :
  FR φ (p.rf i) a.tmps := by
 refine ⟨by rw [I.ts, p.rfn], fun t => ?_⟩
 rcases p.rfv i o t ho with h | ⟨ht, h⟩
 ·rw [h]; simp [VR]
 ·rw [h]
  have hlt : i < ops.size := by
   rcases Nat.lt_or_ge i ops.size with h | h
   ·exact h
   ·rw [Array.getElem?_eq_none h] at ho; cases ho
  have later : ∀ j oj, i ≤ j → ops[j]? = some oj → oj.dst = some t → ¬ Lst listed j := fun j oj hj hoj hdj hl => by
   rcases Nat.lt_or_ge i j with h | h
   ·exact hn (p.tmpR i j o oj t h ho hoj ht hdj _ I.down hl)
   ·have : j = i := by omega
    subst this; exact hn hl
  rcases p.cur t i (by omega) with ⟨j, oj, g1, g2, g3, g4, g5⟩ | ⟨g1, g2⟩
  ·rw [g4]
   refine h2 t j oj g2 g3 (I.anc ho hd (p.tmpW j i oj o t g1 g2 ho g3 (.inr ht)) (by omega)) fun l ol hl hol hdl => ?_
   rcases Nat.lt_or_ge l i with h | h
   ·have := g5 l ol h hol hdl; omega
   ·exact later l ol h hol hdl
  ·rw [g2]
   refine h1 t fun l ol hol hdl => ?_
   rcases Nat.lt_or_ge l i with h | h
   ·exact absurd hdl (g1 l ol h hol)
   ·exact later l ol h hol hdl
theorem Inv.step (I : Inv p φ0 a0 w0 listed a w) {i : Nat} {o : Oper} (ho : ops[i]? = some o) (hd : ∀ j ∈ deps o, Lst listed j) (hn : ¬ Lst listed i) {φ φ' : Ren} {q q' : Nat} {w' : World} {v : Value}
  (h1 : ∀ t, (∀ i oi, ops[i]? = some oi → oi.dst = some t → ¬ Lst listed i) → VR φ (fr0.get t) (a.tmps.getD t undef))
  (h2 : ∀ t i oi, ops[i]? = some oi → oi.dst = some t → Lst listed i → (∀ j oj, i < j → ops[j]? = some oj → oj.dst = some t → ¬ Lst listed j) → VR φ (p.x i) (a.tmps.getD t undef))
  (hle : Le φ φ') (hx : Ext φ0 w0 φ' w') (hm : h0.n + p.nf ≤ φ'.m) (hfn : ∀ j oj, ops[j]? = some oj → p.isF j = true → ¬ (j = i ∨ Lst listed j) → ∀ r, φ' (p.fb j) ≠ some r) (hr : HR φ' (p.st q') w') (hq : q' ≤ p.k)
  (hs : ∀ j oj, ops[j]? = some oj → p.isE j = true → ((j = i ∨ Lst listed j) ↔ p.idx j < q')) (hv : VR φ' (p.x i) v) :
  Inv p φ0 a0 w0 (listed.setIfInBounds i true) (a.put o.dst v) w' := by
 have hlt : i < listed.size := by
  rw [I.size]
  rcases Nat.lt_or_ge i ops.size with h | h
  ·exact h
  ·rw [Array.getElem?_eq_none h] at ho; cases ho
 have hset : ∀ j, Lst (listed.setIfInBounds i true) j ↔ (j = i ∨ Lst listed j) := fun j => Lst.set hlt
 have hput : ∀ t, (a.put o.dst v).tmps.getD t undef = if o.dst = some t then v else a.tmps.getD t undef := fun t => by
  cases hdst : o.dst with
  | none => simp [Act.put]
  | some d =>
   have hdn := p.dst i o d ho hdst
   by_cases h : d = t
   ·subst h
    have : d < a.tmps.size := by rw [I.ts]; exact hdn
    simp [Act.put, Array.getD, this]
   ·rw [if_neg (fun e => h (Option.some.inj e))]
    simp only [Act.put, Array.getD_eq_getD_getElem?, Array.getElem?_setIfInBounds_ne h]
 refine ⟨by simp [I.size], fun j oj hoj hj m hm => ?_, ⟨φ', q', hx, ⟨hm, fun j oj hoj hf hn => hfn j oj hoj hf (fun h => hn ((hset j).2 h))⟩, hr, hq, fun j oj hoj he => (hset j).trans (hs j oj hoj he), fun t ht => ?_, fun t j oj hoj hdj hj hlast => ?_⟩, ?_, ?_⟩
 ·rw [hset] at hj ⊢
  rcases hj with rfl | hj
  ·rw [ho] at hoj; cases hoj
   exact .inr (hd m hm)
  ·exact .inr (I.down j oj hoj hj m hm)
 ·rw [hput]
  have hne : o.dst ≠ some t := fun e => ht i o ho e ((hset i).2 (.inl rfl))
  rw [if_neg hne]
  exact VR.mono hle _ _ (h1 t fun j oj hoj hdj hl => ht j oj hoj hdj ((hset j).2 (.inr hl)))
 ·rw [hput]
  by_cases hdt : o.dst = some t
  ·rw [if_pos hdt]
   have : j = i := by
    rcases (hset j).1 hj with h | h
    ·exact h
    ·rcases Nat.lt_trichotomy i j with hij | hij | hij
     ·exact absurd (p.tmpW i j o oj t hij ho hoj hdt (.inl hdj) _ I.down h) hn
     ·exact hij.symm
     ·exact absurd ((hset i).2 (.inl rfl)) (hlast i o hij ho hdt)
   subst this
   exact hv
  ·rw [if_neg hdt]
   have hji : j ≠ i := by rintro rfl; rw [ho] at hoj; cases hoj; exact hdt hdj
   have hj' : Lst listed j := by
    rcases (hset j).1 hj with h | h
    ·exact absurd h hji
    ·exact h
   exact VR.mono hle _ _ (h2 t j oj hoj hdj hj' fun l ol hl hol hdl hll => hlast l ol hl hol hdl ((hset l).2 (.inr hll)))
 ·cases o.dst <;> simp [Act.put, I.ts]
 ·rw [← I.df]; cases o.dst <;> rfl
end
theorem getD_true {listed : Array Bool} {i : Nat} (h : listed.getD i true = false) : ¬ Lst listed i := by
 unfold Lst
 rw [Array.getD_eq_getD_getElem?] at h ⊢
 cases e : listed[i]? with
 | none => rw [e] at h; cases h
 | some b => rw [e] at h; simp at h; subst h; simp
def left (listed : Array Bool) : Nat := listed.toList.countP (fun b => !b)
theorem countP_set (l : List Bool) (i : Nat) (h : l[i]? = some false) : (l.set i true).countP (fun b => !b) + 1 = l.countP (fun b => !b) := by
 induction l generalizing i with
 | nil => simp at h
 | cons b l ih =>
  cases i with
  | zero => simp at h; subst h; simp
  | succ i =>
   simp at h
   have := ih i h
   cases b <;> simp at this ⊢ <;> omega
theorem left_set {listed : Array Bool} {i : Nat} (hn : listed.getD i true = false) : left (listed.setIfInBounds i true) + 1 = left listed := by
 unfold left
 have : (listed.setIfInBounds i true).toList = listed.toList.set i true := by simp
 rw [this]
 refine countP_set _ i ?_
 rw [Array.getD_eq_getD_getElem?] at hn
 cases e : listed[i]? with
 | none => rw [e] at hn; cases hn
 | some b => rw [e] at hn; simp at hn; subst hn; simpa using e
theorem ready_nil {p : Plan E call yld ops fr0 h0} {listed : Array Bool} (hsz : listed.size = ops.size) (hr : Region.ready .any ops listed = []) : ∀ i, i < ops.size → Lst listed i := by
 intro i
 induction i using Nat.strongRecOn with
 | ind i ih =>
  intro hi
  refine Classical.byContradiction fun hn => ?_
  have ho : ops[i]? = some ops[i] := Array.getElem?_eq_getElem hi
  have : i ∈ Region.ready .any ops listed := by
   simp only [Region.ready, List.mem_filter, List.mem_range, Bool.and_eq_true, Bool.not_eq_true']
   refine ⟨hi, ?_, ?_⟩
   ·unfold Lst at hn
    rw [Array.getD_eq_getD_getElem?] at hn ⊢
    have h' : i < listed.size := by omega
    rw [Array.getElem?_eq_getElem h'] at hn ⊢
    simpa using hn
   ·rw [ho]
    simp only [Option.map_some, Option.getD_some, Array.all_eq_true', Bool.or_eq_true, Bool.not_eq_true']
    intro e he
    cases hb : Region.binds .any e with
    | false => exact .inl rfl
    | true =>
     refine .inr ?_
     have hm : e.on ∈ deps ops[i] := by
      simp only [deps, List.mem_filterMap]
      exact ⟨e, by simpa using he, by rw [hb]; rfl⟩
     have hlt := p.top i _ ho _ hm
     exact ih e.on hlt (by omega)
  rw [hr] at this
  cases this
theorem left_zero {listed : Array Bool} (h : left listed = 0) (i : Nat) (hi : i < listed.size) : Lst listed i := by
 unfold left at h
 rw [List.countP_eq_zero] at h
 have := h listed[i] (by simp)
 unfold Lst
 simp [Array.getD, hi]
 simpa using this
theorem any_ok (hE : E.OK) (hC : CallOK E call) (hY : YieldOK E yld) (p : Plan E call yld ops fr0 h0) (ro : Option Nat) (n : Nat) {φ0 : Ren} {a0 : Act} {w0 : World} (h00 : φ0.m = h0.n) (hg : GL E.ng φ0) (hbd : BD E φ0)
  {Q : Exit → Act → World → Prop} (hQ : ∀ φ' a' w', Ext φ0 w0 φ' w' → FR φ' (p.frs ops.size) a'.tmps → a'.defers = a0.defers → HR φ' (p.st p.k) w' → Q .normal a' w') :
  ∀ (fuel : Nat) (listed : Array Bool) (a : Act) (w : World), left listed ≤ fuel → Inv p φ0 a0 w0 listed a w → wpAnyIn (W ro) n E.P .any ops Q fuel listed a w := by
 have done : ∀ (listed : Array Bool) (a : Act) (w : World), Region.ready .any ops listed = [] → Inv p φ0 a0 w0 listed a w → Q .normal a w := by
  intro listed a w hr I
  have hall := ready_nil (p := p) I.size hr
  obtain ⟨φ, q, hx, _, hh, hq, hs, h1, h2⟩ := I.st
  have hqk : q = p.k := by
   rcases Nat.lt_or_ge q p.k with h | h
   ·obtain ⟨i, oi, hoi, hei, hidx⟩ := p.dense q h
    have hlt : i < ops.size := by
     rcases Nat.lt_or_ge i ops.size with h | h
     ·exact h
     ·rw [Array.getElem?_eq_none h] at hoi; cases hoi
    have := (hs i oi hoi hei).1 (hall i hlt)
    omega
   ·omega
  subst hqk
  refine hQ φ a w hx ⟨?_, fun t => ?_⟩ I.df hh
  ·rw [I.ts]
   have : ∀ i, i ≤ ops.size → (p.frs i).n = fr0.n := by
    intro i
    induction i with
    | zero => intro _; rw [p.f0]
    | succ i ih =>
     intro hi
     have hlt : i < ops.size := by omega
     rw [p.fs i _ (Array.getElem?_eq_getElem hlt)]
     split
     ·exact ih (by omega)
     ·simpa [Fr.set_n] using ih (by omega)
   rw [this _ (Nat.le_refl _)]
  ·rcases p.cur t ops.size (Nat.le_refl _) with ⟨j, oj, g1, g2, g3, g4, g5⟩ | ⟨g1, g2⟩
   ·rw [g4]
    refine h2 t j oj g2 g3 (hall j g1) fun l ol hl hol hdl _ => ?_
    have hlt : l < ops.size := by
     rcases Nat.lt_or_ge l ops.size with h | h
     ·exact h
     ·rw [Array.getElem?_eq_none h] at hol; cases hol
    have := g5 l ol hlt hol hdl
    omega
   ·rw [g2]
    refine h1 t fun l ol hol hdl _ => ?_
    have hlt : l < ops.size := by
     rcases Nat.lt_or_ge l ops.size with h | h
     ·exact h
     ·rw [Array.getElem?_eq_none h] at hol; cases hol
    exact g1 l ol hlt hol hdl
 intro fuel
 induction fuel with
 | zero =>
  intro listed a w hl I
  have hr : Region.ready .any ops listed = [] := by
   cases e : Region.ready .any ops listed with
   | nil => rfl
   | cons i is =>
    obtain ⟨o, ho, hn, _⟩ := mem_ready (ops := ops) (listed := listed) (i := i) (by rw [e]; simp)
    have hlt : i < listed.size := by
     rw [I.size]
     rcases Nat.lt_or_ge i ops.size with h | h
     ·exact h
     ·rw [Array.getElem?_eq_none h] at ho; cases ho
    exact absurd (left_zero (by omega) i hlt) (getD_true hn)
  exact ⟨hr, done listed a w hr I⟩
 | succ fuel ih =>
  intro listed a w hl I
  refine ⟨fun hr => done listed a w hr I, fun i hi => ?_⟩
  obtain ⟨o, ho, hnt, hd⟩ := mem_ready hi
  have hn := getD_true hnt
  obtain ⟨φ, q, hx, ⟨hm, hfn⟩, hh, hq, hs, h1, h2⟩ := I.st
  have hf := I.frame ho hd hn h1 h2
  have hgd := aguard_ok hf (p.guard i o ho)
  have hfuel : left (listed.setIfInBounds i true) ≤ fuel := by have := left_set hnt; omega
  have heq : p.isE i = true → q = p.idx i := fun he => by
   rcases Nat.lt_trichotomy q (p.idx i) with h | h | h
   ·have hk := p.lt i o ho he
    obtain ⟨e, oe, hoe, hee, hidx⟩ := p.dense q (by omega)
    have hne : e ≠ i := by rintro rfl; omega
    have := (hs e oe hoe hee).1 (I.anc ho hd (p.chain e i oe o hoe ho hee he (by omega)) hne)
    omega
   ·exact h
   ·exact absurd ((hs i o ho he).2 h) hn
  have hsE : p.isE i = true → ∀ j oj, ops[j]? = some oj → p.isE j = true → ((j = i ∨ Lst listed j) ↔ p.idx j < q + 1) := fun he j oj hoj hej => by
   have hqi := heq he
   rw [hs j oj hoj hej]
   constructor
   ·rintro (rfl | h) <;> omega
   ·intro h
    rcases Nat.lt_or_ge (p.idx j) q with h' | h'
    ·exact .inr h'
    ·exact .inl (p.inj j i oj o hoj ho hej he (by omega))
  have hsQ : p.isE i = false → ∀ j oj, ops[j]? = some oj → p.isE j = true → ((j = i ∨ Lst listed j) ↔ p.idx j < q) := fun he j oj hoj hej => by
   rw [hs j oj hoj hej]
   constructor
   ·rintro (rfl | h)
    ·rw [he] at hej; cases hej
    ·exact h
   ·exact .inr
  have hfn' : ∀ {φ' : Ren} {w' : World}, Ext φ w φ' w' → ∀ j oj, ops[j]? = some oj → p.isF j = true → ¬ (j = i ∨ Lst listed j) → ∀ r, φ' (p.fb j) ≠ some r := fun {φ' w'} hx' j oj hoj hfj hnj r e => by
   rcases hx'.only _ _ e with e' | hle
   ·exact hfn j oj hoj hfj (fun h => hnj (.inr h)) r e'
   ·have := (p.fl j oj hoj hfj).2.2.2.1
    omega
  unfold wpOpIn
  rw [ho]
  simp only [hgd]
  cases hgi : p.g i with
  | false =>
   simp only [Bool.false_eq_true, if_false]
   refine ⟨fun _ _ => trivial, ?_⟩
   obtain ⟨hxi, hst⟩ := p.skip i o ho hgi
   refine ih _ _ _ hfuel ?_
   have hv : VR φ (p.x i) undef := by rw [hxi]; simp only [VR]; exact ⟨#[], rfl, by simp [VRs]⟩
   cases he : p.isE i with
   | true =>
    refine I.step ho hd hn h1 h2 (Le.refl φ) hx hm (hfn' (Ext.refl φ w)) (q := q) (q' := q + 1) ?_ ?_ (hsE he) hv
    ·have := hst he
     rw [← heq he] at this
     rw [this]; exact hh
    ·have := p.lt i o ho he
     have := heq he
     omega
   | false => exact I.step ho hd hn h1 h2 (Le.refl φ) hx hm (hfn' (Ext.refl φ w)) (q := q) hh hq (hsQ he) hv
  | true =>
   simp only [if_true]
   cases he : p.isE i with
   | true =>
    have hstep := p.eff i o ho hgi he
    have hqi := heq he
    rw [← hqi] at hstep
    refine astep_ok hE hC hY (hg.mono hx.le) (hbd.mono hx.le) hf hh ro n o hstep fun φ' v w' hx' hv' hr' => ?_
    refine ih _ _ _ hfuel (I.step ho hd hn h1 h2 hx'.le (hx.trans hx') (Nat.le_trans hm hx'.cnt) (hfn' hx') (q := q) hr' ?_ (hsE he) hv')
    have := p.lt i o ho he
    omega
   | false =>
    have hlo : p.lo i ≤ q := by
     rcases Nat.lt_or_ge q (p.lo i) with h | h
     ·have := p.lowk i o ho he
      obtain ⟨e, oe, hoe, hee, hidx⟩ := p.dense q (by omega)
      have hne : e ≠ i := by rintro rfl; rw [he] at hee; cases hee
      have := (hs e oe hoe hee).1 (I.anc ho hd (p.low e i oe o hoe ho hee (by omega) he) hne)
      omega
     ·exact h
    have hhi : q ≤ p.hi i := by
     rcases Nat.lt_or_ge (p.hi i) q with h | h
     ·obtain ⟨e, oe, hoe, hee, hidx⟩ := p.dense (p.hi i) (by omega)
      exact absurd (p.high e i oe o hoe ho hee (by omega) he _ I.down ((hs e oe hoe hee).2 (by omega))) hn
     ·exact h
    cases hfi : p.isF i with
    | false =>
     have hstep := p.quiet i o ho hgi he hfi q hlo hhi hq
     refine astep_ok hE hC hY (hg.mono hx.le) (hbd.mono hx.le) hf hh ro n o hstep fun φ' v w' hx' hv' hr' => ?_
     exact ih _ _ _ hfuel (I.step ho hd hn h1 h2 hx'.le (hx.trans hx') (Nat.le_trans hm hx'.cnt) (hfn' hx') (q := q) hr' hq (hsQ he) hv')
    | true =>
     obtain ⟨_, _, f1, f2, blk, f3, f4⟩ := p.fl i o ho hfi
     have f4 := f4 q hlo hhi hq
     obtain ⟨hnd, v, vs, te, hrun, hcon⟩ := flO_ok hE f3 a.eval (fun _ => rfl) w
     have hnone := hfn i o ho hfi hn
     let φ' : Ren := { f := fun c => if c = p.fb i then some w.heap.size else φ c, n := fun c => if c = p.fb i then vs.size else φ.n c, y := φ.y, m := φ.m }
     have hat : φ' (p.fb i) = some w.heap.size := by show (if _ then _ else _) = _; rw [if_pos rfl]
     have hatn : φ'.n (p.fb i) = vs.size := by show (if _ then _ else _) = _; rw [if_pos rfl]
     have hother : ∀ c, c ≠ p.fb i → φ' c = φ c ∧ φ'.n c = φ.n c := fun c hc => ⟨by show (if _ then _ else _) = _; rw [if_neg hc], by show (if _ then _ else _) = _; rw [if_neg hc]⟩
     have hle : Le φ φ' := ⟨fun c r e => by
      have hc : c ≠ p.fb i := fun hc => hnone r (hc ▸ e)
      rw [(hother c hc).1, (hother c hc).2]; exact ⟨e, rfl⟩, rfl⟩
     obtain ⟨hbr, hvx⟩ := hcon φ' hat hatn
     have hr' : HR φ' (p.st q) { w with heap := w.heap.push (.cells vs te) } := by
      refine ⟨hh.cnt, fun b r e => ?_, fun b r e hl => ?_, fun b b' r e e' hl hl' => ?_, fun r o' hk => ?_⟩
      ·by_cases hb : b = p.fb i
       ·rw [hb, hat] at e; cases e
        rw [hb]
        refine ⟨?_, by simp⟩
        have := hh.cnt; omega
       ·rw [(hother b hb).1] at e
        have := hh.dom b r e
        refine ⟨this.1, ?_⟩
        have h3 : (w.heap.push (Obj.cells vs te)).size = w.heap.size + 1 := Array.size_push _
        show r < (w.heap.push (Obj.cells vs te)).size
        omega
      ·by_cases hb : b = p.fb i
       ·rw [hb, hat] at e; cases e
        refine ⟨.cells vs te, by simp, ?_⟩
        rw [hb, hatn, f4]; exact hbr
       ·rw [(hother b hb).1] at e
        obtain ⟨o', g1, g2⟩ := hh.blk b r e hl
        have := (hh.dom b r e).2
        refine ⟨o', ?_, by rw [(hother b hb).2]; exact g2.mono hle⟩
        show (w.heap.push _)[r]? = _
        rw [Array.getElem?_push, if_neg (by omega)]; exact g1
      ·by_cases hb : b = p.fb i
       ·by_cases hb' : b' = p.fb i
        ·rw [hb, hb']
        ·rw [hb, hat] at e; cases e
         rw [(hother b' hb').1] at e'
         have := (hh.dom _ _ e').2; omega
       ·rw [(hother b hb).1] at e
        by_cases hb' : b' = p.fb i
        ·rw [hb', hat] at e'; cases e'
         have := (hh.dom _ _ e).2; omega
        ·rw [(hother b' hb').1] at e'
         exact hh.inj b b' r e e' hl hl'
      ·obtain ⟨k1, k2⟩ := hh.kp r o' hk
       have hlt : r < w.heap.size := by
        rcases Nat.lt_or_ge r w.heap.size with h | h
        ·exact h
        ·rw [Array.getElem?_eq_none h] at k1; cases k1
       refine ⟨?_, fun b e => ?_⟩
       ·show (w.heap.push _)[r]? = _
        rw [Array.getElem?_push, if_neg (by omega)]; exact k1
       ·by_cases hb : b = p.fb i
        ·rw [hb, hat] at e; cases e; omega
        ·rw [(hother b hb).1] at e; exact k2 b e
     have hx' : Ext φ0 w0 φ' { w with heap := w.heap.push (.cells vs te) } := by
      refine ⟨hx.le.trans hle, hx.cnt, fun b r e => ?_, hx.dr, ?_, hx.os, hx.tape, hx.output, fun r hr0 hb => ?_⟩
      ·by_cases hb : b = p.fb i
       ·rw [hb, hat] at e; cases e
        exact .inr ⟨by rw [hb, h00]; exact f1, .inl hx.size⟩
       ·rw [(hother b hb).1] at e; exact hx.nw b r e
      ·have h3 : (w.heap.push (Obj.cells vs te)).size = w.heap.size + 1 := Array.size_push _
       have := hx.size
       show w0.heap.size ≤ (w.heap.push (Obj.cells vs te)).size
       omega
      ·have hlt := Nat.lt_of_lt_of_le hr0 hx.size
       show (w.heap.push _)[r]? = _
       rw [Array.getElem?_push, if_neg (by omega)]; exact hx.frame r hr0 hb
     have hfn2 : ∀ j oj, ops[j]? = some oj → p.isF j = true → ¬ (j = i ∨ Lst listed j) → ∀ r, φ' (p.fb j) ≠ some r := fun j oj hoj hfj hnj r e => by
      have hne : p.fb j ≠ p.fb i := fun e' => hnj (.inl (p.finj j i oj o hoj ho hfj hfi e'))
      rw [(hother _ hne).1] at e
      exact hfn j oj hoj hfj (fun h => hnj (.inr h)) r e
     refine ⟨fun _ _ => trivial, ?_⟩
     rw [Oper.semAt_eq _ _ _ hnd]
     rw [hrun]
     exact ih _ _ _ hfuel (I.step ho hd hn h1 h2 hle hx' hm hfn2 (q := q) hr' hq (hsQ he) hvx)
theorem draw_any (hE : E.OK) (hC : CallOK E call) (hY : YieldOK E yld) (p : Plan E call yld ops fr0 h0) (ro : Option Nat) (n : Nat) {φ : Ren} {a : Act} {w : World} (hg : GL E.ng φ) (hbd : BD E φ) (hf : FR φ fr0 a.tmps) (hr : HR φ h0 w)
  {Q : Exit → Act → World → Prop} (hQ : ∀ φ' a' w', Ext φ w φ' w' → FR φ' (p.frs ops.size) a'.tmps → a'.defers = a.defers → HR φ' (p.st p.k) w' → Q .normal a' w') {d : Nat} (hd : w.drawn ≤ d) : wpAnyIn (W ro) n E.P .any ops Q ops.size (Array.replicate ops.size false) a { w with drawn := d } := by
 have hnot : ∀ i, ¬ Lst (Array.replicate ops.size false) i := fun i h => by
  unfold Lst at h
  rw [Array.getD_eq_getD_getElem?, Array.getElem?_replicate] at h
  split at h <;> simp at h
 refine any_ok hE hC hY p ro n (φ0 := φ) (a0 := a) (w0 := w) hr.cnt hg hbd hQ ops.size _ a _ ?_ ?_
 ·unfold left
  refine Nat.le_trans List.countP_le_length ?_
  simp
 ·have hle : Le φ { φ with m := h0.n + p.nf } := ⟨fun _ _ e => ⟨e, rfl⟩, rfl⟩
  refine ⟨by simp, fun i o _ h => absurd h (hnot i), ⟨{ φ with m := h0.n + p.nf }, 0, ⟨hle, by show φ.m ≤ h0.n + p.nf; rw [hr.cnt]; exact Nat.le_add_right _ _, fun _ _ e => .inl e, fun _ => hd, Nat.le_refl _, rfl, rfl, rfl, fun _ _ _ => rfl⟩,
   ⟨Nat.le_refl _, fun i oi hoi hfi _ r e => ?_⟩, (p.s0 φ w hr).drew _, Nat.zero_le _, fun i oi _ _ => ⟨fun h => absurd h (hnot i), fun h => by omega⟩, fun t _ => VR.mono hle _ _ (hf.2 t), fun t i oi _ _ h => absurd h (hnot i)⟩, hf.1, rfl⟩
  have := (hr.dom _ _ e).1
  have := (p.fl i oi hoi hfi).2.2.1
  omega
end
end Go.Ev
namespace Go.Ev
noncomputable section
inductive Kd where
 | pure
 | rd
 | ef
def kdB : Builtin → Kd
 | .len => .rd
 | .max => .pure
 | .min => .pure
 | _ => .ef
def qoF (_ : FuncId) : Bool := false
def kdC : Callee → Kd
 | .builtin b => kdB b
 | .value (.func f) => cond (qoF f) .rd .ef
 | _ => .ef
def QO (call : CallT) : Prop := ∀ f args h x h', qoF f = true → call f args h = some (x, h') → h' = h
def kd : Op → Kd
 | .move _ | .assign _ | .pick .. | .build .. | .nilCheck _ | .binOp .. | .unOp .. | .makeInterface .. | .makeFunc .. | .slice .. | .fieldAddr .. | .field .. | .indexAddr .. | .index .. | .extract .. => .pure
 | .load .. => .rd
 | .convert _ d _ => cond (Nat.beq d 160) .ef .rd
 | .lookup .. => .rd
 | .call c => kdC c.callee
 | _ => .ef
def isEf (o : Oper) : Bool :=
 match kd o.op with
 | .ef => true
 | _ => false
def isFl (o : Oper) : Bool :=
 match o.guard with
 | some _ => false
 | none =>
  match o.op with
  | .alloc _ => true
  | .makeSlice _ (.const _) (.const _) => true
  | _ => false
def fM (m : Bool) (o : Oper) : Bool := cond m (isFl o) false
def eF (m : Bool) (o : Oper) : Bool := cond (fM m o) false (isEf o)
theorem eF_isEf {m : Bool} {o : Oper} (h : eF m o = true) : isEf o = true ∧ fM m o = false := by
 unfold eF at h
 cases hf : fM m o with
 | true => rw [hf] at h; cases h
 | false => rw [hf] at h; exact ⟨h, rfl⟩
theorem fM_eF {m : Bool} {o : Oper} (h : fM m o = true) : eF m o = false := by unfold eF; rw [h]; rfl
theorem fM_guard {m : Bool} {o : Oper} (h : fM m o = true) : o.guard = none := by
 unfold fM at h
 cases m with
 | false => cases h
 | true =>
  simp only [cond, isFl] at h
  split at h
  ·cases h
  ·assumption
theorem cond_pure (c : Bool) (v : V) : ∃ r : Option V, ∀ h : H, (cond c (some (v, h)) none : Option (V × H)) = r.map fun v => (v, h) := by
 cases c
 ·exact ⟨none, fun h => rfl⟩
 ·exact ⟨some v, fun h => rfl⟩
theorem cond2_pure (c d : Bool) (v u : V) : ∃ r : Option V, ∀ h : H, (cond c (some (v, h)) (cond d (some (u, h)) none) : Option (V × H)) = r.map fun v => (v, h) := by
 cases c
 ·cases d
  ·exact ⟨none, fun h => rfl⟩
  ·exact ⟨some u, fun h => rfl⟩
 ·exact ⟨some v, fun h => rfl⟩
theorem b0_pure {E : Env} {b : Builtin} (hk : kdB b = .pure) (ts : List TypeId) (args : List V) : ∃ r : Option V, ∀ h, aBuiltin0 E b ts args h = r.map fun v => (v, h) := by
 cases b <;> try (simp only [kdB] at hk; cases hk; done)
 ·simp only [aBuiltin0]
  split <;> first | contradiction | skip
  ·exact cond_pure _ _
  ·exact ⟨none, fun h => rfl⟩
 ·simp only [aBuiltin0]
  split <;> first | contradiction | skip
  ·exact cond_pure _ _
  ·exact ⟨none, fun h => rfl⟩
theorem aLoad_same {E : Env} {t : TypeId} {a x : V} {h h' : H} (hs : aLoad E t a h = some (x, h')) : h' = h := by
 unfold aLoad at hs
 split at hs
 ·split at hs
  ·simp only [Option.some.injEq, Prod.mk.injEq] at hs; exact hs.2.symm
  ·cases hs
 unfold aLoad0 at hs
 have key : ∀ {c : Bool} {m : Option (V × H)}, (cond c m none) = some (x, h') → m = some (x, h') := fun {c m} e => by
  cases c with
  | true => exact e
  | false => cases e
 split at hs
 ·split at hs
  ·split at hs
   ·simp only [Option.some.injEq, Prod.mk.injEq] at hs; exact hs.2.symm
   ·cases hs
  ·split at hs
   ·simp only [Option.some.injEq, Prod.mk.injEq] at hs; exact hs.2.symm
   ·cases hs
  ·cases hs
 ·split at hs
  ·have hs := key hs
   split at hs
   ·split at hs
    ·simp only [Option.some.injEq, Prod.mk.injEq] at hs; exact hs.2.symm
    ·cases hs
   ·cases hs
  ·have hs := key hs
   split at hs
   ·split at hs
    ·simp only [Option.some.injEq, Prod.mk.injEq] at hs; exact hs.2.symm
    ·cases hs
   ·cases hs
  ·cases hs
 ·cases hs
theorem key2 {α : Type} {c : Bool} {m : Option α} {x : α} (e : (cond c m none) = some x) : m = some x := by
 cases c with
 | true => exact e
 | false => cases e
theorem aLookup_same {E : Env} {t : TypeId} {a k x : V} {ok : Bool} {h h' : H} (hs : aLookup E t a k ok h = some (x, h')) : h' = h := by
 have old : aLookup0 E t a k ok h = some (x, h') → h' = h := fun hs => by
  simp only [aLookup0] at hs
  split at hs
  ·split at hs
   ·rename_i d es _ _
    cases hk : keyV d k with
    | false => rw [hk] at hs; cases hs
    | true =>
     rw [hk] at hs
     simp only [cond_true] at hs
     split at hs
     ·simp only [Option.some.injEq, Prod.mk.injEq] at hs; exact hs.2.symm
     ·split at hs
      ·split at hs
       ·simp only [Option.some.injEq, Prod.mk.injEq] at hs; exact hs.2.symm
       ·cases hs
      ·cases hs
     ·cases hs
   ·cases hs
  ·cases hs
 unfold aLookup at hs
 split at hs
 ·split at hs
  ·split at hs
   ·simp only [Option.some.injEq, Prod.mk.injEq] at hs; exact hs.2.symm
   ·cases hs
  ·split at hs
   ·simp only [Option.some.injEq, Prod.mk.injEq] at hs; exact hs.2.symm
   ·cases hs
  ·split at hs
   ·simp only [Option.some.injEq, Prod.mk.injEq] at hs; exact hs.2.symm
   ·cases hs
  ·split at hs
   ·rename_i r hr
    simp only [Option.some.injEq] at hs; subst hs
    exact old hr
   ·unfold aLookT at hs
    split at hs
    ·have hs := (key2 hs)
     split at hs
     ·simp only [Option.some.injEq, Prod.mk.injEq] at hs; exact hs.2.symm
     ·split at hs
      ·split at hs
       ·simp only [Option.some.injEq, Prod.mk.injEq] at hs; exact hs.2.symm
       ·cases hs
      ·cases hs
     ·cases hs
    ·cases hs
 ·exact old hs
theorem len_same {E : Env} {ts : List TypeId} {args : List V} {h h' : H} {x : V} (hs : aBuiltin E .len ts args h = some (x, h')) : h' = h := by
 have old : ∀ args, aBuiltin0 E .len ts args h = some (x, h') → h' = h := fun args hs => by
  simp only [aBuiltin0] at hs
  split at hs <;> first | contradiction | skip
  ·split at hs <;> first | (cases hs; done) | (simp only [Option.some.injEq, Prod.mk.injEq] at hs; exact hs.2.symm) | skip
   split at hs <;> first | (cases hs; done) | (simp only [Option.some.injEq, Prod.mk.injEq] at hs; exact hs.2.symm)
 unfold aBuiltin at hs
 split at hs <;> first | contradiction | skip
 ·unfold aLenQ at hs
  split at hs
  ·split at hs
   ·simp only [Option.some.injEq, Prod.mk.injEq] at hs; exact hs.2.symm
   ·cases hs
  ·split at hs
   ·simp only [Option.some.injEq, Prod.mk.injEq] at hs; exact hs.2.symm
   ·cases hs
  ·cases hs
 ·split at hs
  ·simp only [cond_eq_ite] at hs
   split at hs
   ·simp only [Option.some.injEq, Prod.mk.injEq] at hs; exact hs.2.symm
   ·cases hs
  ·cases hs
 ·split at hs
  ·split at hs
   ·simp only [Option.some.injEq, Prod.mk.injEq] at hs; exact hs.2.symm
   ·cases hs
  ·exact old _ hs
 ·exact old _ hs
theorem pure_ok {E : Env} {call yld : CallT} {fr : Fr} {o : Op} (hk : kd o = .pure) : ∃ r : Option V, ∀ h, astep E call yld fr o h = r.map fun v => (v, h) := by
 cases o <;> try (simp only [kd] at hk; cases hk; done)
 case convert s d x =>
  simp only [kd] at hk
  cases hd : Nat.beq d 160 <;> rw [hd] at hk <;> cases hk
 case move x => exact ⟨some _, fun h => rfl⟩
 case assign x => exact ⟨some _, fun h => rfl⟩
 case pick c a b =>
  simp only [astep, aop]
  split
  ·exact ⟨some _, fun h => rfl⟩
  ·exact ⟨some _, fun h => rfl⟩
  ·exact ⟨none, fun h => rfl⟩
 case build t ps =>
  simp only [astep, aop, aBuild]
  split
  ·split
   ·split
    ·exact ⟨some _, fun h => rfl⟩
    ·exact ⟨none, fun h => rfl⟩
   ·exact ⟨none, fun h => rfl⟩
  ·split
   ·split
    ·exact ⟨some _, fun h => rfl⟩
    ·exact ⟨none, fun h => rfl⟩
   ·exact ⟨none, fun h => rfl⟩
  ·exact ⟨none, fun h => rfl⟩
 case nilCheck x =>
  simp only [astep, aop]
  split
  ·exact ⟨some _, fun h => rfl⟩
  ·exact ⟨none, fun h => rfl⟩
 case binOp op t x y z =>
  simp only [astep, aop]
  split
  ·exact ⟨some _, fun h => rfl⟩
  ·exact ⟨none, fun h => rfl⟩
 case unOp op t x =>
  simp only [astep, aop]
  split
  ·exact ⟨some _, fun h => rfl⟩
  ·exact ⟨none, fun h => rfl⟩
 case makeInterface t x =>
  simp only [astep, aop]
  split
  ·rename_i i d _
   cases concreteD d
   ·exact ⟨none, fun h => rfl⟩
   ·exact ⟨some _, fun h => rfl⟩
  ·exact ⟨none, fun h => rfl⟩
 case makeFunc f a b =>
  cases f
  case func => exact ⟨some _, fun h => rfl⟩
  all_goals exact ⟨none, fun h => rfl⟩
 case slice t x lo hi mx =>
  cases mx with
  | some _ => exact ⟨none, fun h => rfl⟩
  | none =>
   simp only [astep, aop, aSlice]
   split
   ·split
    ·exact ⟨some _, fun h => rfl⟩
    ·split
     ·split
      ·exact ⟨some _, fun h => rfl⟩
      ·exact ⟨none, fun h => rfl⟩
     ·exact ⟨none, fun h => rfl⟩
   ·split
    ·exact ⟨some _, fun h => rfl⟩
    ·exact ⟨none, fun h => rfl⟩
   simp only [aSlice0]
   split
   ·split
    ·split
     ·exact ⟨some _, fun h => rfl⟩
     ·exact ⟨none, fun h => rfl⟩
    ·exact ⟨none, fun h => rfl⟩
   ·split
    ·split
     ·exact ⟨some _, fun h => rfl⟩
     ·exact ⟨none, fun h => rfl⟩
    ·exact ⟨none, fun h => rfl⟩
   ·split
    ·split
     ·rename_i len sz _ _ _ _ ie _ _ _ _ _ a _
      cases Nat.beq sz ie.size
      ·exact ⟨none, fun h => rfl⟩
      ·cases Nat.beq a 0
       ·cases Nat.blt a len
        ·exact ⟨some _, fun h => rfl⟩
        ·exact ⟨some _, fun h => rfl⟩
       ·exact ⟨some _, fun h => rfl⟩
     ·exact ⟨none, fun h => rfl⟩
    ·exact ⟨none, fun h => rfl⟩
   ·split
    ·split
     ·exact ⟨some _, fun h => rfl⟩
     ·exact ⟨none, fun h => rfl⟩
    ·exact ⟨none, fun h => rfl⟩
   ·split
    ·split
     ·exact ⟨some _, fun h => rfl⟩
     ·exact ⟨none, fun h => rfl⟩
    ·exact ⟨none, fun h => rfl⟩
   ·exact ⟨none, fun h => rfl⟩
 case fieldAddr s x f =>
  simp only [astep, aop, aFieldAddr]
  split
  ·split
   ·split
    ·rename_i i _ _
     cases Nat.beq i.size 0
     ·exact ⟨some _, fun h => rfl⟩
     ·exact ⟨none, fun h => rfl⟩
    ·exact ⟨none, fun h => rfl⟩
   ·exact ⟨none, fun h => rfl⟩
  ·split
   ·split
    ·rename_i i _ _
     cases Nat.beq i.size 0
     ·exact ⟨some _, fun h => rfl⟩
     ·exact ⟨none, fun h => rfl⟩
    ·exact ⟨none, fun h => rfl⟩
   ·exact ⟨none, fun h => rfl⟩
  ·exact ⟨none, fun h => rfl⟩
 case field t x f =>
  simp only [astep, aop, aField]
  split
  ·split
   ·split
    ·exact ⟨some _, fun h => rfl⟩
    ·exact ⟨none, fun h => rfl⟩
   ·exact ⟨none, fun h => rfl⟩
  ·exact ⟨none, fun h => rfl⟩
 case indexAddr t x i =>
  simp only [astep, aop, aIndexAddr]
  split
  ·split
   ·exact ⟨some _, fun h => rfl⟩
   ·exact ⟨none, fun h => rfl⟩
  simp only [aIndexAddr0]
  split
  ·split
   ·exact ⟨some _, fun h => rfl⟩
   ·exact ⟨none, fun h => rfl⟩
  ·split
   ·exact ⟨some _, fun h => rfl⟩
   ·exact ⟨none, fun h => rfl⟩
  ·split
   ·exact cond_pure _ _
   ·exact ⟨none, fun h => rfl⟩
  ·exact ⟨none, fun h => rfl⟩
 case index t x i =>
  simp only [astep, aop, aIndex]
  split
  ·split
   ·split
    ·exact ⟨some _, fun h => rfl⟩
    ·exact ⟨none, fun h => rfl⟩
   ·exact ⟨none, fun h => rfl⟩
  ·split
   ·split
    ·exact ⟨some _, fun h => rfl⟩
    ·exact ⟨none, fun h => rfl⟩
   ·exact ⟨none, fun h => rfl⟩
  ·exact ⟨none, fun h => rfl⟩
 case extract x i =>
  simp only [astep, aop]
  split
  ·split
   ·exact ⟨some _, fun h => rfl⟩
   ·exact ⟨none, fun h => rfl⟩
  ·exact ⟨none, fun h => rfl⟩
 case call c =>
  obtain ⟨callee, args, argTypes⟩ := c
  cases callee with
  | builtin b =>
   simp only [astep]
   cases b <;> try (simp only [kd, kdC, kdB] at hk; cases hk; done)
   ·simp only [aBuiltin]
    split <;> first | contradiction | skip
    ·split
     ·exact ⟨some _, fun h => rfl⟩
     ·exact b0_pure rfl _ _
    ·exact b0_pure rfl _ _
   ·simp only [aBuiltin]
    split <;> first | contradiction | skip
    ·split
     ·exact cond2_pure _ _ _ _
     ·exact b0_pure rfl _ _
    ·exact b0_pure rfl _ _
  | value x =>
   exfalso
   cases x with
   | func f => simp only [kd, kdC] at hk; cases hq : qoF f <;> rw [hq] at hk <;> cases hk
   | _ => simp only [kd, kdC] at hk; cases hk
  | _ => simp only [kd, kdC] at hk; cases hk
theorem rd_ok {E : Env} {call yld : CallT} (hq : QO call) {fr : Fr} {o : Op} (hk : kd o = .rd) {h h' : H} {x : V} (hs : astep E call yld fr o h = some (x, h')) : h' = h := by
 cases o <;> try (simp only [kd] at hk; cases hk; done)
 case load t a => exact aLoad_same (by simpa only [astep, aop] using hs)
 case convert s d x =>
  have hd : Nat.beq d 160 = false := by
   simp only [kd] at hk
   cases hd : Nat.beq d 160 with
   | true => rw [hd] at hk; cases hk
   | false => rfl
  simp only [astep, aop] at hs
  split at hs
  ·cases hs; rfl
  ·split at hs
   ·cases hs; rfl
   ·simp only [aStrB, hd, cond] at hs; cases hs
 case lookup t x k ok => exact aLookup_same (by simpa only [astep, aop] using hs)
 case call c =>
  obtain ⟨callee, args, argTypes⟩ := c
  cases callee with
  | builtin b =>
   simp only [astep] at hs
   cases b <;> try (simp only [kd, kdC, kdB] at hk; cases hk; done)
   exact len_same hs
  | value x =>
   cases x with
   | func f =>
    have hs : call f ([] ++ args.toList.map (ev E.ng fr) ++ []) h = some (x, h') := hs
    simp only [List.nil_append, List.append_nil] at hs
    refine hq f _ _ _ _ ?_ hs
    simp only [kd, kdC] at hk
    cases he : qoF f with
    | true => rfl
    | false => rw [he] at hk; cases hk
   | _ => simp only [kd, kdC] at hk; cases hk
  | _ => simp only [kd, kdC] at hk; cases hk
end
end Go.Ev
