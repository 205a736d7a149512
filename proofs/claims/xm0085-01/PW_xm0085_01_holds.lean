import PyProof.Rows.All
import Wide.All
import OpenK.AllK
import Wide.FinOn
import PySem.Challenge.RW_xm0085_01
open PySem PySem.W PyProof.Rows PySem.Calls
set_option Elab.async false
set_option maxRecDepth 100000
set_option maxHeartbeats 8000000
set_option linter.unusedVariables false
set_option linter.unusedSectionVars false
namespace Mine
/-- the names, one of them bound anew -/
abbrev put (m : Str → Option Value) (x : Str) (v : Value) : Str → Option Value := fun y => if y = x then some v else m y
/-- the state with another heap -/
abbrev up (s : Shared) (h : Heap) (tk : Tok) : Shared := { s with heap := h, toks := tk }

/-- every object of the first heap stands in the second -/
abbrev Ext (h h' : Heap) : Prop := ∀ b o, h.get? b = some o → h'.get? b = some o
theorem Ext.rfl' {h : Heap} : Ext h h := fun _ _ e => e
theorem Ext.tr {h h' h'' : Heap} (x : Ext h h') (y : Ext h' h'') : Ext h h'' := fun b o e => y b o (x b o e)

theorem leM {α β : Type} {f : α → β} {xs : List α} (h : xs.length ≤ 1000) : (xs.map f).length ≤ 16777216 := by rw [List.length_map]; exact Nat.le_trans h (by decide)
/-- a place in a short list is a fit index -/
theorem ixM {i : Nat} (h : i ≤ 2000) : (i : Int) < 9223372036854775808 := by lia
theorem nnM (i : Nat) : (0 : Int) ≤ (i : Int) := Int.natCast_nonneg i
theorem ijM {i j a b : Nat} (x : i < a) (y : j < b) : i + j < a + b - 1 := by omega
abbrev Any : Addr → Prop := fun _ => True
mutual
/-- the value stands for the datum; the lists in it stand at places that S allows -/
inductive Rp (S : Addr → Prop) (h : Heap) : Value → PyData → Prop
  | none : Rp S h .none .none
  | bool (b : Bool) : Rp S h (.bool b) (.bool b)
  | int (i : Int) (t : Tok) : Rp S h (.int i t) (.int i)
  | list {a : Addr} {vs : List Value} {ds : List PyData} : S a → h.IsList a vs.toArray → Rps S h vs ds → Rp S h (.ref a) (.list ds)
  | tuple {a : Addr} {vs : List Value} {ds : List PyData} : IsTup h a vs.toArray → Rps S h vs ds → Rp S h (.ref a) (.tuple ds)
inductive Rps (S : Addr → Prop) (h : Heap) : List Value → List PyData → Prop
  | nil : Rps S h [] []
  | cons {v : Value} {d : PyData} {vs : List Value} {ds : List PyData} : Rp S h v d → Rps S h vs ds → Rps S h (v :: vs) (d :: ds)
end
mutual
/-- no list in it -/
def flat : PyData → Bool
  | .list _ => false
  | .tuple ds => flats ds
  | .dict _ => false
  | _ => true
def flats : List PyData → Bool
  | [] => true
  | d :: ds => flat d && flats ds
end

theorem isList_ext {h h' : Heap} {a : Addr} {items : Array Value} (x : h.IsList a items) (e : Ext h h') : h'.IsList a items := let ⟨o, ho, r⟩ := x; ⟨o, e _ _ ho, r⟩
theorem isTup_ext {h h' : Heap} {a : Addr} {items : Array Value} (x : IsTup h a items) (e : Ext h h') : IsTup h' a items := let ⟨o, ho, r⟩ := x; ⟨o, e _ _ ho, r⟩
section
variable {S T : Addr → Prop} {h h' : Heap}
/-- what keeps the lists and the tuples keeps what stands there -/
theorem Rp.gen (hl : ∀ a items, S a → h.IsList a items → T a ∧ h'.IsList a items) (ht : ∀ a items, IsTup h a items → IsTup h' a items) : ∀ {v : Value} {d : PyData}, Rp S h v d → Rp T h' v d :=
  fun r => Rp.rec (motive_1 := fun v d _ => Rp T h' v d) (motive_2 := fun vs ds _ => Rps T h' vs ds) .none (fun b => .bool b) (fun i t => .int i t) (fun s x _ r => .list (hl _ _ s x).1 (hl _ _ s x).2 r) (fun x _ r => .tuple (ht _ _ x) r) .nil (fun _ _ x r => .cons x r) r
theorem Rps.gen (hl : ∀ a items, S a → h.IsList a items → T a ∧ h'.IsList a items) (ht : ∀ a items, IsTup h a items → IsTup h' a items) : ∀ {vs : List Value} {ds : List PyData}, Rps S h vs ds → Rps T h' vs ds :=
  fun r => Rps.rec (motive_1 := fun v d _ => Rp T h' v d) (motive_2 := fun vs ds _ => Rps T h' vs ds) .none (fun b => .bool b) (fun i t => .int i t) (fun s x _ r => .list (hl _ _ s x).1 (hl _ _ s x).2 r) (fun x _ r => .tuple (ht _ _ x) r) .nil (fun _ _ x r => .cons x r) r
theorem Rp.mono (e : Ext h h') {v : Value} {d : PyData} (r : Rp S h v d) : Rp S h' v d := r.gen (fun _ _ s x => ⟨s, isList_ext x e⟩) fun _ _ x => isTup_ext x e
theorem Rps.mono (e : Ext h h') {vs : List Value} {ds : List PyData} (r : Rps S h vs ds) : Rps S h' vs ds := r.gen (fun _ _ s x => ⟨s, isList_ext x e⟩) fun _ _ x => isTup_ext x e
/-- another set of places, by what stands there -/
theorem Rp.re (e : ∀ a items, S a → h.IsList a items → T a) {v : Value} {d : PyData} (r : Rp S h v d) : Rp T h v d := r.gen (fun _ _ s x => ⟨e _ _ s x, x⟩) fun _ _ x => x
theorem Rps.re (e : ∀ a items, S a → h.IsList a items → T a) {vs : List Value} {ds : List PyData} (r : Rps S h vs ds) : Rps T h vs ds := r.gen (fun _ _ s x => ⟨e _ _ s x, x⟩) fun _ _ x => x
theorem Rp.flat {v : Value} {d : PyData} (r : Rp S h v d) : flat d = true → Rp T h v d :=
  Rp.rec (motive_1 := fun v d _ => Mine.flat d = true → Rp T h v d) (motive_2 := fun vs ds _ => flats ds = true → Rps T h vs ds) (fun _ => .none) (fun b _ => .bool b) (fun i t _ => .int i t) (fun _ _ _ _ e => Bool.noConfusion e) (fun x _ ih e => .tuple x (ih e)) (fun _ => .nil)
    (fun _ _ ih1 ih2 e => .cons (ih1 (Bool.and_eq_true_iff.mp e).1) (ih2 (Bool.and_eq_true_iff.mp e).2)) r
theorem Rps.flat {vs : List Value} {ds : List PyData} (r : Rps S h vs ds) : flats ds = true → Rps T h vs ds :=
  Rps.rec (motive_1 := fun _ _ _ => True) (motive_2 := fun vs ds _ => flats ds = true → Rps T h vs ds) trivial (fun _ => trivial) (fun _ _ => trivial) (fun _ _ _ _ => trivial) (fun _ _ _ => trivial) (fun _ => .nil)
    (fun x _ _ ih2 e => .cons (x.flat (Bool.and_eq_true_iff.mp e).1) (ih2 (Bool.and_eq_true_iff.mp e).2)) r
theorem Rps.recL {motive : List Value → List PyData → Prop} (nil : motive [] []) (cons : ∀ {v d vs ds}, Rp S h v d → Rps S h vs ds → motive vs ds → motive (v :: vs) (d :: ds)) {vs : List Value} {ds : List PyData} (r : Rps S h vs ds) : motive vs ds :=
  Rps.rec (motive_1 := fun _ _ _ => True) (motive_2 := fun vs ds _ => motive vs ds) trivial (fun _ => trivial) (fun _ _ => trivial) (fun _ _ _ _ => trivial) (fun _ _ _ => trivial) nil (fun x r _ ih => cons x r ih) r
theorem Rp.any {v : Value} {d : PyData} (x : Rp S h v d) : Rp Any h v d := x.re fun _ _ _ _ => trivial
theorem Rps.any {vs : List Value} {ds : List PyData} (x : Rps S h vs ds) : Rps Any h vs ds := x.re fun _ _ _ _ => trivial
theorem Rps.length {vs : List Value} {ds : List PyData} (r : Rps S h vs ds) : vs.length = ds.length := r.recL (motive := fun vs ds => vs.length = ds.length) rfl fun _ _ ih => congrArg (· + 1) ih
theorem Rps.at {vs : List Value} {ds : List PyData} (r : Rps S h vs ds) : ∀ {i : Nat} {d : PyData}, ds[i]? = some d → ∃ v, vs[i]? = some v ∧ Rp S h v d := by
  refine r.recL (motive := fun vs ds => ∀ {i : Nat} {d : PyData}, ds[i]? = some d → ∃ v, vs[i]? = some v ∧ Rp S h v d) (fun e => nomatch e) fun x _ ih => ?_
  intro i d e
  cases i with
  | zero => exact ⟨_, rfl, Option.some.inj e ▸ x⟩
  | succ i => exact ih e
theorem Rps.at' {vs : List Value} {ds : List PyData} (r : Rps S h vs ds) : ∀ {i : Nat} {v : Value}, vs[i]? = some v → ∃ d, ds[i]? = some d ∧ Rp S h v d := by
  refine r.recL (motive := fun vs ds => ∀ {i : Nat} {v : Value}, vs[i]? = some v → ∃ d, ds[i]? = some d ∧ Rp S h v d) (fun e => nomatch e) fun x _ ih => ?_
  intro i v e
  cases i with
  | zero => exact ⟨_, rfl, Option.some.inj e ▸ x⟩
  | succ i => exact ih e
theorem Rps.append {vs : List Value} {ds : List PyData} {us : List Value} {es : List PyData} (r : Rps S h vs ds) (y : Rps S h us es) : Rps S h (vs ++ us) (ds ++ es) := r.recL (motive := fun vs ds => Rps S h (vs ++ us) (ds ++ es)) y fun x _ ih => .cons x ih
theorem Rps.take {vs : List Value} {ds : List PyData} (_ : Nat) (r : Rps S h vs ds) : ∀ n, Rps S h (vs.take n) (ds.take n) := by
  refine r.recL (motive := fun vs ds => ∀ n, Rps S h (vs.take n) (ds.take n)) (fun n => ?_) fun x _ ih n => ?_
  · rw [List.take_nil, List.take_nil]; exact .nil
  · cases n with
    | zero => exact .nil
    | succ n => exact .cons x (ih n)
theorem Rps.set {v : Value} {d : PyData} (x : Rp S h v d) {vs : List Value} {ds : List PyData} (i : Nat) (r : Rps S h vs ds) : Rps S h (vs.set i v) (ds.set i d) := by
  refine r.recL (motive := fun vs ds => ∀ i, Rps S h (vs.set i v) (ds.set i d)) (fun _ => .nil) (fun y r ih i => ?_) i
  cases i with
  | zero => exact .cons x r
  | succ i => exact .cons y (ih i)
theorem Rps.reverse {vs : List Value} {ds : List PyData} (r : Rps S h vs ds) : Rps S h vs.reverse ds.reverse := r.recL (motive := fun vs ds => Rps S h vs.reverse ds.reverse) .nil fun x _ ih => by
  rw [List.reverse_cons, List.reverse_cons]; exact ih.append (.cons x .nil)
theorem Rps.replicate {v : Value} {d : PyData} (x : Rp S h v d) : ∀ n, Rps S h (List.replicate n v) (List.replicate n d)
  | 0 => .nil
  | n + 1 => .cons x (Rps.replicate x n)
theorem Rps.one {vs : List Value} {d : PyData} (r : Rps S h vs [d]) : ∃ v, vs = [v] ∧ Rp S h v d := by
  cases r with | cons x y => cases y; exact ⟨_, rfl, x⟩
theorem Rps.two {vs : List Value} {d e : PyData} (r : Rps S h vs [d, e]) : ∃ v u, vs = [v, u] ∧ Rp S h v d ∧ Rp S h u e := by
  cases r with | cons x y => obtain ⟨u, e, y'⟩ := y.one; subst e; exact ⟨_, _, rfl, x, y'⟩
theorem Rps.three {vs : List Value} {d e f : PyData} (r : Rps S h vs [d, e, f]) : ∃ v u z, vs = [v, u, z] ∧ Rp S h v d ∧ Rp S h u e ∧ Rp S h z f := by
  cases r with | cons x y => obtain ⟨u, z, e, y', y''⟩ := y.two; subst e; exact ⟨_, _, _, rfl, x, y', y''⟩
theorem Rp.int_inv {v : Value} {i : Int} (r : Rp S h v (.int i)) : ∃ t, v = .int i t := by cases r; exact ⟨_, rfl⟩
theorem Rp.list_inv {v : Value} {ds : List PyData} (r : Rp S h v (.list ds)) : ∃ a vs, v = .ref a ∧ S a ∧ h.IsList a vs.toArray ∧ Rps S h vs ds := by cases r with | list s x y => exact ⟨_, _, rfl, s, x, y⟩
theorem Rp.tup_inv {v : Value} {ds : List PyData} (r : Rp S h v (.tuple ds)) : ∃ a vs, v = .ref a ∧ IsTup h a vs.toArray ∧ Rps S h vs ds := by cases r with | tuple x y => exact ⟨_, _, rfl, x, y⟩
end

/-- the run's world: program, draws, the written part of the heap, the top's facts -/
structure Cx where
  prog : Program
  w : World
  K : Frag
  p : Program
  loose : List Str
  mg : Str → Option Value
  mb : Str → Option Value
abbrev Cx.m (c : Cx) : Model := model c.prog c.w
structure Ok (c : Cx) (h : Heap) : Prop where
  K : c.K.In h
  T : TopRead c.p c.loose c.mg c.mb h
  seer : h.NoSeer
  tree : c.prog.given.tree = none
theorem Ok.ext {c : Cx} {h h' : Heap} (x : Ok c h) (e : Ext h h') : Ok c h' := ⟨x.K.keeps e, x.T.keeps e, x.seer.keeps e, x.tree⟩
/-- the frame's env is a plain def's -/
structure Pl (env : Env) : Prop where
  gen : env.scope.isGenerator = false
  co : env.scope.isCoroutine = false
  b : env.builtins = builtinsNs
  g : env.globals = mainGlobals
/-- room for n more frames -/
structure Rm (n : Nat) (A : Around) : Prop where
  hh : A.handled = none
  hd : A.depth + n ≤ 800
  hu : A.units + 4 * n ≤ 5000
  hf : ∃ env l, A.frames = some (env :: l) ∧ Pl env
theorem Rm.le {n m : Nat} {A : Around} (x : Rm n A) (h : m ≤ n) : Rm m A := ⟨x.hh, by have := x.hd; lia, by have := x.hu; lia, x.hf⟩
theorem Rm.deeper {n : Nat} {A : Around} {env : Env} (x : Rm (n + 1) A) (p : Pl env) : Rm n (A.deeper env) :=
  ⟨x.hh, by have := x.hd; show A.depth + 1 + n ≤ 800; lia, by have := x.hu; show A.units + 3 + 4 * n ≤ 5000; lia, by
    obtain ⟨e, l, h, _⟩ := x.hf
    exact ⟨env, e :: l, by show A.frames.map (env :: ·) = _; rw [h]; rfl, p⟩⟩
theorem Rm.pylong {c : Cx} {n : Nat} {A : Around} {s : Shared} (x : Rm n A) (o : Ok c s.heap) : PylongRoom (model c.prog c.w) A s := by
  obtain ⟨e, l, h, p⟩ := x.hf
  exact PylongRoom.of o.T.nolimit (by have := x.hd; show _ + 100 < 1000; lia) (SeerAt.of o.seer o.tree h p.gen p.co p.b p.g)

/-- in every heap that holds h0, the expression gives the datum, and makes new objects alone -/
def Ev (c : Cx) (n : Nat) (env : Env) (h0 : Heap) (S : Addr → Prop) (e : Expr) (d : PyData) : Prop :=
  ∀ (A : Around) (s : Shared) (Q : Value → Shared → Prop) (E : Value → Shared → Prop), Rm n A → Ext h0 s.heap →
    (∀ v h' tk, Ext s.heap h' → Rp S h' v d → Q v (up s h' tk)) → wpAny (model c.prog c.w) A (eval e env) Q E s
def Evs (c : Cx) (n : Nat) (env : Env) (h0 : Heap) (S : Addr → Prop) (es : List Expr) (ds : List PyData) : Prop :=
  ∀ (pos : Pos) (A : Around) (s : Shared) (Q : List Value → Shared → Prop) (E : Value → Shared → Prop), Rm n A → Ext h0 s.heap →
    (∀ vs h' tk, Ext s.heap h' → Rps S h' vs ds → Q vs (up s h' tk)) → wpAny (model c.prog c.w) A (spliced (backTo pos (starEach es env))) Q E s
/-- the expression gives a new plain list -/
def EvN (c : Cx) (n : Nat) (env : Env) (h0 : Heap) (S : Addr → Prop) (e : Expr) (ds : List PyData) : Prop :=
  ∀ (A : Around) (s : Shared) (Q : Value → Shared → Prop) (E : Value → Shared → Prop), Rm n A → Ext h0 s.heap →
    (∀ a vs h' tk, Ext s.heap h' → s.heap.get? a = none → h'.PlainList a vs.toArray → Rps S h' vs ds → Q (.ref a) (up s h' tk)) → wpAny (model c.prog c.w) A (eval e env) Q E s
/-- the test gives the bool -/
def Tr (c : Cx) (n : Nat) (env : Env) (h0 : Heap) (e : Expr) (b : Bool) : Prop :=
  ∀ (A : Around) (s : Shared) (Q : Bool → Shared → Prop) (E : Value → Shared → Prop), Rm n A → Ext h0 s.heap →
    (∀ h' tk, Ext s.heap h' → Q b (up s h' tk)) → wpAny (model c.prog c.w) A (isTrue e env (eval e env)) Q E s
/-- places that were free in the heap -/
abbrev New (h : Heap) : Addr → Prop := fun a => h.get? a = none
/-- the def at f, called with values for ds, gives a value for d all of whose lists are new, and makes new objects alone -/
def Con (c : Cx) (n : Nat) (f : Addr) (ds : List PyData) (d : PyData) : Prop :=
  ∀ (A : Around) (s : Shared) (vs : List Value) (Q : Value → Shared → Prop) (E : Value → Shared → Prop), Rm n A → Ok c s.heap → Rps Any s.heap vs ds →
    (∀ v h' tk, Ext s.heap h' → Rp (New s.heap) h' v d → Q v (up s h' tk)) → wpAny (model c.prog c.w) A (PySem.call (.ref f) vs) Q E s

theorem New.ext {h h' : Heap} {a : Addr} (e : Ext h h') (x : New h' a) : New h a := by
  show h.get? a = none
  cases q : h.get? a with
  | none => rfl
  | some o => have y : h'.get? a = none := x; rw [e _ _ q] at y; cases y

section
variable {c : Cx} {n : Nat} {env : Env} {h0 : Heap} {S : Addr → Prop}

theorem Con.le {m : Nat} {f : Addr} {ds : List PyData} {d : PyData} (x : Con c n f ds d) (k : n ≤ m) : Con c m f ds d := fun A s vs Q E hA => x A s vs Q E (hA.le k)
theorem Ev.to {e : Expr} {d d' : PyData} (x : Ev c n env h0 S e d) (h : d = d') : Ev c n env h0 S e d' := h ▸ x
theorem EvN.to {e : Expr} {d d' : List PyData} (x : EvN c n env h0 S e d) (h : d = d') : EvN c n env h0 S e d' := h ▸ x
theorem Ev.flat {T : Addr → Prop} {e : Expr} {d : PyData} (x : Ev c n env h0 T e d) (h : Mine.flat d = true) : Ev c n env h0 S e d := fun A s Q E hA hx q => x A s Q E hA hx fun v h' tk e r => q v h' tk e (r.flat h)
theorem EvN.ev {e : Expr} {ds : List PyData} (x : EvN c n env h0 S e ds) (hS : ∀ a, New h0 a → S a) : Ev c n env h0 S e (.list ds) := fun A s Q E hA hx q =>
  x A s Q E hA hx fun a vs h' tk e hn hp r => q _ h' tk e (.list (hS a (New.ext hx hn)) hp.isList r)
theorem EvN.any {e : Expr} {ds : List PyData} (x : EvN c n env h0 S e ds) : Ev c n env h0 Any e (.list ds) := fun A s Q E hA hx q =>
  x A s Q E hA hx fun a vs h' tk e hn hp r => q _ h' tk e (.list trivial hp.isList r.any)

theorem Ev.const {i : Int} {k : Nat} {pos : Pos} : Ev c n env h0 S (.Constant (.int i) k pos) (.int i) := fun _ s _ _ _ _ q => wpAny_Constant_int (q _ s.heap _ Ext.rfl' (.int _ _))

/-- a name of the frame's own -/
theorem Ev.loc {m : Str → Option Value} {x : Str} {pos : Pos} {v : Value} {d : PyData} (hn : h0.Ns env.locals m) (hv : m x = some v) (r : Rp S h0 v d)
    (hk : env.scope.kind = .function := by rfl) (hx : env.kindOf x = some .local := by rfl) (hd : (x == ("__debug__" : Str)) = false := by decide) : Ev c n env h0 S (.Name x pos) d :=
  fun _ s _ _ _ e q => wpAny_Name (wpAny_loadName_local hk hx (hn.keeps e) hv (q _ s.heap s.toks Ext.rfl' (r.mono e))) hd
theorem Ev.cell {x : Str} {a : Addr} {pos : Pos} {v : Value} {d : PyData} (hc : env.cells.lookup x = some a) (hv : h0.IsCell a (some v)) (r : Rp S h0 v d)
    (hk : env.scope.kind = .function := by rfl) (hx : env.kindOf x = some .cell := by rfl) (hd : (x == ("__debug__" : Str)) = false := by decide) : Ev c n env h0 S (.Name x pos) d :=
  fun _ s _ _ _ e q => wpAny_Name (wpAny_loadName_cell hk hx hc (let ⟨o, ho, r⟩ := hv; ⟨o, e _ _ ho, r⟩) (q _ s.heap s.toks Ext.rfl' (r.mono e))) hd
/-- a name of the text's top -/
theorem name_top {x : Str} {pos : Pos} {v : Value} {A : Around} {s : Shared} {Q : Value → Shared → Prop} {E : Value → Shared → Prop} (o : Ok c s.heap) (e : nsIn c.K mainGlobals x = some (some v)) (q : Q v s)
    (hk : env.scope.kind = .function) (hg : env.globals = mainGlobals) (hx : env.kindOf x = some .globalImplicit) (hd : (x == ("__debug__" : Str)) = false := by decide) :
    wpAny (model c.prog c.w) A (eval (.Name x pos) env) Q E s :=
  Name_function_global hk hx (loadGlobal_global (hg ▸ o.T.g) (mg_of o.K o.T.g e) q) hd
theorem name_boot {x : Str} {pos : Pos} {v : Value} {A : Around} {s : Shared} {Q : Value → Shared → Prop} {E : Value → Shared → Prop} (o : Ok c s.heap) (e : nsIn c.K mainGlobals x = some none) (hv : bootBuiltins x = some v) (hn : x ≠ "__name__") (q : Q v s)
    (hk : env.scope.kind = .function) (hg : env.globals = mainGlobals) (hb : env.builtins = builtinsNs) (hx : env.kindOf x = some .globalImplicit) (hd : (x == ("__debug__" : Str)) = false := by decide) :
    wpAny (model c.prog c.w) A (eval (.Name x pos) env) Q E s :=
  Name_function_global hk hx (loadGlobal_builtin (hg ▸ o.T.g) (mg_none_of o.K o.T.g e) (hb ▸ o.T.b) ((o.T.builtins x hn).trans hv) q) hd
theorem Ev.top {x : Str} {pos : Pos} {v : Value} {d : PyData} (o : Ok c h0) (e : nsIn c.K mainGlobals x = some (some v)) (r : Rp S h0 v d)
    (hk : env.scope.kind = .function := by rfl) (hg : env.globals = mainGlobals := by rfl) (hx : env.kindOf x = some .globalImplicit := by rfl) (hd : (x == ("__debug__" : Str)) = false := by decide) : Ev c n env h0 S (.Name x pos) d :=
  fun _ s _ _ _ x q => name_top (o.ext x) e (q _ s.heap s.toks Ext.rfl' (r.mono x)) hk hg hx hd

theorem Ev.bin {l r : Expr} {op : Operator} {pos : Pos} {a b z : Int} (hl : Ev c n env h0 Any l (.int a)) (hr : Ev c n env h0 Any r (.int b))
    (hop : ∀ (A : Around) (s : Shared) (t u : Tok) (Q : Value → Shared → Prop) (E : Value → Shared → Prop), Rm n A → Ext h0 s.heap → (∀ t' tk', Q (.int z t') { s with toks := tk' }) → wpAny (model c.prog c.w) A (binaryOp op (.int a t) (.int b u)) Q E s) :
    Ev c n env h0 S (.BinOp l op r pos) (.int z) := fun A s Q E hA hx k => by
  refine wpAny_BinOp (hl A s _ _ hA hx fun v h1 t1 e1 r1 => ?_)
  obtain ⟨t, rfl⟩ := r1.int_inv
  refine hr A _ _ _ hA (hx.tr e1) fun v2 h2 t2 e2 r2 => ?_
  obtain ⟨t', rfl⟩ := r2.int_inv
  exact hop A _ _ _ _ _ hA ((hx.tr e1).tr e2) fun t' tk' => k _ h2 tk' (e1.tr e2) (.int _ _)
theorem Ev.add {l r : Expr} {pos : Pos} {a b : Int} (hl : Ev c n env h0 Any l (.int a)) (hr : Ev c n env h0 Any r (.int b)) : Ev c n env h0 S (.BinOp l .Add r pos) (.int (a + b)) :=
  hl.bin hr fun _ _ _ _ _ _ _ _ q => PyProof.Rows.add_int (q _ _)
theorem Ev.sub {l r : Expr} {pos : Pos} {a b : Int} (hl : Ev c n env h0 Any l (.int a)) (hr : Ev c n env h0 Any r (.int b)) : Ev c n env h0 S (.BinOp l .Sub r pos) (.int (a - b)) :=
  hl.bin hr fun _ _ _ _ _ _ _ _ q => PyProof.Rows.sub_int (q _ _)
theorem Ev.mul {l r : Expr} {pos : Pos} {a b : Int} (hl : Ev c n env h0 Any l (.int a)) (hr : Ev c n env h0 Any r (.int b)) (hm : IntMulOk a b) : Ev c n env h0 S (.BinOp l .Mult r pos) (.int (a * b)) :=
  hl.bin hr fun _ _ _ _ _ _ _ _ q => mul_int (q _ _) hm
theorem Ev.mod {l r : Expr} {pos : Pos} {a b : Int} (hl : Ev c n env h0 Any l (.int a)) (hr : Ev c n env h0 Any r (.int b)) (hb : b ≠ 0) : Ev c n env h0 S (.BinOp l .Mod r pos) (.int (a.fmod b)) :=
  hl.bin hr fun _ _ _ _ _ _ _ _ q => mod_int' hb (q _ _)
theorem Ev.fdiv {l r : Expr} {pos : Pos} {a b : Int} (o : Ok c h0) (hl : Ev c n env h0 Any l (.int a)) (hr : Ev c n env h0 Any r (.int b)) (hb : b ≠ 0) : Ev c n env h0 S (.BinOp l .FloorDiv r pos) (.int (a.fdiv b)) :=
  hl.bin hr fun _ _ _ _ _ _ hA hx q => PyProof.Rows.floordiv_int hb (q _ _) (.inr (hA.pylong (o.ext hx)))
theorem Ev.pow {l r : Expr} {pos : Pos} {a b : Int} (hl : Ev c n env h0 Any l (.int a)) (hr : Ev c n env h0 Any r (.int b)) (hc0 : b ≥ 0) (hc1 : ¬(b == 0) = true) (hc2 : ¬(a == 0 || a == 1) = true) (hc3 : ¬(a == -1) = true) (hc4 : ¬Builtin.Int.intTooBig (((Builtin.Int.intBits a : Nat) : Int) * b) = true) :
    Ev c n env h0 S (.BinOp l .Pow r pos) (.int (a ^ b.toNat)) :=
  hl.bin hr fun _ _ _ _ _ _ _ _ q => AutoIntOps.pow_4 hc0 hc1 hc2 hc3 hc4 (q _ _)
theorem Ev.subB {l r : Expr} {pos : Pos} {a b : Bool} (hl : Ev c n env h0 Any l (.bool a)) (hr : Ev c n env h0 Any r (.bool b)) : Ev c n env h0 S (.BinOp l .Sub r pos) (.int (b2i a - b2i b)) := fun A s Q E hA hx k => by
  refine wpAny_BinOp (hl A s _ _ hA hx fun v h1 t1 e1 r1 => ?_)
  cases r1
  refine hr A _ _ _ hA (hx.tr e1) fun v2 h2 t2 e2 r2 => ?_
  cases r2
  exact sub_bool (k _ h2 _ (e1.tr e2) (.int _ _))

theorem Evs.nil : Evs c n env h0 S [] [] := fun _ _ s _ _ _ _ q => args_nil (q _ s.heap s.toks Ext.rfl' .nil)
theorem Evs.cons {e : Expr} {es : List Expr} {d : PyData} {ds : List PyData} (x : Ev c n env h0 S e d) (y : Evs c n env h0 S es ds) (he : starEach (e :: es) env = (false, eval e env) :: starEach es env := by rfl) :
    Evs c n env h0 S (e :: es) (d :: ds) := fun pos A s Q E hA hx q =>
  args_cons (x A s _ _ hA hx fun v h1 t1 e1 r1 => y pos A _ _ _ hA (hx.tr e1) fun vs h2 t2 e2 r2 => q _ h2 t2 (e1.tr e2) (.cons (r1.mono e2) r2)) he

theorem newTuple_ {vs : List Value} {ds : List PyData} {A : Around} {s : Shared} {Q : Value → Shared → Prop} {E : Value → Shared → Prop} (r : Rps S s.heap vs ds) (hs : ds.length ≤ 16777216)
    (q : ∀ v h' tk, Ext s.heap h' → Rp S h' v (.tuple ds) → Q v (up s h' tk)) : wpAny (model c.prog c.w) A (newTuple vs) Q E s := by
  refine wpAny_newObj_type (q _ _ s.toks (fun b o e => Heap.get?_push_of_some _ e) ?_) (by show vs.toArray.size ≤ sizeLine; rw [List.size_toArray, r.length, sizeLine_eq]; exact hs)
  exact .tuple ⟨_, Heap.get?_push_size _ rfl, rfl, _, rfl⟩ (r.mono fun b o e => Heap.get?_push_of_some _ e)
theorem new_size (h : Heap) : New h h.objs.size := by
  show h.get? h.objs.size = none
  cases e : h.get? h.objs.size with
  | none => rfl
  | some o => exact absurd (Heap.lt_size e) (Nat.lt_irrefl _)
/-- a new list: its place was free -/
theorem newList_ {vs : List Value} {ds : List PyData} {A : Around} {s : Shared} {Q : Value → Shared → Prop} {E : Value → Shared → Prop} (r : Rps S s.heap vs ds) (hs : ds.length ≤ 16777216)
    (q : ∀ a h' tk, Ext s.heap h' → s.heap.get? a = none → h'.PlainList a vs.toArray → Rps S h' vs ds → Q (.ref a) (up s h' tk)) : wpAny (model c.prog c.w) A (newList vs) Q E s := by
  refine wpAny_newObj_type (q _ _ s.toks (fun b o e => Heap.get?_push_of_some _ e) (new_size _) ⟨_, Heap.get?_push_size _ rfl⟩ (r.mono fun b o e => Heap.get?_push_of_some _ e)) (by show vs.toArray.size ≤ sizeLine; rw [List.size_toArray, r.length, sizeLine_eq]; exact hs)

theorem Ev.tuple {es : List Expr} {k : Nat} {pos : Pos} {ds : List PyData} (x : Evs c n env h0 S es ds) (hs : ds.length ≤ 16777216 := by exact Nat.le_of_ble_eq_true rfl) : Ev c n env h0 S (.Tuple es k pos) (.tuple ds) := fun A s Q E hA hx q =>
  Tuple_ (x pos A s _ _ hA hx fun vs h1 t1 e1 r1 => newTuple_ r1 hs fun v h2 t2 e2 r2 => q v h2 t2 (e1.tr e2) r2)
theorem EvN.listd {es : List Expr} {pos : Pos} {ds : List PyData} (x : Evs c n env h0 S es ds) (hs : ds.length ≤ 16777216 := by exact Nat.le_of_ble_eq_true rfl) : EvN c n env h0 S (.List es pos) ds := fun A s Q E hA hx q =>
  List_ (x pos A s _ _ hA hx fun vs h1 t1 e1 r1 => newList_ r1 hs fun a h2 t2 e2 n2 p2 r2 => q a vs h2 t2 (e1.tr e2) (New.ext e1 n2) p2 r2)

/-- a call of a def of the text's top -/
theorem callE {x : Str} {f : Addr} {p pos : Pos} {e : Expr} {es : List Expr} {ds : List PyData} {d : PyData} {A : Around} {s : Shared} {Q : Value → Shared → Prop} {E : Value → Shared → Prop} (hA : Rm n A) (hx' : Ext h0 s.heap)
    (o : Ok c h0) (hn : nsIn c.K mainGlobals x = some (some (.ref f))) (hkp : keepIn c.K (.ref f) = true)
    (ha : Evs c n env h0 Any (e :: es) ds) (hc : Con c n f ds d)
    (q : ∀ v h' tk, Ext s.heap h' → Rp (New s.heap) h' v d → Q v (up s h' tk))
    (hk : env.scope.kind = .function) (hg : env.globals = mainGlobals) (hx : env.kindOf x = some .globalImplicit) (hd : (x == ("__debug__" : Str)) = false)
    (he : starEach (e :: es) env = (false, eval e env) :: starEach es env) (hpl : (backTo pos (starEach es env)).any (·.1) = false)
    (hcl : eval (.Call (.Name x p) (e :: es) [] pos) env = (do callWith pos (← eval (.Name x p) env) [] (backTo pos (starEach (e :: es) env)) (backToKw pos (keywordEach [] env)))) :
    wpAny (model c.prog c.w) A (eval (.Call (.Name x p) (e :: es) [] pos) env) Q E s := by
  refine Call_ (name_top (o.ext hx') hn ?_ hk hg hx hd) hcl
  refine callWith_K o.K hkp ?_ he hpl
  refine ha pos A s _ _ hA hx' fun vs h1 t1 e1 r1 => ⟨((o.ext hx').ext e1).K, ?_⟩
  exact hc A _ _ _ _ hA ((o.ext hx').ext e1) r1 fun v h2 t2 e2 r2 => q v h2 t2 (e1.tr e2) (r2.re fun a _ z _ => New.ext e1 z)
theorem Ev.call {x : Str} {f : Addr} {p pos : Pos} {e : Expr} {es : List Expr} {ds : List PyData} {d : PyData} (o : Ok c h0) (hn : nsIn c.K mainGlobals x = some (some (.ref f))) (hkp : keepIn c.K (.ref f) = true)
    (ha : Evs c n env h0 Any (e :: es) ds) (hc : Con c n f ds d) (hS : ∀ a, New h0 a → S a)
    (hk : env.scope.kind = .function := by rfl) (hg : env.globals = mainGlobals := by rfl) (hx : env.kindOf x = some .globalImplicit := by rfl) (hd : (x == ("__debug__" : Str)) = false := by decide)
    (he : starEach (e :: es) env = (false, eval e env) :: starEach es env := by rfl) (hpl : (backTo pos (starEach es env)).any (·.1) = false := by rfl)
    (hcl : eval (.Call (.Name x p) (e :: es) [] pos) env = (do callWith pos (← eval (.Name x p) env) [] (backTo pos (starEach (e :: es) env)) (backToKw pos (keywordEach [] env))) := by rfl) :
    Ev c n env h0 S (.Call (.Name x p) (e :: es) [] pos) d := fun A s Q E hA hx' q =>
  callE hA hx' o hn hkp ha hc (fun v h2 t2 e2 r2 => q v h2 t2 e2 (r2.re fun a _ z _ => hS a (New.ext hx' z))) hk hg hx hd he hpl hcl
/-- a call that gives no list: a name's datum, an int, a ratio -/
theorem Ev.callF {x : Str} {f : Addr} {p pos : Pos} {e : Expr} {es : List Expr} {ds : List PyData} {d : PyData} (o : Ok c h0) (hn : nsIn c.K mainGlobals x = some (some (.ref f))) (hkp : keepIn c.K (.ref f) = true)
    (ha : Evs c n env h0 Any (e :: es) ds) (hc : Con c n f ds d) (hf : Mine.flat d = true := by rfl)
    (hk : env.scope.kind = .function := by rfl) (hg : env.globals = mainGlobals := by rfl) (hx : env.kindOf x = some .globalImplicit := by rfl) (hd : (x == ("__debug__" : Str)) = false := by decide)
    (he : starEach (e :: es) env = (false, eval e env) :: starEach es env := by rfl) (hpl : (backTo pos (starEach es env)).any (·.1) = false := by rfl)
    (hcl : eval (.Call (.Name x p) (e :: es) [] pos) env = (do callWith pos (← eval (.Name x p) env) [] (backTo pos (starEach (e :: es) env)) (backToKw pos (keywordEach [] env))) := by rfl) :
    Ev c n env h0 S (.Call (.Name x p) (e :: es) [] pos) d :=
  (Ev.call (S := Any) o hn hkp ha hc (fun _ _ => trivial) hk hg hx hd he hpl hcl).flat hf

/-- a call of a built-in by its name -/
theorem callB {x : Str} {g : Value} {p pos : Pos} {e : Expr} {es : List Expr} {ds : List PyData} {A : Around} {s : Shared} {Q : Value → Shared → Prop} {E : Value → Shared → Prop} (hA : Rm n A) (hx' : Ext h0 s.heap)
    (o : Ok c h0) (hn : nsIn c.K mainGlobals x = some none) (hv : bootBuiltins x = some g) (hgv : (∃ id, g = .builtin id) ∨ ∃ T, g = .type T)
    (ha : Evs c n env h0 Any (e :: es) ds) (hc : ∀ vs h1 t1, Ext s.heap h1 → Ok c h1 → Rps Any h1 vs ds → wpAny (model c.prog c.w) A (PySem.call g vs) Q E (up s h1 t1)) (hne : x ≠ "__name__")
    (hk : env.scope.kind = .function) (hg : env.globals = mainGlobals) (hb : env.builtins = builtinsNs) (hx : env.kindOf x = some .globalImplicit) (hd : (x == ("__debug__" : Str)) = false)
    (he : starEach (e :: es) env = (false, eval e env) :: starEach es env) (hpl : (backTo pos (starEach es env)).any (·.1) = false)
    (hcl : eval (.Call (.Name x p) (e :: es) [] pos) env = (do callWith pos (← eval (.Name x p) env) [] (backTo pos (starEach (e :: es) env)) (backToKw pos (keywordEach [] env)))) :
    wpAny (model c.prog c.w) A (eval (.Call (.Name x p) (e :: es) [] pos) env) Q E s := by
  refine Call_ (name_boot (o.ext hx') hn hv hne ?_ hk hg hb hx hd) hcl
  have fin := ha pos A s (fun vs s₁ => wpAny (model c.prog c.w) A (PySem.call g vs) Q E s₁) E hA hx' fun vs h1 t1 e1 r1 => hc vs h1 t1 e1 ((o.ext hx').ext e1) r1
  rcases hgv with ⟨id, rfl⟩ | ⟨T, rfl⟩
  · exact PyProof.Rows.callWith_builtin1 fin he hpl
  · exact PyProof.Rows.callWith_type1 fin he hpl
theorem Ev.callB {x : Str} {g : Value} {p pos : Pos} {e : Expr} {es : List Expr} {ds : List PyData} {d : PyData} (o : Ok c h0) (hn : nsIn c.K mainGlobals x = some none) (hv : bootBuiltins x = some g) (hgv : (∃ id, g = .builtin id) ∨ ∃ T, g = .type T)
    (ha : Evs c n env h0 Any (e :: es) ds) (hc : ∀ (A : Around) (s : Shared) (vs : List Value) (Q : Value → Shared → Prop) (E : Value → Shared → Prop), Rm n A → Ok c s.heap → Rps Any s.heap vs ds →
      (∀ v h' tk, Ext s.heap h' → Rp S h' v d → Q v (up s h' tk)) → wpAny (model c.prog c.w) A (PySem.call g vs) Q E s) (hne : x ≠ "__name__")
    (hk : env.scope.kind = .function) (hg : env.globals = mainGlobals) (hb : env.builtins = builtinsNs) (hx : env.kindOf x = some .globalImplicit) (hd : (x == ("__debug__" : Str)) = false)
    (he : starEach (e :: es) env = (false, eval e env) :: starEach es env) (hpl : (backTo pos (starEach es env)).any (·.1) = false)
    (hcl : eval (.Call (.Name x p) (e :: es) [] pos) env = (do callWith pos (← eval (.Name x p) env) [] (backTo pos (starEach (e :: es) env)) (backToKw pos (keywordEach [] env)))) :
    Ev c n env h0 S (.Call (.Name x p) (e :: es) [] pos) d := fun A s Q E hA hx' q =>
  Mine.callB hA hx' o hn hv hgv ha (fun vs h1 t1 e1 o1 r1 => hc A _ _ _ _ hA o1 r1 fun v h2 t2 e2 r2 => q v h2 t2 (e1.tr e2) r2) hne hk hg hb hx hd he hpl hcl

theorem Ev.len {p pos : Pos} {e : Expr} {ds : List PyData} (o : Ok c h0) (hn : nsIn c.K mainGlobals "len" = some none) (ha : Ev c n env h0 Any e (.list ds)) (hs : ds.length ≤ 16777216)
    (hk : env.scope.kind = .function := by rfl) (hg : env.globals = mainGlobals := by rfl) (hb : env.builtins = builtinsNs := by rfl) (hx : env.kindOf "len" = some .globalImplicit := by rfl)
    (he : starEach [e] env = (false, eval e env) :: starEach [] env := by rfl)
    (hcl : eval (.Call (.Name "len" p) [e] [] pos) env = (do callWith pos (← eval (.Name "len" p) env) [] (backTo pos (starEach [e] env)) (backToKw pos (keywordEach [] env))) := by rfl) :
    Ev c n env h0 S (.Call (.Name "len" p) [e] [] pos) (.int ds.length) :=
  Ev.callB o hn (by rfl) (.inl ⟨_, rfl⟩) (.cons ha .nil he) (fun A s vs Q E hA o r q => by
    obtain ⟨v, e, r'⟩ := r.one
    subst e
    obtain ⟨a, us, rfl, _, hl, ru⟩ := r'.list_inv
    refine PyProof.Rows.len_list hl (by rw [List.size_toArray, ru.length]; lia) ?_
    rw [List.size_toArray, ru.length]
    exact q _ s.heap _ Ext.rfl' (.int _ _)) (by decide) hk hg hb hx (by decide) he rfl hcl
theorem Ev.abs {p pos : Pos} {e : Expr} {i : Int} (o : Ok c h0) (hn : nsIn c.K mainGlobals "abs" = some none) (ha : Ev c n env h0 Any e (.int i))
    (hk : env.scope.kind = .function := by rfl) (hg : env.globals = mainGlobals := by rfl) (hb : env.builtins = builtinsNs := by rfl) (hx : env.kindOf "abs" = some .globalImplicit := by rfl)
    (he : starEach [e] env = (false, eval e env) :: starEach [] env := by rfl)
    (hcl : eval (.Call (.Name "abs" p) [e] [] pos) env = (do callWith pos (← eval (.Name "abs" p) env) [] (backTo pos (starEach [e] env)) (backToKw pos (keywordEach [] env))) := by rfl) :
    Ev c n env h0 S (.Call (.Name "abs" p) [e] [] pos) (.int i.natAbs) :=
  Ev.callB o hn (by rfl) (.inl ⟨_, rfl⟩) (.cons ha .nil he) (fun A s vs Q E hA o r q => by
    obtain ⟨v, e, r'⟩ := r.one
    subst e
    obtain ⟨t, rfl⟩ := r'.int_inv
    refine call_abs_int fun u tk => ?_
    rw [show (if i < 0 then -i else i) = (i.natAbs : Int) by split <;> lia]
    exact q _ s.heap _ Ext.rfl' (.int _ _)) (by decide) hk hg hb hx (by decide) he rfl hcl
theorem Ev.max {p pos : Pos} {e e' : Expr} {i j : Int} (o : Ok c h0) (hn : nsIn c.K mainGlobals "max" = some none) (ha : Ev c n env h0 Any e (.int i)) (hb' : Ev c n env h0 Any e' (.int j))
    (hk : env.scope.kind = .function := by rfl) (hg : env.globals = mainGlobals := by rfl) (hb : env.builtins = builtinsNs := by rfl) (hx : env.kindOf "max" = some .globalImplicit := by rfl)
    (he : starEach [e, e'] env = (false, eval e env) :: starEach [e'] env := by rfl) (he' : starEach [e'] env = (false, eval e' env) :: starEach [] env := by rfl)
    (hpl : (backTo pos (starEach [e'] env)).any (·.1) = false := by rfl)
    (hcl : eval (.Call (.Name "max" p) [e, e'] [] pos) env = (do callWith pos (← eval (.Name "max" p) env) [] (backTo pos (starEach [e, e'] env)) (backToKw pos (keywordEach [] env))) := by rfl) :
    Ev c n env h0 S (.Call (.Name "max" p) [e, e'] [] pos) (.int (Max.max i j)) :=
  Ev.callB o hn (by rfl) (.inl ⟨_, rfl⟩) (.cons ha (.cons hb' .nil he') he) (fun A s vs Q E hA o r q => by
    obtain ⟨v, u, e, r1, r2⟩ := r.two
    subst e
    obtain ⟨t, rfl⟩ := r1.int_inv
    obtain ⟨t', rfl⟩ := r2.int_inv
    refine max_two_ints hA.hh fun h' tk hk => ?_
    by_cases hc : j > i
    · rw [if_pos hc, show Max.max i j = j by lia] at *
      exact q _ h' tk hk (.int _ _)
    · rw [if_neg hc, show Max.max i j = i by lia] at *
      exact q _ h' tk hk (.int _ _)) (by decide) hk hg hb hx (by decide) he hpl hcl

theorem Tr.cmp {l r : Expr} {op : CmpOp} {pos : Pos} {dl dr : PyData} {z : Bool} (hl : Ev c n env h0 Any l dl) (hr : Ev c n env h0 Any r dr)
    (hop : ∀ (A : Around) (s : Shared) (v u : Value) (Q : Value → Shared → Prop) (E : Value → Shared → Prop), Rm n A → Ext h0 s.heap → Rp Any s.heap v dl → Rp Any s.heap u dr → (∀ h' tk, Ext s.heap h' → Q (.bool z) (up s h' tk)) → wpAny (model c.prog c.w) A (compareOp op v u) Q E s)
    (hm : behindInMarks op r = false := by with_unfolding_all rfl) : Tr c n env h0 (.Compare l [op] [r] pos) z := fun A s Q E hA hx k => by
  refine wpAny_isTrue_Compare1 (hl A s _ _ hA hx fun v h1 t1 e1 r1 => ?_) hm
  refine hr A _ _ _ hA (hx.tr e1) fun u h2 t2 e2 r2 => ?_
  exact hop A _ _ _ _ _ hA ((hx.tr e1).tr e2) (r1.mono e2) r2 fun h3 t3 e3 => wpAny_truthy_bool (k h3 t3 ((e1.tr e2).tr e3))
theorem Ev.cmp {l r : Expr} {op : CmpOp} {pos : Pos} {dl dr : PyData} {z : Bool} (hl : Ev c n env h0 Any l dl) (hr : Ev c n env h0 Any r dr)
    (hop : ∀ (A : Around) (s : Shared) (v u : Value) (Q : Value → Shared → Prop) (E : Value → Shared → Prop), Rm n A → Ext h0 s.heap → Rp Any s.heap v dl → Rp Any s.heap u dr → (∀ h' tk, Ext s.heap h' → Q (.bool z) (up s h' tk)) → wpAny (model c.prog c.w) A (compareOp op v u) Q E s)
    (hm : behindInMarks op r = false := by with_unfolding_all rfl) : Ev c n env h0 S (.Compare l [op] [r] pos) (.bool z) := fun A s Q E hA hx k => by
  refine wpAny_Compare1 (hl A s _ _ hA hx fun v h1 t1 e1 r1 => ?_) hm
  refine hr A _ _ _ hA (hx.tr e1) fun u h2 t2 e2 r2 => ?_
  exact hop A _ _ _ _ _ hA ((hx.tr e1).tr e2) (r1.mono e2) r2 fun h3 t3 e3 => k _ h3 t3 ((e1.tr e2).tr e3) (.bool _)

/-- what a comparison of two ints gives -/
def cmpI : CmpOp → Int → Int → Bool
  | .Eq, a, b => a == b
  | .NotEq, a, b => a != b
  | .Lt, a, b => decide (a < b)
  | .LtE, a, b => decide (a ≤ b)
  | .Gt, a, b => decide (b < a)
  | .GtE, a, b => decide (b ≤ a)
  | _, _, _ => false
theorem cI (a b : Int) : (cmpI .Eq a b = (a == b)) ∧ (cmpI .NotEq a b = (a != b)) ∧ (cmpI .Lt a b = decide (a < b)) ∧ (cmpI .LtE a b = decide (a ≤ b)) ∧ (cmpI .Gt a b = decide (b < a)) ∧ (cmpI .GtE a b = decide (b ≤ a)) := ⟨rfl, rfl, rfl, rfl, rfl, rfl⟩
def cmpOk : CmpOp → Bool
  | .Eq | .NotEq | .Lt | .LtE | .Gt | .GtE => true
  | _ => false
theorem cmp_ints {op : CmpOp} (hop : cmpOk op = true) {a b : Int} {A : Around} {s : Shared} {v u : Value} {Q : Value → Shared → Prop} {E : Value → Shared → Prop} (r1 : Rp Any s.heap v (.int a)) (r2 : Rp Any s.heap u (.int b))
    (q : ∀ h' tk, Ext s.heap h' → Q (.bool (cmpI op a b)) (up s h' tk)) : wpAny (model c.prog c.w) A (compareOp op v u) Q E s := by
  obtain ⟨t, rfl⟩ := r1.int_inv
  obtain ⟨t', rfl⟩ := r2.int_inv
  have q := q s.heap s.toks Ext.rfl'
  match op, hop, q with
  | .Eq, _, q => exact eq_int q
  | .NotEq, _, q => exact PyProof.Rows.ne_int q
  | .Lt, _, q => exact lt_int q
  | .LtE, _, q => exact PyProof.Rows.le_int q
  | .Gt, _, q => exact gt_int q
  | .GtE, _, q => exact PyProof.Rows.ge_int q
theorem Tr.ints {l r : Expr} {op : CmpOp} {pos : Pos} {a b : Int} (hl : Ev c n env h0 Any l (.int a)) (hr : Ev c n env h0 Any r (.int b)) (hop : cmpOk op = true := by rfl) (hm : behindInMarks op r = false := by with_unfolding_all rfl) :
    Tr c n env h0 (.Compare l [op] [r] pos) (cmpI op a b) := Tr.cmp hl hr (fun A s v u Q E _ _ r1 r2 q => cmp_ints hop r1 r2 q) hm
theorem Ev.ints {l r : Expr} {op : CmpOp} {pos : Pos} {a b : Int} (hl : Ev c n env h0 Any l (.int a)) (hr : Ev c n env h0 Any r (.int b)) (hop : cmpOk op = true := by rfl) (hm : behindInMarks op r = false := by with_unfolding_all rfl) :
    Ev c n env h0 S (.Compare l [op] [r] pos) (.bool (cmpI op a b)) := Ev.cmp hl hr (fun A s v u Q E _ _ r1 r2 q => cmp_ints hop r1 r2 q) hm

theorem Ev.ife {t x y : Expr} {pos : Pos} {b : Bool} {d : PyData} (ht : Tr c n env h0 t b) (h1 : b = true → Ev c n env h0 S x d) (h2 : b = false → Ev c n env h0 S y d) : Ev c n env h0 S (.IfExp t x y pos) d := fun A s Q E hA hx q => by
  refine IfExp_ (ht A s _ _ hA hx fun h1' t1 e1 => ?_)
  cases b with
  | true => rw [if_pos rfl]; exact h1 rfl A _ _ _ hA (hx.tr e1) fun v h2 t2 e2 r2 => q v h2 t2 (e1.tr e2) r2
  | false => rw [if_neg (by decide)]; exact h2 rfl A _ _ _ hA (hx.tr e1) fun v h2 t2 e2 r2 => q v h2 t2 (e1.tr e2) r2
theorem EvN.ife {t x y : Expr} {pos : Pos} {b : Bool} {d : List PyData} (ht : Tr c n env h0 t b) (h1 : b = true → EvN c n env h0 S x d) (h2 : b = false → EvN c n env h0 S y d) : EvN c n env h0 S (.IfExp t x y pos) d := fun A s Q E hA hx q => by
  refine IfExp_ (ht A s _ _ hA hx fun h1' t1 e1 => ?_)
  cases b with
  | true => rw [if_pos rfl]; exact h1 rfl A _ _ _ hA (hx.tr e1) fun a vs h2 t2 e2 n2 p2 r2 => q a vs h2 t2 (e1.tr e2) (New.ext e1 n2) p2 r2
  | false => rw [if_neg (by decide)]; exact h2 rfl A _ _ _ hA (hx.tr e1) fun a vs h2 t2 e2 n2 p2 r2 => q a vs h2 t2 (e1.tr e2) (New.ext e1 n2) p2 r2

/-- an item of a tuple at a written place -/
theorem Ev.tupAt {v : Expr} {i : Int} {k : Nat} {p pos : Pos} {ds : List PyData} {d : PyData} (hv : Ev c n env h0 Any v (.tuple ds)) (hd : ds[i.toNat]? = some d) (hf : Mine.flat d = true := by rfl) (h0' : 0 ≤ i := by decide) (h1 : i < 9223372036854775808 := by decide) :
    Ev c n env h0 S (.Subscript v (.Constant (.int i) k p) pos) d := fun A s Q E hA hx q => by
  refine Subscript_ (hv A s _ _ hA hx fun x h1' t1 e1 r1 => wpAny_Constant_int ?_)
  obtain ⟨a, vs, rfl, ht, rs⟩ := r1.tup_inv
  obtain ⟨y, hy, ry⟩ := rs.at hd
  have hlt : i.toNat < vs.length := (List.getElem?_eq_some_iff.mp hy).1
  refine item_tupleT ht (by lia) (by lia) (j := i.toNat) ?_ hy (q y h1' _ e1 (ry.flat hf)) (by rfl)
  unfold seqIndex?
  have e2 : ¬ i < 0 := by lia
  simp [e2]
  lia
/-- an item of a list at a reckoned place -/
theorem Ev.listAtS {v j : Expr} {i : Int} {pos : Pos} {ds : List PyData} {d : PyData} (hv : Ev c n env h0 S v (.list ds)) (hj : Ev c n env h0 Any j (.int i)) (hd : ds[i.toNat]? = some d) (h0' : 0 ≤ i) (h1 : i < 9223372036854775808)
    (hs : ∀ a u, subscripted j false (.ref a) (.int i u) = operate [.ref a, .int i u] (getItem (.ref a) (.int i u)) := by intro a u; with_unfolding_all rfl) :
    Ev c n env h0 S (.Subscript v j pos) d := fun A s Q E hA hx q => by
  refine Subscript_ (hv A s _ _ hA hx fun x h1' t1 e1 r1 => hj A _ _ _ hA (hx.tr e1) fun u h2 t2 e2 r2 => ?_)
  obtain ⟨t, rfl⟩ := r2.int_inv
  obtain ⟨a, vs, rfl, _, hl, rs⟩ := (r1.mono e2).list_inv
  obtain ⟨y, hy, ry⟩ := rs.at hd
  exact tail_any hl.typeIs slot_list_getitem.lookup (wpAny_getItem_list hl h0' (by lia) (by simpa using hy) (q y h2 _ (e1.tr e2) ry)) (hs a t)
theorem Ev.listAt {v j : Expr} {i : Int} {pos : Pos} {ds : List PyData} {d : PyData} (hv : Ev c n env h0 Any v (.list ds)) (hj : Ev c n env h0 Any j (.int i)) (hd : ds[i.toNat]? = some d) (h0' : 0 ≤ i) (h1 : i < 9223372036854775808) (hf : Mine.flat d = true := by rfl)
    (hs : ∀ a u, subscripted j false (.ref a) (.int i u) = operate [.ref a, .int i u] (getItem (.ref a) (.int i u)) := by intro a u; with_unfolding_all rfl) :
    Ev c n env h0 S (.Subscript v j pos) d := (Ev.listAtS hv hj hd h0' h1 hs).flat hf

/-- «and» whose first part is False -/
theorem Ev.andF {e e2 : Expr} {es : List Expr} {pos : Pos} (h : Ev c n env h0 Any e (.bool false)) : Ev c n env h0 S (.BoolOp .And (e :: e2 :: es) pos) (.bool false) := fun A s Q E hA hx q => by
  show wpAny _ A (do
    let v ← eval e env
    standAt pos
    let t ← holding [v] (truthy v)
    match BoolOp.And, t with
    | .And, false | .Or, true => pure v
    | _, _ => boolOp pos .And (eval e2 env :: evalEach es env)) _ _ _
  refine wpAny_bind (h A s _ _ hA hx fun v h1 t1 e1 r1 => wpAny_bind (wpAny_standAt (wpAny_bind (wpAny_holding ?_))))
  cases r1
  exact wpAny_truthy_bool (wpAny_pure (q _ h1 t1 e1 (.bool _)))
theorem Tr.and {e e2 : Expr} {pos : Pos} {b b2 : Bool} (h : Tr c n env h0 e b) (h2 : b = true → Tr c n env h0 e2 b2) : Tr c n env h0 (.BoolOp .And [e, e2] pos) (b && b2) := fun A s Q E hA hx q => by
  show wpAny _ A (do
    match BoolOp.And, ← isTrue e env (eval e env) with
    | .And, false => pure false
    | .Or, true => pure true
    | _, _ => (do
      match BoolOp.And, ← isTrue e2 env (eval e2 env) with
      | .And, false => pure false
      | .Or, true => pure true
      | _, _ => (pure (BoolOp.And == .And) : Sem Bool))) _ _ _
  refine wpAny_bind (h A s _ _ hA hx fun h1 t1 e1 => ?_)
  cases b with
  | false => exact wpAny_pure (q h1 t1 e1)
  | true =>
    refine wpAny_bind (h2 rfl A _ _ _ hA (hx.tr e1) fun h3 t3 e3 => ?_)
    cases b2 with
    | false => exact wpAny_pure (q h3 t3 (e1.tr e3))
    | true => exact wpAny_pure (q h3 t3 (e1.tr e3))
theorem Tr.or {e e2 : Expr} {pos : Pos} {b b2 : Bool} (h : Tr c n env h0 e b) (h2 : b = false → Tr c n env h0 e2 b2) : Tr c n env h0 (.BoolOp .Or [e, e2] pos) (b || b2) := fun A s Q E hA hx q => by
  show wpAny _ A (do
    match BoolOp.Or, ← isTrue e env (eval e env) with
    | .And, false => pure false
    | .Or, true => pure true
    | _, _ => (do
      match BoolOp.Or, ← isTrue e2 env (eval e2 env) with
      | .And, false => pure false
      | .Or, true => pure true
      | _, _ => (pure (BoolOp.Or == .And) : Sem Bool))) _ _ _
  refine wpAny_bind (h A s _ _ hA hx fun h1 t1 e1 => ?_)
  cases b with
  | true => exact wpAny_pure (q h1 t1 e1)
  | false =>
    refine wpAny_bind (h2 rfl A _ _ _ hA (hx.tr e1) fun h3 t3 e3 => ?_)
    cases b2 with
    | false => exact wpAny_pure (q h3 t3 (e1.tr e3))
    | true => exact wpAny_pure (q h3 t3 (e1.tr e3))
/-- a call as a test -/
theorem Tr.call {f : Expr} {args : List Expr} {pos : Pos} {b : Bool} (x : Ev c n env h0 Any (.Call f args [] pos) (.bool b)) : Tr c n env h0 (.Call f args [] pos) b := fun A s Q E hA hx q => by
  show wpAny _ A (do
    let v ← eval (.Call f args [] pos) env
    standAt pos
    holding [v] (truthy v)) _ _ _
  refine wpAny_bind (x A s _ _ hA hx fun v h1 t1 e1 r1 => wpAny_bind (wpAny_standAt (wpAny_holding ?_)))
  cases r1
  exact wpAny_truthy_bool (q h1 t1 e1)
end

/-- a def of the top is entered -/
theorem enter {c : Cx} {n : Nat} {A : Around} {s : Shared} {Q : Value → Shared → Prop} {E : Value → Shared → Prop} {f : Addr} {vs : List Value} {binds : List (Str × Value)}
    {name qual : Str} {params : Arguments} {body : List Stmt} {scope : Scope} {dV kV doc pm cdv ct oc : Value} {an od : Option Addr} {osl : Array (Option Value)}
    (hA : Rm (n + 1) A) (o : Ok c s.heap) (ho : c.K.lookup f = some ⟨oc, od, .func (fnX name qual params body scope [] dV kV doc pm an cdv ct), osl⟩) (hcd : codeIn c.K cdv qual = true)
    (hbind : bindArgs (fnX name qual params body scope [] dV kV doc pm an cdv ct) ⟨vs, []⟩ = pure binds) (hloc : ∀ x ∈ binds, scope.names.lookup x.1 = some .local)
    (hcell : ∀ x ∈ scope.names, x.2 ≠ .cell) (hco : scope.isCoroutine = false) (hgen : scope.isGenerator = false) (hk : scope.kind = .function)
    (h : ∀ L h₁ tk, Fr s.heap L h₁ (fun y => binds.reverse.lookup y) → Rm n (A.deeper (envX qual scope L f cdv [])) → wpAny (model c.prog c.w) (A.deeper (envX qual scope L f cdv [])) (execs body (envX qual scope L f cdv []))
      (fun fl s' => Q (match fl with | .ret v => v | _ => .none) s') (fun _ _ => False) (up s h₁ tk)) :
    wpAny (model c.prog c.w) A (PySem.call (.ref f) vs) Q E s := by
  refine wpAny_call (codeAny_call_def (fd := fnX name qual params body scope [] dV kV doc pm an cdv ct) (by have := hA.hd; show A.depth < 1000; lia) (o.K _ _ ho) rfl o.T.nolimit (codeRec_of o.K hcd) rfl (BindsTo.of_eq hbind) hcell hloc (fun h₁ hns hk₁ => ?_) hco hgen hk)
  exact wpAny_mono (h _ h₁ _ ⟨hns, hk₁, Nat.le_refl _⟩ (hA.deeper ⟨hgen, hco, rfl, rfl⟩)) (fun _ _ x => x) fun _ _ x => x.elim
theorem ret_ {c : Cx} {n : Nat} {env : Env} {S : Addr → Prop} {A : Around} {s : Shared} {e : Expr} {pos : Pos} {rest : List Stmt} {d : PyData} {Q : Flow → Shared → Prop} {E : Value → Shared → Prop} (hA : Rm n A) (x : Ev c n env s.heap S e d)
    (q : ∀ v h' tk, Ext s.heap h' → Rp S h' v d → Q (.ret v) (up s h' tk)) : wpAny (model c.prog c.w) A (execs (.Return (some e) pos :: rest) env) Q E s :=
  wpAny_execs_cons (wpAny_Return_some (x A s _ _ hA Ext.rfl' fun v h' tk e r => q v h' tk e r))

/-- a write at a place that holds no list and no tuple -/
theorem isList_but {h h' : Heap} {L a : Addr} {m : Str → Option Value} {items : Array Value} (hn : h.Ns L m) (e : Heap.ExtBut L h h') (x : h.IsList a items) : h'.IsList a items := by
  obtain ⟨o, ho, hc, k, hd⟩ := x
  refine ⟨o, e a o (fun q => ?_) ho, hc, k, hd⟩
  obtain ⟨o', es, ep, ho', hd', _⟩ := hn
  rw [← q, ho] at ho'
  cases ho'
  rw [hd] at hd'; cases hd'
theorem isTup_but {h h' : Heap} {L a : Addr} {m : Str → Option Value} {items : Array Value} (hn : h.Ns L m) (e : Heap.ExtBut L h h') (x : IsTup h a items) : IsTup h' a items := by
  obtain ⟨o, ho, hc, k, hd⟩ := x
  refine ⟨o, e a o (fun q => ?_) ho, hc, k, hd⟩
  obtain ⟨o', es, ep, ho', hd', _⟩ := hn
  rw [← q, ho] at ho'
  cases ho'
  rw [hd] at hd'; cases hd'
theorem Rp.but {S : Addr → Prop} {h h' : Heap} {L : Addr} {m : Str → Option Value} (hn : h.Ns L m) (e : Heap.ExtBut L h h') {v : Value} {d : PyData} (r : Rp S h v d) : Rp S h' v d := r.gen (fun _ _ s x => ⟨s, isList_but hn e x⟩) fun _ _ x => isTup_but hn e x
theorem Rps.but {S : Addr → Prop} {h h' : Heap} {L : Addr} {m : Str → Option Value} (hn : h.Ns L m) (e : Heap.ExtBut L h h') {vs : List Value} {ds : List PyData} (r : Rps S h vs ds) : Rps S h' vs ds := r.gen (fun _ _ s x => ⟨s, isList_but hn e x⟩) fun _ _ x => isTup_but hn e x
theorem frExt {H h h' : Heap} {L : Addr} {m : Str → Option Value} (F : Fr H L h m) (e : Ext h h') : Fr H L h' m := ⟨F.ns.keeps e, fun b o x => e b o (F.keep b o x), F.above⟩

section
variable {c : Cx} {n : Nat} {env : Env} {S : Addr → Prop} {A : Around} {s : Shared} {H : Heap} {m : Str → Option Value} {E : Value → Shared → Prop} {Q : Flow → Shared → Prop} {rest : List Stmt}

/-- a name of the frame's own is stored -/
theorem set_ {x : Str} {v : Value} {Q : Unit → Shared → Prop} (F : Fr H env.locals s.heap m) (hx : env.kindOf x = some .local) (hk : env.scope.kind = .function)
    (q : ∀ h' tk, Fr H env.locals h' (put m x v) → Heap.ExtBut env.locals s.heap h' → Q () (up s h' tk)) :
    wpAny (model c.prog c.w) A (storeName env x v) Q E s :=
  wpAny_storeName_local hx F.ns (fun h' hn hs => q h' _ (F.set hn hs) hs.extBut) (by rw [hk]; rfl)

theorem asg {x : Str} {p pos : Pos} {e : Expr} {d : PyData} (hA : Rm n A) (F : Fr H env.locals s.heap m) (x1 : Ev c n env s.heap S e d)
    (q : ∀ v h' tk, Fr H env.locals h' (put m x v) → Heap.ExtBut env.locals s.heap h' → Rp S h' v d → wpAny (model c.prog c.w) A (execs rest env) Q E (up s h' tk))
    (hx : env.kindOf x = some .local := by rfl) (hk : env.scope.kind = .function := by rfl) (hs : swapsWith e (some (.Name x p)) pos.line env = pure false := by rfl) :
    wpAny (model c.prog c.w) A (execs (.Assign [.Name x p] e pos :: rest) env) Q E s := by
  refine wpAny_execs_cons (wpAny_Assign_Name (x1 A s _ _ hA Ext.rfl' fun v h1 t1 e1 r1 => ?_) hs)
  refine set_ (frExt F e1) hx hk fun h2 t2 F2 e2 => ?_
  exact q v h2 t2 F2 (fun b o hb e => e2 b o hb (e1 b o e)) (r1.but (frExt F e1).ns e2)
/-- a name takes a new plain list -/
theorem asgN {x : Str} {p pos : Pos} {e : Expr} {ds : List PyData} (hA : Rm n A) (F : Fr H env.locals s.heap m) (x1 : EvN c n env s.heap S e ds)
    (q : ∀ a vs h' tk, Fr H env.locals h' (put m x (.ref a)) → Heap.ExtBut env.locals s.heap h' → s.heap.get? a = none → h'.PlainList a vs.toArray → Rps S h' vs ds → wpAny (model c.prog c.w) A (execs rest env) Q E (up s h' tk))
    (hx : env.kindOf x = some .local := by rfl) (hk : env.scope.kind = .function := by rfl) (hs : swapsWith e (some (.Name x p)) pos.line env = pure false := by rfl) :
    wpAny (model c.prog c.w) A (execs (.Assign [.Name x p] e pos :: rest) env) Q E s := by
  refine wpAny_execs_cons (wpAny_Assign_Name (x1 A s _ _ hA Ext.rfl' fun a vs h1 t1 e1 n1 p1 r1 => ?_) hs)
  refine set_ (frExt F e1) hx hk fun h2 t2 F2 e2 => ?_
  have hne : a ≠ env.locals := fun q => by
    obtain ⟨o, _, _, ho, _⟩ := F.ns
    rw [← q, n1] at ho; cases ho
  exact q a vs h2 t2 F2 (fun b o hb e => e2 b o hb (e1 b o e)) n1 (p1.extBut e2 hne) (r1.but (frExt F e1).ns e2)

/-- two names at once, both of the frame's own -/
theorem asg2 {x y : Str} {k : Nat} {p p' tp pos : Pos} {e : Expr} {d d' : PyData} (hA : Rm n A) (F : Fr H env.locals s.heap m) (x1 : Ev c n env s.heap S e (.tuple [d, d']))
    (q : ∀ v v' h' tk, Fr H env.locals h' (put (put m y v') x v) → Heap.ExtBut env.locals s.heap h' → Rp S h' v d → Rp S h' v' d' → wpAny (model c.prog c.w) A (execs rest env) Q E (up s h' tk))
    (hx : env.kindOf x = some .local := by rfl) (hy : env.kindOf y = some .local := by rfl) (hk : env.scope.kind = .function := by rfl)
    (hs : swapsWithSole [.Tuple [.Name x p, .Name y p'] k tp] e pos.line env = pure false := by rfl)
    (hw : swappedStores [.Tuple [.Name x p, .Name y p'] k tp] e env = pure (some [x, y]) := by rfl) :
    wpAny (model c.prog c.w) A (execs (.Assign [.Tuple [.Name x p, .Name y p'] k tp] e pos :: rest) env) Q E s := by
  refine wpAny_execs_cons (Assign_Tuple_swapped (names := [x, y]) (x1 A s _ _ hA Ext.rfl' fun v h1 t1 e1 r1 => ?_) hs hw)
  obtain ⟨a, vs, rfl, ht, rs⟩ := r1.tup_inv
  obtain ⟨v, v', e, rv, rv'⟩ := rs.two
  subst e
  refine unpackItems_tuple (items := [v, v'].toArray) hA.hh ht fun h2 e2' => ?_
  have e2 : Ext h1 h2 := fun b o e => e2' b o (Nat.ne_of_lt (Heap.lt_size e)) e
  have F2 := frExt (frExt F e1) e2
  show wpAny (model c.prog c.w) A (do holding [v] (bindName env y v'); (do holding [] (bindName env x v); pure ())) _ _ _
  refine wpAny_bind (wpAny_holding (wpAny_bindName (set_ F2 hy hk fun h3 t3 F3 e3 => ?_)))
  refine wpAny_bind (wpAny_holding (wpAny_bindName (set_ F3 hx hk fun h4 t4 F4 e4 => wpAny_pure ?_)))
  exact q v v' h4 t4 F4 (fun b o hb e => e4 b o hb (e3 b o hb (e2 b o (e1 b o e)))) (((rv.mono e2).but F2.ns e3).but F3.ns e4) (((rv'.mono e2).but F2.ns e3).but F3.ns e4)

theorem execs_if {t : Expr} {x y : List Stmt} {pos : Pos} {b : Bool} (hA : Rm n A) (ht : Tr c n env s.heap t b)
    (h1 : ∀ h' tk, Ext s.heap h' → b = true → wpAny (model c.prog c.w) A (execs x env) (fun f s' => match f with | .next => wpAny (model c.prog c.w) A (execs rest env) Q E s' | f => Q f s') E (up s h' tk))
    (h2 : ∀ h' tk, Ext s.heap h' → b = false → wpAny (model c.prog c.w) A (execs y env) (fun f s' => match f with | .next => wpAny (model c.prog c.w) A (execs rest env) Q E s' | f => Q f s') E (up s h' tk)) :
    wpAny (model c.prog c.w) A (execs (.If t x y pos :: rest) env) Q E s := by
  refine wpAny_execs_cons (wpAny_If (ht A s _ _ hA Ext.rfl' fun h' tk e => ?_))
  cases b with
  | true => rw [if_pos rfl]; exact h1 h' tk e rfl
  | false => rw [if_neg (by decide)]; exact h2 h' tk e rfl

theorem execs_nil' (h : Q .next s) : wpAny (model c.prog c.w) A (execs [] env) Q E s := wpAny_execs_nil h

/-- a while: what holds of the turn's number, the heap, the frame's names; every turn lowers the number -/
theorem while_ {t : Expr} {body : List Stmt} {pos : Pos} (hA : Rm n A) (I : Nat → Heap → (Str → Option Value) → Prop) (k : Nat) (F : Fr H env.locals s.heap m) (h0 : I k s.heap m)
    (turn : ∀ (k : Nat) (h : Heap) (m : Str → Option Value), I k h m → Fr H env.locals h m → ∃ b, Tr c n env h t b ∧
      (b = true → ∀ h1 tk1, Ext h h1 → wpAny (model c.prog c.w) A (execs body env) (fun f s3 => f = .next ∧ ∃ k' h' m' tk', k' < k ∧ s3 = (up s h' tk') ∧ Fr H env.locals h' m' ∧ I k' h' m') (fun _ _ => False) (up s h1 tk1)) ∧
      (b = false → ∀ h1 tk1, Ext h h1 → wpAny (model c.prog c.w) A (execs rest env) Q E (up s h1 tk1))) :
    wpAny (model c.prog c.w) A (execs (.While t body [] pos :: rest) env) Q E s := by
  refine wpAny_execs_cons (wpAny_While (codeAny_whileLoop (fun k s' => ∃ h m tk, s' = (up s h tk) ∧ Fr H env.locals h m ∧ I k h m) ?_ k ⟨s.heap, m, s.toks, rfl, F, h0⟩))
  rintro k s' ⟨h, m, tk, rfl, F, hI⟩
  obtain ⟨b, ht, h1, h2⟩ := turn k h m hI F
  refine ht A _ _ _ hA Ext.rfl' fun h' tk' e => ?_
  cases b with
  | true =>
    rw [if_pos rfl]
    refine wpAny_mono (h1 rfl h' tk' e) (fun f s3 hq => ?_) fun _ _ x => x.elim
    obtain ⟨rfl, k', h'', m', tk'', hk, rfl, F', hI'⟩ := hq
    exact ⟨k', hk, _, _, _, rfl, F', hI'⟩
  | false => rw [if_neg (by decide)]; exact wpAny_execs_nil (h2 rfl h' tk' e)
end
end Mine

namespace Mine
open_top hd for PySem.Challenge.rw_xm0085_01
end Mine

namespace Mine
noncomputable abbrev cx (prog : Program) (w : World) (p : Program) (loose : List Str) (mg mb : Str → Option Value) : Cx := ⟨prog, w, hd.heap_39 w.params, p, loose, mg, mb⟩
section
variable {prog : Program} {w : World} {p : Program} {loose : List Str} {mg mb : Str → Option Value}

theorem fmod_nat (x y : Nat) : ((x : Int).fmod (y : Int)) = ((x % y : Nat) : Int) := by
  rw [Int.fmod_eq_emod_of_nonneg _ (Int.natCast_nonneg y)]; rfl

theorem gcd_con (a b : Int) : Con (cx prog w p loose mg mb) 1 41 [.int a, .int b] (.int (Int.gcd a b)) := by
  intro A s vs Q E hA o hr k
  obtain ⟨va, vb, rfl, ra, rb⟩ := hr.two
  refine enter (n := 0) (binds := [("a", va), ("b", vb)]) hA o rfl rfl rfl (locs rfl) (by decide) rfl rfl rfl fun L h1 tk F hA1 => ?_
  refine asg2 (S := Any) hA1 F (.tuple (.cons (.abs (o.ext F.keep) rfl (.loc F.ns rfl (ra.mono F.keep))) (.cons (.abs (o.ext F.keep) rfl (.loc F.ns rfl (rb.mono F.keep))) .nil))) fun v1 v2 h2 tk2 F2 e2 r1 r2 => ?_
  refine while_ hA1 (fun k h m => ∃ (x y : Nat) (t u : Tok), y = k ∧ m "a" = some (.int x t) ∧ m "b" = some (.int y u) ∧ Nat.gcd x y = Int.gcd a b) b.natAbs F2 ?_ ?_
  · obtain ⟨t1, rfl⟩ := r1.int_inv
    obtain ⟨t2, rfl⟩ := r2.int_inv
    exact ⟨a.natAbs, b.natAbs, t1, t2, rfl, rfl, rfl, rfl⟩
  · rintro k' h m ⟨x, y, t, u, hky, hx, hy, hg⟩ F'
    subst hky
    refine ⟨_, Tr.ints (.loc F'.ns hy (.int _ _)) .const, fun hb h1 tk1 e1 => ?_, fun hb h1 tk1 e1 => ?_⟩
    · have hy0 : y ≠ 0 := by simpa [cI] using hb
      have F1 := frExt F' e1
      refine asg2 (S := Any) hA1 F1 (.tuple (.cons (.loc F1.ns hy (.int _ _)) (.cons (.mod (.loc F1.ns hx (.int _ _)) (.loc F1.ns hy (.int _ _)) (by lia)) .nil))) fun v1 v2 h2 tk2 F2 e2 r1 r2 => ?_
      rw [fmod_nat] at r2
      obtain ⟨t1, rfl⟩ := r1.int_inv
      obtain ⟨t2, rfl⟩ := r2.int_inv
      refine execs_nil' ⟨rfl, x % y, _, _, _, Nat.mod_lt _ (by lia), rfl, F2, y, x % y, t1, t2, rfl, rfl, rfl, ?_⟩
      rw [← hg, Nat.gcd_comm x y, Nat.gcd_rec y x, Nat.gcd_comm]
    · have hy0 : y = 0 := by simpa [cI] using hb
      subst hy0
      have F1 := frExt F' e1
      rw [Nat.gcd_zero_right] at hg
      refine ret_ (S := New s.heap) hA1 (.loc F1.ns hx (.int _ _)) fun v h' tk e r => ?_
      rw [hg] at r
      exact k v h' tk ((Ext.tr F'.keep e1).tr e) r
end
end Mine

namespace Mine

/-- a ratio as the program writes it -/
abbrev rD (q : Rat) : PyData := .tuple [.int q.num, .int q.den]
/-- both parts are below 2 ^ k -/
def Hb (k : Nat) (q : Rat) : Prop := q.num.natAbs < 2 ^ k ∧ q.den < 2 ^ k

theorem rat_parts (a b : Int) (hb : b ≠ 0) (g : Int) (hg : g = if 0 < b then (Int.gcd a b : Int) else 0 - (Int.gcd a b : Int)) : a.fdiv g = (Rat.divInt a b).num ∧ b.fdiv g = ((Rat.divInt a b).den : Int) ∧ g ≠ 0 := by
  have hG : 0 < Int.gcd a b := Int.gcd_pos_of_ne_zero_right _ hb
  have da : (Int.gcd a b : Int) ∣ a := Int.gcd_dvd_left ..
  have db : (Int.gcd a b : Int) ∣ b := Int.gcd_dvd_right ..
  rw [Rat.num_divInt, Rat.den_divInt, if_neg hb, Int.gcd_comm b a]
  generalize Int.gcd a b = G at *
  have hG' : (0 : Int) < G := by lia
  by_cases h : 0 < b
  · rw [if_pos h] at hg
    subst hg
    have hs : b.sign = 1 := Int.sign_eq_one_of_pos h
    refine ⟨?_, ?_, by lia⟩
    · rw [hs, Int.one_mul, Int.fdiv_eq_ediv_of_nonneg _ (by lia)]
    · rw [Int.fdiv_eq_ediv_of_nonneg _ (by lia), Int.natCast_ediv, Int.natAbs_of_nonneg (by lia)]
  · rw [if_neg h] at hg
    subst hg
    have hs : b.sign = -1 := Int.sign_eq_neg_one_of_neg (by lia)
    rw [Int.zero_sub]
    obtain ⟨x, rfl⟩ := da
    obtain ⟨y, rfl⟩ := db
    refine ⟨?_, ?_, by lia⟩
    · rw [hs, show (G : Int) * x = -G * -x by rw [Int.neg_mul_neg], Int.mul_fdiv_cancel_left _ (by lia), Int.neg_mul_neg, show (-1 : Int) * (G * x) = G * -x by rw [Int.mul_neg]; lia, Int.mul_ediv_cancel_left _ (by lia)]
    · rw [show (G : Int) * y = -G * -y by rw [Int.neg_mul_neg], Int.mul_fdiv_cancel_left _ (by lia)]
      rw [Int.natCast_ediv, Int.neg_mul_neg, Int.natAbs_mul, Int.natCast_mul]
      have hy : y ≤ 0 := by
        rcases Int.lt_or_le 0 y with q | q
        · exact absurd (Int.mul_pos hG' q) h
        · exact q
      rw [show (((G : Int).natAbs : Nat) : Int) = G by lia, Int.mul_ediv_cancel_left _ (by lia)]
      lia

section
variable {prog : Program} {w : World} {p : Program} {loose : List Str} {mg mb : Str → Option Value}

theorem rat_con (a b : Int) (hb : b ≠ 0) : Con (cx prog w p loose mg mb) 2 57 [.int a, .int b] (rD (Rat.divInt a b)) := by
  intro A s vs Q E hA o hr k
  obtain ⟨va, vb, rfl, ra, rb⟩ := hr.two
  refine enter (n := 1) (binds := [("top", va), ("bottom", vb)]) hA o rfl rfl rfl (locs rfl) (by decide) rfl rfl rfl fun L h1 tk F hA1 => ?_
  refine execs_if hA1 (.ints (.loc F.ns rfl (rb.mono F.keep)) .const) (fun h2 tk2 e2 hz => ?_) (fun h2 tk2 e2 hz => ?_)
  · exact absurd (by simpa [cI] using hz) hb
  refine execs_nil' ?_
  have F2 := frExt F e2
  refine asg (S := Any) hA1 F2 (d := .int (if 0 < b then (Int.gcd a b : Int) else 0 - (Int.gcd a b : Int))) (.ife (.ints (.loc F2.ns rfl (rb.mono F2.keep)) .const) (fun h => ?_) fun h => ?_) fun v h3 tk3 F3 e3 r3 => ?_
  · have hb' : 0 < b := by simpa [cI] using h
    rw [if_pos hb']
    exact .callF (o.ext F2.keep) rfl rfl (.cons (.loc F2.ns rfl (ra.mono F2.keep)) (.cons (.loc F2.ns rfl (rb.mono F2.keep)) .nil)) (gcd_con a b)
  · have hb' : ¬ 0 < b := by simpa [cI] using h
    rw [if_neg hb']
    exact .sub .const (.callF (o.ext F2.keep) rfl rfl (.cons (.loc F2.ns rfl (ra.mono F2.keep)) (.cons (.loc F2.ns rfl (rb.mono F2.keep)) .nil)) (gcd_con a b))
  generalize hg : (if 0 < b then (Int.gcd a b : Int) else 0 - (Int.gcd a b : Int)) = g at r3
  obtain ⟨p1, p2, p3⟩ := rat_parts a b hb g hg.symm
  refine ret_ (S := New s.heap) hA1 (d := rD (Rat.divInt a b)) ?_ fun v h' tk e r => ?_
  · show Ev _ _ _ _ _ _ (.tuple [.int (Rat.divInt a b).num, .int (Rat.divInt a b).den])
    rw [← p1, ← p2]
    exact .tuple (.cons (.fdiv (o.ext F3.keep) (.loc F3.ns rfl (ra.mono F3.keep)) (.loc F3.ns rfl r3) p3) (.cons (.fdiv (o.ext F3.keep) (.loc F3.ns rfl (rb.mono F3.keep)) (.loc F3.ns rfl r3) p3) .nil))
  · exact k v h' tk (Ext.tr F3.keep e) r

theorem mulOk {a b : Int} {i j : Nat} (ha : a.natAbs < 2 ^ i) (hb : b.natAbs < 2 ^ j) (h : i + j ≤ 134217728) : IntMulOk a b := IntMulOk.of_le (intBits_le_iff.mpr ha) (intBits_le_iff.mpr hb) h
theorem Hb.d {k : Nat} {q : Rat} (h : Hb k q) : ((q.den : Int)).natAbs < 2 ^ k := h.2
theorem Hb.le {k l : Nat} {q : Rat} (h : Hb k q) (e : k ≤ l) : Hb l q := ⟨Nat.lt_of_lt_of_le h.1 (Nat.pow_le_pow_right (by decide) e), Nat.lt_of_lt_of_le h.2 (Nat.pow_le_pow_right (by decide) e)⟩

theorem radd_con (a b : Rat) {i j : Nat} (ha : Hb i a) (hb : Hb j b) (hij : i + j ≤ 134217728) : Con (cx prog w p loose mg mb) 3 64 [rD a, rD b] (rD (a + b)) := by
  intro A s vs Q E hA o hr k
  obtain ⟨va, vb, rfl, ra, rb⟩ := hr.two
  refine enter (n := 2) (binds := [("a", va), ("b", vb)]) hA o rfl rfl rfl (locs rfl) (by decide) rfl rfl rfl fun L h1 tk F hA1 => ?_
  have da := a.den_pos
  have db := b.den_pos
  refine ret_ (S := New s.heap) hA1 (.callF (o.ext F.keep) rfl rfl (.cons (.add (.mul (.tupAt (.loc F.ns rfl (ra.mono F.keep)) rfl) (.tupAt (.loc F.ns rfl (rb.mono F.keep)) rfl) (mulOk ha.1 hb.d hij)) (.mul (.tupAt (.loc F.ns rfl (rb.mono F.keep)) rfl) (.tupAt (.loc F.ns rfl (ra.mono F.keep)) rfl) (mulOk hb.1 ha.d (by lia)))) (.cons (.mul (.tupAt (.loc F.ns rfl (ra.mono F.keep)) rfl) (.tupAt (.loc F.ns rfl (rb.mono F.keep)) rfl) (mulOk ha.d hb.d hij)) .nil)) (rat_con _ _ (Int.ne_of_gt (Int.mul_pos (by lia) (by lia))))) fun v h' tk e r => ?_
  rw [← Int.natCast_mul, Rat.divInt_ofNat, ← Rat.add_def'] at r
  exact k v h' tk (Ext.tr F.keep e) r

theorem rsub_con (a b : Rat) {i j : Nat} (ha : Hb i a) (hb : Hb j b) (hij : i + j ≤ 134217728) : Con (cx prog w p loose mg mb) 3 71 [rD a, rD b] (rD (a - b)) := by
  intro A s vs Q E hA o hr k
  obtain ⟨va, vb, rfl, ra, rb⟩ := hr.two
  refine enter (n := 2) (binds := [("a", va), ("b", vb)]) hA o rfl rfl rfl (locs rfl) (by decide) rfl rfl rfl fun L h1 tk F hA1 => ?_
  have da := a.den_pos
  have db := b.den_pos
  refine ret_ (S := New s.heap) hA1 (.callF (o.ext F.keep) rfl rfl (.cons (.sub (.mul (.tupAt (.loc F.ns rfl (ra.mono F.keep)) rfl) (.tupAt (.loc F.ns rfl (rb.mono F.keep)) rfl) (mulOk ha.1 hb.d hij)) (.mul (.tupAt (.loc F.ns rfl (rb.mono F.keep)) rfl) (.tupAt (.loc F.ns rfl (ra.mono F.keep)) rfl) (mulOk hb.1 ha.d (by lia)))) (.cons (.mul (.tupAt (.loc F.ns rfl (ra.mono F.keep)) rfl) (.tupAt (.loc F.ns rfl (rb.mono F.keep)) rfl) (mulOk ha.d hb.d hij)) .nil)) (rat_con _ _ (Int.ne_of_gt (Int.mul_pos (by lia) (by lia))))) fun v h' tk e r => ?_
  rw [← Int.natCast_mul, Rat.divInt_ofNat, ← Rat.sub_def'] at r
  exact k v h' tk (Ext.tr F.keep e) r
theorem rmul_con (a b : Rat) {i j : Nat} (ha : Hb i a) (hb : Hb j b) (hij : i + j ≤ 134217728) : Con (cx prog w p loose mg mb) 3 78 [rD a, rD b] (rD (a * b)) := by
  intro A s vs Q E hA o hr k
  obtain ⟨va, vb, rfl, ra, rb⟩ := hr.two
  refine enter (n := 2) (binds := [("a", va), ("b", vb)]) hA o rfl rfl rfl (locs rfl) (by decide) rfl rfl rfl fun L h1 tk F hA1 => ?_
  have da := a.den_pos
  have db := b.den_pos
  refine ret_ (S := New s.heap) hA1 (.callF (o.ext F.keep) rfl rfl (.cons (.mul (.tupAt (.loc F.ns rfl (ra.mono F.keep)) rfl) (.tupAt (.loc F.ns rfl (rb.mono F.keep)) rfl) (mulOk ha.1 hb.1 hij)) (.cons (.mul (.tupAt (.loc F.ns rfl (ra.mono F.keep)) rfl) (.tupAt (.loc F.ns rfl (rb.mono F.keep)) rfl) (mulOk ha.d hb.d hij)) .nil)) (rat_con _ _ (Int.ne_of_gt (Int.mul_pos (by lia) (by lia))))) fun v h' tk e r => ?_
  rw [← Int.natCast_mul, Rat.divInt_ofNat, ← Rat.mul_def'] at r
  exact k v h' tk (Ext.tr F.keep e) r
theorem div_eq (a b : Rat) (hb : b ≠ 0) : a / b = Rat.divInt (a.num * b.den) (a.den * b.num) := by
  conv => lhs; rw [← Rat.num_divInt_den a, ← Rat.num_divInt_den b]
  rw [Rat.div_def, Rat.inv_divInt, Rat.divInt_mul_divInt]
theorem rdiv_con (a b : Rat) {i j : Nat} (ha : Hb i a) (hb : Hb j b) (hij : i + j ≤ 134217728) (hb0 : b ≠ 0) : Con (cx prog w p loose mg mb) 3 85 [rD a, rD b] (rD (a / b)) := by
  intro A s vs Q E hA o hr k
  obtain ⟨va, vb, rfl, ra, rb⟩ := hr.two
  refine enter (n := 2) (binds := [("a", va), ("b", vb)]) hA o rfl rfl rfl (locs rfl) (by decide) rfl rfl rfl fun L h1 tk F hA1 => ?_
  have da := a.den_pos
  have hn : b.num ≠ 0 := fun e => hb0 (Rat.num_eq_zero.mp e)
  refine ret_ (S := New s.heap) hA1 (.callF (o.ext F.keep) rfl rfl (.cons (.mul (.tupAt (.loc F.ns rfl (ra.mono F.keep)) rfl) (.tupAt (.loc F.ns rfl (rb.mono F.keep)) rfl) (mulOk ha.1 hb.d hij)) (.cons (.mul (.tupAt (.loc F.ns rfl (ra.mono F.keep)) rfl) (.tupAt (.loc F.ns rfl (rb.mono F.keep)) rfl) (mulOk ha.d hb.1 hij)) .nil)) (rat_con _ _ (Int.mul_ne_zero (by lia) hn))) fun v h' tk e r => ?_
  rw [← div_eq a b hb0] at r
  exact k v h' tk (Ext.tr F.keep e) r
theorem rneg_con (a : Rat) : Con (cx prog w p loose mg mb) 1 92 [rD a] (rD (-a)) := by
  intro A s vs Q E hA o hr k
  obtain ⟨va, rfl, ra⟩ := hr.one
  refine enter (n := 0) (binds := [("a", va)]) hA o rfl rfl rfl (locs rfl) (by decide) rfl rfl rfl fun L h1 tk F hA1 => ?_
  refine ret_ (S := New s.heap) hA1 (.tuple (.cons (.sub .const (.tupAt (.loc F.ns rfl (ra.mono F.keep)) rfl)) (.cons (.tupAt (.loc F.ns rfl (ra.mono F.keep)) rfl) .nil))) fun v h' tk e r => ?_
  rw [Int.zero_sub] at r
  exact k v h' tk (Ext.tr F.keep e) r
theorem is_vast_con (a : Rat) (ha : Hb 64 a) : Con (cx prog w p loose mg mb) 1 99 [rD a] (.bool false) := by
  intro A s vs Q E hA o hr k
  obtain ⟨va, rfl, ra⟩ := hr.one
  refine enter (n := 0) (binds := [("a", va)]) hA o rfl rfl rfl (locs rfl) (by decide) rfl rfl rfl fun L h1 tk F hA1 => ?_
  refine asg (S := Any) hA1 F (.max (o.ext F.keep) rfl (.abs (o.ext F.keep) rfl (.tupAt (.loc F.ns rfl (ra.mono F.keep)) rfl)) (.tupAt (.loc F.ns rfl (ra.mono F.keep)) rfl)) fun v h2 tk2 F2 e2 r2 => ?_
  have hlt : ¬ ((2 : Int) ^ (64 : Int).toNat ≤ Max.max (a.num.natAbs : Int) (a.den : Int)) := by
    have h1 := ha.1
    have h2 := ha.2
    show ¬ (18446744073709551616 : Int) ≤ _
    simp only [Nat.reducePow] at h1 h2
    lia
  refine ret_ (S := New s.heap) hA1 (.andF (.to (.ints (.loc F2.ns rfl r2) (.pow .const .const (by decide) (by decide) (by decide) (by decide) (by decide))) ?_)) fun v h' tk e r => k v h' tk (Ext.tr F2.keep e) r
  show PyData.bool (decide ((2 : Int) ^ (64 : Int).toNat ≤ Max.max (a.num.natAbs : Int) (a.den : Int))) = _
  rw [decide_eq_false hlt]
theorem rcompare_con : Con (cx prog w p loose mg mb) 1 106 [rD 1, rD 1] (.int 0) := by
  intro A s vs Q E hA o hr k
  obtain ⟨va, vb, rfl, ra, rb⟩ := hr.two
  refine enter (n := 0) (binds := [("a", va), ("b", vb)]) hA o rfl rfl rfl (locs rfl) (by decide) rfl rfl rfl fun L h1 tk F hA1 => ?_
  refine asg (S := Any) hA1 F (.sub (.mul (.tupAt (.loc F.ns rfl (ra.mono F.keep)) rfl) (.tupAt (.loc F.ns rfl (rb.mono F.keep)) rfl) (mulOk (i := 1) (j := 1) (by decide) (by decide) (by decide))) (.mul (.tupAt (.loc F.ns rfl (rb.mono F.keep)) rfl) (.tupAt (.loc F.ns rfl (ra.mono F.keep)) rfl) (mulOk (i := 1) (j := 1) (by decide) (by decide) (by decide)))) fun v h2 tk2 F2 e2 r2 => ?_
  exact ret_ (S := New s.heap) hA1 (.subB (.ints (.loc F2.ns rfl r2) .const) (.ints (.loc F2.ns rfl r2) .const)) fun v h' tk e r => k v h' tk (Ext.tr F2.keep e) r
theorem let_con (a : Rat) (ha : Hb 64 a) : Con (cx prog w p loose mg mb) 2 113 [rD a] (rD a) := by
  intro A s vs Q E hA o hr k
  obtain ⟨va, rfl, ra⟩ := hr.one
  refine enter (n := 1) (binds := [("number", va)]) hA o rfl rfl rfl (locs rfl) (by decide) rfl rfl rfl fun L h1 tk F hA1 => ?_
  refine execs_if hA1 (.call (.callF (o.ext F.keep) rfl rfl (.cons (.loc F.ns rfl (ra.mono F.keep)) .nil) (is_vast_con a ha))) (fun h2 tk2 e2 hz => by cases hz) fun h2 tk2 e2 hz => execs_nil' ?_
  have F2 := frExt F e2
  exact ret_ (S := New s.heap) hA1 (.loc F2.ns rfl ((ra.flat rfl).mono F2.keep)) fun v h' tk e r => k v h' tk (Ext.tr F2.keep e) r
theorem need_begin_con (ds : List PyData) (hl : ds.length ≤ 16777216) (h0 : ds[0]? = some (rD 1)) : Con (cx prog w p loose mg mb) 2 120 [.list ds, rD 1] .none := by
  intro A s vs Q E hA o hr k
  obtain ⟨va, vb, rfl, ra, rb⟩ := hr.two
  refine enter (n := 1) (binds := [("a", va), ("number", vb)]) hA o rfl rfl rfl (locs rfl) (by decide) rfl rfl rfl fun L h1 tk F hA1 => ?_
  refine execs_if hA1 (.and (.ints (.len (o.ext F.keep) rfl (.loc F.ns rfl (ra.mono F.keep)) hl) .const) fun _ => .ints (.callF (o.ext F.keep) rfl rfl (.cons (.listAt (.loc F.ns rfl (ra.mono F.keep)) .const h0 (by decide) (by decide)) (.cons (.loc F.ns rfl (rb.mono F.keep)) .nil)) rcompare_con) .const) (fun h2 tk2 e2 hz => ?_) fun h2 tk2 e2 hz => execs_nil' (execs_nil' ?_)
  · exact absurd ((Bool.and_eq_true _ _).mp hz).2 (by decide)
  · exact k _ h2 tk2 (Ext.tr F.keep e2) .none
end
end Mine

namespace Mine

/-- a write at places that hold no sequence -/
def NoSeq (h : Heap) (w : Addr → Prop) : Prop := ∀ b, w b → ∀ o, h.get? b = some o → ∀ xs k, o.data ≠ .seq xs k
abbrev MvP (w : Addr → Prop) (h h' : Heap) : Prop := ∀ b o, ¬ w b → h.get? b = some o → h'.get? b = some o
theorem isList_wr {w : Addr → Prop} {h h' : Heap} (hw : NoSeq h w) (e : MvP w h h') {a : Addr} {items : Array Value} (x : h.IsList a items) : h'.IsList a items := by
  obtain ⟨o, ho, hc, k, hd⟩ := x
  exact ⟨o, e a o (fun q => hw a q o ho _ _ hd) ho, hc, k, hd⟩
theorem isTup_wr {w : Addr → Prop} {h h' : Heap} (hw : NoSeq h w) (e : MvP w h h') {a : Addr} {items : Array Value} (x : IsTup h a items) : IsTup h' a items := by
  obtain ⟨o, ho, hc, k, hd⟩ := x
  exact ⟨o, e a o (fun q => hw a q o ho _ _ hd) ho, hc, k, hd⟩
theorem Rp.wr {w S : Addr → Prop} {h h' : Heap} (hw : NoSeq h w) (e : MvP w h h') {v : Value} {d : PyData} (r : Rp S h v d) : Rp S h' v d := r.gen (fun _ _ s x => ⟨s, isList_wr hw e x⟩) fun _ _ x => isTup_wr hw e x
theorem Rps.wr {w S : Addr → Prop} {h h' : Heap} (hw : NoSeq h w) (e : MvP w h h') {vs : List Value} {ds : List PyData} (r : Rps S h vs ds) : Rps S h' vs ds := r.gen (fun _ _ s x => ⟨s, isList_wr hw e x⟩) fun _ _ x => isTup_wr hw e x
theorem isTup_off {W a : Addr} {its items : Array Value} {h h' : Heap} (hl : h.IsList W its) (e : Heap.ExtBut W h h') (x : IsTup h a items) : IsTup h' a items := by
  obtain ⟨o, ho, hc, r0⟩ := x
  refine ⟨o, e _ o (fun q => ?_) ho, hc, r0⟩
  obtain ⟨o', ho', hc', _⟩ := hl
  rw [← q, ho] at ho'
  cases ho'
  rw [hc] at hc'; exact absurd hc' (by decide)
/-- a write at one list: what avoids it stays -/
theorem Rp.off {S : Addr → Prop} {W : Addr} {its : Array Value} {h h' : Heap} (hS : ∀ a, S a → a ≠ W) (hl : h.IsList W its) (e : Heap.ExtBut W h h') {v : Value} {d : PyData} (r : Rp S h v d) : Rp S h' v d :=
  r.gen (fun _ _ s ⟨o, ho, r0⟩ => ⟨s, ⟨o, e _ o (hS _ s) ho, r0⟩⟩) fun _ _ x => isTup_off hl e x
theorem Rps.off {S : Addr → Prop} {W : Addr} {its : Array Value} {h h' : Heap} (hS : ∀ a, S a → a ≠ W) (hl : h.IsList W its) (e : Heap.ExtBut W h h') {vs : List Value} {ds : List PyData} (r : Rps S h vs ds) : Rps S h' vs ds :=
  r.gen (fun _ _ s ⟨o, ho, r0⟩ => ⟨s, ⟨o, e _ o (hS _ s) ho, r0⟩⟩) fun _ _ x => isTup_off hl e x

/-- what stays under writes at places that hold no sequence -/
def Stab (J : Heap → Prop) : Prop := ∀ (h h' : Heap) (w : Addr → Prop), NoSeq h w → MvP w h h' → J h → J h'
theorem Stab.c (P : Prop) : Stab fun _ => P := fun _ _ _ _ _ x => x
theorem Stab.a {P Q : Heap → Prop} (x : Stab P) (y : Stab Q) : Stab fun h => P h ∧ Q h := fun h h' w hw e z => ⟨x h h' w hw e z.1, y h h' w hw e z.2⟩
theorem Stab.e {α : Sort _} {P : α → Heap → Prop} (x : ∀ a, Stab (P a)) : Stab fun h => ∃ a, P a h := fun h h' w hw e ⟨a, z⟩ => ⟨a, x a h h' w hw e z⟩
theorem Stab.rp (S : Addr → Prop) (v : Value) (d : PyData) : Stab fun h => Rp S h v d := fun _ _ _ hw e x => x.wr hw e
theorem Stab.rps (S : Addr → Prop) (vs : List Value) (ds : List PyData) : Stab fun h => Rps S h vs ds := fun _ _ _ hw e x => x.wr hw e
theorem Stab.l (a : Addr) (items : Array Value) : Stab fun h => h.IsList a items := fun _ _ _ hw e x => isList_wr hw e x
theorem Stab.p (a : Addr) (items : Array Value) : Stab fun h => h.PlainList a items := fun _ _ _ hw e x => by
  obtain ⟨n, ho⟩ := x
  exact ⟨n, e a _ (fun q => hw a q _ ho _ _ rfl) ho⟩

section
variable {c : Cx} {n : Nat} {env : Env} {h0 : Heap} {S : Addr → Prop}

theorem EvN.copy {p pos : Pos} {e : Expr} {ds : List PyData} (o : Ok c h0) (hn : nsIn c.K mainGlobals "list" = some none) (ha : Ev c n env h0 Any e (.list ds)) (hs : ds.length ≤ 16777216) (hf : flats ds = true)
    (hk : env.scope.kind = .function := by rfl) (hg : env.globals = mainGlobals := by rfl) (hb : env.builtins = builtinsNs := by rfl) (hx : env.kindOf "list" = some .globalImplicit := by rfl)
    (he : starEach [e] env = (false, eval e env) :: starEach [] env := by rfl)
    (hcl : eval (.Call (.Name "list" p) [e] [] pos) env = (do callWith pos (← eval (.Name "list" p) env) [] (backTo pos (starEach [e] env)) (backToKw pos (keywordEach [] env))) := by rfl) :
    EvN c n env h0 S (.Call (.Name "list" p) [e] [] pos) ds := fun A s Q E hA hx' q => by
  refine callB hA hx' o hn (by rfl) (.inr ⟨_, rfl⟩) (.cons ha .nil he) (fun vs h1 t1 e1 o1 r => ?_) (by decide) hk hg hb hx (by decide) he rfl hcl
  obtain ⟨v, e, r'⟩ := r.one
  subst e
  obtain ⟨a, us, rfl, _, hl, ru⟩ := r'.list_inv
  obtain ⟨ob, ho, hc, k, hd⟩ := hl
  refine call_list_seq (hsz := by rw [List.size_toArray, ru.length, sizeLine_eq]; exact hs) a (.inl rfl) ho hc hd fun h' c' hk' hD => ?_
  exact q _ us h' t1 (e1.tr hk') (New.ext e1 (new_size h1)) ⟨c', hD⟩ ((ru.flat hf).mono hk')

theorem subscripted_slice {lo hi : Option Expr} {p : Pos} (o i : Value) : subscripted (.Slice lo hi none p) false o i = operate [i, o] (getItem o i) := rfl
theorem subscripted_step {lo hi : Option Expr} {k : Expr} {p : Pos} (o i : Value) : subscripted (.Slice lo hi (some k) p) false o i = operate [o, i] (getItem o i) := rfl

/-- the end of a slice of a list -/
theorem slice_end {l : Addr} {items : Array Value} {vl vu vk : Value} {lo hi st : Option Int} {value slice : Expr} {A : Around} {s : Shared} {Q : Value → Shared → Prop} {E : Value → Shared → Prop}
    (hl : s.heap.IsList l items) (pl : IsPart vl lo) (pu : IsPart vu hi) (pk : IsPart vk st) (h0 : st ≠ some 0) (hsz : items.size ≤ 16777216)
    (hs : ∀ o i, ∃ ops, subscripted slice false o i = operate ops (getItem o i))
    (q : ∀ a h', Ext s.heap h' → s.heap.get? a = none → h'.PlainList a (slicePick items lo hi st) → Q (.ref a) { s with heap := h' }) :
    wpAny (model c.prog c.w) A (newFields "slice" [vl, vu, vk]) (fun i s' => wpAny (model c.prog c.w) A (subscriptTail value slice (.ref l) i) Q E s') E s := by
  refine wpAny_newObj_type ?_ (by show 3 ≤ sizeLine + 2; rw [sizeLine_eq]; lia)
  have hpush : ∀ b o, s.heap.get? b = some o → (s.heap.push { cls := .type "slice", data := .fields #[vl, vu, vk] }).get? b = some o := fun b o e => Heap.get?_push_of_some _ e
  have hl1 : (s.heap.push { cls := .type "slice", data := .fields #[vl, vu, vk] }).IsList l items := isList_ext hl hpush
  refine tail_any (Heap.IsList.typeIs (s := { s with heap := s.heap.push { cls := .type "slice", data := .fields #[vl, vu, vk] } }) hl1) slot_list_getitem.lookup ?_ (hs _ _).choose_spec
  refine wpAny_getItem_list_slice hl1 (Heap.IsSliceOf.new ..) pl pu pk h0 ?_ (by rw [sizeLine_eq]; exact hsz)
  refine q _ _ (fun b o e => Heap.get?_push_of_some _ (hpush b o e)) ?_ ⟨_, Heap.get?_push_size _ rfl⟩
  exact New.ext hpush (new_size _)

/-- x[:y] -/
theorem EvN.upto {v u : Expr} {p pos : Pos} {ds es : List PyData} {y : Int} (hv : Ev c n env h0 Any v (.list ds)) (hu : Ev c n env h0 Any u (.int y)) (hs : ds.length ≤ 16777216) (hf : flats ds = true)
    (he : ∀ vs : List Value, vs.length = ds.length → ∃ k, slicePick vs.toArray none (some y) none = (vs.take k).toArray ∧ es = ds.take k) :
    EvN c n env h0 S (.Subscript v (.Slice none (some u) none p) pos) es := fun A s Q E hA hx q => by
  refine Subscript_ (hv A s _ _ hA hx fun x h1 t1 e1 r1 => ?_)
  show wpAny _ A (do let l ← (pure Value.none); let u' ← holding [l] (eval u env); let s' ← holding [l, u'] (pure Value.none); newFields "slice" [l, u', s']) _ _ _
  refine wpAny_bind (wpAny_pure (wpAny_bind (wpAny_holding (hu A _ _ _ hA (hx.tr e1) fun y' h2 t2 e2 r2 => wpAny_bind (wpAny_holding (wpAny_pure ?_))))))
  obtain ⟨t, rfl⟩ := r2.int_inv
  obtain ⟨a, vs, rfl, _, hl, rs⟩ := (r1.mono e2).list_inv
  obtain ⟨k, ek, e'⟩ := he vs rs.length
  refine slice_end hl .none (.int _ _) .none (by decide) (by rw [List.size_toArray, rs.length]; exact hs) (fun o i => ⟨_, subscripted_slice o i⟩) fun a' h3 e3 hn hp => ?_
  rw [ek] at hp
  subst e'
  exact q a' (vs.take k) h3 t2 ((e1.tr e2).tr e3) (New.ext (e1.tr e2) hn) hp (((rs.take 0 k).flat (by
    have : ∀ (l : List PyData) (k : Nat), flats l = true → flats (l.take k) = true := by
      intro l
      induction l with
      | nil => intro k _; simp [flats]
      | cons d l ih =>
        intro k h
        cases k with
        | zero => rfl
        | succ k =>
          simp only [flats, Bool.and_eq_true] at h
          simp only [List.take_succ_cons, flats, h.1, ih k h.2, Bool.and_self]
    exact this ds k hf)).mono e3)
/-- x[::-1] -/
theorem EvN.rev {v u : Expr} {p pos : Pos} {ds : List PyData} (hv : Ev c n env h0 S v (.list ds)) (hu : Ev c n env h0 Any u (.int (-1))) (hs : ds.length ≤ 16777216) :
    EvN c n env h0 S (.Subscript v (.Slice none none (some u) p) pos) ds.reverse := fun A s Q E hA hx q => by
  refine Subscript_ (hv A s _ _ hA hx fun x h1 t1 e1 r1 => ?_)
  show wpAny _ A (do let l ← (pure Value.none); let u' ← holding [l] (pure Value.none); let s' ← holding [l, u'] (eval u env); newFields "slice" [l, u', s']) _ _ _
  refine wpAny_bind (wpAny_pure (wpAny_bind (wpAny_holding (wpAny_pure (wpAny_bind (wpAny_holding (hu A _ _ _ hA (hx.tr e1) fun y' h2 t2 e2 r2 => ?_)))))))
  obtain ⟨t, rfl⟩ := r2.int_inv
  obtain ⟨a, vs, rfl, _, hl, rs⟩ := (r1.mono e2).list_inv
  refine slice_end hl .none .none (.int _ _) (by decide) (by rw [List.size_toArray, rs.length]; exact hs) (fun o i => ⟨_, subscripted_step o i⟩) fun a' h3 e3 hn hp => ?_
  rw [krv_pick] at hp
  exact q a' vs.reverse h3 t2 ((e1.tr e2).tr e3) (New.ext (e1.tr e2) hn) hp (rs.reverse.mono e3)
theorem upto_nonneg {y : Int} (hy : 0 ≤ y) {ds : List PyData} (vs : List Value) (hl : vs.length = ds.length) : ∃ k, slicePick vs.toArray none (some y) none = (vs.take k).toArray ∧ ds.take y.toNat = ds.take k := by
  refine ⟨min y.toNat vs.length, ?_, ?_⟩
  · rw [kmk_pick_nat _ (kms_bounds none (some y) vs.toArray.size)]
    have e1 : kms_hi (some y) vs.toArray.size = min y.toNat vs.toArray.size := if_neg (by lia)
    rw [e1]
    simp [kms_lo]
  · rw [hl]
    rcases Nat.le_total y.toNat ds.length with h | h
    · rw [Nat.min_eq_left h]
    · rw [Nat.min_eq_right h, List.take_of_length_le h, List.take_of_length_le (Nat.le_refl _)]
theorem upto_neg1 {ds : List PyData} (vs : List Value) (hl : vs.length = ds.length) : ∃ k, slicePick vs.toArray none (some (-1)) none = (vs.take k).toArray ∧ ds.take (ds.length - 1) = ds.take k := by
  refine ⟨vs.length - 1, ?_, by rw [hl]⟩
  rw [kmk_pick_nat _ (kms_bounds none (some (-1)) vs.toArray.size)]
  have e1 : kms_hi (some (-1)) vs.toArray.size = vs.toArray.size - 1 := by simp [kms_hi]
  rw [e1]
  simp [kms_lo]

/-- l + r of two new lists -/
theorem EvN.cat {l r : Expr} {pos : Pos} {ds es : List PyData} (hl : EvN c n env h0 S l ds) (hr : EvN c n env h0 S r es) (hs : ds.length + es.length ≤ 16777216) : EvN c n env h0 S (.BinOp l .Add r pos) (ds ++ es) := fun A s Q E hA hx q => by
  refine wpAny_BinOp (hl A s _ _ hA hx fun a vs h1 t1 e1 n1 p1 r1 => ?_)
  refine hr A _ _ _ hA (hx.tr e1) fun b us h2 t2 e2 n2 p2 r2 => ?_
  obtain ⟨k1, o1⟩ := p1
  obtain ⟨k2, o2⟩ := p2
  refine P.add_list (hsz := by rw [List.size_toArray, List.size_toArray, r1.length, r2.length, sizeLine_eq]; exact hs) (n := k1) (n2 := k2) (e2 _ _ o1) o2 ?_
  have e3 : Ext h2 (h2.push { cls := .type "list", data := .seq (vs.toArray ++ us.toArray) }) := fun b o e => Heap.get?_push_of_some _ e
  refine q _ (vs ++ us) _ t2 ((e1.tr e2).tr e3) (New.ext (e1.tr e2) (new_size h2)) ⟨0, ?_⟩ ((((r1.mono e2).append r2)).mono e3)
  rw [show (vs ++ us).toArray = vs.toArray ++ us.toArray by simp]
  exact Heap.get?_push_size _ rfl
/-- l * k of a new list -/
theorem EvN.times {l r : Expr} {pos : Pos} {d : PyData} {x : Int} (hl : EvN c n env h0 S l [d]) (hr : Ev c n env h0 Any r (.int x)) (h1 : x ≤ 16777216) (h0' : -16777216 ≤ x) : EvN c n env h0 S (.BinOp l .Mult r pos) (List.replicate x.toNat d) := fun A s Q E hA hx q => by
  refine wpAny_BinOp (hl A s _ _ hA hx fun a vs h1 t1 e1 n1 p1 r1 => ?_)
  refine hr A _ _ _ hA (hx.tr e1) fun b h2 t2 e2 r2 => ?_
  obtain ⟨u, rfl⟩ := r2.int_inv
  obtain ⟨v, e, rv⟩ := r1.one
  subst e
  obtain ⟨k1, o1⟩ := p1
  have o2 := e2 _ _ o1
  have e3 : Ext h2 (h2.push { cls := .type "list", data := .seq (List.foldl (fun x1 x2 => x1 ++ x2) #[] (List.replicate (if ([v].toArray).isEmpty = true then 0 else x.toNat) [v].toArray)) }) := fun b o e => Heap.get?_push_of_some _ e
  have hz2 : [v].toArray.size * x.toNat = x.toNat := Nat.one_mul _
  have g := AutoListH.list___mul___list_int_3 a [v].toArray k1 x u (by simp [Builtin.List.listFitsIndex]; lia) (by rw [hz2]; lia) (by rw [hz2]; simp [Builtin.List.listTooLong, sizeLine]; lia)
  refine wpAny_binaryOp_repeat_ref (T := "list") (U := "int") (by decide) ⟨_, o2, rfl⟩ (fun s' => typeIs_int s' x u) noFill_list_mul F.fills_int_mul F.slot_int_rmul repeat_list F.slot_int_index.lookup
    (call_meets F.slot_int_rmul (typeIs_int _ x u) F.entry_int_rmul (F.args_int_rmul_2 _ _) (int___rmul___int_list x u a [v].toArray k1)
      ⟨o2, rfl, ⟨_, o2, rfl⟩, call_meets F.slot_list_mul ⟨_, o2, rfl⟩ F.entry_list_mul (F.args_list_mul_2 _ _) g ⟨o2, ?_⟩⟩)
  refine q _ (List.replicate x.toNat v) _ t2 ((e1.tr e2).tr e3) (New.ext (e1.tr e2) (new_size h2)) ⟨0, ?_⟩ ((Rps.replicate (rv.mono e2) x.toNat).mono e3)
  have : (List.replicate x.toNat v).toArray = List.foldl (fun x1 x2 => x1 ++ x2) #[] (List.replicate (if ([v].toArray).isEmpty = true then 0 else x.toNat) [v].toArray) := by
    have hz : (if ([v].toArray).isEmpty = true then 0 else x.toNat) = x.toNat := if_neg (by simp)
    rw [hz]
    generalize x.toNat = k
    have gen : ∀ (k : Nat) (acc : List Value), List.foldl (fun x1 x2 => x1 ++ x2) acc.toArray (List.replicate k [v].toArray) = (acc ++ List.replicate k v).toArray := by
      intro k
      induction k with
      | zero => intro acc; simp
      | succ k ih =>
        intro acc
        rw [List.replicate_succ, List.foldl_cons, show acc.toArray ++ [v].toArray = (acc ++ [v]).toArray by simp, ih, List.replicate_succ]
        simp
    simpa using (gen k []).symm
  rw [this]
  exact Heap.get?_push_size _ rfl
end
end Mine

namespace Mine
abbrev Off : Addr → Prop := fun _ => False

theorem ne_locals {h : Heap} {L a : Addr} {m : Str → Option Value} {items : Array Value} (hn : h.Ns L m) (x : h.IsList a items) : a ≠ L := fun q => by
  obtain ⟨o, ho, _, k, hd⟩ := x
  obtain ⟨o', es, ep, ho', hd', _⟩ := hn
  rw [q, ho'] at ho
  cases ho
  rw [hd'] at hd; cases hd
theorem frBut {H h h' : Heap} {L W : Addr} {m : Str → Option Value} (F : Fr H L h m) (hW : H.get? W = none) (hne : W ≠ L) (e : Heap.ExtBut W h h') : Fr H L h' m :=
  ⟨F.ns.at fun o x => e L o (Ne.symm hne) x, fun b o x => e b o (fun q => by rw [q, hW] at x; cases x) (F.keep b o x), F.above⟩

section
variable {c : Cx} {n : Nat} {env : Env} {S : Addr → Prop} {A : Around} {s : Shared} {H : Heap} {m : Str → Option Value} {E : Value → Shared → Prop} {Q : Flow → Shared → Prop} {rest : List Stmt}

/-- x -= e -/
theorem augSub {x : Str} {p pos : Pos} {e : Expr} {a b : Int} {t : Tok} (hA : Rm n A) (F : Fr H env.locals s.heap m) (hv : m x = some (.int a t)) (he : Ev c n env s.heap Any e (.int b))
    (q : ∀ t' h' tk, Fr H env.locals h' (put m x (.int (a - b) t')) → Heap.ExtBut env.locals s.heap h' → wpAny (model c.prog c.w) A (execs rest env) Q E (up s h' tk))
    (hx : env.kindOf x = some .local := by rfl) (hk : env.scope.kind = .function := by rfl) :
    wpAny (model c.prog c.w) A (execs (.AugAssign (.Name x p) .Sub e pos :: rest) env) Q E s := by
  refine wpAny_execs_cons (wpAny_AugAssign_Name (wpAny_loadName_local hk hx F.ns hv (he A s _ _ hA Ext.rfl' fun v h1 t1 e1 r1 => ?_)))
  obtain ⟨u, rfl⟩ := r1.int_inv
  refine PyProof.Rows.isub_int (set_ (frExt F e1) hx hk fun h2 t2 F2 e2 => ?_)
  exact q _ h2 t2 F2 fun b o hb e => e2 b o hb (e1 b o e)

/-- x[i] = e, x a list of the call's own -/
theorem setAt_ {x : Str} {p p' pos : Pos} {i e : Expr} {W : Addr} {vs : List Value} {ds : List PyData} {d : PyData} {k : Nat} (hA : Rm n A) (F : Fr H env.locals s.heap m) (hv : m x = some (.ref W)) (hl : s.heap.IsList W vs.toArray) (rs : Rps Off s.heap vs ds)
    (hW : H.get? W = none) (he : Ev c n env s.heap Off e d) (hi : Ev c n env s.heap Any i (.int (k : Int))) (h1 : k < ds.length) (h2 : k ≤ 2000)
    (q : ∀ h' tk vs', Fr H env.locals h' m → h'.IsList W vs'.toArray → Rps Off h' vs' (ds.set k d) → Heap.ExtBut W s.heap h' → wpAny (model c.prog c.w) A (execs rest env) Q E (up s h' tk))
    (hx : env.kindOf x = some .local := by rfl) (hk : env.scope.kind = .function := by rfl) (hd : (x == ("__debug__" : Str)) = false := by decide) (hs : swapsWith e (some (.Subscript (.Name x p) i p')) pos.line env = pure false := by rfl) :
    wpAny (model c.prog c.w) A (execs (.Assign [.Subscript (.Name x p) i p'] e pos :: rest) env) Q E s := by
  refine wpAny_execs_cons (wpAny_Assign_Subscript (he A s _ _ hA Ext.rfl' fun v h1' t1 e1 r1 => ?_) hs)
  refine wpAny_Name (wpAny_loadName_local hk hx (frExt F e1).ns hv ?_) hd
  refine hi A _ _ _ hA e1 fun u h2' t2 e2 r2 => ?_
  obtain ⟨t, rfl⟩ := r2.int_inv
  have hl2 := isList_ext (isList_ext hl e1) e2
  have F2 := frExt (frExt F e1) e2
  have hne := ne_locals F2.ns hl2
  refine wpAny_setItem_list hl2 (nnM k) (ixM h2) (by rw [List.size_toArray, rs.length]; exact Int.ofNat_lt.mpr h1) fun h' hl' hs' => ?_
  refine q h' t2 (vs.set k v) (frBut F2 hW hne hs'.extBut) (by simpa using hl') ?_ (fun b o hb e => hs'.extBut b o hb (e2 b o (e1 b o e)))
  exact Rps.off (fun _ x => x.elim) hl2 hs'.extBut (Rps.set (r1.mono e2) k ((rs.mono e1).mono e2))

/-- x.append(e), x a list of the call's own -/
theorem append_ {x : Str} {p apos pos pos' : Pos} {e : Expr} {W : Addr} {vs : List Value} {ds : List PyData} {d : PyData} (hA : Rm n A) (F : Fr H env.locals s.heap m) (hv : m x = some (.ref W)) (hl : s.heap.PlainList W vs.toArray) (rs : Rps Off s.heap vs ds)
    (hW : H.get? W = none) (he : Ev c n env s.heap Off e d) (hsz : ds.length ≤ 16777216)
    (q : ∀ h' tk v, Fr H env.locals h' m → h'.PlainList W (vs ++ [v]).toArray → Rps Off h' (vs ++ [v]) (ds ++ [d]) → Heap.ExtBut W s.heap h' → wpAny (model c.prog c.w) A (execs rest env) Q E (up s h' tk))
    (hx : env.kindOf x = some .local := by rfl) (hk : env.scope.kind = .function := by rfl) (hd : (x == ("__debug__" : Str)) = false := by decide)
    (hbase : attributeBase (.Name x p) "append" env (eval (.Name x p) env) = eval (.Name x p) env := by rfl)
    (hfew : ((backTo pos (starEach [e] env)).all (fun x => !x.1) && (backToKw pos (keywordEach [] env)).all (fun x => x.1.isSome)
      && decide (([e] : List Expr).length + ([] : List Keyword).length + (if ([] : List Keyword).isEmpty then 0 else 1) < 30)) = true := by rfl)
    (hline : (apos.endLine == pos.line) = true := by rfl)
    (htrees : backTo pos (starEach [e] env) = [(false, eval e env)] := by rfl) (hi : interactive env = false := by rfl) (hs : swapsWith (.Call (.Attribute (.Name x p) "append" apos) [e] [] pos) none pos'.line env = pure false := by rfl) :
    wpAny (model c.prog c.w) A (execs (.Expr (.Call (.Attribute (.Name x p) "append" apos) [e] [] pos) pos' :: rest) env) Q E s := by
  refine wpAny_execs_cons (wpAny_Expr (wpAny_Call_append hbase hfew hline htrees ?_) hi hs)
  refine wpAny_Name (wpAny_loadName_local hk hx F.ns hv ⟨W, vs.toArray, rfl, ?_, ?_⟩) hd
  · obtain ⟨k, ho⟩ := hl
    exact ⟨_, k, ho, rfl, rfl, rfl⟩
  refine he A _ _ _ hA Ext.rfl' fun v h1 t1 e1 r1 => ?_
  have hl1 : h1.PlainList W vs.toArray := hl.at fun o ho => e1 _ _ ho
  have F1 := frExt F e1
  have hne := ne_locals F1.ns hl1.isList
  refine wpAny_list_append_plain (hsz := by rw [List.size_toArray, rs.length, sizeLine_eq]; exact hsz) hl1 fun h' hl' hs' => ?_
  refine q h' t1 v (frBut F1 hW hne hs'.extBut) (by simpa using hl') ?_ (fun b o hb e => hs'.extBut b o hb (e1 b o e))
  exact Rps.off (fun _ x => x.elim) hl1.isList hs'.extBut ((rs.mono e1).append (.cons r1 .nil))
end
end Mine

namespace Mine

/-- the expression gives something that can be walked: N turns, the i-th hands v with P i v -/
def It (c : Cx) (n : Nat) (env : Env) (H h0 : Heap) (e : Expr) (N : Nat) (P : Nat → Value → Prop) : Prop :=
  ∀ (A : Around) (s : Shared) (Q : Value → Shared → Prop) (E : Value → Shared → Prop), Rm n A → Ext h0 s.heap →
    (∀ I fp wr St h' tk, Ext s.heap h' → Walks c.prog c.w A I fp wr N P St → St 0 h' → (∀ b ∈ fp, (∃ o, h'.get? b = some o) ∧ ((b ∈ wr ∧ s.heap.get? b = none) ∨ ∃ items, H.IsList b items)) → (∀ i h, St i h → ∀ b ∈ wr, ∃ o vs, h.get? b = some o ∧ o.data = .fields vs) →
      Q (.ref I) (up s h' tk)) → wpAny (model c.prog c.w) A (eval e env) (fun x s' => wpAny (model c.prog c.w) A (pyIter x) Q E s') E s

section
variable {c : Cx} {n : Nat} {env : Env} {H h0 : Heap}

theorem range_small {a b : Int} (ha : -16777216 ≤ a) (ha' : a ≤ 16777216) (hb : -16777216 ≤ b) (hb' : b ≤ 16777216) : Builtin.Range.small a b 1 = true := small_one (by lia) (by lia) (by lia) (by lia)
theorem iter_range {a b : Int} {N : Nat} {r : Addr} {t u v : Tok} {A : Around} {s s0 : Shared} {Q : Value → Shared → Prop} {E : Value → Shared → Prop} (hA : Rm n A) (hN : N = (b - a).toNat) (ha : -16777216 ≤ a) (ha' : a ≤ 16777216) (hb : -16777216 ≤ b) (hb' : b ≤ 16777216)
    (hr : IsRange s.heap r a b 1 t u v) (hx : Ext s0.heap s.heap)
    (q : ∀ I fp wr St h' tk, Ext s0.heap h' → Walks c.prog c.w A I fp wr N (fun i v => ∃ t, v = .int (a + (i : Int)) t) St → St 0 h' → (∀ b ∈ fp, (∃ o, h'.get? b = some o) ∧ ((b ∈ wr ∧ s0.heap.get? b = none) ∨ ∃ items, H.IsList b items)) → (∀ i h, St i h → ∀ b ∈ wr, ∃ o vs, h.get? b = some o ∧ o.data = .fields vs) →
      Q (.ref I) (up s h' tk)) : wpAny (model c.prog c.w) A (pyIter (.ref r)) Q E s := by
  refine wpAny_pyIter_range hr (range_small ha ha' hb hb') ?_
  have hp : Ext s.heap (s.heap.push { cls := .type "range_iterator", data := .fields #[rawInt a, rawInt (Builtin.Range.rangeSize a b 1), rawInt 1] }) := fun b o e => Heap.get?_push_of_some _ e
  have hsz : Builtin.Range.rangeSize a b 1 = (N : Int) := by rw [rangeSize_one]; split <;> lia
  refine q _ [s.heap.objs.size] [s.heap.objs.size] _ _ s.toks (hx.tr hp) (LCg.range_walks hA.hh a N) ?_ ?_ ?_
  · show (s.heap.push _).get? _ = _
    rw [Heap.get?_push_size _ rfl, hsz]
    show some _ = some _
    simp [rawInt]
  · intro b hb
    rw [List.mem_singleton.mp hb]
    exact ⟨⟨_, Heap.get?_push_size _ rfl⟩, .inl ⟨List.mem_singleton.mpr rfl, New.ext hx (new_size _)⟩⟩
  · intro i h st b hb
    rw [List.mem_singleton.mp hb]
    exact ⟨_, _, st, rfl⟩

theorem It.range1 {p pos : Pos} {e : Expr} {b : Int} {N : Nat} (hN : N = b.toNat) (o : Ok c h0) (hn : nsIn c.K mainGlobals "range" = some none) (ha : Ev c n env h0 Any e (.int b)) (h0' : -16777216 ≤ b) (h1 : b ≤ 16777216)
    (hk : env.scope.kind = .function := by rfl) (hg : env.globals = mainGlobals := by rfl) (hb : env.builtins = builtinsNs := by rfl) (hx : env.kindOf "range" = some .globalImplicit := by rfl)
    (he : starEach [e] env = (false, eval e env) :: starEach [] env := by rfl)
    (hcl : eval (.Call (.Name "range" p) [e] [] pos) env = (do callWith pos (← eval (.Name "range" p) env) [] (backTo pos (starEach [e] env)) (backToKw pos (keywordEach [] env))) := by rfl) :
    It c n env H h0 (.Call (.Name "range" p) [e] [] pos) N (fun i v => ∃ t, v = .int (i : Int) t) := fun A s Q E hA hx' q => by
  refine callB hA hx' o hn (by rfl) (.inr ⟨_, rfl⟩) (.cons ha .nil he) (fun vs h2 t2 e2 o2 r => ?_) (by decide) hk hg hb hx (by decide) he rfl hcl
  obtain ⟨v, e, r'⟩ := r.one
  subst e
  obtain ⟨t, rfl⟩ := r'.int_inv
  refine call_range_1 ?_
  refine iter_range (c := c) (s0 := s) (a := 0) (b := b) (N := N) (H := H) hA (by lia) (by decide) (by decide) h0' h1 (IsRange.new h2 0 b 1 _ _ _) (e2.tr fun b o e => Heap.get?_push_of_some _ e) fun I fp wr St h' tk e W st f1 f2 => ?_
  refine q I fp wr St h' tk e ?_ st f1 f2
  simpa using W
theorem It.rangeN {p pos : Pos} {e : Expr} {N : Nat} (hN : N ≤ 16777216) (o : Ok c h0) (hn : nsIn c.K mainGlobals "range" = some none) (ha : Ev c n env h0 Any e (.int N))
    (hk : env.scope.kind = .function := by rfl) (hg : env.globals = mainGlobals := by rfl) (hb : env.builtins = builtinsNs := by rfl) (hx : env.kindOf "range" = some .globalImplicit := by rfl)
    (he : starEach [e] env = (false, eval e env) :: starEach [] env := by rfl)
    (hcl : eval (.Call (.Name "range" p) [e] [] pos) env = (do callWith pos (← eval (.Name "range" p) env) [] (backTo pos (starEach [e] env)) (backToKw pos (keywordEach [] env))) := by rfl) :
    It c n env H h0 (.Call (.Name "range" p) [e] [] pos) N (fun i v => ∃ t, v = .int (i : Int) t) :=
  It.range1 (Int.toNat_natCast N).symm o hn ha (Int.le_trans (by decide) (Int.natCast_nonneg N)) (Int.ofNat_le.mpr hN) hk hg hb hx he hcl
theorem maxZ (a b : Nat) : max (a : Int) (b : Int) = ((max a b : Nat) : Int) := by omega
theorem maxL {α β : Type} (f : α → β) (xs ys : List α) : max ((xs.map f).length : Int) ((ys.map f).length : Int) = ((max xs.length ys.length : Nat) : Int) := by rw [List.length_map, List.length_map, maxZ]
theorem maxM {a b : Nat} (x : a ≤ 1000) (y : b ≤ 1000) : max a b ≤ 16777216 := Nat.max_le.mpr ⟨Nat.le_trans x (by decide), Nat.le_trans y (by decide)⟩
theorem It.range2 {p pos : Pos} {e e' : Expr} {a b : Int} {N : Nat} (hN : N = (b - a).toNat) (o : Ok c h0) (hn : nsIn c.K mainGlobals "range" = some none) (ha : Ev c n env h0 Any e (.int a)) (ha2 : Ev c n env h0 Any e' (.int b)) (h2 : -16777216 ≤ a) (h3 : a ≤ 16777216) (h0' : -16777216 ≤ b) (h1 : b ≤ 16777216)
    (hk : env.scope.kind = .function := by rfl) (hg : env.globals = mainGlobals := by rfl) (hb : env.builtins = builtinsNs := by rfl) (hx : env.kindOf "range" = some .globalImplicit := by rfl)
    (he : starEach [e, e'] env = (false, eval e env) :: starEach [e'] env := by rfl) (he' : starEach [e'] env = (false, eval e' env) :: starEach [] env := by rfl)
    (hpl : (backTo pos (starEach [e'] env)).any (·.1) = false := by rfl)
    (hcl : eval (.Call (.Name "range" p) [e, e'] [] pos) env = (do callWith pos (← eval (.Name "range" p) env) [] (backTo pos (starEach [e, e'] env)) (backToKw pos (keywordEach [] env))) := by rfl) :
    It c n env H h0 (.Call (.Name "range" p) [e, e'] [] pos) N (fun i v => ∃ t, v = .int (a + (i : Int)) t) := fun A s Q E hA hx' q => by
  refine callB hA hx' o hn (by rfl) (.inr ⟨_, rfl⟩) (.cons ha (.cons ha2 .nil he') he) (fun vs h2' t2 e2 o2 r => ?_) (by decide) hk hg hb hx (by decide) he hpl hcl
  obtain ⟨v, u, e, r1, r2⟩ := r.two
  subst e
  obtain ⟨t, rfl⟩ := r1.int_inv
  obtain ⟨t', rfl⟩ := r2.int_inv
  refine call_range_2 ?_
  exact iter_range (c := c) (s0 := s) (a := a) (b := b) (N := N) (H := H) hA hN h2 h3 h0' h1 (IsRange.new h2' a b 1 _ _ _) (e2.tr fun b o e => Heap.get?_push_of_some _ e) fun I fp wr St h' tk e W st f1 f2 => q I fp wr St h' tk e W st f1 f2

/-- a list of the caller's -/
theorem It.list {e : Expr} {a : Addr} {items : Array Value} (ha : ∀ (A : Around) (s : Shared) (Q : Value → Shared → Prop) (E : Value → Shared → Prop), Rm n A → Ext h0 s.heap → Q (.ref a) s → wpAny (model c.prog c.w) A (eval e env) Q E s) (hl : H.IsList a items) (hH : Ext H h0) :
    It c n env H h0 e items.size (fun i v => items[i]? = some v) := fun A s Q E hA hx' q => by
  refine ha A s _ _ hA hx' ?_
  have hl1 := isList_ext hl (hH.tr hx')
  have hne : a ≠ s.heap.objs.size := by obtain ⟨o, ho, _⟩ := hl1; exact Nat.ne_of_lt (Heap.lt_size ho)
  have hp : Ext s.heap (s.heap.push { cls := .type "list_iterator", data := .fields #[.ref a, .int 0 0] }) := fun b o e => Heap.get?_push_of_some _ e
  refine wpAny_pyIter_list hl1 (q _ [_, a] [_] _ _ s.toks hp (Walks.list hA.hh _ a hne items) ⟨⟨_, Heap.get?_push_size _ rfl, rfl, rfl⟩, isList_ext hl1 hp⟩ ?_ ?_)
  · intro b hb
    rcases List.mem_cons.mp hb with rfl | hb
    · exact ⟨⟨_, Heap.get?_push_size _ rfl⟩, .inl ⟨List.mem_singleton.mpr rfl, new_size _⟩⟩
    · rw [List.mem_singleton.mp hb]
      obtain ⟨o, ho, _⟩ := hl1
      exact ⟨⟨o, hp _ _ ho⟩, .inr ⟨items, hl⟩⟩
  · intro i h st b hb
    rw [List.mem_singleton.mp hb]
    obtain ⟨o, ho, _, hd⟩ := st.1
    exact ⟨o, _, ho, hd⟩
/-- reversed of a list of the caller's -/
theorem It.rev {p pos : Pos} {e : Expr} {a : Addr} {items : Array Value} (o : Ok c h0) (hn : nsIn c.K mainGlobals "reversed" = some none)
    (ha : ∀ (A : Around) (s : Shared) (Q : Value → Shared → Prop) (E : Value → Shared → Prop), Rm n A → Ext h0 s.heap → Q (.ref a) s → wpAny (model c.prog c.w) A (eval e env) Q E s) (hl : H.IsList a items) (hH : Ext H h0)
    (hk : env.scope.kind = .function := by rfl) (hg : env.globals = mainGlobals := by rfl) (hb : env.builtins = builtinsNs := by rfl) (hx : env.kindOf "reversed" = some .globalImplicit := by rfl)
    (he : starEach [e] env = (false, eval e env) :: starEach [] env := by rfl)
    (hcl : eval (.Call (.Name "reversed" p) [e] [] pos) env = (do callWith pos (← eval (.Name "reversed" p) env) [] (backTo pos (starEach [e] env)) (backToKw pos (keywordEach [] env))) := by rfl) :
    It c n env H h0 (.Call (.Name "reversed" p) [e] [] pos) items.size (fun i v => items[items.size - 1 - i]? = some v) := fun A s Q E hA hx' q => by
  refine Call_ (name_boot (o.ext hx') hn (by rfl) (by decide) ?_ hk hg hb hx (by decide)) hcl
  refine PyProof.Rows.callWith_type1 (args_cons (ha A s _ _ hA hx' (args_nil ?_)) he) he rfl
  have hl1 := isList_ext hl (hH.tr hx')
  have hne : a ≠ s.heap.objs.size := by obtain ⟨o, ho, _⟩ := hl1; exact Nat.ne_of_lt (Heap.lt_size ho)
  have hp : Ext s.heap (s.heap.push (revObj a ((items.size : Int) - 1))) := fun b o e => Heap.get?_push_of_some _ e
  have hi : (s.heap.push (revObj a ((items.size : Int) - 1))).IsRevIter s.heap.objs.size a ((items.size : Int) - 1 - ((0 : Nat) : Int)) := ⟨_, Heap.get?_push_size _ rfl, rfl, by simp [revObj]⟩
  refine call_reversed_list hl1 (wpAny_pyIter_revIter (it := s.heap.objs.size) (l := a) hi (q _ [_, a] [_] _ _ s.toks hp (Walks.listRev hA.hh _ a hne items) ⟨Nat.zero_le _, hi, isList_ext hl1 hp⟩ ?_ ?_))
  · intro b hb
    rcases List.mem_cons.mp hb with rfl | hb
    · exact ⟨⟨_, Heap.get?_push_size _ rfl⟩, .inl ⟨List.mem_singleton.mpr rfl, new_size _⟩⟩
    · rw [List.mem_singleton.mp hb]
      obtain ⟨o, ho, _⟩ := hl1
      exact ⟨⟨o, hp _ _ ho⟩, .inr ⟨items, hl⟩⟩
  · intro i h st b hb
    rw [List.mem_singleton.mp hb]
    obtain ⟨o, ho, _, hd⟩ := st.2.1
    exact ⟨o, _, ho, hd⟩
end

section
variable {c : Cx} {n : Nat} {env : Env} {A : Around} {s : Shared} {H : Heap} {m : Str → Option Value} {E : Value → Shared → Prop} {Q : Flow → Shared → Prop} {rest : List Stmt}

/-- a for with one name: what holds between the turns -/
theorem for_ {x : Str} {px pos : Pos} {iter : Expr} {body : List Stmt} {N : Nat} {P : Nat → Value → Prop} (hA : Rm n A) (F : Fr H env.locals s.heap m) (W : List Addr) (hW : ∀ b ∈ W, H.get? b = none ∧ ∃ o, s.heap.get? b = some o)
    (it : It c n env H s.heap iter N P) (J : Nat → Heap → (Str → Option Value) → Prop) (hJ : ∀ i m, Stab fun h => J i h m) (h0 : J 0 s.heap m)
    (step : ∀ (i : Nat) (v : Value) (h : Heap) (m : Str → Option Value) (tk : Nat), i < N → P i v → Fr H env.locals h (put m x v) → J i h m →
      wpAny (model c.prog c.w) A (execs body env) (fun f s3 => f = .next ∧ ∃ h' m' tk', s3 = (up s h' tk') ∧ Fr H env.locals h' m' ∧ (∀ b o, b ≠ env.locals → b ∉ W → h.get? b = some o → h'.get? b = some o) ∧ J (i + 1) h' m') (fun _ _ => False) (up s h tk))
    (q : ∀ h m tk, Fr H env.locals h m → J N h m → (∀ b o, b ≠ env.locals → b ∉ W → s.heap.get? b = some o → h.get? b = some o) → wpAny (model c.prog c.w) A (execs rest env) Q E (up s h tk))
    (hx : env.kindOf x = some .local := by rfl) (hk : env.scope.kind = .function := by rfl) (hs : ∀ x, foldedSetIterable iter env x = pure x := by intro _; rfl) :
    wpAny (model c.prog c.w) A (execs (.For (.Name x px) iter body [] pos :: rest) env) Q E s := by
  have hL : ∃ o, s.heap.get? env.locals = some o := by obtain ⟨o, _, _, ho, _⟩ := F.ns; exact ⟨o, ho⟩
  refine wpAny_execs_cons (wpAny_For (it A s _ _ hA Ext.rfl' fun I fp wr St h1 t1 e1 Wk hst hfp hwr => ?_) hs)
  have hLH : H.get? env.locals = none := by
    cases q : H.get? env.locals with
    | none => rfl
    | some o => exact absurd (Heap.lt_size q) (Nat.not_lt.mpr F.above)
  have out : ∀ b ∈ fp, b ≠ env.locals ∧ b ∉ W := fun b hb => by
    rcases (hfp b hb).2 with ⟨_, hn⟩ | ⟨items, o, ho, _⟩
    · refine ⟨fun q => ?_, fun q => ?_⟩
      · obtain ⟨o, ho⟩ := hL
        rw [q, ho] at hn; cases hn
      · obtain ⟨o, ho⟩ := (hW b q).2
        rw [ho] at hn; cases hn
    · refine ⟨fun q => ?_, fun q => ?_⟩
      · rw [q, hLH] at ho; cases ho
      · rw [(hW b q).1] at ho; cases ho
  have wrH : ∀ b ∈ wr, H.get? b = none := fun b hb => by
    rcases (hfp b (Wk.sub b hb)).2 with ⟨_, hn⟩ | ⟨items, o, ho, _, k, hd⟩
    · exact New.ext F.keep hn
    · obtain ⟨o', vs, ho', hd'⟩ := hwr 0 h1 hst b hb
      have := e1 _ _ (F.keep _ _ ho)
      rw [ho'] at this; cases this
      rw [hd'] at hd; cases hd
  have noseq : ∀ i h, St i h → NoSeq h (· ∈ wr) := fun i h st b hb o ho xs k hd => by
    obtain ⟨o', vs, ho', hd'⟩ := hwr i h st b hb
    rw [ho] at ho'; cases ho'
    rw [hd] at hd'; cases hd'
  have wrS : ∀ b ∈ wr, s.heap.get? b = none := fun b hb => by
    rcases (hfp b (Wk.sub b hb)).2 with ⟨_, hn⟩ | ⟨items, o, ho, _, k, hd⟩
    · exact hn
    · obtain ⟨o', vs, ho', hd'⟩ := hwr 0 h1 hst b hb
      have := e1 _ _ (F.keep _ _ ho)
      rw [ho'] at this; cases this
      rw [hd'] at hd; cases hd
  refine codeAny_forLoop (fun k s' => ∃ h m tk i, s' = (up s h tk) ∧ St i h ∧ Fr H env.locals h m ∧ J i h m ∧ i ≤ N ∧ k = N + 1 - i ∧ ∀ b o, b ≠ env.locals → b ∉ W → s.heap.get? b = some o → h.get? b = some o) ?_ (N + 1)
    ⟨h1, m, t1, 0, rfl, hst, frExt F e1, hJ 0 m _ _ (fun _ => False) (fun _ x => x.elim) (fun b o _ e => e1 b o e) h0, Nat.zero_le _, rfl, fun b o _ _ e => e1 b o e⟩
  rintro k s' ⟨h, m', tk, i, rfl, st, F', hj, hi, rfl, kp⟩
  have keepF : ∀ h2, (∀ b o, b ∉ wr → h.get? b = some o → h2.get? b = some o) → Fr H env.locals h2 m' := fun h2 k2 =>
    ⟨F'.ns.at fun o x => k2 _ o (fun q => (out _ (Wk.sub _ q)).1 rfl) x, fun b o x => k2 b o (fun q => by rw [wrH b q] at x; cases x) (F'.keep b o x), F'.above⟩
  by_cases hlt : i < N
  · refine Wk.item i _ _ _ hlt st fun v h2 t2 hP st2 k2 => ?_
    have F2 := keepF h2 k2
    refine wpAny_assign_Name (set_ F2 hx hk fun h3 t3 F3 e3 => ?_)
    have j2 : J i h2 m' := hJ i m' h h2 (· ∈ wr) (noseq i h st) (fun b o nb e => k2 b o nb e) hj
    have ns3 : NoSeq h2 (· = env.locals) := fun b hb o ho xs k hd => by
      subst hb
      obtain ⟨o', es, ep, ho', hd', _⟩ := F2.ns
      rw [ho] at ho'; cases ho'
      rw [hd] at hd'; cases hd'
    have j3 : J i h3 m' := hJ i m' h2 h3 (· = env.locals) ns3 (fun b o nb e => e3 b o nb e) j2
    have st3 : St (i + 1) h3 := Wk.frame _ _ _ st2 fun b hb o e => e3 b o (out b hb).1 e
    refine wpAny_mono (step i v h3 m' t3 hlt hP F3 j3) (fun f s3 hq => ?_) fun _ _ x => x.elim
    obtain ⟨rfl, h4, m4, t4, rfl, F4, k4, j4⟩ := hq
    exact ⟨N + 1 - (i + 1), Nat.sub_lt_sub_left (Nat.lt_succ_of_lt hlt) (Nat.lt_succ_self i), h4, m4, t4, i + 1, rfl, Wk.frame _ _ _ st3 fun b hb o e => k4 b o (out b hb).1 (out b hb).2 e, F4, j4, hlt, rfl, fun b o n1 n2 e => k4 b o n1 n2 (e3 b o n1 (k2 b o (fun q => by rw [wrS b q] at e; cases e) (kp b o n1 n2 e)))⟩
  · have hin : i = N := Nat.le_antisymm hi (Nat.not_lt.mp hlt)
    subst hin
    refine Wk.done _ _ _ st fun h2 t2 k2 => wpAny_execs_nil ?_
    exact q h2 m' t2 (keepF h2 k2) (hJ i m' h h2 (· ∈ wr) (noseq i h st) (fun b o nb e => k2 b o nb e) hj) fun b o n1 n2 e => k2 b o (fun q => by rw [wrS b q] at e; cases e) (kp b o n1 n2 e)

/-- for x, y in enumerate(l), l a list of the caller's -/
theorem forEnum {x y : Str} {px py pt pos p pos' : Pos} {x1 : Nat} {e : Expr} {body : List Stmt} {a : Addr} {items : Array Value} (hA : Rm n A) (F : Fr H env.locals s.heap m) (W : List Addr) (hW : ∀ b ∈ W, H.get? b = none ∧ ∃ o, s.heap.get? b = some o)
    (o : Ok c s.heap) (hn : nsIn c.K mainGlobals "enumerate" = some none)
    (ha : ∀ (A : Around) (s' : Shared) (Q : Value → Shared → Prop) (E : Value → Shared → Prop), Rm n A → Ext s.heap s'.heap → Q (.ref a) s' → wpAny (model c.prog c.w) A (eval e env) Q E s') (hl : H.IsList a items)
    (J : Nat → Heap → (Str → Option Value) → Prop) (hJ : ∀ i m, Stab fun h => J i h m) (h0 : J 0 s.heap m)
    (step : ∀ (i : Nat) (v : Value) (t : Tok) (h : Heap) (m : Str → Option Value) (tk : Nat), items[i]? = some v → Fr H env.locals h (put (put m x (.int i t)) y v) → J i h m →
      wpAny (model c.prog c.w) A (execs body env) (fun f s3 => f = .next ∧ ∃ h' m' tk', s3 = (up s h' tk') ∧ Fr H env.locals h' m' ∧ (∀ b o, b ≠ env.locals → b ∉ W → h.get? b = some o → h'.get? b = some o) ∧ J (i + 1) h' m') (fun _ _ => False) (up s h tk))
    (q : ∀ h m tk, Fr H env.locals h m → J items.size h m → (∀ b o, b ≠ env.locals → b ∉ W → s.heap.get? b = some o → h.get? b = some o) → wpAny (model c.prog c.w) A (execs rest env) Q E (up s h tk))
    (hx : env.kindOf x = some .local := by rfl) (hy : env.kindOf y = some .local := by rfl)
    (hk : env.scope.kind = .function := by rfl) (hg : env.globals = mainGlobals := by rfl) (hb : env.builtins = builtinsNs := by rfl) (hxe : env.kindOf "enumerate" = some .globalImplicit := by rfl)
    (he : starEach [e] env = (false, eval e env) :: starEach [] env := by rfl)
    (hcl : eval (.Call (.Name "enumerate" p) [e] [] pos') env = (do callWith pos' (← eval (.Name "enumerate" p) env) [] (backTo pos' (starEach [e] env)) (backToKw pos' (keywordEach [] env))) := by rfl)
    (hs : ∀ x, foldedSetIterable (.Call (.Name "enumerate" p) [e] [] pos') env x = pure x := by intro _; rfl) :
    wpAny (model c.prog c.w) A (execs (.For (.Tuple [.Name x px, .Name y py] x1 pt) (.Call (.Name "enumerate" p) [e] [] pos') body [] pos :: rest) env) Q E s := by
  refine wpAny_execs_cons (wpAny_For ?_ hs)
  refine Call_ (name_boot o hn (by rfl) (by decide) ?_ hk hg hb hxe (by decide)) hcl
  refine PyProof.Rows.callWith_type1 (args_cons (ha A s _ _ hA Ext.rfl' (args_nil ?_)) he) he rfl
  have hl1 := isList_ext hl F.keep
  obtain ⟨oL, _, _, hoL, _⟩ := id F.ns
  obtain ⟨ol, hol, _⟩ := id hl1
  have hLs : env.locals < s.heap.objs.size := Heap.lt_size hoL
  have hls : a < s.heap.objs.size := Heap.lt_size hol
  have hlL : a ≠ env.locals := ne_locals F.ns hl1
  have hlW : a ∉ W := fun q => by obtain ⟨o', ho', _⟩ := hl; rw [(hW a q).1] at ho'; cases ho'
  refine call_enumerate_list hl1 fun h1 he1 hit1 hz1 e1 => wpAny_pyIter_enum he1 ?_
  generalize hen : s.heap.objs.size + 1 = en at he1 ⊢
  generalize hin : s.heap.objs.size = it at he1 hit1 ⊢
  have hei : en ≠ it := fun q => Nat.succ_ne_self _ (hen.trans (q.trans hin.symm))
  have out : ∀ b, (b = en ∨ b = it) → b ≠ env.locals ∧ b ∉ W ∧ H.get? b = none ∧ b ≠ a := fun b hb => by
    have hbs : s.heap.objs.size ≤ b := by
      rcases hb with q | q
      · rw [q, ← hen]; exact Nat.le_succ _
      · rw [q, ← hin]; exact Nat.le_refl _
    refine ⟨fun q => Nat.lt_irrefl _ (Nat.lt_of_le_of_lt hbs (q ▸ hLs)), fun q => ?_, ?_, fun q => Nat.lt_irrefl _ (Nat.lt_of_le_of_lt hbs (q ▸ hls))⟩
    · obtain ⟨o', ho'⟩ := (hW b q).2
      exact absurd (Heap.lt_size ho') (Nat.not_lt.mpr hbs)
    · cases q : H.get? b with
      | none => rfl
      | some o' => exact absurd (Heap.lt_size (F.keep _ _ q)) (Nat.not_lt.mpr hbs)
  refine codeAny_forLoop_any (fun k s' => ∃ h m tk i old, s' = (up s h tk) ∧ IsEnum h en it ((i : Nat) : Int) old ∧ h.IsListIter it a i ∧ Fr H env.locals h m ∧ J i h m ∧ i ≤ items.size ∧ k = items.size + 1 - i ∧ ∀ b o, b ≠ env.locals → b ∉ W → s.heap.get? b = some o → h.get? b = some o) ?_ (items.size + 1)
    ⟨h1, m, s.toks, 0, .none, rfl, he1, hit1, frExt F e1, hJ 0 m _ _ (fun _ => False) (fun _ x => x.elim) (fun b o _ e => e1 b o e) h0, Nat.zero_le _, rfl, fun b o _ _ e => e1 b o e⟩
  have sNe : ∀ b o, s.heap.get? b = some o → b ≠ en ∧ b ≠ it := fun b o e => by
    have := Heap.lt_size e
    exact ⟨fun q => absurd (q ▸ this : en < s.heap.objs.size) (by rw [← hen]; exact Nat.not_lt.mpr (Nat.le_succ _)), fun q => absurd (q ▸ this : it < s.heap.objs.size) (by rw [← hin]; exact Nat.lt_irrefl _)⟩
  rintro k s' ⟨h, m', tk, i, old, rfl, he', hit', F', hj, hi, rfl, kp⟩
  have hl' := isList_ext hl F'.keep
  have noseq : NoSeq h (fun b => b = en ∨ b = it) := fun b hb o ho xs k hd => by
    rcases hb with rfl | rfl
    · have : h.get? b = some _ := he'
      rw [ho] at this; cases this; cases hd
    · obtain ⟨o', ho', _, hd'⟩ := hit'
      rw [ho] at ho'; cases ho'
      rw [hd] at hd'; cases hd'
  have keepF : ∀ h2, (∀ b o, b ≠ en → b ≠ it → h.get? b = some o → h2.get? b = some o) → Fr H env.locals h2 m' := fun h2 k2 =>
    ⟨F'.ns.at fun o x => k2 _ o (fun q => (out _ (.inl rfl)).1 q.symm) (fun q => (out _ (.inr rfl)).1 q.symm) x, fun b o x => k2 b o (fun q => by rw [q, (out _ (.inl rfl)).2.2.1] at x; cases x) (fun q => by rw [q, (out _ (.inr rfl)).2.2.1] at x; cases x) (F'.keep b o x), F'.above⟩
  cases hv : items[i]? with
  | none =>
    have hsz : i = items.size := Nat.le_antisymm hi (by simpa using hv)
    refine wpAny_pyNext_enum_end hA.hh he' hit' hl' hv fun h2 e2 => wpAny_execs_nil ?_
    subst hsz
    exact q h2 m' tk (keepF h2 fun b o _ nb e => e2 b o nb e) (hJ _ m' h h2 (fun b => b = en ∨ b = it) noseq (fun b o nb e => e2 b o (fun q => nb (.inr q)) e) hj) fun b o n1 n2 e => e2 b o (sNe b o e).2 (kp b o n1 n2 e)
  | some v =>
    have hlt : i < items.size := (Array.getElem?_eq_some_iff.mp hv).1
    refine wpAny_pyNext_enum_item he' hit' hl' hv hei fun h2 heo hit2 ht2 hz2 k2 => ?_
    have hes : en < h.objs.size := Heap.lt_size he'
    refine wpAny_letOwnedTupleGo_enum heo fun h3 he3 hs3 => ?_
    replace hs3 : Heap.SameBut en h2 h3 := hs3
    have ht3 : h3.IsTuple h.objs.size #[.int i tk, v] := ⟨_, (hs3.2 _ (Nat.ne_of_gt hes)).trans ht2, rfl, _, rfl⟩
    have k3 : ∀ b o, b ≠ en → b ≠ it → h.get? b = some o → h3.get? b = some o := fun b o n1 n2 e => hs3.extBut b o n1 (k2 b o n1 n2 e)
    refine wpAny_assign_Tuple hA.hh ht3 rfl rfl fun h4 hx4 => ?_
    have e4 : Ext h3 h4 := fun b o e => hx4 b o (Nat.ne_of_lt (Heap.lt_size e)) e
    have F4 := frExt (keepF h3 k3) e4
    have j4 : J i h4 m' := hJ i m' h3 h4 (fun _ => False) (fun _ x => x.elim) (fun b o _ e => e4 b o e) (hJ i m' h h3 (fun b => b = en ∨ b = it) noseq (fun b o nb e => k3 b o (fun q => nb (.inl q)) (fun q => nb (.inr q)) e) hj)
    have nsL : ∀ (h : Heap) (m : Str → Option Value), Fr H env.locals h m → NoSeq h (· = env.locals) := fun h m F b hb o ho xs k hd => by
      subst hb
      obtain ⟨o', es, ep, ho', hd', _⟩ := F.ns
      rw [ho] at ho'; cases ho'
      rw [hd] at hd'; cases hd'
    show wpAny _ A (do holding [v] (assign (.Name x px) env (.int i tk)); do holding [] (assign (.Name y py) env v); pure ()) _ _ _
    refine wpAny_bind (wpAny_holding (wpAny_assign_Name (set_ F4 hx hk fun h5 t5 F5 e5 => ?_)))
    refine wpAny_bind (wpAny_holding (wpAny_assign_Name (set_ F5 hy hk fun h6 t6 F6 e6 => wpAny_pure ?_)))
    have j6 : J i h6 m' := hJ i m' h5 h6 (· = env.locals) (nsL _ _ F5) (fun b o nb e => e6 b o nb e) (hJ i m' h4 h5 (· = env.locals) (nsL _ _ F4) (fun b o nb e => e5 b o nb e) j4)
    refine wpAny_mono (step i v tk h6 m' t6 hv F6 j6) (fun f s3 hq => ?_) fun _ _ x => x.elim
    obtain ⟨rfl, h7, m7, t7, rfl, F7, k7, j7⟩ := hq
    have up : ∀ b o, (b = en ∨ b = it) → h3.get? b = some o → h7.get? b = some o := fun b o hb e => k7 b o (out b hb).1 (out b hb).2.1 (e6 b o (out b hb).1 (e5 b o (out b hb).1 (e4 b o e)))
    refine ⟨items.size + 1 - (i + 1), Nat.sub_lt_sub_left (Nat.lt_succ_of_lt hlt) (Nat.lt_succ_self i), h7, m7, t7, i + 1, v, rfl, ?_, ?_, F7, j7, hlt, rfl, fun b o n1 n2 e => k7 b o n1 n2 (e6 b o n1 (e5 b o n1 (e4 b o (k3 b o (sNe b o e).1 (sNe b o e).2 (kp b o n1 n2 e)))))⟩
    · have : ((i + 1 : Nat) : Int) = (i : Int) + 1 := rfl
      rw [this]; exact up en _ (.inl rfl) he3
    · have := hit2.extBut hs3.extBut (Ne.symm hei)
      obtain ⟨o', ho', r⟩ := this
      exact ⟨o', up it _ (.inr rfl) ho', r⟩
end
end Mine

namespace Mine


/-- a list comprehension whose element may write at places M, and keeps G -/
theorem compG {c : Cx} {n : Nat} {env : Env} {H : Heap} {elt iter : Expr} {x : Str} {px pos : Pos} {scope : Scope} {cl : List (Str × Addr)} {N : Nat} {P : Nat → Value → Prop} {A : Around} {s : Shared} {Q : Value → Shared → Prop} {E : Value → Shared → Prop} (hA : Rm n A) (hH : Ext H s.heap) (it : It c n env H s.heap iter N P) (hN : N ≤ 16777216)
    (hclos : closureFor scope env = pure cl) (M : Addr → Prop) (G : Nat → Heap → Prop) (hMH : ∀ b, M b → H.get? b = none) (hMs : ∀ b, M b → ∃ o, s.heap.get? b = some o) (hGs : ∀ i, Stab (G i))
    (hGD : ∀ i D h h' its, s.heap.get? D = none → h.IsList D its → Heap.ExtBut D h h' → G i h → G i h') (hGT : ∀ i h h' vs ds, G i h → MvP M h h' → Rps Off h vs ds → Rps Off h' vs ds) (hG0 : G 0 s.heap) (f : Nat → PyData)
    (step : ∀ i v C h m, i < N → P i v → MvP M s.heap h → h.Ns C m → m x = some v → G i h → ∀ (Q' : Value → Shared → Prop) (E' : Value → Shared → Prop) tk, (∀ y h' tk', MvP M h h' → G (i + 1) h' → Rp Off h' y (f i) → Q' y (up s h' tk')) → wpAny (model c.prog c.w) A (eval elt (compEnvC scope cl C env)) Q' E' (up s h tk))
    (q : ∀ a vs h' tk, MvP M s.heap h' → s.heap.get? a = none → h'.PlainList a vs.toArray → G N h' → Rps Off h' vs ((List.range N).map f) → Q (.ref a) (up s h' tk))
    (hcell : ∀ y ∈ scope.names, y.2 ≠ .cell) (hkind : scope.kind = .function) (hnames : ∀ y ∈ scope.names, y.2 = .local → scope.names.lookup y.1 = some .local) (hx : scope.names.lookup x = some .local)
    (hs : ∀ x, foldedSetIterable iter env x = Pure.pure x) :
    wpAny (model c.prog c.w) A (eval (.ListComp elt [⟨.Name x px, iter, [], 0⟩] scope pos) env) Q E s := by
  rw [eval_ListComp]
  refine wpAny_comprehension_free (use := none) rfl hs hclos hkind hnames (it A s _ _ hA Ext.rfl' fun I fp wr St h1 t1 e1 Wk hst hfp hwr => ?_)
  refine wpAny_newObj_type (wpAny_newFunctionEnv hcell (by intro y hy; simp at hy) (fun h3 hns3 hsb3 => ?_) hkind)
  dsimp only at hns3 hsb3 ⊢
  generalize hH2 : h1.push { cls := .type "list", dict := none, data := .seq ([] : List Value).toArray } = h2 at hns3 hsb3 ⊢
  have hsz2 : h2.objs.size = h1.objs.size + 1 := by rw [← hH2, Heap.size_push]
  have e2 : Ext h1 h2 := hH2 ▸ fun b o e => Heap.get?_push_of_some _ e
  have hD2 : h2.PlainList h1.objs.size #[] := hH2 ▸ ⟨0, Heap.get?_push_size _ rfl⟩
  generalize hDd : h1.objs.size = D at hD2 hsz2 ⊢
  generalize hCd : h2.objs.size = C at hns3 hsb3 hsz2 ⊢
  have hDC : D ≠ C := by rw [hsz2]; exact Nat.ne_of_lt (Nat.lt_succ_self _)
  have liveNe : ∀ b o, h1.get? b = some o → b ≠ D ∧ b ≠ C := fun b o e => by
    have := Heap.lt_size e
    rw [hDd] at this
    exact ⟨Nat.ne_of_lt this, by rw [hsz2]; exact Nat.ne_of_lt (Nat.lt_succ_of_lt this)⟩
  have e3 : Ext h2 h3 := fun b o e => by
    have hb := Heap.lt_size e
    rw [hCd] at hb
    exact hsb3.extBut b o (Nat.ne_of_lt hb) (Heap.get?_push_of_some _ e)
  have hD3 : h3.PlainList D #[] := hD2.at fun o e => e3 _ _ e
  have fpNe : ∀ b ∈ fp, b ≠ D ∧ b ≠ C := fun b hb => by obtain ⟨⟨o, ho⟩, _⟩ := hfp b hb; exact liveNe b o ho
  have st3 : St 0 h3 := Wk.frame _ _ _ hst fun b _ o e => e3 b o (e2 b o e)
  have newD : s.heap.get? D = none := New.ext e1 (by rw [← hDd]; exact new_size _)
  have newC : s.heap.get? C = none := New.ext (e1.tr e2) (by rw [← hCd]; exact new_size _)
  have wrNew : ∀ b ∈ wr, s.heap.get? b = none := fun b hb => by
    rcases (hfp b (Wk.sub b hb)).2 with ⟨_, hn⟩ | ⟨items, o, ho, _, k, hd⟩
    · exact hn
    · exfalso
      obtain ⟨o', vs, ho', hd'⟩ := hwr 0 h1 hst b hb
      have := e1 _ _ (hH _ _ ho)
      rw [ho'] at this; cases this
      rw [hd'] at hd; cases hd
  have eall : Ext s.heap h3 := (e1.tr e2).tr e3
  have noseq : ∀ i h, St i h → NoSeq h (· ∈ wr) := fun i h st b hb o ho xs k hd => by
    obtain ⟨o', vs, ho', hd'⟩ := hwr i h st b hb
    rw [ho] at ho'; cases ho'
    rw [hd] at hd'; cases hd'
  have nsC : ∀ (h : Heap) (m : Str → Option Value), h.Ns C m → NoSeq h (· = C) := fun h m hn b hb o ho xs k hd => by
    subst hb
    obtain ⟨o', es, ep, ho', hd', _⟩ := hn
    rw [ho] at ho'; cases ho'
    rw [hd] at hd'; cases hd'
  have oldNe : ∀ b o, s.heap.get? b = some o → b ≠ D ∧ b ≠ C ∧ b ∉ wr := fun b o e => ⟨(fun q => by rw [q, newD] at e; cases e), (fun q => by rw [q, newC] at e; cases e), (fun q => by rw [wrNew b q] at e; cases e)⟩
  have mD : ¬ M D := fun q => by obtain ⟨o, ho⟩ := hMs D q; rw [newD] at ho; cases ho
  have mC : ¬ M C := fun q => by obtain ⟨o, ho⟩ := hMs C q; rw [newC] at ho; cases ho
  have fpB : ∀ b ∈ fp, ¬ M b := fun b hb q => by
    rcases (hfp b hb).2 with ⟨_, hn⟩ | ⟨items, o, ho, _⟩
    · obtain ⟨o, ho⟩ := hMs b q; rw [hn] at ho; cases ho
    · rw [hMH b q] at ho; cases ho
  have loop : ∀ s3 : Shared, s3 = (up s h3 (t1 + ([] : List (Str × Value)).length)) →
      codeAny (model c.prog c.w) A (.compLoop (.ListComp elt [⟨.Name x px, iter, [], 0⟩] scope pos) 0 (.ref I) (.ref D) (compEnvC scope cl C env))
        (compPost (model c.prog c.w) A E none Q (.ref D) C) s3 := by
    rintro s3 rfl
    refine codeAny_compLoop_list (fun k s' => ∃ h m tk ys i, s' = (up s h tk) ∧ St i h ∧ h.PlainList D (List.toArray ys) ∧ h.Ns C m ∧ Rps Off h ys ((List.range i).map f) ∧ MvP M s.heap h ∧ G i h ∧ i ≤ N ∧ k = N + 1 - i) ?_ (N + 1)
      ⟨h3, _, _, [], 0, rfl, st3, hD3, hns3, .nil, (fun b o _ e => eall b o e), hGs 0 _ _ (fun _ => False) (fun _ x => x.elim) (fun b o _ e => eall b o e) hG0, Nat.zero_le _, rfl⟩
    rintro k s' ⟨h, m, tk, ys, i, rfl, st, hD, hn, hr, hk, bk, hi, rfl⟩
    by_cases hlt : i < N
    · refine Wk.item i _ _ _ hlt st fun v h4 t4 hP st4 k4 => ?_
      have hn4 : h4.Ns C m := hn.at fun o e => k4 _ o (fun q => (fpNe _ (Wk.sub _ q)).2 rfl) e
      have hD4 : h4.PlainList D (List.toArray ys) := hD.at fun o e => k4 _ o (fun q => (fpNe _ (Wk.sub _ q)).1 rfl) e
      have hr4 : Rps Off h4 ys _ := hr.wr (noseq i h st) fun b o nb e => k4 b o nb e
      have b4 : G i h4 := hGs i _ _ _ (noseq i h st) (fun b o nb e => k4 b o nb e) bk
      have hk4 : MvP M s.heap h4 := fun b o nb e => k4 b o (oldNe b o e).2.2 (hk b o nb e)
      refine wpAny_assign_Name (wpAny_storeName_local (env := compEnvC scope cl C env) (lookup_relabel_local hx) hn4 (fun h5 hn5 hs5 => ?_) (by simp [compEnvC, relabel, hkind]))
      replace hs5 : Heap.SameBut C h4 h5 := hs5
      have hD5 : h5.PlainList D (List.toArray ys) := hD4.extBut hs5.extBut hDC
      have hr5 : Rps Off h5 ys _ := hr4.wr (nsC h4 m hn4) fun b o nb e => hs5.extBut b o nb e
      have b5 : G i h5 := hGs i _ _ _ (nsC h4 m hn4) (fun b o nb e => hs5.extBut b o nb e) b4
      have hk5 : MvP M s.heap h5 := fun b o nb e => hs5.extBut b o (oldNe b o e).2.1 (hk4 b o nb e)
      have st5 : St (i + 1) h5 := Wk.frame _ _ _ st4 fun b hb o e => hs5.extBut b o (fpNe b hb).2 e
      refine step i v C h5 _ hlt hP hk5 hn5 (by simp) b5 _ _ _ fun y h6 t6 e6 b6 r6 => ?_
      have hD6 : h6.PlainList D (List.toArray ys) := hD5.at fun o e => e6 _ _ mD e
      have hys : ys.length ≤ 16777216 := by
        have := hr.length
        rw [List.length_map, List.length_range] at this
        rw [this]; exact Nat.le_trans (Nat.le_of_lt hlt) hN
      refine wpAny_list_append_plain (hsz := by rw [List.size_toArray, sizeLine_eq]; exact hys) hD6 fun h7 hD7 hs7 => ?_
      refine ⟨N + 1 - (i + 1), Nat.sub_lt_sub_left (Nat.lt_succ_of_lt hlt) (Nat.lt_succ_self i), h7, _, t6, ys ++ [y], i + 1, rfl, ?_, by simpa using hD7, ((hn5.at fun o e => e6 _ o mC e)).sameBut hs7 (Ne.symm hDC), ?_, fun b o nb e => hs7.extBut b o (oldNe b o e).1 (e6 b o nb (hk5 b o nb e)), hGD _ D _ _ _ newD hD6.isList hs7.extBut b6, hlt, rfl⟩
      · exact Wk.frame _ _ _ st5 fun b hb o e => hs7.extBut b o (fpNe b hb).1 (e6 b o (fpB b hb) e)
      · rw [List.range_succ, List.map_append]
        exact Rps.off (fun _ z => z.elim) hD6.isList hs7.extBut ((hGT i _ _ _ _ b5 e6 hr5).append (.cons r6 .nil))
    · have hin : i = N := Nat.le_antisymm hi (Nat.not_lt.mp hlt)
      subst hin
      refine Wk.done _ _ _ st fun h4 t4 k4 => ?_
      have hn4 : h4.Ns C m := hn.at fun o e => k4 _ o (fun q => (fpNe _ (Wk.sub _ q)).2 rfl) e
      have hD4 : h4.PlainList D (List.toArray ys) := hD.at fun o e => k4 _ o (fun q => (fpNe _ (Wk.sub _ q)).1 rfl) e
      have hr4 : Rps Off h4 ys _ := hr.wr (noseq i h st) fun b o nb e => k4 b o nb e
      have b4 : G i h4 := hGs i _ _ _ (noseq i h st) (fun b o nb e => k4 b o nb e) bk
      have hk4 : MvP M s.heap h4 := fun b o nb e => k4 b o (oldNe b o e).2.2 (hk b o nb e)
      refine ⟨m, hn4, fun h' hs' => ?_⟩
      have hr' : Rps Off h' ys _ := hr4.wr (nsC h4 m hn4) fun b o nb e => hs'.extBut b o nb e
      have b' : G i h' := hGs i _ _ _ (nsC h4 m hn4) (fun b o nb e => hs'.extBut b o nb e) b4
      exact q D ys h' t4 (fun b o nb e => hs'.extBut b o (oldNe b o e).2.1 (hk4 b o nb e)) newD (hD4.extBut hs'.extBut hDC) b' hr'
  exact codeAny_compStart_list (loop _ rfl) (Wk.self 0 _ _ _ st3 (loop _ rfl))

/-- a list comprehension whose element makes new objects alone and holds no list -/
theorem EvN.comp {c : Cx} {n : Nat} {env : Env} {H h0 : Heap} {S : Addr → Prop} {elt iter : Expr} {x : Str} {px pos : Pos} {scope : Scope} {cl : List (Str × Addr)} {N : Nat} {P : Nat → Value → Prop} (it : It c n env H h0 iter N P) (hH : Ext H h0) (hN : N ≤ 16777216)
    (hclos : closureFor scope env = pure cl) (f : Nat → PyData)
    (step : ∀ i v C h m, i < N → P i v → Ext h0 h → h.Ns C m → m x = some v → Ev c n (compEnvC scope cl C env) h Off elt (f i))
    (hcell : ∀ y ∈ scope.names, y.2 ≠ .cell := by decide) (hkind : scope.kind = .function := by rfl) (hnames : ∀ y ∈ scope.names, y.2 = .local → scope.names.lookup y.1 = some .local := by decide) (hx : scope.names.lookup x = some .local := by rfl)
    (hs : ∀ x, foldedSetIterable iter env x = pure x := by intro _; rfl) :
    EvN c n env h0 S (.ListComp elt [⟨.Name x px, iter, [], 0⟩] scope pos) ((List.range N).map f) := fun A s Q E hA hx0 q =>
  compG hA (hH.tr hx0) (fun A' s' Q' E' hA' e k => it A' s' Q' E' hA' (hx0.tr e) k) hN hclos (fun _ => False) (fun _ _ => True) (fun _ z => z.elim) (fun _ z => z.elim) (fun _ => .c _) (fun _ _ _ _ _ _ _ _ _ => trivial) (fun _ _ _ _ _ _ e r => r.mono fun b o x => e b o id x) trivial f
    (fun i v C h m hi hP hk hn hm _ Q' E' tk k => step i v C h m hi hP (hx0.tr fun b o e => hk b o id e) hn hm A _ Q' E' hA Ext.rfl' fun y h' tk' e r => k y h' tk' (fun b o _ x => e b o x) trivial r)
    (fun a vs h' tk e n1 p1 _ r => q a vs h' tk (fun b o x => e b o id x) n1 p1 (r.re fun _ _ z _ => z.elim)) hcell hkind hnames hx hs
end Mine
namespace Mine
/-- a def of the top with captured names is entered -/
theorem enterC {c : Cx} {n : Nat} {A : Around} {s : Shared} {Q : Value → Shared → Prop} {E : Value → Shared → Prop} {f : Addr} {vs : List Value} {binds : List (Str × Value)}
    {name qual : Str} {params : Arguments} {body : List Stmt} {scope : Scope} {dV kV doc pm cdv ct oc : Value} {an od : Option Addr} {osl : Array (Option Value)}
    (hA : Rm (n + 1) A) (o : Ok c s.heap) (ho : c.K.lookup f = some ⟨oc, od, .func (fnX name qual params body scope [] dV kV doc pm an cdv ct), osl⟩) (hcd : codeIn c.K cdv qual = true)
    (hbind : bindArgs (fnX name qual params body scope [] dV kV doc pm an cdv ct) ⟨vs, []⟩ = pure binds) (hkind : (binds.all fun y => scope.names.lookup y.1 == some .local || scope.names.lookup y.1 == some .cell) = true)
    (hco : scope.isCoroutine = false) (hgen : scope.isGenerator = false) (hk : scope.kind = .function)
    (h : ∀ L h₁ tk, Fr s.heap L h₁ (bindL (envX qual scope L f cdv (cellsFrom (L + 1) scope.names [])).kindOf binds fun _ => none) →
      (∀ x a, (cellsFrom (L + 1) scope.names []).lookup x = some a → h₁.IsCell a (bindC (envX qual scope L f cdv (cellsFrom (L + 1) scope.names [])).kindOf binds (fun _ => none) x)) →
      Rm n (A.deeper (envX qual scope L f cdv (cellsFrom (L + 1) scope.names []))) → wpAny (model c.prog c.w) (A.deeper (envX qual scope L f cdv (cellsFrom (L + 1) scope.names []))) (execs body (envX qual scope L f cdv (cellsFrom (L + 1) scope.names [])))
      (fun fl s' => Q (match fl with | .ret v => v | _ => .none) s') (fun _ _ => False) (up s h₁ tk)) :
    wpAny (model c.prog c.w) A (PySem.call (.ref f) vs) Q E s := by
  refine wpAny_call (codeAny_call_function (fd := fnX name qual params body scope [] dV kV doc pm an cdv ct) (body := body) (by have := hA.hd; show A.depth < 1000; lia) (o.K _ _ ho) rfl hco hgen rfl (codeRec_of o.K hcd) (BindsTo.of_eq hbind _ _ _ _ ?_))
  refine wpAny_newFunctionEnv_cells hk (kindsX hkind _) fun env' he s' x => ?_
  subst he
  refine ⟨o.T.nolimit.keeps x.toInCall.keep, codeAny_func ?_⟩
  obtain ⟨h₁, tk, rfl, _⟩ := x.done
  exact wpAny_mono (h _ h₁ tk ⟨x.toInCall.ns, x.toInCall.keep, Nat.le_refl _⟩ (fun y a hy => x.cell y a hy) (hA.deeper ⟨hgen, hco, rfl, rfl⟩)) (fun _ _ x => x) fun _ _ x => x.elim
end Mine

namespace Mine
section
variable {c : Cx} {n : Nat} {env : Env} {h0 : Heap} {S : Addr → Prop}

theorem locRef {m : Str → Option Value} {x : Str} {pos : Pos} {a : Addr} (hn : h0.Ns env.locals m) (hv : m x = some (.ref a))
    (hk : env.scope.kind = .function := by rfl) (hx : env.kindOf x = some .local := by rfl) (hd : (x == ("__debug__" : Str)) = false := by decide) :
    ∀ (A : Around) (s : Shared) (Q : Value → Shared → Prop) (E : Value → Shared → Prop), Rm n A → Ext h0 s.heap → Q (.ref a) s → wpAny (model c.prog c.w) A (eval (.Name x pos) env) Q E s :=
  fun _ _ _ _ _ e q => wpAny_Name (wpAny_loadName_local hk hx (hn.keeps e) hv q) hd

theorem item {α : Type} (f : α → PyData) (z : α) {h : Heap} {xs : List α} {vs : List Value} {i : Nat} {v : Value} (rs : Rps S h vs (xs.map f)) (hv : vs.toArray[i]? = some v) : i < xs.length ∧ Rp S h v (f (xs.getD i z)) := by
  have hv' : vs[i]? = some v := by simpa using hv
  obtain ⟨d, hd, r⟩ := rs.at' hv'
  rw [List.getElem?_map] at hd
  cases q : xs[i]? with
  | none => rw [q] at hd; cases hd
  | some y =>
    rw [q] at hd
    cases hd
    refine ⟨(List.getElem?_eq_some_iff.mp q).1, ?_⟩
    rw [List.getD_eq_getElem?_getD, q]
    exact r
theorem map_atG {α : Type} (f : α → PyData) (z : α) {xs : List α} {i : Nat} (h : i < xs.length) : (xs.map f)[i]? = some (f (xs.getD i z)) := by
  rw [List.getElem?_map, List.getElem?_eq_getElem h, List.getD_eq_getElem?_getD, List.getElem?_eq_getElem h]; rfl
theorem map_range {α β : Type} (g : α → β) (z : α) (xs : List α) : (List.range xs.length).map (fun i => g (xs.getD i z)) = xs.map g := by
  apply List.ext_getElem?
  intro i
  rw [List.getElem?_map, List.getElem?_map]
  by_cases h : i < xs.length
  · rw [List.getElem?_range h, List.getElem?_eq_getElem h]
    simp [List.getD_eq_getElem?_getD, List.getElem?_eq_getElem h]
  · rw [List.getElem?_eq_none (by simpa using Nat.le_of_not_lt h), List.getElem?_eq_none (Nat.le_of_not_lt h)]; rfl

/-- an item of a short list at a place that is a Nat -/
theorem Ev.listAtN {α : Type} (f : α → PyData) (z : α) {v j : Expr} {i : Nat} {pos : Pos} {xs : List α} (hv : Ev c n env h0 Any v (.list (xs.map f))) (hj : Ev c n env h0 Any j (.int (i : Int))) (hi : i < xs.length) (lx : xs.length ≤ 1000) (hf : Mine.flat (f (xs.getD i z)) = true := by rfl)
    (hs : ∀ a u, subscripted j false (.ref a) (.int (i : Int) u) = operate [.ref a, .int (i : Int) u] (getItem (.ref a) (.int (i : Int) u)) := by intro a u; with_unfolding_all rfl) :
    Ev c n env h0 S (.Subscript v j pos) (f (xs.getD i z)) := Ev.listAt hv hj (map_atG f z hi) (nnM i) (ixM (Nat.le_of_lt (Nat.lt_of_lt_of_le hi (Nat.le_trans lx (by decide))))) hf hs
theorem Ev.neg {x : Expr} {pos : Pos} {a : Int} (h : Ev c n env h0 Any x (.int a)) : Ev c n env h0 S (.UnaryOp .USub x pos) (.int (-a)) := fun A s Q E hA hx q =>
  wpAny_UnaryOp (h A s _ _ hA hx fun v h1 t1 e1 r1 => by
    obtain ⟨t, rfl⟩ := r1.int_inv
    exact neg_int (q _ h1 _ e1 (.int _ _)))
/-- the last item of a list -/
theorem Ev.last {v j : Expr} {pos : Pos} {ds : List PyData} {d : PyData} (hv : Ev c n env h0 Any v (.list ds)) (hj : Ev c n env h0 Any j (.int (-1))) (hd : ds[ds.length - 1]? = some d) (hf : Mine.flat d = true := by rfl)
    (hs : ∀ a u, subscripted j false (.ref a) (.int (-1) u) = operate [.ref a, .int (-1) u] (getItem (.ref a) (.int (-1) u)) := by intro a u; with_unfolding_all rfl) :
    Ev c n env h0 S (.Subscript v j pos) d := fun A s Q E hA hx q => by
  refine Subscript_ (hv A s _ _ hA hx fun x h1' t1 e1 r1 => hj A _ _ _ hA (hx.tr e1) fun u h2 t2 e2 r2 => ?_)
  obtain ⟨t, rfl⟩ := r2.int_inv
  obtain ⟨a, vs, rfl, _, hl, rs⟩ := (r1.mono e2).list_inv
  obtain ⟨y, hy, ry⟩ := rs.at hd
  have hlen := rs.length
  have hlt := (List.getElem?_eq_some_iff.mp hd).1
  exact tail_any hl.typeIs slot_list_getitem.lookup (wpAny_getItem_list_neg hl (by decide) (Int.neg_le_neg (by rw [List.size_toArray, hlen]; exact Int.ofNat_le.mpr (Nat.lt_of_le_of_lt (Nat.zero_le _) hlt))) (by decide) (by
    rw [show ((-1 : Int) + (vs.toArray.size : Int)).toNat = ds.length - 1 by rw [List.size_toArray, hlen, Int.add_comm]; exact Int.toNat_sub ds.length 1]
    simpa using hy) (q y h2 _ (e1.tr e2) (ry.flat hf))) (hs a t)
end
section
variable {c : Cx} {n : Nat} {env : Env} {S : Addr → Prop} {A : Around} {s : Shared} {H : Heap} {m : Str → Option Value} {E : Value → Shared → Prop} {Q : Flow → Shared → Prop} {rest : List Stmt}
/-- two names take two new lists -/
theorem asg2N {x y : Str} {k k' : Nat} {p p' tp pos pos' : Pos} {e e' : Expr} {ds ds' : List PyData} (hA : Rm n A) (F : Fr H env.locals s.heap m) (x1 : EvN c n env s.heap Off e ds) (x2 : EvN c n env s.heap Off e' ds')
    (q : ∀ a a' vs vs' h' tk, a ≠ a' → Fr H env.locals h' (put (put m y (.ref a')) x (.ref a)) → Heap.ExtBut env.locals s.heap h' → s.heap.get? a = none → s.heap.get? a' = none → h'.PlainList a vs.toArray → h'.PlainList a' vs'.toArray → Rps Off h' vs ds → Rps Off h' vs' ds' → wpAny (model c.prog c.w) A (execs rest env) Q E (up s h' tk))
    (hx : env.kindOf x = some .local := by rfl) (hy : env.kindOf y = some .local := by rfl) (hk : env.scope.kind = .function := by rfl)
    (hs : swapsWithSole [.Tuple [.Name x p, .Name y p'] k tp] (.Tuple [e, e'] k' pos') pos.line env = pure false := by rfl)
    (hw : swappedStores [.Tuple [.Name x p, .Name y p'] k tp] (.Tuple [e, e'] k' pos') env = pure (some [x, y]) := by rfl)
    (he : starEach [e, e'] env = (false, eval e env) :: starEach [e'] env := by rfl) (he' : starEach [e'] env = (false, eval e' env) :: starEach [] env := by rfl) :
    wpAny (model c.prog c.w) A (execs (.Assign [.Tuple [.Name x p, .Name y p'] k tp] (.Tuple [e, e'] k' pos') pos :: rest) env) Q E s := by
  refine wpAny_execs_cons (Assign_Tuple_swapped (names := [x, y]) (Tuple_ (args_cons (x1 A s _ _ hA Ext.rfl' fun a vs h1 t1 e1 n1 p1 r1 => args_cons (x2 A _ _ _ hA e1 fun a' vs' h2 t2 e2 n2 p2 r2 => args_nil ?_) he') he)) hs hw)
  refine wpAny_newObj_type ?_ (by show 2 ≤ sizeLine; rw [sizeLine_eq]; decide)
  have e3 : Ext h2 (h2.push { cls := .type "tuple", data := .seq [Value.ref a, Value.ref a'].toArray }) := fun b o e => Heap.get?_push_of_some _ e
  have ht : IsTup (h2.push { cls := .type "tuple", data := .seq [Value.ref a, Value.ref a'].toArray }) h2.objs.size [Value.ref a, Value.ref a'].toArray := ⟨_, Heap.get?_push_size _ rfl, rfl, _, rfl⟩
  refine unpackItems_tuple (items := [Value.ref a, Value.ref a'].toArray) hA.hh ht fun h4 e4' => ?_
  have e4 : Ext (h2.push { cls := .type "tuple", data := .seq [Value.ref a, Value.ref a'].toArray }) h4 := fun b o e => e4' b o (Nat.ne_of_lt (Heap.lt_size e)) e
  have e12 : Ext h1 h4 := (e2.tr e3).tr e4
  have F2 := frExt (frExt F e1) e12
  have haa : a ≠ a' := fun q => by
    obtain ⟨k, ho⟩ := p1
    rw [← q] at n2
    have n2' : h1.get? a = none := n2
    rw [ho] at n2'; cases n2'
  have p1' := (p1.at fun o e => e12 _ o e : h4.PlainList a vs.toArray)
  have p2' := (p2.at fun o e => (e3.tr e4) _ o e : h4.PlainList a' vs'.toArray)
  have hne1 := ne_locals F2.ns p1'.isList
  have hne2 := ne_locals F2.ns p2'.isList
  show wpAny (model c.prog c.w) A (do holding [.ref a] (bindName env y (.ref a')); (do holding [] (bindName env x (.ref a)); pure ())) _ _ _
  refine wpAny_bind (wpAny_holding (wpAny_bindName (set_ F2 hy hk fun h5 t5 F5 e5 => ?_)))
  refine wpAny_bind (wpAny_holding (wpAny_bindName (set_ F5 hx hk fun h6 t6 F6 e6 => wpAny_pure ?_)))
  exact q a a' vs vs' h6 t6 haa F6 (fun b o hb e => e6 b o hb (e5 b o hb (e12 b o (e1 b o e)))) n1 (New.ext e1 n2) ((p1'.extBut e5 hne1).extBut e6 hne1) ((p2'.extBut e5 hne2).extBut e6 hne2)
    (((r1.mono e12).but F2.ns e5).but F5.ns e6) (((r2.mono (e3.tr e4)).but F2.ns e5).but F5.ns e6)
/-- a call as a statement of its own -/
theorem expr_ {f : Expr} {args : List Expr} {cp pos : Pos} (hA : Rm n A) (x1 : Ev c n env s.heap Any (.Call f args [] cp) .none)
    (q : ∀ h' tk, Ext s.heap h' → wpAny (model c.prog c.w) A (execs rest env) Q E (up s h' tk))
    (hi : interactive env = false := by rfl) (hs : swapsWith (.Call f args [] cp) none pos.line env = pure false := by rfl) :
    wpAny (model c.prog c.w) A (execs (.Expr (.Call f args [] cp) pos :: rest) env) Q E s :=
  wpAny_execs_cons (wpAny_Expr (x1 A s _ _ hA Ext.rfl' fun v h' tk e r => by cases r; exact q h' tk e) hi hs)
end
end Mine

namespace Mine

def trimN (xs : List Rat) : Nat → Nat
  | 0 => 0
  | k + 1 => if xs.getD k 0 = 0 then trimN xs k else k + 1
def trim (xs : List Rat) : List Rat := xs.take (trimN xs xs.length)
abbrev pD (xs : List Rat) : PyData := .list (xs.map rD)
def addR (a b : List Rat) : List Rat := (List.range (max a.length b.length)).map fun i => a.getD i 0 + b.getD i 0
def qaddR (a b : List Rat) : List Rat := trim (addR a b)
def qnegR (a : List Rat) : List Rat := a.map (- ·)
def qsubR (a b : List Rat) : List Rat := qaddR a (qnegR b)
def qscaleR (p : List Rat) (r : Rat) : List Rat := if r = 0 then [] else p.map (· * r)
def qraiseR (p : List Rat) (k : Nat) : List Rat := if p = [] then [] else List.replicate k 0 ++ p
def upd (f : List Rat) (i : Nat) (q : Rat) : List Rat := f.set i (f.getD i 0 + q)
def mulRow (l : Rat) (b : List Rat) (r : Nat) (f : List Rat) : Nat → List Rat
  | 0 => f
  | k + 1 => upd (mulRow l b r f k) (r + k) (l * b.getD k 0)
def mulRows (a b : List Rat) : Nat → List Rat
  | 0 => List.replicate (a.length + b.length - 1) 0
  | k + 1 => mulRow (a.getD k 0) b k (mulRows a b k) b.length
def qmulR (a b : List Rat) : List Rat := if a.length = 0 ∨ b.length = 0 then [] else mulRows a b a.length
def compR (a b : List Rat) : Nat → List Rat
  | 0 => []
  | k + 1 => qaddR (qmulR (compR a b k) b) (trim [a.getD (a.length - 1 - k) 0])
def qcomposeR (a b : List Rat) : List Rat := compR a b a.length
def divStep (b rest : List Rat) : List Rat := qsubR (rest.take (rest.length - 1)) (qraiseR (qscaleR (b.take (b.length - 1)) (rest.getD (rest.length - 1) 0 / b.getD (b.length - 1) 0)) (rest.length - b.length))
def divR (b : List Rat) : Nat → List Rat → List Rat → List Rat × List Rat
  | 0, found, rest => (found, rest)
  | n + 1, found, rest => if rest.length < b.length then (found, rest) else divR b n (found.set (rest.length - b.length) (rest.getD (rest.length - 1) 0 / b.getD (b.length - 1) 0)) (divStep b rest)
def qdivmodR (a b : List Rat) : List Rat × List Rat := let r := divR b a.length (List.replicate (a.length + 1 - b.length) 0) a; (trim r.1, r.2)
def Hs (k : Nat) (xs : List Rat) : Prop := ∀ q ∈ xs, Hb k q

theorem flats_rD : ∀ xs : List Rat, flats (xs.map rD) = true
  | [] => rfl
  | x :: xs => by
    simp only [List.map_cons, flats, flats_rD xs, Bool.and_true]
    rfl
theorem Hb.zero {k : Nat} (h : 1 ≤ k) : Hb k 0 := by
  have := Nat.pow_le_pow_right (n := 2) (by decide) h
  exact ⟨by show 0 < 2 ^ k; lia, by show 1 < 2 ^ k; lia⟩
theorem Hs.at {k : Nat} {xs : List Rat} (h : Hs k xs) (hk : 1 ≤ k) (i : Nat) : Hb k (xs.getD i 0) := by
  by_cases hi : i < xs.length
  · rw [List.getD_eq_getElem?_getD, List.getElem?_eq_getElem hi]
    exact h _ (List.getElem_mem hi)
  · rw [List.getD_eq_getElem?_getD, List.getElem?_eq_none (by lia)]
    exact Hb.zero hk
theorem Hb.ofDiv {a b : Int} {k : Nat} (hb : b ≠ 0) (ha : a.natAbs < 2 ^ k) (hk : b.natAbs < 2 ^ k) : Hb k (Rat.divInt a b) := by
  obtain ⟨p1, p2, p3⟩ := rat_parts a b hb _ rfl
  have da : (if 0 < b then (Int.gcd a b : Int) else 0 - (Int.gcd a b : Int)) ∣ a := by
    split
    · exact Int.gcd_dvd_left ..
    · rw [Int.zero_sub]; exact (Int.neg_dvd).mpr (Int.gcd_dvd_left ..)
  have db : (if 0 < b then (Int.gcd a b : Int) else 0 - (Int.gcd a b : Int)) ∣ b := by
    split
    · exact Int.gcd_dvd_right ..
    · rw [Int.zero_sub]; exact (Int.neg_dvd).mpr (Int.gcd_dvd_right ..)
  rw [Int.fdiv_eq_ediv_of_dvd da] at p1
  rw [Int.fdiv_eq_ediv_of_dvd db] at p2
  constructor
  · rw [← p1]; exact Nat.lt_of_le_of_lt (Int.natAbs_ediv_le_natAbs ..) ha
  · have : ((Rat.divInt a b).den : Int).natAbs < 2 ^ k := by rw [← p2]; exact Nat.lt_of_le_of_lt (Int.natAbs_ediv_le_natAbs ..) hk
    simpa using this
theorem Hb.mul {i j : Nat} {a b : Rat} (ha : Hb i a) (hb : Hb j b) : Hb (i + j) (a * b) := by
  have da := a.den_pos
  have db := b.den_pos
  rw [Rat.mul_def', ← Rat.divInt_ofNat, Int.natCast_mul]
  refine .ofDiv (Int.ne_of_gt (Int.mul_pos (by lia) (by lia))) ?_ ?_
  · rw [Int.natAbs_mul, Nat.pow_add]; exact Nat.mul_lt_mul'' ha.1 hb.1
  · rw [Int.natAbs_mul, Nat.pow_add]; exact Nat.mul_lt_mul'' ha.d hb.d
theorem Hb.add {i j : Nat} {a b : Rat} (ha : Hb i a) (hb : Hb j b) : Hb (i + j + 1) (a + b) := by
  have da := a.den_pos
  have db := b.den_pos
  rw [Rat.add_def', ← Rat.divInt_ofNat, Int.natCast_mul]
  have e : 2 ^ (i + j + 1) = 2 ^ (i + j) + 2 ^ (i + j) := by rw [Nat.pow_succ]; lia
  have p1 : (a.num * b.den).natAbs < 2 ^ (i + j) := by rw [Int.natAbs_mul, Nat.pow_add]; exact Nat.mul_lt_mul'' ha.1 hb.d
  have p2 : (b.num * a.den).natAbs < 2 ^ (i + j) := by rw [Int.natAbs_mul, Nat.add_comm, Nat.pow_add]; exact Nat.mul_lt_mul'' hb.1 ha.d
  have p3 : ((a.den : Int) * b.den).natAbs < 2 ^ (i + j) := by rw [Int.natAbs_mul, Nat.pow_add]; exact Nat.mul_lt_mul'' ha.d hb.d
  refine .ofDiv (Int.ne_of_gt (Int.mul_pos (by lia) (by lia))) ?_ ?_
  · have := Int.natAbs_add_le (a.num * b.den) (b.num * a.den)
    lia
  · lia
theorem Hb.neg {i : Nat} {a : Rat} (ha : Hb i a) : Hb i (-a) := ⟨by show (-a.num).natAbs < _; rw [Int.natAbs_neg]; exact ha.1, ha.2⟩
theorem Hb.sub {i j : Nat} {a b : Rat} (ha : Hb i a) (hb : Hb j b) : Hb (i + j + 1) (a - b) := by rw [Rat.sub_eq_add_neg]; exact ha.add hb.neg
theorem Hb.div {i j : Nat} {a b : Rat} (ha : Hb i a) (hb : Hb j b) (h0 : b ≠ 0) : Hb (i + j) (a / b) := by
  have da := a.den_pos
  have hn : b.num ≠ 0 := fun e => h0 (Rat.num_eq_zero.mp e)
  rw [div_eq a b h0]
  refine .ofDiv (Int.mul_ne_zero (by lia) hn) ?_ ?_
  · rw [Int.natAbs_mul, Nat.pow_add]; exact Nat.mul_lt_mul'' ha.1 hb.d
  · rw [Int.natAbs_mul, Nat.pow_add]; exact Nat.mul_lt_mul'' ha.d hb.1
theorem Hs.le {i j : Nat} {a : List Rat} (h : Hs i a) (e : i ≤ j) : Hs j a := fun q hq => (h q hq).le e
theorem Hs.take {i : Nat} {a : List Rat} (h : Hs i a) (k : Nat) : Hs i (a.take k) := fun q hq => h q (List.mem_of_mem_take hq)
theorem Hs.trim {i : Nat} {a : List Rat} (h : Hs i a) : Hs i (Mine.trim a) := h.take _
theorem Hs.add {i j : Nat} {a b : List Rat} (ha : Hs i a) (hb : Hs j b) (hi : 1 ≤ i) (hj : 1 ≤ j) : Hs (i + j + 1) (qaddR a b) := Hs.trim fun q hq => by
  obtain ⟨k, _, rfl⟩ := List.mem_map.mp hq
  exact (ha.at hi k).add (hb.at hj k)
theorem Hs.neg {i : Nat} {a : List Rat} (h : Hs i a) : Hs i (qnegR a) := fun q hq => by
  obtain ⟨k, hk, rfl⟩ := List.mem_map.mp hq
  exact (h k hk).neg
theorem Hs.scale {i j : Nat} {a : List Rat} {r : Rat} (h : Hs i a) (hr : Hb j r) : Hs (i + j) (qscaleR a r) := fun q hq => by
  unfold qscaleR at hq
  split at hq
  · cases hq
  · obtain ⟨k, hk, rfl⟩ := List.mem_map.mp hq
    exact (h k hk).mul hr
theorem Hs.raise {i k : Nat} {a : List Rat} (h : Hs i a) (hi : 1 ≤ i) : Hs i (qraiseR a k) := fun q hq => by
  unfold qraiseR at hq
  split at hq
  · cases hq
  · rcases List.mem_append.mp hq with hq | hq
    · rw [List.eq_of_mem_replicate hq]; exact Hb.zero hi
    · exact h q hq
theorem Hs.upd {k : Nat} {f : List Rat} {i j : Nat} {q : Rat} (h : Hs i f) (hi : 1 ≤ i) (hq : Hb j q) : Hs (i + j + 1) (upd f k q) := fun y hy => by
  rcases List.mem_or_eq_of_mem_set hy with hy | rfl
  · exact (h y hy).le (by lia)
  · exact (h.at hi k).add hq
theorem Hs.row {h i j r : Nat} {l : Rat} {b f : List Rat} (hf : Hs h f) (hh : 1 ≤ h) (hl : Hb i l) (hb : Hs j b) (hj : 1 ≤ j) : ∀ k, Hs (h + k * (i + j + 1)) (mulRow l b r f k)
  | 0 => by rw [Nat.zero_mul]; exact hf
  | k + 1 => by
    have := (Hs.row (r := r) hf hh hl hb hj k).upd (k := r + k) (by lia) (hl.mul (hb.at hj k))
    exact this.le (by rw [Nat.succ_mul]; lia)
theorem Hs.rows {i j : Nat} {a b : List Rat} (ha : Hs i a) (hi : 1 ≤ i) (hb : Hs j b) (hj : 1 ≤ j) : ∀ k, Hs (1 + k * (b.length * (i + j + 1))) (mulRows a b k)
  | 0 => fun q hq => by rw [List.eq_of_mem_replicate hq]; exact Hb.zero (by lia)
  | k + 1 => by
    have := (Hs.rows ha hi hb hj k).row (r := k) (by lia) (ha.at hi k) hb hj b.length
    exact this.le (by rw [Nat.succ_mul]; lia)
theorem Hs.mul {i j : Nat} {a b : List Rat} (ha : Hs i a) (hi : 1 ≤ i) (hb : Hs j b) (hj : 1 ≤ j) : Hs (1 + a.length * (b.length * (i + j + 1))) (qmulR a b) := by
  unfold qmulR
  split
  · intro q hq; cases hq
  · exact Hs.rows ha hi hb hj _
theorem len_row {l : Rat} {b f : List Rat} {r : Nat} : ∀ k, (mulRow l b r f k).length = f.length
  | 0 => rfl
  | k + 1 => by show (upd _ _ _).length = _; rw [upd, List.length_set, len_row k]
theorem len_rows {a b : List Rat} : ∀ k, (mulRows a b k).length = a.length + b.length - 1
  | 0 => List.length_replicate
  | k + 1 => by show (mulRow _ _ _ _ _).length = _; rw [len_row, len_rows k]
theorem trimN_le (xs : List Rat) : ∀ k, trimN xs k ≤ k
  | 0 => Nat.le_refl _
  | k + 1 => by
    show (if xs.getD k 0 = 0 then trimN xs k else k + 1) ≤ k + 1
    split
    · have := trimN_le xs k; lia
    · lia
theorem len_trim (xs : List Rat) : (trim xs).length ≤ xs.length := by
  rw [trim, List.length_take]; lia
theorem len_add (a b : List Rat) : (qaddR a b).length ≤ max a.length b.length := by
  refine Nat.le_trans (len_trim _) ?_
  simp [addR]
theorem len_neg (a : List Rat) : (qnegR a).length = a.length := List.length_map _
theorem len_sub (a b : List Rat) : (qsubR a b).length ≤ max a.length b.length := by
  have := len_add a (qnegR b)
  rw [len_neg] at this
  exact this
theorem len_scale (a : List Rat) (r : Rat) : (qscaleR a r).length ≤ a.length := by
  unfold qscaleR; split <;> simp
theorem len_raise (a : List Rat) (k : Nat) : (qraiseR a k).length ≤ k + a.length := by
  unfold qraiseR; split <;> simp
theorem len_divStep {b rest : List Rat} (hb : 1 ≤ b.length) (h : b.length ≤ rest.length) : (divStep b rest).length < rest.length := by
  refine Nat.lt_of_le_of_lt (len_sub _ _) ?_
  have h1 := len_raise (qscaleR (b.take (b.length - 1)) (rest.getD (rest.length - 1) 0 / b.getD (b.length - 1) 0)) (rest.length - b.length)
  have h2 := len_scale (b.take (b.length - 1)) (rest.getD (rest.length - 1) 0 / b.getD (b.length - 1) 0)
  rw [List.length_take] at h2
  exact Nat.max_lt.mpr ⟨by rw [List.length_take]; exact Nat.lt_of_le_of_lt (Nat.min_le_left _ _) (Nat.sub_lt (Nat.lt_of_lt_of_le hb h) Nat.one_pos), Nat.lt_of_le_of_lt (Nat.le_trans h1 (Nat.add_le_add_left (Nat.le_trans h2 (Nat.min_le_left _ _)) _)) (Nat.lt_of_lt_of_eq (Nat.add_lt_add_left (Nat.sub_lt hb Nat.one_pos) _) (Nat.sub_add_cancel h))⟩
theorem map_at {xs : List Rat} {i : Nat} (h : i < xs.length) : (xs.map rD)[i]? = some (rD (xs.getD i 0)) := by
  rw [List.getElem?_map, List.getElem?_eq_getElem h, List.getD_eq_getElem?_getD, List.getElem?_eq_getElem h]; rfl

section
variable {prog : Program} {w : World} {p : Program} {loose : List Str} {mg mb : Str → Option Value}

theorem R0_rp {S : Addr → Prop} {h : Heap} (o : Ok (cx prog w p loose mg mb) h) : Rp S h (.ref 49) (rD 0) :=
  .tuple (vs := [_, _]) ⟨_, o.K 49 _ rfl, rfl, _, rfl⟩ (.cons (.int _ _) (.cons (.int _ _) .nil))
theorem R1_rp {S : Addr → Prop} {h : Heap} (o : Ok (cx prog w p loose mg mb) h) : Rp S h (.ref 50) (rD 1) :=
  .tuple (vs := [_, _]) ⟨_, o.K 50 _ rfl, rfl, _, rfl⟩ (.cons (.int _ _) (.cons (.int _ _) .nil))

theorem qtrim_con (xs : List Rat) (hl : xs.length ≤ 1000) : Con (cx prog w p loose mg mb) 1 134 [pD xs] (pD (trim xs)) := by
  intro A s vs Q E hA o hr k
  obtain ⟨va, rfl, ra⟩ := hr.one
  refine enter (n := 0) (binds := [("row", va)]) hA o rfl rfl rfl (locs rfl) (by decide) rfl rfl rfl fun L h1 tk F hA1 => ?_
  refine asg (S := Any) hA1 F (.len (o.ext F.keep) rfl (.loc F.ns rfl (ra.mono F.keep)) (leM hl)) fun v h2 tk2 F2 e2 r2 => ?_
  obtain ⟨t, rfl⟩ := r2.int_inv
  refine while_ hA1 (fun k h m => ∃ (j : Nat) (t : Tok), j = k ∧ m "size" = some (.int j t) ∧ m "row" = some va ∧ j ≤ xs.length ∧ trimN xs j = trimN xs xs.length) xs.length F2 ?_ ?_
  · exact ⟨xs.length, t, rfl, by simp, rfl, Nat.le_refl _, rfl⟩
  · rintro k' h m ⟨j, t, hj, hs, hrow, hle, htr⟩ F'
    subst hj
    refine ⟨cmpI .Gt j 0 && cmpI .Eq (xs.getD (j - 1) 0).num 0, .and (.ints (.loc F'.ns hs (.int _ _)) .const) (fun hb => ?_), fun hb h1 tk1 e1 => ?_, fun hb h1 tk1 e1 => ?_⟩
    · have hj : 0 < j := by simpa [cI] using hb
      have ej : PyData.int ((j : Int) - 1) = PyData.int ((j - 1 : Nat) : Int) := congrArg PyData.int (Int.ofNat_sub hj).symm
      have hj1 : j - 1 < xs.length := Nat.lt_of_lt_of_le (Nat.sub_lt hj Nat.one_pos) hle
      exact .ints (.tupAt (.listAt (.loc F'.ns hrow (ra.mono F'.keep)) (Ev.to (.sub (.loc F'.ns hs (.int _ _)) .const) ej) (map_at hj1) (nnM _) (ixM (Nat.le_of_lt (Nat.lt_of_lt_of_le hj1 (Nat.le_trans hl (by decide)))))) rfl) .const
    · have hj : 0 < j ∧ (xs.getD (j - 1) 0).num = 0 := by simpa [cI] using hb
      obtain ⟨j, rfl⟩ : ∃ i, j = i + 1 := ⟨j - 1, (Nat.sub_add_cancel hj.1).symm⟩
      have F1 := frExt F' e1
      refine augSub hA1 F1 hs .const fun t' h' tk' F3 e3 => execs_nil' ⟨rfl, j, _, _, _, Nat.lt_succ_self _, rfl, F3, j, t', rfl, ?_, hrow, Nat.le_of_lt hle, ?_⟩
      · show some (Value.int (((j + 1 : Nat) : Int) - 1) t') = _
        rw [show ((j + 1 : Nat) : Int) - 1 = (j : Int) from Int.add_sub_cancel (j : Int) 1]
      · rw [← htr]
        show _ = if xs.getD j 0 = 0 then trimN xs j else j + 1
        rw [if_pos (show xs.getD j 0 = 0 from Rat.num_eq_zero.mp hj.2)]
    · have F1 := frExt F' e1
      refine ret_ (S := New s.heap) hA1 (EvN.ev (.copy (o.ext F1.keep) rfl (EvN.any (S := Any) (.upto (.loc F1.ns hrow (ra.mono F1.keep)) (.loc F1.ns hs (.int _ _)) (leM hl) (flats_rD xs) (fun vs hl => upto_nonneg (nnM j) vs hl))) ?_ ?_) fun a ha => New.ext F1.keep ha) fun v h' tk e r => ?_
      · rw [List.length_take]; exact Nat.le_trans (Nat.min_le_right _ _) (leM hl)
      · rw [← List.map_take]; exact flats_rD _
      · have ht : j = trimN xs xs.length := by
          rw [← htr]
          cases j with
          | zero => rfl
          | succ j =>
            have hne : ¬ xs.getD j 0 = 0 := fun q => by
              have : (xs.getD (j + 1 - 1) 0).num = 0 := by rw [Nat.add_sub_cancel, q]; rfl
              have h0 : cmpI .Gt ((j + 1 : Nat) : Int) 0 = true := by simp [cI]
              rw [this, h0] at hb
              cases hb
            show j + 1 = if xs.getD j 0 = 0 then trimN xs j else j + 1
            rw [if_neg hne]
        rw [show ((j : Int)).toNat = j from rfl, ← List.map_take, ht] at r
        exact k v h' tk (Ext.tr F1.keep e) r

theorem isCell_ext {h h' : Heap} {a : Addr} {v : Option Value} (x : h.IsCell a v) (e : Ext h h') : h'.IsCell a v := let ⟨o, ho, r⟩ := x; ⟨o, e _ _ ho, r⟩
theorem isCell_but {h h' : Heap} {L a : Addr} {m : Str → Option Value} {v : Option Value} (hn : h.Ns L m) (x : h.IsCell a v) (e : Heap.ExtBut L h h') : h'.IsCell a v := by
  obtain ⟨o, ho, hd⟩ := x
  refine ⟨o, e a o (fun q => ?_) ho, hd⟩
  obtain ⟨o', es, ep, ho', hd', _⟩ := hn
  rw [← q, ho] at ho'
  cases ho'
  rw [hd] at hd'; cases hd'

theorem qadd_con (xs ys : List Rat) {i j : Nat} (hx : Hs i xs) (hy : Hs j ys) (hi : 1 ≤ i) (hj : 1 ≤ j) (hij : i + j ≤ 134217728) (lx : xs.length ≤ 1000) (ly : ys.length ≤ 1000) : Con (cx prog w p loose mg mb) 4 139 [pD xs, pD ys] (pD (qaddR xs ys)) := by
  intro A s vs Q E hA o hr k
  obtain ⟨va, vb, rfl, ra, rb⟩ := hr.two
  refine enterC (n := 3) (binds := [("a", va), ("b", vb)]) hA o rfl rfl rfl rfl rfl rfl rfl fun L h1 tk F hC hA1 => ?_
  have ca : h1.IsCell (L + 1) (some va) := hC "a" (L + 1) rfl
  have cb : h1.IsCell (L + 2) (some vb) := hC "b" (L + 2) rfl
  refine asg (S := Any) hA1 F (.max (o.ext F.keep) rfl (.len (o.ext F.keep) rfl (.cell rfl ca (ra.mono F.keep)) (leM lx)) (.len (o.ext F.keep) rfl (.cell rfl cb (rb.mono F.keep)) (leM ly))) fun v h2 tk2 F2 e2 r2 => ?_
  have ca2 := isCell_but F.ns ca e2
  have cb2 := isCell_but F.ns cb e2
  have o2 := o.ext F2.keep
  rw [maxL] at r2
  refine ret_ (S := New s.heap) (d := pD (qaddR xs ys)) hA1 (.call o2 rfl rfl (.cons (EvN.any (S := Any) (.comp (N := max xs.length ys.length) (.rangeN (H := h2) (maxM lx ly) o2 rfl (.loc F2.ns rfl r2)) Ext.rfl' (maxM lx ly) rfl (fun i => rD (xs.getD i 0 + ys.getD i 0)) ?_)) .nil) ?_ (fun a ha => New.ext F2.keep ha)) fun v h' tk e r => ?_
  · intro i v C h m hi ⟨t, hv⟩ hx2 hn hm
    subst hv
    have o3 := o2.ext hx2
    have ca3 := isCell_ext ca2 hx2
    have cb3 := isCell_ext cb2 hx2
    have ra3 := (ra.mono F2.keep).mono hx2
    have rb3 := (rb.mono F2.keep).mono hx2
    refine .callF o3 rfl rfl (.cons (.ife (.ints (.loc hn hm (.int _ _)) (.len o3 rfl (.cell rfl ca3 ra3) (leM lx))) (fun hb => ?_) (fun hb => ?_)) (.cons (.ife (.ints (.loc hn hm (.int _ _)) (.len o3 rfl (.cell rfl cb3 rb3) (leM ly))) (fun hb => ?_) (fun hb => ?_)) .nil)) (radd_con _ _ (hx.at (by lia) i) (hy.at (by lia) i) hij)
    · have hb : i < xs.length := by simpa [cI] using hb
      exact .listAtN rD 0 (.cell rfl ca3 ra3) (.loc hn hm (.int _ _)) hb lx
    · have hb : xs.length ≤ i := by simpa [cI] using hb
      rw [show xs.getD i 0 = 0 by rw [List.getD_eq_getElem?_getD, List.getElem?_eq_none hb]; rfl]
      exact .top o3 rfl (R0_rp o3)
    · have hb : i < ys.length := by simpa [cI] using hb
      exact .listAtN rD 0 (.cell rfl cb3 rb3) (.loc hn hm (.int _ _)) hb ly
    · have hb : ys.length ≤ i := by simpa [cI] using hb
      rw [show ys.getD i 0 = 0 by rw [List.getD_eq_getElem?_getD, List.getElem?_eq_none hb]; rfl]
      exact .top o3 rfl (R0_rp o3)
  · have := qtrim_con (prog := prog) (w := w) (p := p) (loose := loose) (mg := mg) (mb := mb) (addR xs ys) (by simp [addR]; lia)
    refine Con.le (n := 1) (m := 3) ?_ (by decide)
    have e : (List.range (max xs.length ys.length)).map (fun i => rD (xs.getD i 0 + ys.getD i 0)) = (addR xs ys).map rD := by rw [addR, List.map_map]; rfl
    rw [e]
    exact this
  · exact k v h' tk (Ext.tr F2.keep e) r
end
end Mine

namespace Mine
section
variable {prog : Program} {w : World} {p : Program} {loose : List Str} {mg mb : Str → Option Value}

theorem qneg_con (xs : List Rat) (hl : xs.length ≤ 1000) : Con (cx prog w p loose mg mb) 2 144 [pD xs] (pD (qnegR xs)) := by
  intro A s vs Q E hA o hr k
  obtain ⟨va, rfl, ra⟩ := hr.one
  obtain ⟨a, us, rfl, _, la, ru⟩ := ra.list_inv
  have hn := ru.length
  rw [List.length_map] at hn
  refine enter (n := 1) (binds := [("p", .ref a)]) hA o rfl rfl rfl (locs rfl) (by decide) rfl rfl rfl fun L h1 tk F hA1 => ?_
  refine ret_ (S := New s.heap) (d := pD (qnegR xs)) hA1 (Ev.to (EvN.ev (.comp (.list (locRef F.ns rfl) la F.keep) F.keep (by rw [List.size_toArray]; lia) rfl (fun i => rD (-(xs.getD i 0))) ?_) fun a ha => New.ext F.keep ha) ?_) fun v h' tk e r => k v h' tk (Ext.tr F.keep e) r
  · intro i v C h m hi hv hx hn hm
    obtain ⟨_, rv⟩ := item rD 0 ru hv
    exact .callF (o.ext (Ext.tr F.keep hx)) rfl rfl (.cons (.loc hn hm ((rv.mono F.keep).mono hx)) .nil) (rneg_con _)
  · rw [List.size_toArray, hn, map_range (fun q => rD (-q))]
    show _ = PyData.list (List.map rD (List.map _ xs))
    rw [List.map_map]; rfl

theorem qsub_con (xs ys : List Rat) {i j : Nat} (hx : Hs i xs) (hy : Hs j ys) (hi : 1 ≤ i) (hj : 1 ≤ j) (hij : i + j ≤ 134217728) (lx : xs.length ≤ 1000) (ly : ys.length ≤ 1000) : Con (cx prog w p loose mg mb) 5 151 [pD xs, pD ys] (pD (qsubR xs ys)) := by
  intro A s vs Q E hA o hr k
  obtain ⟨va, vb, rfl, ra, rb⟩ := hr.two
  refine enter (n := 4) (binds := [("a", va), ("b", vb)]) hA o rfl rfl rfl (locs rfl) (by decide) rfl rfl rfl fun L h1 tk F hA1 => ?_
  refine ret_ (S := New s.heap) (d := pD (qsubR xs ys)) hA1 (.call (o.ext F.keep) rfl rfl (.cons (.loc F.ns rfl (ra.mono F.keep)) (.cons (.call (o.ext F.keep) rfl rfl (.cons (.loc F.ns rfl (rb.mono F.keep)) .nil) (Con.le (n := 2) (m := 4) (qneg_con ys ly) (by decide)) fun _ _ => trivial) .nil)) (qadd_con xs (qnegR ys) hx hy.neg hi hj hij lx (by rw [len_neg]; exact ly)) fun a ha => New.ext F.keep ha) fun v h' tk e r => k v h' tk (Ext.tr F.keep e) r

theorem qscale_con (xs : List Rat) (q : Rat) {i j : Nat} (hx : Hs i xs) (hq : Hb j q) (hi : 1 ≤ i) (hij : i + j ≤ 134217728) (lx : xs.length ≤ 1000) : Con (cx prog w p loose mg mb) 4 156 [pD xs, rD q] (pD (qscaleR xs q)) := by
  intro A s vs Q E hA o hr k
  obtain ⟨va, vb, rfl, ra, rb⟩ := hr.two
  obtain ⟨a, us, rfl, _, la, ru⟩ := ra.list_inv
  have hn := ru.length
  rw [List.length_map] at hn
  refine enterC (n := 3) (binds := [("p", .ref a), ("r", vb)]) hA o rfl rfl rfl rfl rfl rfl rfl fun L h1 tk F hC hA1 => ?_
  have cr : h1.IsCell (L + 1) (some vb) := hC "r" (L + 1) rfl
  refine ret_ (S := New s.heap) (d := pD (qscaleR xs q)) hA1 (EvN.ev (.ife (.ints (.tupAt (.cell rfl cr (rb.mono F.keep)) rfl) .const) (fun hb => ?_) fun hb => ?_) fun a ha => New.ext F.keep ha) fun v h' tk e r => k v h' tk (Ext.tr F.keep e) r
  · have h0 : ¬ q = 0 := fun e => by subst e; cases hb
    refine EvN.to (.comp (.list (locRef F.ns rfl) la F.keep) F.keep (by rw [List.size_toArray]; lia) rfl (fun i => rD (xs.getD i 0 * q)) ?_) ?_
    · intro i v C h m hi' hv hx' hn hm
      obtain ⟨_, rv⟩ := item rD 0 ru hv
      exact .callF (o.ext (Ext.tr F.keep hx')) rfl rfl (.cons (.loc hn hm ((rv.mono F.keep).mono hx')) (.cons (.cell rfl (isCell_ext cr hx') ((rb.mono F.keep).mono hx')) .nil)) (rmul_con _ _ (hx.at hi i) hq hij)
    · rw [List.size_toArray, hn, map_range (fun y => rD (y * q)), qscaleR, if_neg h0, List.map_map]; rfl
  · have h0 : q = 0 := Rat.num_eq_zero.mp (by simpa [cI] using hb)
    rw [qscaleR, if_pos h0]
    exact .listd .nil

theorem qraise_con (xs : List Rat) (many : Nat) (lx : xs.length ≤ 1000) (hm : many ≤ 1000) : Con (cx prog w p loose mg mb) 1 163 [pD xs, .int many] (pD (qraiseR xs many)) := by
  intro A s vs Q E hA o hr k
  obtain ⟨va, vb, rfl, ra, rb⟩ := hr.two
  refine enter (n := 0) (binds := [("p", va), ("many", vb)]) hA o rfl rfl rfl (locs rfl) (by decide) rfl rfl rfl fun L h1 tk F hA1 => ?_
  refine ret_ (S := New s.heap) (d := pD (qraiseR xs many)) hA1 (EvN.ev (.ife (.ints (.len (o.ext F.keep) rfl (.loc F.ns rfl (ra.mono F.keep)) (leM lx)) .const) (fun hb => ?_) fun hb => ?_) fun a ha => New.ext F.keep ha) fun v h' tk e r => k v h' tk (Ext.tr F.keep e) r
  · have h0 : ¬ xs = [] := fun e => by subst e; cases hb
    refine EvN.to (.cat (.times (.listd (.cons (.top (o.ext F.keep) rfl (R0_rp (o.ext F.keep))) .nil)) (.loc F.ns rfl (rb.mono F.keep)) (by lia) (by lia)) (.copy (o.ext F.keep) rfl (.loc F.ns rfl (ra.mono F.keep)) (leM lx) (flats_rD _)) (by simp; lia)) ?_
    rw [qraiseR, if_neg h0, List.map_append, List.map_replicate]; rfl
  · have h0 : xs = [] := by
      cases xs with
      | nil => rfl
      | cons x xs => simp [cI] at hb
    rw [qraiseR, if_pos h0]
    exact .listd .nil
end
end Mine

namespace Mine
section
variable {prog : Program} {w : World} {p : Program} {loose : List Str} {mg mb : Str → Option Value}

/-- the state of a list that is written in place -/
abbrev At (h : Heap) (W : Addr) (ds : List PyData) : Prop := ∃ vs, h.IsList W vs.toArray ∧ Rps Off h vs ds
theorem Stab.at (W : Addr) (ds : List PyData) : Stab fun h => At h W ds := .e fun vs => .a (.l _ _) (.rps _ _ _)

theorem qmul_con (xs ys : List Rat) {ea eb : Nat} (hx : Hs ea xs) (hy : Hs eb ys) (hi : 1 ≤ ea) (hj : 1 ≤ eb) (lx : xs.length ≤ 1000) (ly : ys.length ≤ 1000)
    (hij : 1 + xs.length * (ys.length * (ea + eb + 1)) + ea + eb ≤ 134217728) : Con (cx prog w p loose mg mb) 4 170 [pD xs, pD ys] (pD (qmulR xs ys)) := by
  intro A s vs Q E hA o hr k
  obtain ⟨va, vb, rfl, ra, rb⟩ := hr.two
  obtain ⟨a, us, rfl, _, la, ru⟩ := ra.list_inv
  obtain ⟨b, ws, rfl, _, lb, rw'⟩ := rb.list_inv
  have hn := ru.length
  rw [List.length_map] at hn
  have hm := rw'.length
  rw [List.length_map] at hm
  refine enter (n := 3) (binds := [("a", .ref a), ("b", .ref b)]) hA o rfl rfl rfl (locs rfl) (by decide) rfl rfl rfl fun L h1 tk F hA1 => ?_
  have o1 := o.ext F.keep
  refine execs_if hA1 (.or (.ints (.len o1 rfl (.loc F.ns rfl (ra.mono F.keep)) (leM lx)) .const) fun _ => .ints (.len o1 rfl (.loc F.ns rfl (rb.mono F.keep)) (leM ly)) .const) (fun h2 tk2 e2 hb => ?_) fun h2 tk2 e2 hb => ?_
  · have h0 : xs.length = 0 ∨ ys.length = 0 := by
      simp [cI] at hb
      exact hb.imp (by rintro rfl; rfl) (by rintro rfl; rfl)
    have F2 := frExt F e2
    refine ret_ (S := New s.heap) (d := pD (qmulR xs ys)) hA1 (EvN.ev ?_ fun a ha => New.ext F2.keep ha) fun v h' tk e r => k v h' tk (Ext.tr F2.keep e) r
    rw [qmulR, if_pos h0]
    exact .listd .nil
  · have h0 : ¬ (xs.length = 0 ∨ ys.length = 0) := by
      intro q
      rcases q with q | q <;> simp [cI, List.length_eq_zero_iff.mp q] at hb
    have F2 := frExt F e2
    have o2 := o.ext F2.keep
    refine execs_nil' ?_
    refine asgN (S := Off) hA1 F2 (ds := (mulRows xs ys 0).map rD) (EvN.to (.times (.listd (.cons (.top o2 rfl (R0_rp o2)) .nil)) (.sub (.add (.len o2 rfl (.loc F2.ns rfl (ra.mono F2.keep)) (leM lx)) (.len o2 rfl (.loc F2.ns rfl (rb.mono F2.keep)) (leM ly))) .const) (by simp; lia) (by simp; lia)) ?_) fun W vs h3 tk3 F3 e3 hW p3 r3 => ?_
    · rw [show mulRows xs ys 0 = List.replicate (xs.length + ys.length - 1) 0 from rfl, List.map_replicate]
      congr 1
      simp
      lia
    have hWH : s.heap.get? W = none := New.ext F2.keep hW
    refine forEnum (n := 3) (a := a) hA1 F3 [W] ?_ (o.ext F3.keep) rfl (locRef F3.ns rfl) la (fun i h m => m "a" = some (.ref a) ∧ m "b" = some (.ref b) ∧ m "found" = some (.ref W) ∧ At h W ((mulRows xs ys i).map rD)) (fun i m => .a (.c _) (.a (.c _) (.a (.c _) (.at _ _)))) ⟨rfl, rfl, rfl, vs, p3.isList, r3⟩ ?_ ?_
    · intro z hz
      rw [List.mem_singleton.mp hz]
      exact ⟨hWH, by obtain ⟨kk, hk⟩ := p3; exact ⟨_, hk⟩⟩
    · rintro i v t h m tk4 hv F4 ⟨ma, mb', mf, fs, lf, rf⟩
      obtain ⟨hi', rv⟩ := item rD 0 ru hv
      refine forEnum (n := 3) (a := b) hA1 F4 [W] ?_ (o.ext F4.keep) rfl (locRef F4.ns mb') lb (fun j h m => m "a" = some (.ref a) ∧ m "b" = some (.ref b) ∧ m "found" = some (.ref W) ∧ m "one" = some (.int i t) ∧ m "left" = some v ∧ At h W ((mulRow (xs.getD i 0) ys i (mulRows xs ys i) j).map rD)) (fun i m => .a (.c _) (.a (.c _) (.a (.c _) (.a (.c _) (.a (.c _) (.at _ _)))))) ⟨ma, mb', mf, rfl, rfl, fs, lf, rf⟩ ?_ ?_
      · intro z hz
        rw [List.mem_singleton.mp hz]
        exact ⟨hWH, by obtain ⟨oo, ho, _⟩ := lf; exact ⟨_, ho⟩⟩
      · rintro j' u t' h5 m5 tk5 hu F5 ⟨na, nb, nf, no, nl, gs, lg, rg⟩
        obtain ⟨hj', ru'⟩ := item rD 0 rw' hu
        have hlen : (mulRow (xs.getD i 0) ys i (mulRows xs ys i) j').length = xs.length + ys.length - 1 := by rw [len_row, len_rows]
        have hHs : Hs (1 + xs.length * (ys.length * (ea + eb + 1))) (mulRow (xs.getD i 0) ys i (mulRows xs ys i) j') := by
          have := ((Hs.rows hx hi hy hj i).row (r := i) (by lia) (hx.at hi i) hy hj j')
          refine this.le ?_
          have h1 : i * (ys.length * (ea + eb + 1)) + ys.length * (ea + eb + 1) ≤ xs.length * (ys.length * (ea + eb + 1)) := by
            rw [← Nat.succ_mul]; exact Nat.mul_le_mul_right _ hi'
          have h2 := Nat.mul_le_mul_right (ea + eb + 1) (Nat.le_of_lt hj')
          lia
        have hij2 : PyData.int ((i : Int) + (j' : Int)) = PyData.int ((i + j' : Nat) : Int) := congrArg PyData.int (Int.natCast_add i j').symm
        have h2000 : i + j' ≤ 2000 := Nat.le_trans (Nat.le_of_lt (Nat.add_lt_add hi' hj')) (Nat.add_le_add lx ly)
        refine setAt_ (W := W) (d := rD ((mulRow (xs.getD i 0) ys i (mulRows xs ys i) j').getD (i + j') 0 + xs.getD i 0 * ys.getD j' 0)) (k := i + j') hA1 F5 nf lg rg hWH ?_ (Ev.to (.add (.loc F5.ns no (.int _ _)) (.loc F5.ns rfl (.int _ _))) hij2) (by rw [List.length_map, hlen]; exact ijM hi' hj') h2000 fun h6 tk6 fs' F6 l6 r6 e6 => execs_nil' ?_
        · refine .callF (o.ext F5.keep) rfl rfl (.cons (.listAt (.loc F5.ns nf (.list trivial lg rg.any)) (Ev.to (.add (.loc F5.ns no (.int _ _)) (.loc F5.ns rfl (.int _ _))) hij2) (d := rD ((mulRow (xs.getD i 0) ys i (mulRows xs ys i) j').getD (i + j') 0)) ?_ (nnM _) (ixM h2000)) (.cons (.callF (o.ext F5.keep) rfl rfl (.cons (.loc F5.ns nl (rv.mono F5.keep)) (.cons (.loc F5.ns rfl (ru'.mono F5.keep)) .nil)) (rmul_con _ _ (hx.at hi i) (hy.at hj j') (by lia))) .nil)) (radd_con _ _ (hHs.at (by lia) _) ((hx.at hi i).mul (hy.at hj j')) (by lia))
          exact map_at (hlen ▸ ijM hi' hj')
        · refine ⟨rfl, h6, _, tk6, rfl, F6, fun b' o' n1 n2 e => e6 b' o' (fun q => n2 (by rw [q]; exact List.mem_singleton.mpr rfl)) e, na, nb, nf, no, nl, fs', l6, ?_⟩
          show Rps Off h6 fs' ((upd _ _ _).map rD)
          rw [upd, List.map_set]
          exact r6
      · rintro h5 m5 tk5 F5 ⟨na, nb, nf, no, nl, hat⟩ kp
        rw [List.size_toArray, hm] at hat
        exact execs_nil' ⟨rfl, h5, m5, tk5, rfl, F5, kp, na, nb, nf, hat⟩
    · rintro h m tk4 F4 ⟨ma, mb', mf, gs, lg, rg⟩ kp
      rw [List.size_toArray, hn] at rg
      refine ret_ (S := New s.heap) (d := pD (qmulR xs ys)) hA1 (.loc F4.ns mf ?_) fun v h' tk e r => k v h' tk (Ext.tr F4.keep e) r
      rw [qmulR, if_neg h0]
      exact .list hWH lg (rg.re fun _ _ z _ => z.elim)
end
end Mine

namespace Mine
section
variable {prog : Program} {w : World} {p : Program} {loose : List Str} {mg mb : Str → Option Value}

theorem dvB {hh eb : Nat} (h : hh + 2 * eb + 1 ≤ 67108864) : hh + eb ≤ 134217728 ∧ eb + (hh + eb) ≤ 134217728 ∧ hh + (eb + (hh + eb)) ≤ 134217728 := by lia
theorem qdivmod_con (xs ys : List Rat) {ea eb : Nat} (hx : Hs ea xs) (hy : Hs eb ys) (hi : 1 ≤ ea) (hj : 1 ≤ eb) (lx : xs.length ≤ 900) (ly : ys.length ≤ 900) (hb1 : 1 ≤ ys.length) (hl : ys.getD (ys.length - 1) 0 ≠ 0)
    (hij : (ea + 2 * eb + 1) * 2 ^ xs.length ≤ 67108864) : Con (cx prog w p loose mg mb) 6 177 [pD xs, pD ys] (.tuple [pD (qdivmodR xs ys).1, pD (qdivmodR xs ys).2]) := by
  intro A s vs Q E hA o hr k
  obtain ⟨va, vb, rfl, ra, rb⟩ := hr.two
  refine enter (n := 5) (binds := [("a", va), ("b", vb)]) hA o rfl rfl rfl (locs rfl) (by decide) rfl rfl rfl fun L h1 tk F hA1 => ?_
  have o1 := o.ext F.keep
  have lx' : xs.length ≤ 1000 := Nat.le_trans lx (by decide)
  have ly' : ys.length ≤ 1000 := Nat.le_trans ly (by decide)
  refine execs_if hA1 (.ints (.len o1 rfl (.loc F.ns rfl (rb.mono F.keep)) (leM ly')) .const) (fun h2 tk2 e2 hb => ?_) fun h2 tk2 e2 hb => ?_
  · exfalso
    simp [cI] at hb
    rw [hb] at hb1; exact absurd hb1 (by decide)
  refine execs_nil' ?_
  have F2 := frExt F e2
  have o2 := o.ext F2.keep
  refine asg2N hA1 F2 (ds := xs.map rD) (ds' := (List.replicate (xs.length + 1 - ys.length) (0 : Rat)).map rD) (.copy o2 rfl (.loc F2.ns rfl (ra.mono F2.keep)) (leM lx') (flats_rD _))
    (EvN.to (.times (.listd (.cons (.top o2 rfl (R0_rp o2)) .nil)) (.max o2 rfl .const (.add (.sub (.len o2 rfl (.loc F2.ns rfl (ra.mono F2.keep)) (leM lx')) (.len o2 rfl (.loc F2.ns rfl (rb.mono F2.keep)) (leM ly'))) .const)) (by simp; lia) (by simp; lia)) ?_)
    fun R W rs fs h3 tk3 hRW F3 e3 hR hW pR pW rR rW => ?_
  · rw [List.map_replicate]
    congr 1
    simp
    lia
  have hWH : s.heap.get? W = none := New.ext F2.keep hW
  have hRH : s.heap.get? R = none := New.ext F2.keep hR
  refine while_ hA1 (fun k h m => ∃ (rest found : List Rat) (hh fuel : Nat) (vr : Value), rest.length = k ∧ m "b" = some vb ∧ m "rest" = some vr ∧ m "found" = some (.ref W) ∧ Rp (fun a => New s.heap a ∧ a ≠ W) h vr (pD rest) ∧ At h W (found.map rD) ∧
    found.length = xs.length + 1 - ys.length ∧ rest.length ≤ xs.length ∧ Hs hh rest ∧ 1 ≤ hh ∧ (hh + 2 * eb + 1) * 2 ^ rest.length ≤ (ea + 2 * eb + 1) * 2 ^ xs.length ∧ rest.length ≤ fuel ∧ divR ys fuel found rest = divR ys xs.length (List.replicate (xs.length + 1 - ys.length) 0) xs) xs.length F3 ?_ ?_
  · exact ⟨xs, _, ea, xs.length, _, rfl, rfl, rfl, rfl, .list ⟨hRH, hRW⟩ pR.isList (rR.re fun _ _ z _ => z.elim), ⟨fs, pW.isList, rW⟩, List.length_replicate, Nat.le_refl _, hx, hi, Nat.le_refl _, Nat.le_refl _, rfl⟩
  · rintro k' h m ⟨rest, found, hh, fuel, vr, rfl, mb', mr, mf, rr, ⟨gs, lg, rg⟩, hlf, hlr, hHs, hh1, hbd, hfu, hdv⟩ F4
    have o4 := o.ext F4.keep
    have lr' : rest.length ≤ 1000 := Nat.le_trans hlr lx'
    refine ⟨_, .ints (.len o4 rfl (.loc F4.ns mr rr.any) (leM lr')) (.len o4 rfl (.loc F4.ns mb' (rb.mono F4.keep)) (leM ly')), fun hb h5 tk5 e5 => ?_, fun hb h5 tk5 e5 => ?_⟩
    · have hge : ys.length ≤ rest.length := by simpa [cI] using hb
      have F5 := frExt F4 e5
      have o5 := o.ext F5.keep
      have hp2 : 1 ≤ 2 ^ rest.length := Nat.one_le_two_pow
      have hr1 : rest.length - 1 < rest.length := Nat.sub_lt (Nat.lt_of_lt_of_le hb1 hge) Nat.one_pos
      have hy1 : ys.length - 1 < ys.length := Nat.sub_lt hb1 Nat.one_pos
      have hhb : hh + 2 * eb + 1 ≤ 67108864 := Nat.le_trans (Nat.le_trans (Nat.le_mul_of_pos_right _ hp2) hbd) hij
      have B := dvB hhb
      have B1 : 1 ≤ eb + (hh + eb) := Nat.le_trans hj (Nat.le_add_right _ _)
      have hN : Hb (hh + eb) (rest.getD (rest.length - 1) 0 / ys.getD (ys.length - 1) 0) := (hHs.at hh1 _).div (hy.at hj _) hl
      refine asg2 (S := Any) hA1 F5 (d := rD (rest.getD (rest.length - 1) 0 / ys.getD (ys.length - 1) 0)) (d' := .int ((rest.length : Int) - (ys.length : Int))) ?_ fun v1 v2 h6 tk6 F6 e6 r1 r2 => ?_
      · refine Ev.to (.tuple (.cons (.callF o5 rfl rfl (.cons (.last (d := rD (rest.getD (rest.length - 1) 0)) (.loc F5.ns mr (rr.any.mono e5)) (.neg .const) ?_) (.cons (.last (d := rD (ys.getD (ys.length - 1) 0)) (.loc F5.ns mb' (rb.mono F5.keep)) (.neg .const) ?_) .nil)) (Con.le (n := 3) (rdiv_con _ _ (hHs.at hh1 _) (hy.at hj _) B.1 hl) (by decide))) (.cons (.sub (.len o5 rfl (.loc F5.ns mr (rr.any.mono e5)) (leM lr')) (.len o5 rfl (.loc F5.ns mb' (rb.mono F5.keep)) (leM ly'))) .nil))) ?_
        · rw [List.length_map]; exact map_at hr1
        · rw [List.length_map]; exact map_at hy1
        · rw [List.length_map, List.length_map]
      have lg6 : h6.IsList W gs.toArray := isList_but F5.ns e6 (isList_ext lg e5)
      have rg6 : Rps Off h6 gs (found.map rD) := (rg.mono e5).but F5.ns e6
      have rr6 : Rp (fun a => New s.heap a ∧ a ≠ W) h6 vr (pD rest) := (rr.mono e5).but F5.ns e6
      refine setAt_ (d := rD (rest.getD (rest.length - 1) 0 / ys.getD (ys.length - 1) 0)) hA1 F6 mf lg6 rg6 hWH (.loc F6.ns rfl (r1.flat rfl)) (Ev.to (.loc F6.ns rfl r2) (congrArg PyData.int (Int.ofNat_sub hge).symm)) (k := rest.length - ys.length) (by rw [List.length_map, hlf]; exact Nat.sub_lt_sub_right hge (Nat.lt_succ_of_le hlr)) (Nat.le_trans (Nat.sub_le _ _) (Nat.le_trans lr' (by decide))) fun h7 tk7 gs' F7 l7 r7 e7 => ?_
      have r1' : Rp Off h7 v1 (rD (rest.getD (rest.length - 1) 0 / ys.getD (ys.length - 1) 0)) := Rp.off (fun _ z => z.elim) lg6 e7 (r1.flat rfl)
      have r2' : Rp Off h7 v2 (.int ((rest.length : Int) - (ys.length : Int))) := Rp.off (fun _ z => z.elim) lg6 e7 (r2.flat rfl)
      have rr7 : Rp (fun a => New s.heap a ∧ a ≠ W) h7 vr (pD rest) := Rp.off (fun _ z => z.2) lg6 e7 rr6
      have o7 := o.ext F7.keep
      have hls : (qscaleR (ys.take (ys.length - 1)) (rest.getD (rest.length - 1) 0 / ys.getD (ys.length - 1) 0)).length ≤ ys.length := by
        have := len_scale (ys.take (ys.length - 1)) (rest.getD (rest.length - 1) 0 / ys.getD (ys.length - 1) 0)
        rw [List.length_take] at this
        exact Nat.le_trans this (Nat.min_le_right _ _)
      have hlq := len_raise (qscaleR (ys.take (ys.length - 1)) (rest.getD (rest.length - 1) 0 / ys.getD (ys.length - 1) 0)) (rest.length - ys.length)
      have hlt : (rest.take (rest.length - 1)).length ≤ 1000 := by rw [List.length_take]; exact Nat.le_trans (Nat.min_le_right _ _) lr'
      have tk1 : ∀ zs : List Rat, (zs.map rD).take ((zs.map rD).length - 1) = (zs.take (zs.length - 1)).map rD := fun zs => by rw [List.length_map, List.map_take]
      refine asg (S := fun a => New s.heap a ∧ a ≠ W) (d := pD (divStep ys rest)) hA1 F7 (.call o7 rfl rfl
        (.cons (Ev.to (EvN.any (S := Any) (.upto (.loc F7.ns mr rr7.any) (.neg .const) (leM lr') (flats_rD _) upto_neg1)) (congrArg PyData.list (tk1 rest)))
          (.cons (.call o7 rfl rfl (.cons (.call o7 rfl rfl (.cons (Ev.to (EvN.any (S := Any) (.upto (.loc F7.ns mb' (rb.mono F7.keep)) (.neg .const) (leM ly') (flats_rD _) upto_neg1)) (congrArg PyData.list (tk1 ys))) (.cons (.loc F7.ns rfl r1'.any) .nil))
            (Con.le (n := 4) (qscale_con _ _ (hy.take _) hN hj B.2.1 (by rw [List.length_take]; exact Nat.le_trans (Nat.min_le_right _ _) ly')) (by decide)) fun _ _ => trivial) (.cons (Ev.to (.loc F7.ns rfl r2'.any) (congrArg PyData.int (Int.ofNat_sub hge).symm)) .nil))
            (Con.le (n := 1) (qraise_con _ _ (Nat.le_trans hls ly') (Nat.le_trans (Nat.sub_le _ _) lr')) (by decide)) fun _ _ => trivial) .nil))
        (Con.le (n := 5) (qsub_con _ _ (hHs.take _) (((hy.take _).scale hN).raise B1) hh1 B1 B.2.2 hlt (Nat.le_trans hlq (Nat.le_trans (Nat.add_le_add_left hls _) (Nat.le_trans (Nat.le_of_eq (Nat.sub_add_cancel hge)) lr')))) (by decide)) ?_) fun v3 h8 tk8 F8 e8 r3 => ?_
      · intro a ha
        exact ⟨New.ext F7.keep ha, fun q => by
          obtain ⟨oo, ho, _⟩ := l7
          rw [← q] at ho
          have ha' : h7.get? a = none := ha
          rw [ho] at ha'; cases ha'⟩
      have l8 := isList_but F7.ns e8 l7
      have rr8 := r7.but F7.ns e8
      refine asg (S := fun a => New s.heap a ∧ a ≠ W) hA1 F8 (.loc F8.ns rfl r3) fun v4 h9 tk9 F9 e9 r4 => ?_
      have hlen := len_divStep hb1 hge
      refine execs_nil' ⟨rfl, (divStep ys rest).length, h9, _, tk9, hlen, rfl, F9, divStep ys rest, found.set (rest.length - ys.length) (rest.getD (rest.length - 1) 0 / ys.getD (ys.length - 1) 0), hh + (eb + (hh + eb)) + 1, fuel - 1, v4, rfl, mb', rfl, mf, r4, ⟨gs', isList_but F8.ns e9 l8, ?_⟩, ?_, Nat.le_trans (Nat.le_of_lt hlen) hlr, ?_, Nat.succ_le_succ (Nat.zero_le _), ?_, Nat.le_sub_one_of_lt (Nat.lt_of_lt_of_le hlen hfu), ?_⟩
      · have := rr8.but F8.ns e9
        rw [List.map_set]
        exact this
      · rw [List.length_set]; exact hlf
      · exact (hHs.take _).add ((((hy.take _).scale hN).raise B1).neg) hh1 B1
      · refine Nat.le_trans ?_ hbd
        have h2 : 2 ^ (divStep ys rest).length * 2 ≤ 2 ^ rest.length := by
          rw [← Nat.pow_succ]; exact Nat.pow_le_pow_right (by decide) hlen
        calc (hh + (eb + (hh + eb)) + 1 + 2 * eb + 1) * 2 ^ (divStep ys rest).length = (hh + 2 * eb + 1) * (2 ^ (divStep ys rest).length * 2) := by
              rw [show hh + (eb + (hh + eb)) + 1 + 2 * eb + 1 = (hh + 2 * eb + 1) * 2 by lia, Nat.mul_assoc, Nat.mul_comm 2 (2 ^ _)]
          _ ≤ (hh + 2 * eb + 1) * 2 ^ rest.length := Nat.mul_le_mul_left _ h2
      · rw [← hdv]
        obtain ⟨f', rfl⟩ : ∃ f', fuel = f' + 1 := ⟨fuel - 1, (Nat.sub_add_cancel (Nat.lt_of_lt_of_le (Nat.lt_of_lt_of_le hb1 hge) hfu)).symm⟩
        show divR ys f' _ _ = if rest.length < ys.length then _ else _
        rw [if_neg (Nat.not_lt.mpr hge)]
    · have hlt : rest.length < ys.length := by simpa [cI] using hb
      have F5 := frExt F4 e5
      have o5 := o.ext F5.keep
      have hres : divR ys fuel found rest = (found, rest) := by
        cases fuel with
        | zero => rfl
        | succ f' => show (if rest.length < ys.length then _ else _) = _; rw [if_pos hlt]
      rw [hres] at hdv
      refine ret_ (S := New s.heap) (d := .tuple [pD (qdivmodR xs ys).1, pD (qdivmodR xs ys).2]) hA1 ?_ fun v h' tk e r => k v h' tk (Ext.tr F5.keep e) r
      have e1 : (qdivmodR xs ys) = (trim found, rest) := by unfold qdivmodR; rw [← hdv]
      rw [e1]
      exact .tuple (.cons (.call o5 rfl rfl (.cons (.loc F5.ns mf (.list trivial (isList_ext lg e5) (rg.any.mono e5))) .nil) (Con.le (n := 1) (qtrim_con found (by lia)) (by decide)) fun a ha => New.ext F5.keep ha) (.cons (.loc F5.ns mr ((rr.mono e5).re fun _ _ z _ => z.1)) .nil))
end
end Mine

namespace Mine
def spIn (a : List Rat) (q : Rat) (found : List Rat) (at' : Nat) : Nat → Rat
  | 0 => 0
  | k + 1 => spIn a q found at' k + (q * ((k + 1 : Nat) : Rat) - ((at' - (k + 1) : Nat) : Rat)) * a.getD (k + 1) 0 * found.getD (at' - (k + 1)) 0
def spOut (a : List Rat) (q : Rat) : Nat → List Rat
  | 0 => []
  | k + 1 => spOut a q k ++ [if k = 0 then 1 else spIn a q (spOut a q k) k k / ((k : Nat) : Rat)]
def spowerR (a : List Rat) (q : Rat) : List Rat := spOut a q a.length
theorem len_spOut (a : List Rat) (q : Rat) : ∀ k, (spOut a q k).length = k
  | 0 => rfl
  | k + 1 => by show (_ ++ [_]).length = _; rw [List.length_append, len_spOut a q k]; rfl
theorem rD_nat (k : Nat) : rD (k : Rat) = .tuple [.int k, .int 1] := by
  show PyData.tuple [.int ((k : Rat)).num, .int ((k : Rat)).den] = _
  rw [Rat.num_natCast, Rat.den_natCast]; rfl
theorem Hb.nat {k : Nat} (h : k ≤ 1000) : Hb 10 (k : Rat) := ⟨by rw [Rat.num_natCast]; show _ < 1024; lia, by rw [Rat.den_natCast]; decide⟩
theorem Hb.spIn {a found : List Rat} {q : Rat} {ea eq at' : Nat} (ha : Hs ea a) (hea : 1 ≤ ea) (hq : Hb eq q) (hf : Hs 64 found) (hat : at' ≤ 999) : ∀ k, k ≤ at' → Hb (1 + k * (eq + ea + 86)) (spIn a q found at' k)
  | 0, _ => by rw [Nat.zero_mul]; exact Hb.zero (by lia)
  | k + 1, hk => by
    have h1 := Hb.spIn ha hea hq hf hat k (by lia)
    have h2 := ((((hq.mul (Hb.nat (k := k + 1) (by lia))).sub (Hb.nat (k := at' - (k + 1)) (by lia))).mul (ha.at hea (k + 1))).mul (hf.at (by decide) (at' - (k + 1))))
    exact (h1.add h2).le (by rw [Nat.succ_mul]; lia)
section
variable {prog : Program} {w : World} {p : Program} {loose : List Str} {mg mb : Str → Option Value}

theorem qcompose_con (xs ys : List Rat) {ea eb hh : Nat} (hx : Hs ea xs) (hy : Hs eb ys) (hi : 1 ≤ ea) (hj : 1 ≤ eb) (hh1 : 1 ≤ hh) (lx : xs.length ≤ 30) (ly : ys.length ≤ 30)
    (hc : ∀ i, i < xs.length → Hs hh (compR xs ys i) ∧ (compR xs ys i).length ≤ 30) (hbd : 1 + 30 * (30 * (hh + eb + 1)) + ea ≤ 67108864) : Con (cx prog w p loose mg mb) 5 184 [pD xs, pD ys] (pD (qcomposeR xs ys)) := by
  intro A s vs Q E hA o hr k
  obtain ⟨va, vb, rfl, ra, rb⟩ := hr.two
  obtain ⟨a, us, rfl, _, la, ru⟩ := ra.list_inv
  have hn := ru.length
  rw [List.length_map] at hn
  refine enter (n := 4) (binds := [("a", .ref a), ("b", vb)]) hA o rfl rfl rfl (locs rfl) (by decide) rfl rfl rfl fun L h1 tk F hA1 => ?_
  refine asg (S := New s.heap) (d := pD []) hA1 F (EvN.ev (.listd .nil) fun a ha => New.ext F.keep ha) fun v h2 tk2 F2 e2 r2 => ?_
  have o2 := o.ext F2.keep
  refine for_ (n := 4) hA1 F2 [] (by intro b hb; cases hb) (It.rev o2 rfl (locRef F2.ns rfl) la F2.keep) (fun i h m => m "b" = some vb ∧ ∃ vf, m "found" = some vf ∧ Rp (New s.heap) h vf (pD (compR xs ys i))) (fun i m => .a (.c _) (.e fun vf => .a (.c _) (.rp _ _ _))) ⟨rfl, v, rfl, r2⟩ ?_ ?_
  · rintro i v3 h3 m tk3 hi' hv F3 ⟨mb', vf, mf, rf⟩
    rw [List.size_toArray, hn] at hv hi'
    obtain ⟨_, rv⟩ := item rD 0 ru hv
    have o3 := o.ext F3.keep
    obtain ⟨hc1, hc2⟩ := hc i hi'
    have hm : (compR xs ys i).length * (ys.length * (hh + eb + 1)) ≤ 30 * (30 * (hh + eb + 1)) := Nat.mul_le_mul hc2 (Nat.mul_le_mul_right _ ly)
    have hlm : (qmulR (compR xs ys i) ys).length ≤ 60 := by
      unfold qmulR
      split
      · exact Nat.zero_le _
      · rw [len_rows]; lia
    have hnum : Hs ea [xs.getD (xs.length - 1 - i) 0] := fun q hq => by
      rw [List.mem_singleton.mp hq]; exact hx.at hi _
    refine asg (S := New s.heap) (d := pD (compR xs ys (i + 1))) hA1 F3 (.call o3 rfl rfl (.cons (.call o3 rfl rfl (.cons (.loc F3.ns mf rf.any) (.cons (.loc F3.ns mb' (rb.mono F3.keep)) .nil)) (qmul_con _ ys hc1 hy hh1 hj (by lia) (by lia) (by lia)) fun _ _ => trivial) (.cons (.call o3 rfl rfl (.cons (EvN.any (S := Any) (.listd (.cons (.loc F3.ns rfl (rv.mono F3.keep)) .nil))) .nil)
        (Con.le (n := 1) (qtrim_con [xs.getD (xs.length - 1 - i) 0] (by simp)) (by decide)) fun _ _ => trivial) .nil)) (qadd_con _ _ (hc1.mul hh1 hy hj) hnum.trim (by lia) hi (by lia) (by lia) (Nat.le_trans (len_trim _) (by simp))) fun a ha => New.ext F3.keep ha) fun v4 h4 tk4 F4 e4 r4 => ?_
    exact execs_nil' ⟨rfl, h4, _, tk4, rfl, F4, fun b o' n1 _ e => e4 b o' n1 e, mb', v4, rfl, r4⟩
  · rintro h m tk3 F3 ⟨mb', vf, mf, rf⟩ kp
    rw [List.size_toArray, hn] at rf
    exact ret_ (S := New s.heap) (d := pD (qcomposeR xs ys)) hA1 (.loc F3.ns mf rf) fun v h' tk e r => k v h' tk (Ext.tr F3.keep e) r

theorem spB {eq ea a : Nat} (h : 31 * (eq + ea + 86) + 100 ≤ 67108864) (ha : a ≤ 30) : eq + 10 ≤ 134217728 ∧ eq + 10 + 10 ≤ 134217728 ∧ eq + 10 + 10 + 1 + ea ≤ 134217728 ∧ eq + 10 + 10 + 1 + ea + 64 ≤ 134217728 ∧
    1 + a * (eq + ea + 86) + (eq + 10 + 10 + 1 + ea + 64) ≤ 134217728 ∧ 1 + a * (eq + ea + 86) + 10 ≤ 134217728 := by
  have := Nat.mul_le_mul_right (eq + ea + 86) ha
  omega
theorem spower_con (xs : List Rat) (q : Rat) {ea eq : Nat} (hx : Hs ea xs) (hi : 1 ≤ ea) (hq : Hb eq q) (lx : xs.length ≤ 30) (h0 : 1 ≤ xs.length) (hx0 : xs.getD 0 0 = 1) (hs : ∀ k, k ≤ xs.length → Hs 64 (spOut xs q k))
    (hbd : 31 * (eq + ea + 86) + 100 ≤ 67108864) : Con (cx prog w p loose mg mb) 4 127 [pD xs, rD q] (pD (spowerR xs q)) := by
  intro A s vs Q E hA o hr k
  obtain ⟨va, vb, rfl, ra, rb⟩ := hr.two
  refine enter (n := 3) (binds := [("a", va), ("number", vb)]) hA o rfl rfl rfl (locs rfl) (by decide) rfl rfl rfl fun L h1 tk F hA1 => ?_
  have o1 := o.ext F.keep
  refine expr_ hA1 (.callF o1 rfl rfl (.cons (.loc F.ns rfl (ra.mono F.keep)) (.cons (.top o1 rfl (R1_rp o1)) .nil)) (Con.le (n := 2) (need_begin_con _ (by simp; lia) (by rw [map_at h0, hx0])) (by decide))) fun h2 tk2 e2 => ?_
  have F2 := frExt F e2
  refine asgN (S := Off) hA1 F2 (.listd .nil) fun W ws h3 tk3 F3 e3 hW p3 r3 => ?_
  have hWH : s.heap.get? W = none := New.ext F2.keep hW
  have o3 := o.ext F3.keep
  have hx1 : xs.length ≤ 1000 := Nat.le_trans lx (by decide)
  refine for_ (n := 3) hA1 F3 [W] ?_ (It.rangeN (H := s.heap) (N := xs.length) (Nat.le_trans lx (by decide)) o3 rfl (Ev.to (.len o3 rfl (.loc F3.ns rfl (ra.mono F3.keep)) (leM hx1)) (by rw [List.length_map])))
    (fun i h m => m "a" = some va ∧ m "number" = some vb ∧ m "found" = some (.ref W) ∧ ∃ vs, h.PlainList W (List.toArray vs) ∧ Rps Off h vs ((spOut xs q i).map rD)) (fun i m => .a (.c _) (.a (.c _) (.a (.c _) (.e fun vs => .a (.p _ _) (.rps _ _ _))))) ⟨rfl, rfl, rfl, ws, p3, r3⟩ ?_ ?_
  · intro z hz
    rw [List.mem_singleton.mp hz]
    exact ⟨hWH, by obtain ⟨kk, hk⟩ := p3; exact ⟨_, hk⟩⟩
  · rintro at' v4 h4 m tk4 hat ⟨t, rfl⟩ F4 ⟨ma, mn, mf, fs, pf, rf⟩
    have hat' : at' < xs.length := by simpa using hat
    have o4 := o.ext F4.keep
    refine asg (S := Off) (d := rD 0) hA1 F4 (.top o4 rfl (R0_rp o4)) fun v5 h5 tk5 F5 e5 r5 => ?_
    have pf5 : h5.PlainList W fs.toArray := pf.extBut e5 (ne_locals F4.ns pf.isList)
    have rf5 := rf.but F4.ns e5
    have o5 := o.ext F5.keep
    have hF := hs at' (Nat.le_of_lt hat')
    have hlF := len_spOut xs q at'
    have ha30 : at' ≤ 30 := Nat.le_trans (Nat.le_of_lt hat') lx
    have ha1 : at' ≤ 1000 := Nat.le_trans ha30 (by decide)
    have B := spB hbd ha30
    refine for_ (n := 3) hA1 F5 [] (by intro b hb; cases hb) (It.range2 (H := s.heap) (a := 1) (b := (at' : Int) + 1) (N := at') (by rw [Int.add_sub_cancel]; rfl) o5 rfl .const (.add (.loc F5.ns rfl (.int _ _)) .const) (by decide) (by decide) (Int.le_trans (by decide) (nnM (at' + 1))) (Int.ofNat_le.mpr (show at' + 1 ≤ 16777216 from Nat.le_trans (Nat.succ_le_succ ha30) (by decide))))
      (fun i h m => m "a" = some va ∧ m "number" = some vb ∧ m "found" = some (.ref W) ∧ m "at" = some (.int (at' : Int) t) ∧ h.PlainList W fs.toArray ∧ Rps Off h fs ((spOut xs q at').map rD) ∧ ∃ vt, m "total" = some vt ∧ Rp Off h vt (rD (spIn xs q (spOut xs q at') at' i)))
      (fun i m => .a (.c _) (.a (.c _) (.a (.c _) (.a (.c _) (.a (.p _ _) (.a (.rps _ _ _) (.e fun vt => .a (.c _) (.rp _ _ _)))))))) ⟨ma, mn, mf, rfl, pf5, rf5, v5, rfl, r5⟩ ?_ ?_
    · rintro i v6 h6 m6 tk6 hi6 ⟨t6, rfl⟩ F6 ⟨na, nn, nf, nat, pf6, rf6, vt, nt, rt⟩
      have o6 := o.ext F6.keep
      have hHt : Hb (1 + at' * (eq + ea + 86)) (spIn xs q (spOut xs q at') at' i) := (Hb.spIn hx hi hq hF (Nat.le_trans ha30 (by decide)) i (Nat.le_of_lt hi6)).le (Nat.add_le_add_left (Nat.mul_le_mul_right _ (Nat.le_of_lt hi6)) 1)
      have hi1 : i + 1 ≤ 1000 := Nat.le_trans hi6 ha1
      have hd1 : at' - (i + 1) ≤ 1000 := Nat.le_trans (Nat.sub_le _ _) ha1
      have e1 : (1 : Int) + (i : Int) = ((i + 1 : Nat) : Int) := Int.add_comm 1 i
      have e2 : (at' : Int) - (1 + (i : Int)) = ((at' - (i + 1) : Nat) : Int) := by rw [Int.add_comm 1]; exact (Int.ofNat_sub hi6).symm
      have hT := (hq.mul (Hb.nat (k := i + 1) hi1)).sub (Hb.nat (k := at' - (i + 1)) hd1)
      refine asg (S := Off) (d := rD (q * ((i + 1 : Nat) : Rat) - ((at' - (i + 1) : Nat) : Rat))) hA1 F6 (.callF o6 rfl rfl (.cons (.callF o6 rfl rfl (.cons (.loc F6.ns nn (rb.mono F6.keep)) (.cons (Ev.to (.tuple (.cons (.loc F6.ns rfl (.int _ _)) (.cons .const .nil))) ?_) .nil)) (rmul_con _ _ hq (Hb.nat (k := i + 1) hi1) B.1)) (.cons (Ev.to (.tuple (.cons (.sub (.loc F6.ns nat (.int _ _)) (.loc F6.ns rfl (.int _ _))) (.cons .const .nil))) ?_) .nil)) (rsub_con _ _ (hq.mul (Hb.nat (k := i + 1) hi1)) (Hb.nat (k := at' - (i + 1)) hd1) B.2.1)) fun v7 h7 tk7 F7 e7 r7 => ?_
      · rw [rD_nat, e1]
      · rw [rD_nat, e2]
      have pf7 : h7.PlainList W fs.toArray := pf6.extBut e7 (ne_locals F6.ns pf6.isList)
      have rf7 := rf6.but F6.ns e7
      have rt7 := rt.but F6.ns e7
      have o7 := o.ext F7.keep
      refine asg (S := Off) (d := rD (spIn xs q (spOut xs q at') at' (i + 1))) hA1 F7 (.callF o7 rfl rfl (.cons (.loc F7.ns nt rt7.any) (.cons (.callF o7 rfl rfl (.cons (.callF o7 rfl rfl (.cons (.loc F7.ns rfl r7.any) (.cons (.listAtN rD 0 (.loc F7.ns na (ra.mono F7.keep)) (Ev.to (.loc F7.ns rfl (.int _ _)) (congrArg PyData.int e1)) (Nat.lt_of_le_of_lt hi6 hat') hx1) .nil)) (rmul_con _ _ hT (hx.at hi (i + 1)) B.2.2.1))
        (.cons (.listAtN rD 0 (.loc F7.ns nf (.list trivial pf7.isList rf7.any)) (Ev.to (.sub (.loc F7.ns nat (.int _ _)) (.loc F7.ns rfl (.int _ _))) (congrArg PyData.int e2)) (hlF.symm ▸ Nat.sub_lt (Nat.lt_of_le_of_lt (Nat.zero_le _) hi6) (Nat.succ_pos i)) (hlF.symm ▸ ha1)) .nil)) (rmul_con _ _ (hT.mul (hx.at hi (i + 1))) (hF.at (by decide) _) B.2.2.2.1)) .nil)) (radd_con _ _ hHt ((hT.mul (hx.at hi (i + 1))).mul (hF.at (by decide) _)) B.2.2.2.2.1)) fun v8 h8 tk8 F8 e8 r8 => ?_
      exact execs_nil' ⟨rfl, h8, _, tk8, rfl, F8, fun b o' n1 _ e => e8 b o' n1 (e7 b o' n1 e), na, nn, nf, nat, pf7.extBut e8 (ne_locals F7.ns pf7.isList), rf7.but F7.ns e8, v8, rfl, r8⟩
    · rintro h6 m6 tk6 F6 ⟨na, nn, nf, nat, pf6, rf6, vt, nt, rt⟩ kp
      have o6 := o.ext F6.keep
      have hHt : Hb (1 + at' * (eq + ea + 86)) (spIn xs q (spOut xs q at') at' at') := Hb.spIn hx hi hq hF (Nat.le_trans ha30 (by decide)) at' (Nat.le_refl _)
      refine append_ (d := rD (if at' = 0 then 1 else spIn xs q (spOut xs q at') at' at' / ((at' : Nat) : Rat))) hA1 F6 nf pf6 rf6 hWH (.ife (.ints (.loc F6.ns nat (.int _ _)) .const) (fun hb => ?_) fun hb => ?_) (by rw [List.length_map, hlF]; exact Nat.le_trans ha1 (by decide)) fun h7 tk7 v7 F7 p7 r7 e7 => execs_nil' ?_
      · have hz : at' = 0 := by simpa [cI] using hb
        rw [if_pos hz]
        exact .top o6 rfl (R1_rp o6)
      · have hz : at' ≠ 0 := by simpa [cI] using hb
        have hne : ((at' : Nat) : Rat) ≠ 0 := fun e => hz (by have := congrArg Rat.num e; rw [Rat.num_natCast] at this; exact Int.ofNat.inj this)
        rw [if_neg hz]
        have hL := hs (at' + 1) hat' (spIn xs q (spOut xs q at') at' at' / ((at' : Nat) : Rat)) (by
          show _ ∈ spOut xs q at' ++ [_]
          rw [if_neg hz]; simp)
        exact .callF o6 rfl rfl (.cons (.callF o6 rfl rfl (.cons (.loc F6.ns nt rt.any) (.cons (Ev.to (.tuple (.cons (.loc F6.ns nat (.int _ _)) (.cons .const .nil))) (rD_nat at').symm) .nil)) (rdiv_con _ _ hHt (Hb.nat ha1) B.2.2.2.2.2 hne)) .nil) (Con.le (n := 2) (let_con _ hL) (by decide))
      · refine ⟨rfl, h7, _, tk7, rfl, F7, fun b o' n1 n2 e => e7 b o' (fun q => n2 (by rw [q]; exact List.mem_singleton.mpr rfl)) (kp b o' n1 (by simp) (e5 b o' n1 e)), na, nn, nf, fs ++ [v7], p7, ?_⟩
        show Rps Off h7 _ ((spOut xs q at' ++ [_]).map rD)
        rw [List.map_append]
        exact r7
  · rintro h m tk4 F4 ⟨ma, mn, mf, fs, pf, rf⟩ kp
    exact ret_ (S := New s.heap) (d := pD (spowerR xs q)) hA1 (.loc F4.ns mf (.list hWH pf.isList (rf.re fun _ _ z _ => z.elim))) fun v h' tk e r => k v h' tk (Ext.tr F4.keep e) r
end
end Mine

namespace Mine
def ztrimN (xs : List Int) : Nat → Nat
  | 0 => 0
  | k + 1 => if xs.getD k 0 = 0 then ztrimN xs k else k + 1
def ztrim (xs : List Int) : List Int := xs.take (ztrimN xs xs.length)
abbrev pZ (xs : List Int) : PyData := .list (xs.map .int)
def zaddL (a b : List Int) : List Int := (List.range (max a.length b.length)).map fun i => a.getD i 0 + b.getD i 0
def zaddR (a b : List Int) : List Int := ztrim (zaddL a b)
def zupd (f : List Int) (i : Nat) (q : Int) : List Int := f.set i (f.getD i 0 + q)
def zRow (l : Int) (b : List Int) (r : Nat) (f : List Int) : Nat → List Int
  | 0 => f
  | k + 1 => zupd (zRow l b r f k) (r + k) (l * b.getD k 0)
def zRows (a b : List Int) : Nat → List Int
  | 0 => List.replicate (a.length + b.length - 1) 0
  | k + 1 => if a.getD k 0 = 0 then zRows a b k else zRow (a.getD k 0) b k (zRows a b k) b.length
def zmulR (a b : List Int) : List Int := if a.length = 0 ∨ b.length = 0 then [] else zRows a b a.length
def zcompR (a b : List Int) : Nat → List Int
  | 0 => []
  | k + 1 => zaddR (zmulR (zcompR a b k) b) (ztrim [a.getD (a.length - 1 - k) 0])
def zcomposeR (a b : List Int) : List Int := zcompR a b a.length
def zHs (k : Nat) (xs : List Int) : Prop := ∀ x ∈ xs, x.natAbs < 2 ^ k
theorem zHs.at {k : Nat} {xs : List Int} (h : zHs k xs) (i : Nat) : (xs.getD i 0).natAbs < 2 ^ k := by
  by_cases hi : i < xs.length
  · rw [List.getD_eq_getElem?_getD, List.getElem?_eq_getElem hi]
    exact h _ (List.getElem_mem hi)
  · rw [List.getD_eq_getElem?_getD, List.getElem?_eq_none (by lia)]
    exact Nat.two_pow_pos k
theorem flats_int : ∀ xs : List Int, flats (xs.map .int) = true
  | [] => rfl
  | x :: xs => by
    simp only [List.map_cons, flats, flats_int xs, Bool.and_true]
    rfl
theorem len_zRow {l : Int} {b f : List Int} {r : Nat} : ∀ k, (zRow l b r f k).length = f.length
  | 0 => rfl
  | k + 1 => by show (zupd _ _ _).length = _; rw [zupd, List.length_set, len_zRow k]
theorem len_zRows {a b : List Int} : ∀ k, (zRows a b k).length = a.length + b.length - 1
  | 0 => List.length_replicate
  | k + 1 => by
    show (if a.getD k 0 = 0 then zRows a b k else zRow (a.getD k 0) b k (zRows a b k) b.length).length = _
    split
    · exact len_zRows k
    · rw [len_zRow, len_zRows k]
theorem len_zmul (a b : List Int) : (zmulR a b).length ≤ a.length + b.length := by
  unfold zmulR
  split
  · exact Nat.zero_le _
  · rw [len_zRows]; lia
section
variable {c : Cx} {n : Nat} {env : Env} {S : Addr → Prop} {A : Around} {s : Shared} {H : Heap} {m : Str → Option Value} {E : Value → Shared → Prop} {Q : Flow → Shared → Prop} {rest : List Stmt}
/-- x[i] += e, x a list of ints, the call's own -/
theorem augAt_ {x : Str} {p p' pos : Pos} {i e : Expr} {W : Addr} {vs : List Value} {zs : List Int} {d : Int} {k : Nat} (hA : Rm n A) (F : Fr H env.locals s.heap m) (hv : m x = some (.ref W)) (hl : s.heap.IsList W vs.toArray) (rs : Rps Off s.heap vs (zs.map .int))
    (hW : H.get? W = none) (he : Ev c n env s.heap Off e (.int d)) (hi : Ev c n env s.heap Any i (.int (k : Int))) (h1 : k < zs.length) (h2 : k ≤ 2000)
    (q : ∀ h' tk vs', Fr H env.locals h' m → h'.IsList W vs'.toArray → Rps Off h' vs' ((zupd zs k d).map .int) → Heap.ExtBut W s.heap h' → wpAny (model c.prog c.w) A (execs rest env) Q E (up s h' tk))
    (hx : env.kindOf x = some .local := by rfl) (hk : env.scope.kind = .function := by rfl) (hd : (x == ("__debug__" : Str)) = false := by decide)
    (ha : ∀ ov iv new, augStore i ov iv new = (do holding [new, ov, iv] (setItem ov iv new); release [new, ov, iv] []; pure .next) := by intro _ _ _; rfl) :
    wpAny (model c.prog c.w) A (execs (.AugAssign (.Subscript (.Name x p) i p') .Add e pos :: rest) env) Q E s := by
  refine wpAny_execs_cons (wpAny_AugAssign_Subscript_any ?_ ha)
  refine wpAny_Name (wpAny_loadName_local hk hx F.ns hv ?_) hd
  refine hi A s _ _ hA Ext.rfl' fun u h3 t3 e3 r3 => ?_
  obtain ⟨t, rfl⟩ := r3.int_inv
  have hl3 := isList_ext hl e3
  obtain ⟨y, hy, ry⟩ := (rs.mono e3).at (map_atG PyData.int 0 (i := k) h1)
  obtain ⟨ty, rfl⟩ := ry.int_inv
  have hsz : vs.length = zs.length := by rw [rs.length, List.length_map]
  refine wpAny_getItem_list hl3 (nnM k) (ixM h2) (by simpa using hy) ?_
  refine he A _ _ _ hA e3 fun v h4 t4 e4 r4 => ?_
  obtain ⟨t', rfl⟩ := r4.int_inv
  refine PyProof.Rows.iadd_int ?_
  have hl4 := isList_ext hl3 e4
  have F4 := frExt (frExt F e3) e4
  have hne := ne_locals F4.ns hl4
  refine wpAny_setItem_list hl4 (nnM k) (ixM h2) (by rw [List.size_toArray, hsz]; exact Int.ofNat_lt.mpr h1) fun h' hl' hs' => ?_
  refine q h' _ (vs.set k (.int (zs.getD k 0 + d) t4)) (frBut F4 hW hne hs'.extBut) (by simpa using hl') ?_ (fun b o hb e => hs'.extBut b o hb (e4 b o (e3 b o e)))
  rw [zupd, List.map_set]
  exact Rps.off (fun _ x => x.elim) hl4 hs'.extBut (Rps.set (.int _ _) k ((rs.mono e3).mono e4))
end
section
variable {prog : Program} {w : World} {p : Program} {loose : List Str} {mg mb : Str → Option Value}

theorem ztrim_con (xs : List Int) (hl : xs.length ≤ 1000) : Con (cx prog w p loose mg mb) 1 191 [pZ xs] (pZ (ztrim xs)) := by
  intro A s vs Q E hA o hr k
  obtain ⟨va, rfl, ra⟩ := hr.one
  refine enter (n := 0) (binds := [("row", va)]) hA o rfl rfl rfl (locs rfl) (by decide) rfl rfl rfl fun L h1 tk F hA1 => ?_
  refine asg (S := Any) hA1 F (.len (o.ext F.keep) rfl (.loc F.ns rfl (ra.mono F.keep)) (leM hl)) fun v h2 tk2 F2 e2 r2 => ?_
  obtain ⟨t, rfl⟩ := r2.int_inv
  refine while_ hA1 (fun k h m => ∃ (j : Nat) (t : Tok), j = k ∧ m "size" = some (.int j t) ∧ m "row" = some va ∧ j ≤ xs.length ∧ ztrimN xs j = ztrimN xs xs.length) xs.length F2 ?_ ?_
  · exact ⟨xs.length, t, rfl, by simp, rfl, Nat.le_refl _, rfl⟩
  · rintro k' h m ⟨j, t, hj, hs, hrow, hle, htr⟩ F'
    subst hj
    refine ⟨cmpI .Gt j 0 && cmpI .Eq (xs.getD (j - 1) 0) 0, .and (.ints (.loc F'.ns hs (.int _ _)) .const) (fun hb => ?_), fun hb h1 tk1 e1 => ?_, fun hb h1 tk1 e1 => ?_⟩
    · have hj : 0 < j := by simpa [cI] using hb
      have ej : PyData.int ((j : Int) - 1) = PyData.int ((j - 1 : Nat) : Int) := congrArg PyData.int (Int.ofNat_sub hj).symm
      have hj1 : j - 1 < xs.length := Nat.lt_of_lt_of_le (Nat.sub_lt hj Nat.one_pos) hle
      exact .ints (.listAt (.loc F'.ns hrow (ra.mono F'.keep)) (Ev.to (.sub (.loc F'.ns hs (.int _ _)) .const) ej) (map_atG PyData.int 0 hj1) (nnM _) (ixM (Nat.le_of_lt (Nat.lt_of_lt_of_le hj1 (Nat.le_trans hl (by decide)))))) .const
    · have hj : 0 < j ∧ (xs.getD (j - 1) 0) = 0 := by simpa [cI] using hb
      obtain ⟨j, rfl⟩ : ∃ i, j = i + 1 := ⟨j - 1, (Nat.sub_add_cancel hj.1).symm⟩
      have F1 := frExt F' e1
      refine augSub hA1 F1 hs .const fun t' h' tk' F3 e3 => execs_nil' ⟨rfl, j, _, _, _, Nat.lt_succ_self _, rfl, F3, j, t', rfl, ?_, hrow, Nat.le_of_lt hle, ?_⟩
      · show some (Value.int (((j + 1 : Nat) : Int) - 1) t') = _
        rw [show ((j + 1 : Nat) : Int) - 1 = (j : Int) from Int.add_sub_cancel (j : Int) 1]
      · rw [← htr]
        show _ = if xs.getD j 0 = 0 then ztrimN xs j else j + 1
        rw [if_pos (show xs.getD j 0 = 0 from hj.2)]
    · have F1 := frExt F' e1
      refine ret_ (S := New s.heap) hA1 (EvN.ev (.copy (o.ext F1.keep) rfl (EvN.any (S := Any) (.upto (.loc F1.ns hrow (ra.mono F1.keep)) (.loc F1.ns hs (.int _ _)) (leM hl) (flats_int xs) (fun vs hl => upto_nonneg (nnM j) vs hl))) ?_ ?_) fun a ha => New.ext F1.keep ha) fun v h' tk e r => ?_
      · rw [List.length_take]; exact Nat.le_trans (Nat.min_le_right _ _) (leM hl)
      · rw [← List.map_take]; exact flats_int _
      · have ht : j = ztrimN xs xs.length := by
          rw [← htr]
          cases j with
          | zero => rfl
          | succ j =>
            have hne : ¬ xs.getD j 0 = 0 := fun q => by
              have : (xs.getD (j + 1 - 1) 0) = 0 := by rw [Nat.add_sub_cancel, q]
              have h0 : cmpI .Gt ((j + 1 : Nat) : Int) 0 = true := by simp [cI]
              rw [this, h0] at hb
              cases hb
            show j + 1 = if xs.getD j 0 = 0 then ztrimN xs j else j + 1
            rw [if_neg hne]
        rw [show ((j : Int)).toNat = j from rfl, ← List.map_take, ht] at r
        exact k v h' tk (Ext.tr F1.keep e) r

theorem zadd_con (xs ys : List Int) (lx : xs.length ≤ 1000) (ly : ys.length ≤ 1000) : Con (cx prog w p loose mg mb) 4 196 [pZ xs, pZ ys] (pZ (zaddR xs ys)) := by
  intro A s vs Q E hA o hr k
  obtain ⟨va, vb, rfl, ra, rb⟩ := hr.two
  refine enterC (n := 3) (binds := [("a", va), ("b", vb)]) hA o rfl rfl rfl rfl rfl rfl rfl fun L h1 tk F hC hA1 => ?_
  have ca : h1.IsCell (L + 1) (some va) := hC "a" (L + 1) rfl
  have cb : h1.IsCell (L + 2) (some vb) := hC "b" (L + 2) rfl
  refine asg (S := Any) hA1 F (.max (o.ext F.keep) rfl (.len (o.ext F.keep) rfl (.cell rfl ca (ra.mono F.keep)) (leM lx)) (.len (o.ext F.keep) rfl (.cell rfl cb (rb.mono F.keep)) (leM ly))) fun v h2 tk2 F2 e2 r2 => ?_
  have ca2 := isCell_but F.ns ca e2
  have cb2 := isCell_but F.ns cb e2
  have o2 := o.ext F2.keep
  rw [maxL] at r2
  refine ret_ (S := New s.heap) (d := pZ (zaddR xs ys)) hA1 (.call o2 rfl rfl (.cons (EvN.any (S := Any) (.comp (N := max xs.length ys.length) (.rangeN (H := h2) (maxM lx ly) o2 rfl (.loc F2.ns rfl r2)) Ext.rfl' (maxM lx ly) rfl (fun i => .int (xs.getD i 0 + ys.getD i 0)) ?_)) .nil) ?_ (fun a ha => New.ext F2.keep ha)) fun v h' tk e r => ?_
  · intro i v C h m hi ⟨t, hv⟩ hx2 hn hm
    subst hv
    have o3 := o2.ext hx2
    have ca3 := isCell_ext ca2 hx2
    have cb3 := isCell_ext cb2 hx2
    have ra3 := (ra.mono F2.keep).mono hx2
    have rb3 := (rb.mono F2.keep).mono hx2
    refine .add (.ife (.ints (.loc hn hm (.int _ _)) (.len o3 rfl (.cell rfl ca3 ra3) (leM lx))) (fun hb => ?_) (fun hb => ?_)) (.ife (.ints (.loc hn hm (.int _ _)) (.len o3 rfl (.cell rfl cb3 rb3) (leM ly))) (fun hb => ?_) (fun hb => ?_))
    · have hb : i < xs.length := by simpa [cI] using hb
      exact .listAtN PyData.int 0 (.cell rfl ca3 ra3) (.loc hn hm (.int _ _)) hb lx
    · have hb : xs.length ≤ i := by simpa [cI] using hb
      rw [show xs.getD i 0 = 0 by rw [List.getD_eq_getElem?_getD, List.getElem?_eq_none hb]; rfl]
      exact .const
    · have hb : i < ys.length := by simpa [cI] using hb
      exact .listAtN PyData.int 0 (.cell rfl cb3 rb3) (.loc hn hm (.int _ _)) hb ly
    · have hb : ys.length ≤ i := by simpa [cI] using hb
      rw [show ys.getD i 0 = 0 by rw [List.getD_eq_getElem?_getD, List.getElem?_eq_none hb]; rfl]
      exact .const
  · have := ztrim_con (prog := prog) (w := w) (p := p) (loose := loose) (mg := mg) (mb := mb) (zaddL xs ys) (by simp [zaddL]; lia)
    refine Con.le (n := 1) (m := 3) ?_ (by decide)
    have e : (List.range (max xs.length ys.length)).map (fun i => PyData.int (xs.getD i 0 + ys.getD i 0)) = (zaddL xs ys).map .int := by rw [zaddL, List.map_map]; rfl
    rw [e]
    exact this
  · exact k v h' tk (Ext.tr F2.keep e) r

theorem zmul_con (xs ys : List Int) {ea eb : Nat} (hx : zHs ea xs) (hy : zHs eb ys) (lx : xs.length ≤ 1000) (ly : ys.length ≤ 1000) (hij : ea + eb ≤ 134217728) : Con (cx prog w p loose mg mb) 1 203 [pZ xs, pZ ys] (pZ (zmulR xs ys)) := by
  intro A s vs Q E hA o hr k
  obtain ⟨va, vb, rfl, ra, rb⟩ := hr.two
  obtain ⟨a, us, rfl, _, la, ru⟩ := ra.list_inv
  obtain ⟨b, ws, rfl, _, lb, rw'⟩ := rb.list_inv
  have hn := ru.length
  rw [List.length_map] at hn
  have hm := rw'.length
  rw [List.length_map] at hm
  refine enter (n := 0) (binds := [("a", .ref a), ("b", .ref b)]) hA o rfl rfl rfl (locs rfl) (by decide) rfl rfl rfl fun L h1 tk F hA1 => ?_
  have o1 := o.ext F.keep
  refine execs_if hA1 (.or (.ints (.len o1 rfl (.loc F.ns rfl (ra.mono F.keep)) (leM lx)) .const) fun _ => .ints (.len o1 rfl (.loc F.ns rfl (rb.mono F.keep)) (leM ly)) .const) (fun h2 tk2 e2 hb => ?_) fun h2 tk2 e2 hb => ?_
  · have h0 : xs.length = 0 ∨ ys.length = 0 := by
      simp [cI] at hb
      exact hb.imp (by rintro rfl; rfl) (by rintro rfl; rfl)
    have F2 := frExt F e2
    refine ret_ (S := New s.heap) (d := pZ (zmulR xs ys)) hA1 (EvN.ev ?_ fun a ha => New.ext F2.keep ha) fun v h' tk e r => k v h' tk (Ext.tr F2.keep e) r
    rw [zmulR, if_pos h0]
    exact .listd .nil
  · have h0 : ¬ (xs.length = 0 ∨ ys.length = 0) := by
      intro q
      rcases q with q | q <;> simp [cI, List.length_eq_zero_iff.mp q] at hb
    have F2 := frExt F e2
    have o2 := o.ext F2.keep
    refine execs_nil' ?_
    refine asgN (S := Off) hA1 F2 (ds := (zRows xs ys 0).map .int) (EvN.to (.times (.listd (.cons .const .nil)) (.sub (.add (.len o2 rfl (.loc F2.ns rfl (ra.mono F2.keep)) (leM lx)) (.len o2 rfl (.loc F2.ns rfl (rb.mono F2.keep)) (leM ly))) .const) (by simp; lia) (by simp; lia)) ?_) fun W vs h3 tk3 F3 e3 hW p3 r3 => ?_
    · rw [show zRows xs ys 0 = List.replicate (xs.length + ys.length - 1) 0 from rfl, List.map_replicate]
      congr 1
      simp
      lia
    have hWH : s.heap.get? W = none := New.ext F2.keep hW
    refine forEnum (n := 0) (a := a) hA1 F3 [W] ?_ (o.ext F3.keep) rfl (locRef F3.ns rfl) la (fun i h m => m "a" = some (.ref a) ∧ m "b" = some (.ref b) ∧ m "found" = some (.ref W) ∧ At h W ((zRows xs ys i).map .int)) (fun i m => .a (.c _) (.a (.c _) (.a (.c _) (.at _ _)))) ⟨rfl, rfl, rfl, vs, p3.isList, r3⟩ ?_ ?_
    · intro z hz
      rw [List.mem_singleton.mp hz]
      exact ⟨hWH, by obtain ⟨kk, hk⟩ := p3; exact ⟨_, hk⟩⟩
    · rintro i v t h m tk4 hv F4 ⟨ma, mb', mf, fs, lf, rf⟩
      obtain ⟨hi', rv⟩ := item PyData.int 0 ru hv
      refine execs_if hA1 (.ints (.loc F4.ns rfl (rv.mono F4.keep)) .const) (fun h4 tk5 e4 hb => ?_) fun h4 tk5 e4 hb => ?_
      · have hz : ¬ xs.getD i 0 = 0 := by simpa [cI] using hb
        have F5 := frExt F4 e4
        refine forEnum (n := 0) (a := b) hA1 F5 [W] ?_ (o.ext F5.keep) rfl (locRef F5.ns mb') lb (fun j h m => m "a" = some (.ref a) ∧ m "b" = some (.ref b) ∧ m "found" = some (.ref W) ∧ m "one" = some (.int i t) ∧ m "left" = some v ∧ At h W ((zRow (xs.getD i 0) ys i (zRows xs ys i) j).map .int)) (fun i m => .a (.c _) (.a (.c _) (.a (.c _) (.a (.c _) (.a (.c _) (.at _ _)))))) ⟨ma, mb', mf, rfl, rfl, fs, isList_ext lf e4, rf.mono e4⟩ ?_ ?_
        · intro z hz
          rw [List.mem_singleton.mp hz]
          exact ⟨hWH, by obtain ⟨oo, ho, _⟩ := isList_ext lf e4; exact ⟨_, ho⟩⟩
        · rintro j' u t' h5 m5 tk5 hu F5 ⟨na, nb, nf, no, nl, gs, lg, rg⟩
          obtain ⟨hj', ru'⟩ := item PyData.int 0 rw' hu
          have hlen : (zRow (xs.getD i 0) ys i (zRows xs ys i) j').length = xs.length + ys.length - 1 := by rw [len_zRow, len_zRows]
          refine augAt_ (W := W) (d := xs.getD i 0 * ys.getD j' 0) (k := i + j') hA1 F5 nf lg rg hWH (.mul (.loc F5.ns nl (rv.mono F5.keep)) (.loc F5.ns rfl (ru'.mono F5.keep)) (mulOk (hx.at i) (hy.at j') hij)) (Ev.to (.add (.loc F5.ns no (.int _ _)) (.loc F5.ns rfl (.int _ _))) (congrArg PyData.int (Int.natCast_add i j').symm)) (hlen ▸ ijM hi' hj') (Nat.le_trans (Nat.le_of_lt (Nat.add_lt_add hi' hj')) (Nat.add_le_add lx ly)) fun h6 tk6 fs' F6 l6 r6 e6 => execs_nil' ?_
          refine ⟨rfl, h6, _, tk6, rfl, F6, fun b' o' n1 n2 e => e6 b' o' (fun q => n2 (by rw [q]; exact List.mem_singleton.mpr rfl)) e, na, nb, nf, no, nl, fs', l6, ?_⟩
          exact r6
        · rintro h5 m5 tk5 F5 ⟨na, nb, nf, no, nl, hat⟩ kp
          rw [List.size_toArray, hm] at hat
          refine execs_nil' (execs_nil' ⟨rfl, h5, m5, tk5, rfl, F5, fun b' o' n1 n2 e => kp b' o' n1 n2 (e4 b' o' e), na, nb, nf, ?_⟩)
          show At h5 W ((if xs.getD i 0 = 0 then _ else _ : List Int).map .int)
          rw [if_neg hz]
          exact hat
      · have hz : xs.getD i 0 = 0 := by simpa [cI] using hb
        refine execs_nil' (execs_nil' ⟨rfl, h4, _, tk5, rfl, frExt F4 e4, fun b' o' n1 n2 e => e4 b' o' e, ma, mb', mf, ?_⟩)
        show At h4 W ((if xs.getD i 0 = 0 then _ else _ : List Int).map .int)
        rw [if_pos hz]
        exact ⟨fs, isList_ext lf e4, rf.mono e4⟩
    · rintro h m tk4 F4 ⟨ma, mb', mf, gs, lg, rg⟩ kp
      rw [List.size_toArray, hn] at rg
      refine ret_ (S := New s.heap) (d := pZ (zmulR xs ys)) hA1 (.loc F4.ns mf ?_) fun v h' tk e r => k v h' tk (Ext.tr F4.keep e) r
      rw [zmulR, if_neg h0]
      exact .list hWH lg (rg.re fun _ _ z _ => z.elim)

theorem zcompose_con (xs ys : List Int) {eb hh : Nat} (hy : zHs eb ys) (lx : xs.length ≤ 30) (ly : ys.length ≤ 30)
    (hc : ∀ i, i < xs.length → zHs hh (zcompR xs ys i) ∧ (zcompR xs ys i).length ≤ 30) (hbd : hh + eb ≤ 67108864) : Con (cx prog w p loose mg mb) 5 210 [pZ xs, pZ ys] (pZ (zcomposeR xs ys)) := by
  intro A s vs Q E hA o hr k
  obtain ⟨va, vb, rfl, ra, rb⟩ := hr.two
  obtain ⟨a, us, rfl, _, la, ru⟩ := ra.list_inv
  have hn := ru.length
  rw [List.length_map] at hn
  refine enter (n := 4) (binds := [("a", .ref a), ("b", vb)]) hA o rfl rfl rfl (locs rfl) (by decide) rfl rfl rfl fun L h1 tk F hA1 => ?_
  refine asg (S := New s.heap) (d := pZ []) hA1 F (EvN.ev (.listd .nil) fun a ha => New.ext F.keep ha) fun v h2 tk2 F2 e2 r2 => ?_
  have o2 := o.ext F2.keep
  refine for_ (n := 4) hA1 F2 [] (by intro b hb; cases hb) (It.rev o2 rfl (locRef F2.ns rfl) la F2.keep) (fun i h m => m "b" = some vb ∧ ∃ vf, m "found" = some vf ∧ Rp (New s.heap) h vf (pZ (zcompR xs ys i))) (fun i m => .a (.c _) (.e fun vf => .a (.c _) (.rp _ _ _))) ⟨rfl, v, rfl, r2⟩ ?_ ?_
  · rintro i v3 h3 m tk3 hi' hv F3 ⟨mb', vf, mf, rf⟩
    rw [List.size_toArray, hn] at hv hi'
    obtain ⟨_, rv⟩ := item PyData.int 0 ru hv
    have o3 := o.ext F3.keep
    obtain ⟨hc1, hc2⟩ := hc i hi'
    have hlm := len_zmul (zcompR xs ys i) ys
    have hlt : (ztrim [xs.getD (xs.length - 1 - i) 0]).length ≤ 1000 := by rw [ztrim, List.length_take, List.length_singleton]; lia
    refine asg (S := New s.heap) (d := pZ (zcompR xs ys (i + 1))) hA1 F3 (.call o3 rfl rfl (.cons (.call o3 rfl rfl (.cons (.loc F3.ns mf rf.any) (.cons (.loc F3.ns mb' (rb.mono F3.keep)) .nil)) (Con.le (n := 1) (zmul_con _ ys hc1 hy (by lia) (by lia) (by lia)) (by decide)) fun _ _ => trivial) (.cons (.call o3 rfl rfl (.cons (EvN.any (S := Any) (.listd (.cons (.loc F3.ns rfl (rv.mono F3.keep)) .nil))) .nil)
        (Con.le (n := 1) (ztrim_con [xs.getD (xs.length - 1 - i) 0] (by simp)) (by decide)) fun _ _ => trivial) .nil)) (zadd_con _ _ (by lia) hlt) fun a ha => New.ext F3.keep ha) fun v4 h4 tk4 F4 e4 r4 => ?_
    exact execs_nil' ⟨rfl, h4, _, tk4, rfl, F4, fun b o' n1 _ e => e4 b o' n1 e, mb', v4, rfl, r4⟩
  · rintro h m tk3 F3 ⟨mb', vf, mf, rf⟩ kp
    rw [List.size_toArray, hn] at rf
    exact ret_ (S := New s.heap) (d := pZ (zcomposeR xs ys)) hA1 (.loc F3.ns mf rf) fun v h' tk e r => k v h' tk (Ext.tr F3.keep e) r
end
end Mine

namespace Mine
theorem Rp.reads {S : Addr → Prop} {h : Heap} {v : Value} {d : PyData} (r : Rp S h v d) : ∃ as, Reads h v d as := by
  refine Rp.rec (motive_1 := fun v d _ => ∃ as, Reads h v d as) (motive_2 := fun vs ds _ => ∃ as, ReadsAll h vs ds as) ⟨_, .none⟩ (fun b => ⟨_, .bool b⟩) (fun i t => ⟨_, .int i t⟩) (fun s x _ ih => ?_) (fun x _ ih => ?_) ⟨_, .nil⟩ (fun _ _ i1 i2 => ?_) r
  · obtain ⟨o, ho, hc, k, hd⟩ := x
    obtain ⟨as, ra⟩ := ih
    exact ⟨_, .list ho hc hd ra⟩
  · obtain ⟨o, ho, hc, k, hd⟩ := x
    obtain ⟨as, ra⟩ := ih
    exact ⟨_, .tuple ho hc hd ra⟩
  · obtain ⟨as, ra⟩ := i1
    obtain ⟨bs, rb⟩ := i2
    exact ⟨_, .cons ra rb⟩
theorem canLay_rD : ∀ xs : List Rat, PyData.canLayAll0 (xs.map rD) = true
  | [] => rfl
  | x :: xs => by simp [PyData.canLayAll0, PyData.canLay0, canLay_rD xs]
theorem depth_rD : ∀ xs : List Rat, PyData.depthAll (xs.map rD) ≤ 1
  | [] => Nat.zero_le _
  | x :: xs => by
    have := depth_rD xs
    simp only [List.map_cons, PyData.depthAll, PyData.depth]
    lia
theorem shaped_pD (xs : List Rat) : SeqAt.shaped (pD xs) = true := by
  have := depth_rD xs
  simp [SeqAt.shaped, PyData.canLay0, PyData.depth, canLay_rD]
  lia
theorem shaped_two (xs ys : List Rat) : SeqAt.shaped (.tuple [pD xs, pD ys]) = true := by
  have h1 := depth_rD xs
  have h2 := depth_rD ys
  simp [SeqAt.shaped, PyData.canLay0, PyData.canLayAll0, PyData.depth, PyData.depthAll, canLay_rD]
  lia
theorem canLay_int : ∀ xs : List Int, PyData.canLayAll0 (xs.map .int) = true
  | [] => rfl
  | x :: xs => by simp [PyData.canLayAll0, PyData.canLay0, canLay_int xs]
theorem depth_int : ∀ xs : List Int, PyData.depthAll (xs.map .int) = 0
  | [] => rfl
  | x :: xs => by simp [PyData.depthAll, PyData.depth, depth_int xs]
theorem shaped_pZ (xs : List Int) : SeqAt.shaped (pZ xs) = true := by
  simp [SeqAt.shaped, PyData.canLay0, PyData.depth, canLay_int, depth_int]
theorem eqv_ints : ∀ xs ys : List Int, PyData.eqvAll (xs.map .int) (ys.map .int) = decide (xs = ys)
  | [], [] => rfl
  | [], _ :: _ => rfl
  | _ :: _, [] => rfl
  | x :: xs, y :: ys => by
    show (PyData.eqv (.int x) (.int y) && PyData.eqvAll (xs.map .int) (ys.map .int)) = _
    rw [eqv_ints xs ys]
    show ((x == y) && _) = _
    by_cases h : x = y <;> by_cases h' : xs = ys <;> simp [h, h']
theorem eqv_pZ (xs ys : List Int) : PyData.eqv (pZ xs) (pZ ys) = decide (xs = ys) := by
  rw [PyData.eqv]; exact eqv_ints xs ys
theorem eqv_self {d : PyData} (h : SeqAt.shaped d = true) : PyData.eqv d d = true := SeqAt.eqv_refl d (SeqAt.canLay_of_shaped h)
section
variable {c : Cx} {n : Nat} {env : Env} {h0 : Heap} {S : Addr → Prop}
theorem EvN.flat {T : Addr → Prop} {e : Expr} {ds : List PyData} (x : EvN c n env h0 T e ds) (h : flats ds = true) : EvN c n env h0 S e ds := fun A s Q E hA hx q => x A s Q E hA hx fun a vs h' tk e n p r => q a vs h' tk e n p (r.flat h)
theorem room_c {A : Around} (hA : Rm n A) : A.units + 64 < cLine := by
  have := hA.hu
  show _ < 9900
  lia
theorem Ev.eqD {l r : Expr} {pos : Pos} {dl dr : PyData} (hl : Ev c n env h0 Any l dl) (hr : Ev c n env h0 Any r dr) (sl : SeqAt.shaped dl = true) (sr : SeqAt.shaped dr = true) (hm : behindInMarks .Eq r = false := by with_unfolding_all rfl) :
    Ev c n env h0 S (.Compare l [.Eq] [r] pos) (.bool (PyData.eqv dl dr)) := Ev.cmp hl hr (fun A s v u Q E hA _ r1 r2 q => by
      obtain ⟨as, ra⟩ := r1.reads
      obtain ⟨bs, rb⟩ := r2.reads
      exact eq_dataH ra rb sl sr (room_c hA) (q s.heap s.toks Ext.rfl')) hm
theorem Tr.neD {l r : Expr} {pos : Pos} {dl dr : PyData} (hl : Ev c n env h0 Any l dl) (hr : Ev c n env h0 Any r dr) (sl : SeqAt.shaped dl = true) (sr : SeqAt.shaped dr = true) (hm : behindInMarks .NotEq r = false := by with_unfolding_all rfl) :
    Tr c n env h0 (.Compare l [.NotEq] [r] pos) (!PyData.eqv dl dr) := Tr.cmp hl hr (fun A s v u Q E hA _ r1 r2 q => by
      obtain ⟨as, ra⟩ := r1.reads
      obtain ⟨bs, rb⟩ := r2.reads
      exact ne_dataH ra rb sl sr (room_c hA) (q s.heap s.toks Ext.rfl')) hm
/-- x is None, of a None -/
theorem Ev.isNone {l : Expr} {k : Nat} {p pos : Pos} (hl : Ev c n env h0 Any l .none) (hm : behindInMarks .Is (.Constant .none k p) = false := by with_unfolding_all rfl) :
    Ev c n env h0 S (.Compare l [.Is] [.Constant .none k p] pos) (.bool true) := Ev.cmp (dr := .none) hl (fun A s Q E hA hx q => wpAny_Constant_none (q _ s.heap s.toks Ext.rfl' .none)) (fun A s v u Q E hA _ r1 r2 q => by
      cases r1; cases r2
      exact wpAny_is_self rfl (q s.heap s.toks Ext.rfl')) hm
theorem Ev.andT {e e2 : Expr} {pos : Pos} {d : PyData} (h : Ev c n env h0 Any e (.bool true)) (h2 : Ev c n env h0 S e2 d) : Ev c n env h0 S (.BoolOp .And [e, e2] pos) d := fun A s Q E hA hx q => by
  show wpAny _ A (do
    let v ← eval e env
    standAt pos
    let t ← holding [v] (truthy v)
    match BoolOp.And, t with
    | .And, false | .Or, true => pure v
    | _, _ => boolOp pos .And (eval e2 env :: evalEach [] env)) _ _ _
  refine wpAny_bind (h A s _ _ hA hx fun v h1 t1 e1 r1 => wpAny_bind (wpAny_standAt (wpAny_bind (wpAny_holding ?_))))
  cases r1
  exact wpAny_truthy_bool (h2 A _ _ _ hA (hx.tr e1) fun v h3 t3 e3 r3 => q v h3 t3 (e1.tr e3) r3)
end
section
variable {c : Cx} {n : Nat} {env : Env} {S : Addr → Prop} {A : Around} {s : Shared} {H : Heap} {m : Str → Option Value} {E : Value → Shared → Prop} {Q : Flow → Shared → Prop} {rest : List Stmt}
/-- two names take the two items of a tuple that a call gives -/
theorem asg2C {x y : Str} {k : Nat} {p p' tp pos : Pos} {e : Expr} {d d' : PyData} (hA : Rm n A) (F : Fr H env.locals s.heap m) (x1 : Ev c n env s.heap S e (.tuple [d, d']))
    (q : ∀ v v' h' tk, Fr H env.locals h' (put (put m x v) y v') → Heap.ExtBut env.locals s.heap h' → Rp S h' v d → Rp S h' v' d' → wpAny (model c.prog c.w) A (execs rest env) Q E (up s h' tk))
    (hx : env.kindOf x = some .local := by rfl) (hy : env.kindOf y = some .local := by rfl) (hk : env.scope.kind = .function := by rfl)
    (hs : swapsWithSole [.Tuple [.Name x p, .Name y p'] k tp] e pos.line env = pure false := by rfl)
    (hw : swappedStores [.Tuple [.Name x p, .Name y p'] k tp] e env = pure none := by rfl) :
    wpAny (model c.prog c.w) A (execs (.Assign [.Tuple [.Name x p, .Name y p'] k tp] e pos :: rest) env) Q E s := by
  refine wpAny_execs_cons (Assign_Tuple (x1 A s _ _ hA Ext.rfl' fun v h1 t1 e1 r1 => ?_) hs hw)
  obtain ⟨a, vs, rfl, ht, rs⟩ := r1.tup_inv
  obtain ⟨v, v', e, rv, rv'⟩ := rs.two
  subst e
  refine wpAny_assign_Tuple (items := [v, v'].toArray) hA.hh ht rfl rfl fun h2 e2' => ?_
  have e2 : Ext h1 h2 := fun b o e => e2' b o (Nat.ne_of_lt (Heap.lt_size e)) e
  have F2 := frExt (frExt F e1) e2
  show wpAny (model c.prog c.w) A (do holding [v'] (assign (.Name x p) env v); (do holding [] (assign (.Name y p') env v'); pure ())) _ _ _
  refine wpAny_bind (wpAny_holding (wpAny_assign_Name (set_ F2 hx hk fun h3 t3 F3 e3 => ?_)))
  refine wpAny_bind (wpAny_holding (wpAny_assign_Name (set_ F3 hy hk fun h4 t4 F4 e4 => wpAny_pure ?_)))
  exact q v v' h4 t4 F4 (fun b o hb e => e4 b o hb (e3 b o hb (e2 b o (e1 b o e)))) (((rv.mono e2).but F2.ns e3).but F3.ns e4) (((rv'.mono e2).but F2.ns e3).but F3.ns e4)
/-- three names at once -/
theorem asg3 {x y z : Str} {k : Nat} {p p' p'' tp pos : Pos} {e : Expr} {d d' d'' : PyData} (hA : Rm n A) (F : Fr H env.locals s.heap m) (x1 : Ev c n env s.heap S e (.tuple [d, d', d'']))
    (q : ∀ v v' v'' h' tk, Fr H env.locals h' (put (put (put m z v'') y v') x v) → Heap.ExtBut env.locals s.heap h' → Rp S h' v d → Rp S h' v' d' → Rp S h' v'' d'' → wpAny (model c.prog c.w) A (execs rest env) Q E (up s h' tk))
    (hx : env.kindOf x = some .local := by rfl) (hy : env.kindOf y = some .local := by rfl) (hz : env.kindOf z = some .local := by rfl) (hk : env.scope.kind = .function := by rfl)
    (hs : swapsWithSole [.Tuple [.Name x p, .Name y p', .Name z p''] k tp] e pos.line env = pure false := by rfl)
    (hw : swappedStores [.Tuple [.Name x p, .Name y p', .Name z p''] k tp] e env = pure (some [x, y, z]) := by rfl) :
    wpAny (model c.prog c.w) A (execs (.Assign [.Tuple [.Name x p, .Name y p', .Name z p''] k tp] e pos :: rest) env) Q E s := by
  refine wpAny_execs_cons (Assign_Tuple_swapped (names := [x, y, z]) (x1 A s _ _ hA Ext.rfl' fun v h1 t1 e1 r1 => ?_) hs hw)
  obtain ⟨a, vs, rfl, ht, rs⟩ := r1.tup_inv
  obtain ⟨v, v', v'', e, rv, rv', rv''⟩ := rs.three
  subst e
  refine unpackItems_tuple (items := [v, v', v''].toArray) hA.hh ht fun h2 e2' => ?_
  have e2 : Ext h1 h2 := fun b o e => e2' b o (Nat.ne_of_lt (Heap.lt_size e)) e
  have F2 := frExt (frExt F e1) e2
  show wpAny (model c.prog c.w) A (do holding [v', v] (bindName env z v''); (do holding [v] (bindName env y v'); (do holding [] (bindName env x v); pure ()))) _ _ _
  refine wpAny_bind (wpAny_holding (wpAny_bindName (set_ F2 hz hk fun h3 t3 F3 e3 => ?_)))
  refine wpAny_bind (wpAny_holding (wpAny_bindName (set_ F3 hy hk fun h4 t4 F4 e4 => ?_)))
  refine wpAny_bind (wpAny_holding (wpAny_bindName (set_ F4 hx hk fun h5 t5 F5 e5 => wpAny_pure ?_)))
  exact q v v' v'' h5 t5 F5 (fun b o hb e => e5 b o hb (e4 b o hb (e3 b o hb (e2 b o (e1 b o e))))) ((((rv.mono e2).but F2.ns e3).but F3.ns e4).but F4.ns e5) ((((rv'.mono e2).but F2.ns e3).but F3.ns e4).but F4.ns e5) ((((rv''.mono e2).but F2.ns e3).but F3.ns e4).but F4.ns e5)
/-- three names: two new lists and a datum -/
theorem asg3N {x y z : Str} {k k' : Nat} {p p' p'' tp pos pos' : Pos} {e e' e'' : Expr} {ds ds' : List PyData} {d : PyData} (hA : Rm n A) (F : Fr H env.locals s.heap m) (x1 : EvN c n env s.heap Off e ds) (x2 : EvN c n env s.heap Off e' ds') (x3 : Ev c n env s.heap S e'' d)
    (q : ∀ a a' vs vs' v'' h' tk, a ≠ a' → Fr H env.locals h' (put (put (put m z v'') y (.ref a')) x (.ref a)) → Heap.ExtBut env.locals s.heap h' → s.heap.get? a = none → s.heap.get? a' = none → h'.PlainList a vs.toArray → h'.PlainList a' vs'.toArray → Rps Off h' vs ds → Rps Off h' vs' ds' → Rp S h' v'' d → wpAny (model c.prog c.w) A (execs rest env) Q E (up s h' tk))
    (hx : env.kindOf x = some .local := by rfl) (hy : env.kindOf y = some .local := by rfl) (hz : env.kindOf z = some .local := by rfl) (hk : env.scope.kind = .function := by rfl)
    (hs : swapsWithSole [.Tuple [.Name x p, .Name y p', .Name z p''] k tp] (.Tuple [e, e', e''] k' pos') pos.line env = pure false := by rfl)
    (hw : swappedStores [.Tuple [.Name x p, .Name y p', .Name z p''] k tp] (.Tuple [e, e', e''] k' pos') env = pure (some [x, y, z]) := by rfl)
    (he : starEach [e, e', e''] env = (false, eval e env) :: starEach [e', e''] env := by rfl) (he' : starEach [e', e''] env = (false, eval e' env) :: starEach [e''] env := by rfl) (he'' : starEach [e''] env = (false, eval e'' env) :: starEach [] env := by rfl) :
    wpAny (model c.prog c.w) A (execs (.Assign [.Tuple [.Name x p, .Name y p', .Name z p''] k tp] (.Tuple [e, e', e''] k' pos') pos :: rest) env) Q E s := by
  refine wpAny_execs_cons (Assign_Tuple_swapped (names := [x, y, z]) (Tuple_ (args_cons (x1 A s _ _ hA Ext.rfl' fun a vs h1 t1 e1 n1 p1 r1 => args_cons (x2 A _ _ _ hA e1 fun a' vs' h2 t2 e2 n2 p2 r2 => args_cons (x3 A _ _ _ hA (Ext.tr e1 e2) fun v'' h25 t25 e25 r25 => args_nil ?_) he'') he') he)) hs hw)
  refine wpAny_newObj_type ?_ (by show 3 ≤ sizeLine; rw [sizeLine_eq]; decide)
  have e3 : Ext h25 (h25.push { cls := .type "tuple", data := .seq [Value.ref a, Value.ref a', v''].toArray }) := fun b o e => Heap.get?_push_of_some _ e
  have ht : IsTup (h25.push { cls := .type "tuple", data := .seq [Value.ref a, Value.ref a', v''].toArray }) h25.objs.size [Value.ref a, Value.ref a', v''].toArray := ⟨_, Heap.get?_push_size _ rfl, rfl, _, rfl⟩
  refine unpackItems_tuple (items := [Value.ref a, Value.ref a', v''].toArray) hA.hh ht fun h4 e4' => ?_
  have e4 : Ext (h25.push { cls := .type "tuple", data := .seq [Value.ref a, Value.ref a', v''].toArray }) h4 := fun b o e => e4' b o (Nat.ne_of_lt (Heap.lt_size e)) e
  have e22 : Ext h2 h4 := (Ext.tr e25 e3).tr e4
  have e12 : Ext h1 h4 := Ext.tr e2 e22
  have F2 := frExt (frExt F e1) e12
  have haa : a ≠ a' := fun q => by
    obtain ⟨k, ho⟩ := p1
    rw [← q] at n2
    have n2' : h1.get? a = none := n2
    rw [ho] at n2'; cases n2'
  have p1' := (p1.at fun o e => e12 _ o e : h4.PlainList a vs.toArray)
  have p2' := (p2.at fun o e => e22 _ o e : h4.PlainList a' vs'.toArray)
  have hne1 := ne_locals F2.ns p1'.isList
  have hne2 := ne_locals F2.ns p2'.isList
  show wpAny (model c.prog c.w) A (do holding [.ref a', .ref a] (bindName env z v''); (do holding [.ref a] (bindName env y (.ref a')); (do holding [] (bindName env x (.ref a)); pure ()))) _ _ _
  refine wpAny_bind (wpAny_holding (wpAny_bindName (set_ F2 hz hk fun h5 t5 F5 e5 => ?_)))
  refine wpAny_bind (wpAny_holding (wpAny_bindName (set_ F5 hy hk fun h6 t6 F6 e6 => ?_)))
  refine wpAny_bind (wpAny_holding (wpAny_bindName (set_ F6 hx hk fun h7 t7 F7 e7 => wpAny_pure ?_)))
  exact q a a' vs vs' v'' h7 t7 haa F7 (fun b o hb e => e7 b o hb (e6 b o hb (e5 b o hb (e12 b o (e1 b o e))))) n1 (New.ext e1 n2) (((p1'.extBut e5 hne1).extBut e6 hne1).extBut e7 hne1) (((p2'.extBut e5 hne2).extBut e6 hne2).extBut e7 hne2)
    ((((r1.mono e12).but F2.ns e5).but F5.ns e6).but F6.ns e7) ((((r2.mono e22).but F2.ns e5).but F5.ns e6).but F6.ns e7) ((((r25.mono (e3.tr e4)).but F2.ns e5).but F5.ns e6).but F6.ns e7)
/-- a while whose body may return -/
theorem whileR {t : Expr} {body : List Stmt} {pos : Pos} (hA : Rm n A) (I : Nat → Heap → (Str → Option Value) → Prop) (k : Nat) (F : Fr H env.locals s.heap m) (h0 : I k s.heap m)
    (turn : ∀ (k : Nat) (h : Heap) (m : Str → Option Value), I k h m → Fr H env.locals h m → ∃ b, Tr c n env h t b ∧
      (b = true → ∀ h1 tk1, Ext h h1 → wpAny (model c.prog c.w) A (execs body env) (fun f s3 => match f with
        | .next => ∃ k' h' m' tk', k' < k ∧ s3 = (up s h' tk') ∧ Fr H env.locals h' m' ∧ I k' h' m'
        | .ret v => Q (.ret v) s3
        | _ => False) (fun _ _ => False) (up s h1 tk1)) ∧
      (b = false → ∀ h1 tk1, Ext h h1 → wpAny (model c.prog c.w) A (execs rest env) Q E (up s h1 tk1))) :
    wpAny (model c.prog c.w) A (execs (.While t body [] pos :: rest) env) Q E s := by
  refine wpAny_execs_cons (wpAny_While (codeAny_whileLoop (fun k s' => ∃ h m tk, s' = (up s h tk) ∧ Fr H env.locals h m ∧ I k h m) ?_ k ⟨s.heap, m, s.toks, rfl, F, h0⟩))
  rintro k s' ⟨h, m, tk, rfl, F, hI⟩
  obtain ⟨b, ht, h1, h2⟩ := turn k h m hI F
  refine ht A _ _ _ hA Ext.rfl' fun h' tk' e => ?_
  cases b with
  | true =>
    rw [if_pos rfl]
    refine wpAny_mono (h1 rfl h' tk' e) (fun f s3 hq => ?_) fun _ _ x => x.elim
    cases f with
    | next =>
      obtain ⟨k', h'', m', tk'', hk, rfl, F', hI'⟩ := hq
      exact ⟨k', hk, _, _, _, rfl, F', hI'⟩
    | ret v => exact hq
    | cont => exact hq.elim
    | brk => exact hq.elim
  | false => rw [if_neg (by decide)]; exact wpAny_execs_nil (h2 rfl h' tk' e)
end
end Mine

namespace Mine
def apartL (inner : List Rat) : Nat → List Rat → List Rat → Option (List Rat)
  | 0, _, _ => none
  | n + 1, outer, left => if left.length = 0 then some outer else
      if 1 < (qdivmodR left inner).2.length then none else apartL inner n (outer ++ [(qdivmodR left inner).2.getD 0 0]) (qdivmodR left inner).1
def okL (ei : Nat) (inner : List Rat) : Nat → List Rat → Prop
  | 0, _ => False
  | n + 1, left => left.length = 0 ∨ ((∃ h, 1 ≤ h ∧ Hs h left ∧ (h + 2 * ei + 1) * 2 ^ left.length ≤ 67108864) ∧ left.length ≤ 30 ∧ (1 < (qdivmodR left inner).2.length ∨ okL ei inner n (qdivmodR left inner).1))
def apD (inner : List Rat) : Option (List Rat) → PyData
  | none => .none
  | some outer => .tuple [pD outer, pD inner]
theorem fdiv_nat (x y : Nat) : ((x : Int).fdiv (y : Int)) = ((x / y : Nat) : Int) := by
  rw [Int.fdiv_eq_ediv_of_nonneg _ (Int.natCast_nonneg y)]; rfl
theorem len_divR2 {b : List Rat} (hb : 1 ≤ b.length) : ∀ (n : Nat) (f r : List Rat), (divR b n f r).2.length ≤ r.length
  | 0, f, r => Nat.le_refl _
  | n + 1, f, r => by
    show (if r.length < b.length then (f, r) else divR b n _ (divStep b r)).2.length ≤ _
    split
    · exact Nat.le_refl _
    · exact Nat.le_trans (len_divR2 hb n _ _) (Nat.le_of_lt (len_divStep hb (by lia)))
section
variable {prog : Program} {w : World} {p : Program} {loose : List Str} {mg mb : Str → Option Value}

theorem apart_con (f : List Rat) (many : Nat) (q : Rat) (inner : List Rat) (fuel : Nat) {ef eq ei : Nat} (hq : rD q = .tuple [.int 1, .int many]) (hm0 : 1 ≤ many) (hm1 : many ≤ 30) (hf1 : 1 ≤ f.length) (lf : f.length ≤ 30) (hef : 1 ≤ ef) (hF : Hs ef f) (hqb : Hb eq q)
    (hlead : 1 ≤ (f.reverse.take ((f.length - 1) / many)).length) (hlead1 : (f.reverse.take ((f.length - 1) / many)).getD 0 0 = 1)
    (hin : inner = 0 :: (spowerR (f.reverse.take ((f.length - 1) / many)) q).reverse) (hsp : ∀ k, k ≤ (f.reverse.take ((f.length - 1) / many)).length → Hs 64 (spOut (f.reverse.take ((f.length - 1) / many)) q k))
    (hbd : 31 * (eq + ef + 86) + 100 ≤ 67108864) (hei : 1 ≤ ei) (hI : Hs ei inner) (hl : inner.getD (inner.length - 1) 0 ≠ 0) (hok : okL ei inner fuel f) (hfu : fuel ≤ 100) : Con (cx prog w p loose mg mb) 7 231 [pD f, .int many] (apD inner (apartL inner fuel [] f)) := by
  intro A s vs Q E hA o hr k
  obtain ⟨va, vb, rfl, ra, rb⟩ := hr.two
  refine enter (n := 6) (binds := [("f", va), ("many", vb)]) hA o rfl rfl rfl (locs rfl) (by decide) rfl rfl rfl fun L h1 tk F hA1 => ?_
  have o1 := o.ext F.keep
  generalize hR : f.reverse.take ((f.length - 1) / many) = R at hlead hlead1 hin hsp
  have hRl : R.length ≤ 30 := by rw [← hR, List.length_take, List.length_reverse]; lia
  have hRH : Hs ef R := by rw [← hR]; exact fun z hz => hF z (List.mem_reverse.mp (List.mem_of_mem_take hz))
  have hil : inner.length = R.length + 1 := by rw [hin, List.length_cons, List.length_reverse, spowerR, len_spOut]
  have hdv : (((f.length : Int) - 1).fdiv (many : Int)).toNat = (f.length - 1) / many := by
    rw [show (f.length : Int) - 1 = ((f.length - 1 : Nat) : Int) by lia, fdiv_nat]; rfl
  refine asg (S := New s.heap) (d := pD (spowerR R q)) hA1 F (.call o1 rfl rfl (.cons (Ev.to (EvN.any (S := Any) (.upto (EvN.any (S := Any) (.rev (.loc F.ns rfl (ra.mono F.keep)) (.neg .const) (by simp; lia))) (.fdiv o1 (.sub (.len o1 rfl (.loc F.ns rfl (ra.mono F.keep)) (by simp; lia)) .const) (.loc F.ns rfl (rb.mono F.keep)) (by lia)) (by simp; lia) ?_ (fun vs hl => upto_nonneg ?_ vs hl))) ?_)
    (.cons (Ev.to (.tuple (.cons .const (.cons (.loc F.ns rfl (rb.mono F.keep)) .nil))) hq.symm) .nil)) (Con.le (n := 4) (spower_con R q hRH hef hqb hRl hlead hlead1 hsp hbd) (by decide)) fun a ha => New.ext F.keep ha) fun v1 h2 tk2 F2 e2 r2 => ?_
  · rw [← List.map_reverse]; exact flats_rD _
  · rw [List.length_map]
    rw [show (f.length : Int) - 1 = ((f.length - 1 : Nat) : Int) by lia, fdiv_nat]; lia
  · rw [List.length_map, hdv, ← List.map_reverse, ← List.map_take, hR]
  have o2 := o.ext F2.keep
  refine asg3N (S := fun a => ∃ o, s.heap.get? a = some o) hA1 F2 (ds := inner.map rD) (ds' := ([] : List Rat).map rD) (EvN.to (.cat (.listd (.cons (d := rD 0) (.tuple (.cons .const (.cons .const .nil))) .nil)) (EvN.flat (T := Any) (.rev (ds := (spowerR R q).map rD) (.loc F2.ns rfl r2.any) (.neg .const) ?_) ?_) ?_) ?_) (.listd .nil) (.loc F2.ns rfl ((ra.re fun _ _ _ ⟨o, ho, _⟩ => ⟨o, ho⟩).mono F2.keep)) fun I W is ws vl h3 tk3 hIW F3 e3 hI3 hW3 pI pW rI rW rl => ?_
  · rw [List.length_map, spowerR, len_spOut]; lia
  · rw [← List.map_reverse]; exact flats_rD _
  · rw [List.length_reverse, List.length_map, spowerR, len_spOut]; simp; lia
  · rw [hin, ← List.map_reverse]; rfl
  have hWH : s.heap.get? W = none := New.ext F2.keep hW3
  have hIH : s.heap.get? I = none := New.ext F2.keep hI3
  obtain ⟨al, us, rfl, _, lal, _⟩ := ra.list_inv
  refine whileR hA1 (fun k h m => ∃ (left outer : List Rat) (vl : Value), okL ei inner k left ∧ m "inner" = some (.ref I) ∧ m "outer" = some (.ref W) ∧ m "left" = some vl ∧ Rp (· ≠ W) h vl (pD left) ∧ Rp (fun a => New s.heap a ∧ a ≠ W) h (.ref I) (pD inner) ∧ (∃ ws, h.PlainList W (List.toArray ws) ∧ Rps Off h ws (outer.map rD)) ∧ outer.length + k ≤ 100 ∧ apartL inner k outer left = apartL inner fuel [] f) fuel F3 ?_ ?_
  · refine ⟨f, [], vl, hok, rfl, rfl, rfl, ?_, .list ⟨hIH, hIW⟩ pI.isList (rI.re fun _ _ z _ => z.elim), ⟨ws, pW, rW⟩, by simp; lia, rfl⟩
    exact rl.re fun a _ ⟨o, ho⟩ _ q => by rw [q, hWH] at ho; cases ho
  · rintro k' h m ⟨left, outer, vl', hok', mi, mo, ml, rl', ri, ⟨gs, pg, rg⟩, hlen, hap⟩ F4
    have o4 := o.ext F4.keep
    cases k' with
    | zero => exact hok'.elim
    | succ n' =>
    have hll : left.length ≤ 30 := by
      rcases hok' with z | ⟨_, z, _⟩
      · lia
      · exact z
    refine ⟨_, .ints (.len o4 rfl (.loc F4.ns ml rl'.any) (by simp; lia)) .const, fun hb h5 tk5 e5 => ?_, fun hb h5 tk5 e5 => ?_⟩
    · have hne : ¬ left.length = 0 := fun z => by rw [List.length_map, z] at hb; cases hb
      obtain ⟨⟨hh, hh1, hHs, hhb⟩, _, hor⟩ := hok'.resolve_left hne
      have F5 := frExt F4 e5
      have o5 := o.ext F5.keep
      have pg5 : h5.PlainList W gs.toArray := pg.at fun o e => e5 _ o e
      have hW5 : ∀ a, New h5 a → New s.heap a ∧ a ≠ W := fun a ha => ⟨New.ext F5.keep ha, fun q => by
        obtain ⟨oo, ho⟩ := pg5
        rw [← q] at ho
        have ha' : h5.get? a = none := ha
        rw [ho] at ha'; cases ha'⟩
      refine asg2C (S := fun a => New s.heap a ∧ a ≠ W) hA1 F5 (.call o5 rfl rfl (.cons (.loc F5.ns ml (rl'.any.mono e5)) (.cons (.loc F5.ns mi (ri.any.mono e5)) .nil)) (Con.le (n := 6) (qdivmod_con left inner hHs hI hh1 hei (by lia) (by lia) (by lia) hl hhb) (by decide)) hW5) fun v6 u6 h6 tk6 F6 e6 r6 s6 => ?_
      have hrl := len_divR2 (b := inner) (by lia) left.length (List.replicate (left.length + 1 - inner.length) 0) left
      have hrl' : (qdivmodR left inner).2.length ≤ 30 := Nat.le_trans hrl hll
      have o6 := o.ext F6.keep
      refine execs_if hA1 (.ints (.len o6 rfl (.loc F6.ns rfl s6.any) (by simp; lia)) .const) (fun h7 tk7 e7 hb2 => ?_) fun h7 tk7 e7 hb2 => ?_
      · have hgt : 1 < (qdivmodR left inner).2.length := by simp [cI] at hb2; lia
        have F7 := frExt F6 e7
        refine ret_ (S := New s.heap) (d := .none) hA1 (fun A s Q E hA hx q => wpAny_Constant_none (q _ s.heap s.toks Ext.rfl' .none)) fun v h' tk e r => k v h' tk (Ext.tr F7.keep e) ?_
        have : apartL inner fuel [] f = none := by
          rw [← hap]
          show (if left.length = 0 then _ else _ : Option _) = _
          rw [if_neg hne, if_pos hgt]
        rw [this]
        exact r
      · have hle : ¬ 1 < (qdivmodR left inner).2.length := by simp [cI] at hb2; lia
        have F7 := frExt F6 e7
        have o7 := o.ext F7.keep
        have pg7 : h7.PlainList W gs.toArray := (pg5.extBut e6 (ne_locals F5.ns pg5.isList)).at fun o e => e7 _ o e
        have rg7 : Rps Off h7 gs (outer.map rD) := ((rg.mono e5).but F5.ns e6).mono e7
        refine execs_nil' (append_ (d := rD ((qdivmodR left inner).2.getD 0 0)) hA1 F7 mo pg7 rg7 hWH (.ife (.ints (.len o7 rfl (.loc F7.ns rfl (s6.any.mono e7)) (by simp; lia)) .const) (fun hb3 => ?_) fun hb3 => ?_) (by simp; lia) fun h8 tk8 v8 F8 p8 r8 e8 => execs_nil' ?_)
        · have hpos : 0 < (qdivmodR left inner).2.length := by simp [cI] at hb3; exact hb3
          exact .listAt (.loc F7.ns rfl (s6.any.mono e7)) .const (map_at hpos) (by decide) (by decide)
        · have hz : (qdivmodR left inner).2.length = 0 := by
            rw [List.length_map] at hb3
            simp [cI] at hb3
            simp [hb3]
          have : (qdivmodR left inner).2.getD 0 0 = 0 := by rw [List.length_eq_zero_iff.mp hz]; rfl
          rw [this]
          exact .tuple (.cons .const (.cons .const .nil))
        · have rv : Rp (· ≠ W) h8 v6 (pD (qdivmodR left inner).1) := Rp.off (fun _ z => z) pg7.isList e8 ((r6.re fun _ _ z _ => z.2).mono e7)
          have ri8 : Rp (fun a => New s.heap a ∧ a ≠ W) h8 (.ref I) (pD inner) := Rp.off (fun _ z => z.2) pg7.isList e8 (((ri.mono e5).but F5.ns e6).mono e7)
          refine ⟨n', h8, _, tk8, Nat.lt_succ_self _, rfl, F8, (qdivmodR left inner).1, outer ++ [(qdivmodR left inner).2.getD 0 0], v6, hor.resolve_left hle, mi, mo, rfl, rv, ri8, ⟨gs ++ [v8], p8, ?_⟩, ?_, ?_⟩
          · rw [List.map_append]; exact r8
          · rw [List.length_append]; simp; lia
          · rw [← hap]
            show _ = (if left.length = 0 then _ else _ : Option _)
            rw [if_neg hne, if_neg hle]
    · have hz : left.length = 0 := by
        rw [List.length_map] at hb
        simp [cI] at hb
        simp [hb]
      have F5 := frExt F4 e5
      have : apartL inner fuel [] f = some outer := by
        rw [← hap]
        show (if left.length = 0 then _ else _ : Option _) = _
        rw [if_pos hz]
      rw [this] at k
      exact ret_ (S := New s.heap) (d := .tuple [pD outer, pD inner]) hA1 (.tuple (.cons (.loc F5.ns mo (.list hWH (pg.at fun o e => e5 _ o e : h5.PlainList W gs.toArray).isList ((rg.mono e5).re fun _ _ z _ => z.elim))) (.cons (.loc F5.ns mi ((ri.mono e5).re fun _ _ z _ => z.1)) .nil))) fun v h' tk e r => k v h' tk (Ext.tr F5.keep e) r
end
end Mine

namespace Mine
def halfD (x : Int) : PyData := if x.fmod 2 = 0 then .tuple [.int (x.fdiv 2), .int 1] else .tuple [.int x, .int 2]
theorem flat_halfD (x : Int) : flat (halfD x) = true := by unfold halfD; split <;> rfl
def drawZ (zs : List Int) (k : Nat) (many : Int) : Int := if k < zs.length then ((zs.getD k 0).natAbs : Int).fmod many else (([0, 0, 0, 4, 1, 3] : List Int).getD (k % 6) 0).fmod many
abbrev pB (zs : List Int) (k : Nat) : PyData := .list [pZ zs, .int k]
/-- the list of the draws and the number of the next one -/
structure Box (h : Heap) (B Sx : Addr) (zs : List Int) (k : Nat) : Prop where
  ex : ∃ (t : Tok) (us : List Value), h.IsList B [Value.ref Sx, Value.int (k : Int) t].toArray ∧ h.IsList Sx us.toArray ∧ Rps Off h us (zs.map .int)
  ne : Sx ≠ B
section
variable {h h' : Heap} {B Sx : Addr} {zs : List Int} {k : Nat}
theorem Box.ext (x : Box h B Sx zs k) (e : Ext h h') : Box h' B Sx zs k := by
  obtain ⟨⟨t, us, a, b, r⟩, ne⟩ := x
  exact ⟨⟨t, us, isList_ext a e, isList_ext b e, r.mono e⟩, ne⟩
theorem Box.wr {w : Addr → Prop} (x : Box h B Sx zs k) (hw : NoSeq h w) (e : MvP w h h') : Box h' B Sx zs k := by
  obtain ⟨⟨t, us, a, b, r⟩, ne⟩ := x
  exact ⟨⟨t, us, isList_wr hw e a, isList_wr hw e b, r.wr hw e⟩, ne⟩
theorem Box.but {L : Addr} {m : Str → Option Value} (x : Box h B Sx zs k) (hn : h.Ns L m) (e : Heap.ExtBut L h h') : Box h' B Sx zs k := by
  obtain ⟨⟨t, us, a, b, r⟩, ne⟩ := x
  exact ⟨⟨t, us, isList_but hn e a, isList_but hn e b, r.but hn e⟩, ne⟩
theorem Box.off {D : Addr} {its : Array Value} (x : Box h B Sx zs k) (hb : B ≠ D) (hs : Sx ≠ D) (hl : h.IsList D its) (e : Heap.ExtBut D h h') : Box h' B Sx zs k := by
  obtain ⟨⟨t, us, ⟨o, ho, a⟩, ⟨o2, ho2, b⟩, r⟩, ne⟩ := x
  exact ⟨⟨t, us, ⟨o, e _ _ hb ho, a⟩, ⟨o2, e _ _ hs ho2, b⟩, Rps.off (fun _ z => z.elim) hl e r⟩, ne⟩
theorem Box.set {k' : Nat} {t' : Tok} (x : Box h B Sx zs k) (hl : h'.IsList B [Value.ref Sx, Value.int (k' : Int) t'].toArray) (e : Heap.ExtBut B h h') : Box h' B Sx zs k' := by
  obtain ⟨⟨t, us, a, ⟨o2, ho2, b⟩, r⟩, ne⟩ := x
  exact ⟨⟨t', us, hl, ⟨o2, e _ _ ne ho2, b⟩, Rps.off (fun _ z => z.elim) a e r⟩, ne⟩
theorem Box.rp (x : Box h B Sx zs k) : Rp Any h (.ref B) (pB zs k) := by
  obtain ⟨⟨t, us, a, b, r⟩, ne⟩ := x
  exact .list trivial a (.cons (.list trivial b r.any) (.cons (.int _ _) .nil))
theorem Box.getB (x : Box h B Sx zs k) : ∃ o, h.get? B = some o := by
  obtain ⟨⟨t, us, ⟨o, ho, _⟩, b, r⟩, ne⟩ := x
  exact ⟨o, ho⟩
theorem Box.getS (x : Box h B Sx zs k) : ∃ o, h.get? Sx = some o := by
  obtain ⟨⟨t, us, a, ⟨o, ho, _⟩, r⟩, ne⟩ := x
  exact ⟨o, ho⟩
/-- a new list of a list of ints and a number -/
theorem Box.of {S : Addr → Prop} {vs : List Value} (hl : h.IsList B vs.toArray) (r : Rps S h vs [pZ zs, .int (k : Int)]) : ∃ Sx, Box h B Sx zs k := by
  obtain ⟨v, u, e, r1, r2⟩ := r.two
  subst e
  obtain ⟨t, rfl⟩ := r2.int_inv
  obtain ⟨Sx, us, rfl, _, ls, ru⟩ := r1.list_inv
  refine ⟨Sx, ⟨t, us, hl, ls, ru.flat (flats_int zs)⟩, fun q => ?_⟩
  subst q
  obtain ⟨o, ho, _, k1, hd⟩ := hl
  obtain ⟨o', ho', _, k2, hd'⟩ := ls
  rw [ho] at ho'; cases ho'
  rw [hd] at hd'
  have e : [Value.ref Sx, Value.int (k : Int) t] = us := by
    injection hd' with h1 h2
    have := congrArg Array.toList h1
    simpa using this
  subst e
  obtain ⟨d, hd, rr⟩ := ru.at' (i := 0) rfl
  rw [List.getElem?_map] at hd
  cases q : zs[0]? with
  | none => rw [q] at hd; cases hd
  | some y => rw [q] at hd; cases hd; cases rr
end
section
variable {c : Cx} {n : Nat} {env : Env} {h0 : Heap} {S : Addr → Prop}
/-- an item of a tuple at a reckoned place -/
theorem Ev.tupAtE {v j : Expr} {i : Int} {pos : Pos} {ds : List PyData} {d : PyData} (hv : Ev c n env h0 Any v (.tuple ds)) (hj : Ev c n env h0 Any j (.int i)) (hd : ds[i.toNat]? = some d) (h0' : 0 ≤ i) (h1 : i < 9223372036854775808) (hf : Mine.flat d = true := by rfl)
    (hs : ∀ a u, subscripted j false (.ref a) (.int i u) = operate [.ref a, .int i u] (getItem (.ref a) (.int i u)) := by intro a u; with_unfolding_all rfl) :
    Ev c n env h0 S (.Subscript v j pos) d := fun A s Q E hA hx q => by
  refine Subscript_ (hv A s _ _ hA hx fun x h1' t1 e1 r1 => hj A _ _ _ hA (hx.tr e1) fun u h2 t2 e2 r2 => ?_)
  obtain ⟨t, rfl⟩ := r2.int_inv
  obtain ⟨a, vs, rfl, ht, rs⟩ := (r1.mono e2).tup_inv
  obtain ⟨y, hy, ry⟩ := rs.at hd
  have hlt : i.toNat < vs.length := (List.getElem?_eq_some_iff.mp hy).1
  refine item_tupleT ht (by lia) (by lia) (j := i.toNat) ?_ hy (q y h2 _ (e1.tr e2) (ry.flat hf)) (hs a t)
  unfold seqIndex?
  have e2 : ¬ i < 0 := by lia
  simp [e2]
  lia
end
section
variable {prog : Program} {w : World} {p : Program} {loose : List Str} {mg mb : Str → Option Value}

theorem half_con (x : Int) : Con (cx prog w p loose mg mb) 1 224 [.int x] (halfD x) := by
  intro A s vs Q E hA o hr k
  obtain ⟨va, rfl, ra⟩ := hr.one
  refine enter (n := 0) (binds := [("number", va)]) hA o rfl rfl rfl (locs rfl) (by decide) rfl rfl rfl fun L h1 tk F hA1 => ?_
  refine ret_ (S := New s.heap) (d := halfD x) hA1 (.ife (.ints (.mod (.loc F.ns rfl (ra.mono F.keep)) .const (by decide)) .const) (fun hb => ?_) fun hb => ?_) fun v h' tk e r => k v h' tk (Ext.tr F.keep e) r
  · have : x.fmod 2 = 0 := by simpa [cI] using hb
    rw [halfD, if_pos this]
    exact .tuple (.cons (.fdiv (o.ext F.keep) (.loc F.ns rfl (ra.mono F.keep)) .const (by decide)) (.cons .const .nil))
  · have : ¬ x.fmod 2 = 0 := by simpa [cI] using hb
    rw [halfD, if_neg this]
    exact .tuple (.cons (.loc F.ns rfl ((ra.flat rfl).mono F.keep)) (.cons .const .nil))

theorem take_con {H : Heap} {B Sx : Addr} {zs : List Int} {k : Nat} {many : Int} {tm : Tok} {A : Around} {s : Shared} {Q : Value → Shared → Prop} {E : Value → Shared → Prop} (hA : Rm 1 A) (o : Ok (cx prog w p loose mg mb) H) (hx : Ext H s.heap) (hB : H.get? B = none)
    (bx : Box s.heap B Sx zs k) (hk : k < 1000) (hz : zs.length ≤ 1000) (hm : many ≠ 0) (q : ∀ h' tk t, Heap.ExtBut B s.heap h' → Box h' B Sx zs (k + 1) → Q (.int (drawZ zs k many) t) (up s h' tk)) :
    wpAny (model prog w) A (PySem.call (.ref 217) [.ref B, .int many tm]) Q E s := by
  have o0 := o.ext hx
  refine enter (c := cx prog w p loose mg mb) (n := 0) (binds := [("box", .ref B), ("many", .int many tm)]) hA o0 rfl rfl rfl (locs rfl) (by decide) rfl rfl rfl fun L h1 tk F hA1 => ?_
  refine asg (S := Any) (d := .int (k : Int)) hA1 F (.listAt (.loc F.ns rfl (bx.ext F.keep).rp) .const rfl (by decide) (by decide)) fun v h2 tk2 F2 e2 r2 => ?_
  obtain ⟨t, rfl⟩ := r2.int_inv
  have bx2 := bx.ext F2.keep
  refine wpAny_execs_cons (wpAny_Assign_Subscript (Ev.add (c := cx prog w p loose mg mb) (n := 0) (S := Any) (.loc F2.ns rfl (.int _ t)) .const _ _ _ _ hA1 Ext.rfl' fun v h3 tk3 e3 r3 => ?_) rfl)
  obtain ⟨t3, rfl⟩ := r3.int_inv
  refine wpAny_Name (wpAny_loadName_local rfl rfl (F2.ns.keeps e3) rfl ?_) (by decide)
  refine wpAny_Constant_int ?_
  have bx3 := bx2.ext e3
  obtain ⟨⟨t4, us, lB, lS, ru⟩, hne⟩ := id bx3
  have hBL : B ≠ L := ne_locals (F2.ns.keeps e3) lB
  refine wpAny_setItem_list lB (by decide) (by decide) (by show (1 : Int) < 2; decide) fun h4 hl4 hs4 => ?_
  have bx4 : Box h4 B Sx zs (k + 1) := bx3.set (t' := t3) (by simpa using hl4) hs4.extBut
  have n4 : h4.Ns L _ := (F2.ns.keeps e3).at fun o x => hs4.extBut L o (Ne.symm hBL) x
  have x4 : Ext H h4 := fun b ob e => hs4.extBut b ob (fun q => by rw [q, hB] at e; cases e) (e3 b ob (F2.keep b ob (hx b ob e)))
  have eb4 : Heap.ExtBut B s.heap h4 := fun b ob hb e => hs4.extBut b ob hb (e3 b ob (F2.keep b ob e))
  have o4 := o.ext x4
  refine execs_if (c := cx prog w p loose mg mb) (n := 0) hA1 (.ints (.loc n4 rfl (.int _ _)) (.len o4 rfl (.listAtS (S := Any) (.loc n4 rfl bx4.rp) .const rfl (by decide) (by decide)) (by simp; lia))) (fun h5 tk5 e5 hb => ?_) fun h5 tk5 e5 hb => ?_
  · have hlt : k < zs.length := by rw [List.length_map] at hb; simp [cI] at hb; lia
    have n5 := n4.keeps e5
    have bx5 := bx4.ext e5
    have o5 := o.ext (x4.tr e5)
    refine ret_ (c := cx prog w p loose mg mb) (n := 0) (S := Any) (d := .int (drawZ zs k many)) hA1 ?_ fun v h' tk e r => ?_
    · rw [drawZ, if_pos hlt]
      exact .mod (.abs o5 rfl (.listAt (.listAtS (S := Any) (.loc n5 rfl bx5.rp) .const rfl (by decide) (by decide)) (.loc n5 rfl (.int _ _)) (map_atG PyData.int 0 (by lia)) (by lia) (by lia))) (.loc n5 rfl (.int _ _)) hm
    · obtain ⟨t, rfl⟩ := r.int_inv
      exact q h' tk t (fun b ob hb e' => e b ob (e5 b ob (eb4 b ob hb e'))) (bx5.ext e)
  · have hlt : ¬ k < zs.length := by rw [List.length_map] at hb; simp [cI] at hb; lia
    have n5 := n4.keeps e5
    have bx5 := bx4.ext e5
    refine execs_nil' (ret_ (c := cx prog w p loose mg mb) (n := 0) (S := Any) (d := .int (drawZ zs k many)) hA1 ?_ fun v h' tk e r => ?_)
    · rw [drawZ, if_neg hlt]
      have h6 : (k : Int).fmod 6 = ((k % 6 : Nat) : Int) := fmod_nat k 6
      refine .mod (.tupAtE (ds := ([0, 0, 0, 4, 1, 3] : List Int).map .int) (.tuple (.cons .const (.cons .const (.cons .const (.cons .const (.cons .const (.cons .const .nil))))))) (.mod (.loc n5 rfl (.int _ _)) .const (by decide)) ?_ (by lia) (by lia)) (.loc n5 rfl (.int _ _)) hm
      rw [h6]
      exact map_atG PyData.int 0 (by show k % 6 < 6; lia)
    · obtain ⟨t, rfl⟩ := r.int_inv
      exact q h' tk t (fun b ob hb e' => e b ob (e5 b ob (eb4 b ob hb e'))) (bx5.ext e)
end
end Mine

namespace Mine
/-- an expression that draws: the box goes from k to k' -/
def EvB (c : Cx) (n : Nat) (env : Env) (H : Heap) (B Sx : Addr) (zs : List Int) (h0 : Heap) (k k' : Nat) (e : Expr) (d : PyData) : Prop :=
  ∀ (A : Around) (s : Shared) (Q : Value → Shared → Prop) (E : Value → Shared → Prop), Rm n A → Ext H s.heap → Heap.ExtBut B h0 s.heap → Box s.heap B Sx zs k →
    (∀ v h' tk, Heap.ExtBut B s.heap h' → Box h' B Sx zs k' → Rp (· ≠ B) h' v d → Q v (up s h' tk)) → wpAny (model c.prog c.w) A (eval e env) Q E s
def EvsB (c : Cx) (n : Nat) (env : Env) (H : Heap) (B Sx : Addr) (zs : List Int) (h0 : Heap) (k k' : Nat) (es : List Expr) (ds : List PyData) : Prop :=
  ∀ (pos : Pos) (A : Around) (s : Shared) (Q : List Value → Shared → Prop) (E : Value → Shared → Prop), Rm n A → Ext H s.heap → Heap.ExtBut B h0 s.heap → Box s.heap B Sx zs k →
    (∀ vs h' tk, Heap.ExtBut B s.heap h' → Box h' B Sx zs k' → Rps (· ≠ B) h' vs ds → Q vs (up s h' tk)) → wpAny (model c.prog c.w) A (spliced (backTo pos (starEach es env))) Q E s
def EvNB (c : Cx) (n : Nat) (env : Env) (H : Heap) (B Sx : Addr) (zs : List Int) (h0 : Heap) (k k' : Nat) (e : Expr) (ds : List PyData) : Prop :=
  ∀ (A : Around) (s : Shared) (Q : Value → Shared → Prop) (E : Value → Shared → Prop), Rm n A → Ext H s.heap → Heap.ExtBut B h0 s.heap → Box s.heap B Sx zs k →
    (∀ a vs h' tk, Heap.ExtBut B s.heap h' → s.heap.get? a = none → h'.PlainList a vs.toArray → Box h' B Sx zs k' → Rps (· ≠ B) h' vs ds → Q (.ref a) (up s h' tk)) → wpAny (model c.prog c.w) A (eval e env) Q E s
theorem extB {H h h' : Heap} {B : Addr} (hB : H.get? B = none) (hx : Ext H h) (e : Heap.ExtBut B h h') : Ext H h' := fun b o x => e b o (fun q => by rw [q, hB] at x; cases x) (hx b o x)
theorem butTr {h h' h'' : Heap} {B : Addr} (x : Heap.ExtBut B h h') (y : Heap.ExtBut B h' h'') : Heap.ExtBut B h h'' := fun b o hb e => y b o hb (x b o hb e)
theorem butE {h h' : Heap} {B : Addr} (x : Ext h h') : Heap.ExtBut B h h' := fun b o _ e => x b o e
theorem Box.isL {h : Heap} {B Sx : Addr} {zs : List Int} {k : Nat} (x : Box h B Sx zs k) : ∃ its, h.IsList B its := by
  obtain ⟨⟨t, us, a, b, r⟩, ne⟩ := x
  exact ⟨_, a⟩
theorem Box.tr {h h' : Heap} {B Sx : Addr} {zs : List Int} {k : Nat} (x : Box h B Sx zs k) (e : Heap.ExtBut B h h') {v : Value} {d : PyData} (r : Rp (· ≠ B) h v d) : Rp (· ≠ B) h' v d := by
  obtain ⟨its, hl⟩ := x.isL
  exact Rp.off (fun _ z => z) hl e r
theorem Box.trs {h h' : Heap} {B Sx : Addr} {zs : List Int} {k : Nat} (x : Box h B Sx zs k) (e : Heap.ExtBut B h h') {v : List Value} {d : List PyData} (r : Rps (· ≠ B) h v d) : Rps (· ≠ B) h' v d := by
  obtain ⟨its, hl⟩ := x.isL
  exact Rps.off (fun _ z => z) hl e r
section
variable {c : Cx} {n : Nat} {env : Env} {H h0 : Heap} {B Sx : Addr} {zs : List Int} {k k1 k' : Nat}
theorem EvB.pu {e : Expr} {d : PyData} (x : ∀ h, Ext H h → Heap.ExtBut B h0 h → Ev c n env h (· ≠ B) e d) : EvB c n env H B Sx zs h0 k k e d := fun A s Q E hA hx hb bx q =>
  x s.heap hx hb A s _ _ hA Ext.rfl' fun v h' tk e r => q v h' tk (butE e) (bx.ext e) r
theorem EvNB.pu {e : Expr} {ds : List PyData} (x : ∀ h, Ext H h → Heap.ExtBut B h0 h → EvN c n env h (· ≠ B) e ds) : EvNB c n env H B Sx zs h0 k k e ds := fun A s Q E hA hx hb bx q =>
  x s.heap hx hb A s _ _ hA Ext.rfl' fun a vs h' tk e n1 p1 r => q a vs h' tk (butE e) n1 p1 (bx.ext e) r
theorem EvNB.ev {e : Expr} {ds : List PyData} (x : EvNB c n env H B Sx zs h0 k k' e ds) : EvB c n env H B Sx zs h0 k k' e (.list ds) := fun A s Q E hA hx hb bx q =>
  x A s _ _ hA hx hb bx fun a vs h' tk e n1 p1 b1 r => q _ h' tk e b1 (.list (fun q => by obtain ⟨o, ho⟩ := bx.getB; rw [q, ho] at n1; cases n1) p1.isList r)
theorem EvB.to {e : Expr} {d d' : PyData} (x : EvB c n env H B Sx zs h0 k k' e d) (h : d = d') : EvB c n env H B Sx zs h0 k k' e d' := h ▸ x
theorem EvB.bin {l r : Expr} {op : Operator} {pos : Pos} {a b z : Int} (hB : H.get? B = none) (hl : EvB c n env H B Sx zs h0 k k1 l (.int a)) (hr : EvB c n env H B Sx zs h0 k1 k' r (.int b))
    (hop : ∀ (A : Around) (s : Shared) (t u : Tok) (Q : Value → Shared → Prop) (E : Value → Shared → Prop), (∀ t' tk', Q (.int z t') { s with toks := tk' }) → wpAny (model c.prog c.w) A (binaryOp op (.int a t) (.int b u)) Q E s) :
    EvB c n env H B Sx zs h0 k k' (.BinOp l op r pos) (.int z) := fun A s Q E hA hx hb bx q => by
  refine wpAny_BinOp (hl A s _ _ hA hx hb bx fun v h1 t1 e1 b1 r1 => ?_)
  obtain ⟨t, rfl⟩ := r1.int_inv
  refine hr A _ _ _ hA (extB hB hx e1) (butTr hb e1) b1 fun v2 h2 t2 e2 b2 r2 => ?_
  obtain ⟨t', rfl⟩ := r2.int_inv
  exact hop A _ _ _ _ _ fun t' tk' => q _ h2 tk' (butTr e1 e2) b2 (.int _ _)
theorem EvB.sub {l r : Expr} {pos : Pos} {a b : Int} (hB : H.get? B = none) (hl : EvB c n env H B Sx zs h0 k k1 l (.int a)) (hr : EvB c n env H B Sx zs h0 k1 k' r (.int b)) : EvB c n env H B Sx zs h0 k k' (.BinOp l .Sub r pos) (.int (a - b)) :=
  EvB.bin hB hl hr fun _ _ _ _ _ _ q => PyProof.Rows.sub_int (q _ _)
theorem EvB.add {l r : Expr} {pos : Pos} {a b : Int} (hB : H.get? B = none) (hl : EvB c n env H B Sx zs h0 k k1 l (.int a)) (hr : EvB c n env H B Sx zs h0 k1 k' r (.int b)) : EvB c n env H B Sx zs h0 k k' (.BinOp l .Add r pos) (.int (a + b)) :=
  EvB.bin hB hl hr fun _ _ _ _ _ _ q => PyProof.Rows.add_int (q _ _)
theorem EvB.const {i : Int} {m : Nat} {pos : Pos} : EvB c n env H B Sx zs h0 k k (.Constant (.int i) m pos) (.int i) := .pu fun _ _ _ => .const
theorem EvsB.nil : EvsB c n env H B Sx zs h0 k k [] [] := fun _ _ s _ _ _ _ _ bx q => args_nil (q _ s.heap s.toks (fun _ _ _ e => e) bx .nil)
theorem EvsB.cons {e : Expr} {es : List Expr} {d : PyData} {ds : List PyData} (hB : H.get? B = none) (x : EvB c n env H B Sx zs h0 k k1 e d) (y : EvsB c n env H B Sx zs h0 k1 k' es ds) (he : starEach (e :: es) env = (false, eval e env) :: starEach es env := by rfl) :
    EvsB c n env H B Sx zs h0 k k' (e :: es) (d :: ds) := fun pos A s Q E hA hx hb bx q =>
  args_cons (x A s _ _ hA hx hb bx fun v h1 t1 e1 b1 r1 => y pos A _ _ _ hA (extB hB hx e1) (butTr hb e1) b1 fun vs h2 t2 e2 b2 r2 => q _ h2 t2 (butTr e1 e2) b2 (.cons (b1.tr e2 r1) r2)) he
theorem EvB.tuple {es : List Expr} {m : Nat} {pos : Pos} {ds : List PyData} (x : EvsB c n env H B Sx zs h0 k k' es ds) (hs : ds.length ≤ 16777216 := by exact Nat.le_of_ble_eq_true rfl) : EvB c n env H B Sx zs h0 k k' (.Tuple es m pos) (.tuple ds) := fun A s Q E hA hx hb bx q =>
  Tuple_ (x pos A s _ _ hA hx hb bx fun vs h1 t1 e1 b1 r1 => newTuple_ r1 hs fun v h2 t2 e2 r2 => q v h2 t2 (butTr e1 (butE e2)) (b1.ext e2) r2)
theorem get_but {h h' : Heap} {a : Addr} (e : Heap.ExtBut B h h') (bx : ∃ o, h'.get? B = some o) (x : h'.get? a = none) : h.get? a = none := by
  cases q : h.get? a with
  | none => rfl
  | some o =>
    by_cases hb : a = B
    · obtain ⟨o', ho'⟩ := bx
      rw [hb, ho'] at x; cases x
    · rw [e a o hb q] at x; cases x
theorem EvNB.listd {es : List Expr} {pos : Pos} {ds : List PyData} (x : EvsB c n env H B Sx zs h0 k k' es ds) (hs : ds.length ≤ 16777216 := by exact Nat.le_of_ble_eq_true rfl) : EvNB c n env H B Sx zs h0 k k' (.List es pos) ds := fun A s Q E hA hx hb bx q =>
  List_ (x pos A s _ _ hA hx hb bx fun vs h1 t1 e1 b1 r1 => newList_ r1 hs fun a h2 t2 e2 n2 p2 r2 => q a vs h2 t2 (butTr e1 (butE e2)) (get_but e1 b1.getB n2) p2 (b1.ext e2) r2)
theorem EvNB.cat {l r : Expr} {pos : Pos} {ds es : List PyData} (hB : H.get? B = none) (hl : EvNB c n env H B Sx zs h0 k k1 l ds) (hr : EvNB c n env H B Sx zs h0 k1 k' r es) (hs : ds.length + es.length ≤ 16777216) : EvNB c n env H B Sx zs h0 k k' (.BinOp l .Add r pos) (ds ++ es) := fun A s Q E hA hx hb bx q => by
  refine wpAny_BinOp (hl A s _ _ hA hx hb bx fun a vs h1 t1 e1 n1 p1 b1 r1 => ?_)
  refine hr A _ _ _ hA (extB hB hx e1) (butTr hb e1) b1 fun b us h2 t2 e2 n2 p2 b2 r2 => ?_
  obtain ⟨m1, o1⟩ := p1
  obtain ⟨m2, o2⟩ := p2
  have hab : a ≠ B := fun q => by obtain ⟨o, ho⟩ := bx.getB; rw [q, ho] at n1; cases n1
  refine P.add_list (hsz := by rw [List.size_toArray, List.size_toArray, r1.length, r2.length, sizeLine_eq]; exact hs) (n := m1) (n2 := m2) (e2 _ _ hab o1) o2 ?_
  have e3 : Ext h2 (h2.push { cls := .type "list", data := .seq (vs.toArray ++ us.toArray) }) := fun b o e => Heap.get?_push_of_some _ e
  refine q _ (vs ++ us) _ t2 (butTr (butTr e1 e2) (butE e3)) (get_but (butTr e1 e2) b2.getB (new_size h2)) ⟨0, ?_⟩ (b2.ext e3) (((b1.trs e2 r1).append r2).mono e3)
  rw [show (vs ++ us).toArray = vs.toArray ++ us.toArray by simp]
  exact Heap.get?_push_size _ rfl
end
section
variable {prog : Program} {w : World} {p : Program} {loose : List Str} {mg mb : Str → Option Value} {n : Nat} {env : Env} {H h0 : Heap} {B Sx : Addr} {zs : List Int} {k k1 k' : Nat}
/-- _law_take(box, many) -/
theorem EvB.take {many : Int} {m : Nat} {a : Addr} {p1 p2 p3 pos : Pos} (o : Ok (cx prog w p loose mg mb) H) (hB : H.get? B = none) (hc : env.cells.lookup ("box" : Str) = some a) (hv : h0.IsCell a (some (.ref B))) (ha : a ≠ B) (hk : k < 1000) (hz : zs.length ≤ 1000) (hm : many ≠ 0)
    (hkd : env.scope.kind = .function := by rfl) (hg : env.globals = mainGlobals := by rfl) (hkb : env.kindOf "box" = some .cell := by rfl) (hx : env.kindOf "_law_take" = some .globalImplicit := by rfl)
    (he : starEach [.Name "box" p2, .Constant (.int many) m p3] env = (false, eval (.Name "box" p2) env) :: starEach [.Constant (.int many) m p3] env := by rfl) (he' : starEach [.Constant (.int many) m p3] env = (false, eval (.Constant (.int many) m p3) env) :: starEach [] env := by rfl)
    (hpl : (backTo pos (starEach [.Constant (.int many) m p3] env)).any (·.1) = false := by rfl)
    (hcl : eval (.Call (.Name "_law_take" p1) [.Name "box" p2, .Constant (.int many) m p3] [] pos) env = (do callWith pos (← eval (.Name "_law_take" p1) env) [] (backTo pos (starEach [.Name "box" p2, .Constant (.int many) m p3] env)) (backToKw pos (keywordEach [] env))) := by rfl) :
    EvB (cx prog w p loose mg mb) (n + 1) env H B Sx zs h0 k (k + 1) (.Call (.Name "_law_take" p1) [.Name "box" p2, .Constant (.int many) m p3] [] pos) (.int (drawZ zs k many)) := fun A s Q E hA hx' hb bx q => by
  have o1 := o.ext hx'
  refine Call_ (name_top (c := cx prog w p loose mg mb) (v := .ref 217) o1 rfl ?_ hkd hg hx (by decide)) hcl
  refine callWith_K o.K rfl ?_ he hpl
  have hv1 : s.heap.IsCell a (some (.ref B)) := let ⟨ob, ho, r⟩ := hv; ⟨ob, hb _ _ ha ho, r⟩
  refine args_cons (wpAny_Name (wpAny_loadName_cell hkd hkb hc hv1 (args_cons (wpAny_Constant_int (args_nil ⟨o1.K, ?_⟩)) he')) (by decide)) he
  exact take_con (hA.le (by omega)) o hx' hB (s := { s with toks := _ }) bx hk hz hm fun h' tk t e b => q _ h' tk e b (.int _ _)
/-- a call of one argument that draws -/
theorem EvB.call1 {x : Str} {f : Addr} {p pos : Pos} {e : Expr} {d d' : PyData} {c : Cx} (o : Ok c H) (hB : H.get? B = none) (hn : nsIn c.K mainGlobals x = some (some (.ref f))) (hkp : keepIn c.K (.ref f) = true)
    (ha : EvB c n env H B Sx zs h0 k k' e d') (hc : Con c n f [d'] d)
    (hf : flat d = true)
    (hkd : env.scope.kind = .function := by rfl) (hg : env.globals = mainGlobals := by rfl) (hx : env.kindOf x = some .globalImplicit := by rfl) (hd : (x == ("__debug__" : Str)) = false := by decide)
    (he : starEach [e] env = (false, eval e env) :: starEach [] env := by rfl)
    (hcl : eval (.Call (.Name x p) [e] [] pos) env = (do callWith pos (← eval (.Name x p) env) [] (backTo pos (starEach [e] env)) (backToKw pos (keywordEach [] env))) := by rfl) :
    EvB c n env H B Sx zs h0 k k' (.Call (.Name x p) [e] [] pos) d := fun A s Q E hA hx' hb bx q => by
  refine Call_ (name_top (o.ext hx') hn ?_ hkd hg hx hd) hcl
  refine callWith_K o.K hkp ?_ he rfl
  refine args_cons (ha A s _ _ hA hx' hb bx fun v h1 t1 e1 b1 r1 => args_nil ⟨(o.ext (extB hB hx' e1)).K, ?_⟩) he
  exact hc A _ _ _ _ hA (o.ext (extB hB hx' e1)) (.cons r1.any .nil) fun v h2 t2 e2 r2 => q v h2 t2 (butTr e1 (butE e2)) (b1.ext e2) (r2.flat hf)
end
/-- a list comprehension whose element draws once -/
theorem EvNB.comp {c : Cx} {n : Nat} {env : Env} {H h0 : Heap} {B Sx : Addr} {zs : List Int} {k0 : Nat} {elt iter : Expr} {x : Str} {px pos : Pos} {scope : Scope} {cl : List (Str × Addr)} {N : Nat} {P : Nat → Value → Prop} (hB : H.get? B = none) (it : ∀ h, Ext H h → Heap.ExtBut B h0 h → It c n env H h iter N P) (hN : N ≤ 16777216)
    (hclos : closureFor scope env = pure cl) (f : Nat → PyData) (hf : ∀ i, flat (f i) = true)
    (step : ∀ i v C h m, i < N → P i v → Ext H h → Heap.ExtBut B h0 h → h.Ns C m → m x = some v → EvB c n (compEnvC scope cl C env) H B Sx zs h (k0 + i) (k0 + i + 1) elt (f i))
    (hcell : ∀ y ∈ scope.names, y.2 ≠ .cell := by decide) (hkind : scope.kind = .function := by rfl) (hnames : ∀ y ∈ scope.names, y.2 = .local → scope.names.lookup y.1 = some .local := by decide) (hx : scope.names.lookup x = some .local := by rfl)
    (hs : ∀ x, foldedSetIterable iter env x = Pure.pure x := by intro _; rfl) :
    EvNB c n env H B Sx zs h0 k0 (k0 + N) (.ListComp elt [⟨.Name x px, iter, [], 0⟩] scope pos) ((List.range N).map f) := fun A s Q E hA hH hx0 bx q =>
  compG hA hH (it s.heap hH hx0) hN hclos (· = B) (fun i h => Box h B Sx zs (k0 + i)) (fun b e => e ▸ hB) (fun b e => e ▸ bx.getB) (fun i h h' w hw e b => b.wr hw e)
    (fun i D h h' its hD hl e b => b.off (fun q => by obtain ⟨o, ho⟩ := bx.getB; rw [q, hD] at ho; cases ho) (fun q => by obtain ⟨o, ho⟩ := bx.getS; rw [q, hD] at ho; cases ho) hl e)
    (fun i h h' vs ds b e r => by obtain ⟨its, hl⟩ := b.isL; exact Rps.off (fun _ z => z.elim) hl e r) bx f
    (fun i v C h m hi hP hk hn hm b Q' E' tk k => step i v C h m hi hP (extB hB hH hk) (butTr hx0 hk) hn hm A _ Q' E' hA (extB hB hH hk) (fun _ _ _ e => e) b fun y h' tk' e b' r => k y h' tk' e b' (r.flat (hf i)))
    (fun a vs h' tk e n1 p1 b r => q a vs h' tk e n1 p1 b (r.re fun _ _ z _ => z.elim)) hcell hkind hnames hx hs

/-- what stays when the box and the frame are written -/
structure Mv (B L : Addr) (h h' : Heap) : Prop where
  kp : ∀ b o, b ≠ B → b ≠ L → h.get? b = some o → h'.get? b = some o
  rp : ∀ v d, Rp (· ≠ B) h v d → Rp (· ≠ B) h' v d
section
variable {c : Cx} {n : Nat} {env : Env} {A : Around} {s : Shared} {H : Heap} {B Sx : Addr} {zs : List Int} {k k' : Nat} {m : Str → Option Value} {E : Value → Shared → Prop} {Q : Flow → Shared → Prop} {rest : List Stmt}
theorem asgB {x : Str} {p pos : Pos} {e : Expr} {d : PyData} (hA : Rm n A) (F : Fr H env.locals s.heap m) (hB : H.get? B = none) (bx : Box s.heap B Sx zs k) (x1 : EvB c n env H B Sx zs s.heap k k' e d)
    (q : ∀ v h' tk, Fr H env.locals h' (put m x v) → Mv B env.locals s.heap h' → Box h' B Sx zs k' → Rp (· ≠ B) h' v d → wpAny (model c.prog c.w) A (execs rest env) Q E (up s h' tk))
    (hx : env.kindOf x = some .local := by rfl) (hk : env.scope.kind = .function := by rfl) (hs : swapsWith e (some (.Name x p)) pos.line env = pure false := by rfl) :
    wpAny (model c.prog c.w) A (execs (.Assign [.Name x p] e pos :: rest) env) Q E s := by
  refine wpAny_execs_cons (wpAny_Assign_Name (x1 A s _ _ hA F.keep (fun _ _ _ e => e) bx fun v h1 t1 e1 b1 r1 => ?_) hs)
  have hBL : B ≠ env.locals := by obtain ⟨its, hl⟩ := bx.isL; exact ne_locals F.ns hl
  have F1 := frBut F hB hBL e1
  refine set_ F1 hx hk fun h2 t2 F2 e2 => ?_
  exact q v h2 t2 F2 ⟨fun b o hb hl e => e2 b o hl (e1 b o hb e), fun v d r => (bx.tr e1 r).but F1.ns e2⟩ (b1.but F1.ns e2) (r1.but F1.ns e2)
theorem asg2B {x y : Str} {j : Nat} {p p' tp pos : Pos} {e : Expr} {d d' : PyData} (hA : Rm n A) (F : Fr H env.locals s.heap m) (hB : H.get? B = none) (bx : Box s.heap B Sx zs k) (x1 : EvB c n env H B Sx zs s.heap k k' e (.tuple [d, d']))
    (q : ∀ v v' h' tk, Fr H env.locals h' (put (put m y v') x v) → Mv B env.locals s.heap h' → Box h' B Sx zs k' → Rp (· ≠ B) h' v d → Rp (· ≠ B) h' v' d' → wpAny (model c.prog c.w) A (execs rest env) Q E (up s h' tk))
    (hx : env.kindOf x = some .local := by rfl) (hy : env.kindOf y = some .local := by rfl) (hk : env.scope.kind = .function := by rfl)
    (hs : swapsWithSole [.Tuple [.Name x p, .Name y p'] j tp] e pos.line env = pure false := by rfl)
    (hw : swappedStores [.Tuple [.Name x p, .Name y p'] j tp] e env = pure (some [x, y]) := by rfl) :
    wpAny (model c.prog c.w) A (execs (.Assign [.Tuple [.Name x p, .Name y p'] j tp] e pos :: rest) env) Q E s := by
  refine wpAny_execs_cons (Assign_Tuple_swapped (names := [x, y]) (x1 A s _ _ hA F.keep (fun _ _ _ e => e) bx fun v h1 t1 e1 b1 r1 => ?_) hs hw)
  have hBL : B ≠ env.locals := by obtain ⟨its, hl⟩ := bx.isL; exact ne_locals F.ns hl
  have F1 := frBut F hB hBL e1
  obtain ⟨a, vs, rfl, ht, rs⟩ := r1.tup_inv
  obtain ⟨v, v', e, rv, rv'⟩ := rs.two
  subst e
  refine unpackItems_tuple (items := [v, v'].toArray) hA.hh ht fun h2 e2' => ?_
  have e2 : Ext h1 h2 := fun b o e => e2' b o (Nat.ne_of_lt (Heap.lt_size e)) e
  have F2 := frExt F1 e2
  show wpAny (model c.prog c.w) A (do holding [v] (bindName env y v'); (do holding [] (bindName env x v); pure ())) _ _ _
  refine wpAny_bind (wpAny_holding (wpAny_bindName (set_ F2 hy hk fun h3 t3 F3 e3 => ?_)))
  refine wpAny_bind (wpAny_holding (wpAny_bindName (set_ F3 hx hk fun h4 t4 F4 e4 => wpAny_pure ?_)))
  exact q v v' h4 t4 F4 ⟨fun b o hb hl e => e4 b o hl (e3 b o hl (e2 b o (e1 b o hb e))), fun v d r => (((bx.tr e1 r).mono e2).but F2.ns e3).but F3.ns e4⟩ (((b1.ext e2).but F2.ns e3).but F3.ns e4) (((rv.mono e2).but F2.ns e3).but F3.ns e4) (((rv'.mono e2).but F2.ns e3).but F3.ns e4)
theorem asg3B {x y z : Str} {j : Nat} {p p' p'' tp pos : Pos} {e : Expr} {d d' d'' : PyData} (hA : Rm n A) (F : Fr H env.locals s.heap m) (hB : H.get? B = none) (bx : Box s.heap B Sx zs k) (x1 : EvB c n env H B Sx zs s.heap k k' e (.tuple [d, d', d'']))
    (q : ∀ v v' v'' h' tk, Fr H env.locals h' (put (put (put m z v'') y v') x v) → Mv B env.locals s.heap h' → Box h' B Sx zs k' → Rp (· ≠ B) h' v d → Rp (· ≠ B) h' v' d' → Rp (· ≠ B) h' v'' d'' → wpAny (model c.prog c.w) A (execs rest env) Q E (up s h' tk))
    (hx : env.kindOf x = some .local := by rfl) (hy : env.kindOf y = some .local := by rfl) (hz : env.kindOf z = some .local := by rfl) (hk : env.scope.kind = .function := by rfl)
    (hs : swapsWithSole [.Tuple [.Name x p, .Name y p', .Name z p''] j tp] e pos.line env = pure false := by rfl)
    (hw : swappedStores [.Tuple [.Name x p, .Name y p', .Name z p''] j tp] e env = pure (some [x, y, z]) := by rfl) :
    wpAny (model c.prog c.w) A (execs (.Assign [.Tuple [.Name x p, .Name y p', .Name z p''] j tp] e pos :: rest) env) Q E s := by
  refine wpAny_execs_cons (Assign_Tuple_swapped (names := [x, y, z]) (x1 A s _ _ hA F.keep (fun _ _ _ e => e) bx fun v h1 t1 e1 b1 r1 => ?_) hs hw)
  have hBL : B ≠ env.locals := by obtain ⟨its, hl⟩ := bx.isL; exact ne_locals F.ns hl
  have F1 := frBut F hB hBL e1
  obtain ⟨a, vs, rfl, ht, rs⟩ := r1.tup_inv
  obtain ⟨v, v', v'', e, rv, rv', rv''⟩ := rs.three
  subst e
  refine unpackItems_tuple (items := [v, v', v''].toArray) hA.hh ht fun h2 e2' => ?_
  have e2 : Ext h1 h2 := fun b o e => e2' b o (Nat.ne_of_lt (Heap.lt_size e)) e
  have F2 := frExt F1 e2
  show wpAny (model c.prog c.w) A (do holding [v', v] (bindName env z v''); (do holding [v] (bindName env y v'); (do holding [] (bindName env x v); pure ()))) _ _ _
  refine wpAny_bind (wpAny_holding (wpAny_bindName (set_ F2 hz hk fun h3 t3 F3 e3 => ?_)))
  refine wpAny_bind (wpAny_holding (wpAny_bindName (set_ F3 hy hk fun h4 t4 F4 e4 => ?_)))
  refine wpAny_bind (wpAny_holding (wpAny_bindName (set_ F4 hx hk fun h5 t5 F5 e5 => wpAny_pure ?_)))
  exact q v v' v'' h5 t5 F5 ⟨fun b o hb hl e => e5 b o hl (e4 b o hl (e3 b o hl (e2 b o (e1 b o hb e)))), fun v d r => ((((bx.tr e1 r).mono e2).but F2.ns e3).but F3.ns e4).but F4.ns e5⟩ ((((b1.ext e2).but F2.ns e3).but F3.ns e4).but F4.ns e5) ((((rv.mono e2).but F2.ns e3).but F3.ns e4).but F4.ns e5) ((((rv'.mono e2).but F2.ns e3).but F3.ns e4).but F4.ns e5) ((((rv''.mono e2).but F2.ns e3).but F3.ns e4).but F4.ns e5)
end
end Mine

namespace Mine
section
variable {c : Cx} {n : Nat} {env : Env} {S : Addr → Prop} {A : Around} {s : Shared} {H : Heap} {m : Str → Option Value} {E : Value → Shared → Prop} {Q : Flow → Shared → Prop} {rest : List Stmt}
/-- a captured name takes a new list -/
theorem asgCellN {x : Str} {p pos : Pos} {e : Expr} {ds : List PyData} {k : Addr} {v0 : Option Value} (hA : Rm n A) (F : Fr H env.locals s.heap m) (hc : env.cells.lookup x = some k) (hv : s.heap.IsCell k v0) (hkH : H.get? k = none) (x1 : EvN c n env s.heap S e ds)
    (q : ∀ a vs h' tk, Fr H env.locals h' m → h'.IsCell k (some (.ref a)) → s.heap.get? a = none → k ≠ a → h'.IsList a vs.toArray → Rps S h' vs ds → wpAny (model c.prog c.w) A (execs rest env) Q E (up s h' tk))
    (hx : env.kindOf x = some .cell := by rfl) (hk : env.scope.kind = .function := by rfl) (hs : swapsWith e (some (.Name x p)) pos.line env = pure false := by rfl) :
    wpAny (model c.prog c.w) A (execs (.Assign [.Name x p] e pos :: rest) env) Q E s := by
  refine wpAny_execs_cons (wpAny_Assign_Name (x1 A s _ _ hA Ext.rfl' fun a vs h1 t1 e1 n1 p1 r1 => ?_) hs)
  have hv1 : h1.IsCell k v0 := let ⟨o, ho, r⟩ := hv; ⟨o, e1 _ _ ho, r⟩
  obtain ⟨oc, hoc, hdc⟩ := id hv1
  have hns : NoSeq h1 (· = k) := fun b hb o ho xs kk hd => by
    subst hb
    rw [hoc] at ho; cases ho
    rw [hdc] at hd; cases hd
  have hka : k ≠ a := fun q => by
    obtain ⟨o, ho, _⟩ := hv
    rw [q, n1] at ho; cases ho
  refine wpAny_storeName_cell hk hx hc hv1 fun h2 c2 s2 => ?_
  have hkL : k ≠ env.locals := fun q => by
    obtain ⟨o', es, ep, ho', hd', _⟩ := (frExt F e1).ns
    rw [← q, hoc] at ho'; cases ho'
    rw [hdc] at hd'; cases hd'
  have mv : MvP (· = k) h1 h2 := fun b o nb e => s2.extBut b o nb e
  exact q a vs h2 t1 (frBut (frExt F e1) hkH hkL s2.extBut) c2 n1 hka (isList_wr hns mv p1.isList) (r1.wr hns mv)
end
/-- what the law asks of a polynomial that is taken apart -/
def ApOk (f : List Rat) (many : Nat) (inner : List Rat) (res : Option (List Rat)) : Prop :=
  ∃ (q : Rat) (fuel ef eq ei : Nat), rD q = .tuple [.int 1, .int many] ∧ 1 ≤ many ∧ many ≤ 30 ∧ 1 ≤ f.length ∧ f.length ≤ 30 ∧ 1 ≤ ef ∧ Hs ef f ∧ Hb eq q ∧
    1 ≤ (f.reverse.take ((f.length - 1) / many)).length ∧ (f.reverse.take ((f.length - 1) / many)).getD 0 0 = 1 ∧
    inner = 0 :: (spowerR (f.reverse.take ((f.length - 1) / many)) q).reverse ∧ (∀ k, k ≤ (f.reverse.take ((f.length - 1) / many)).length → Hs 64 (spOut (f.reverse.take ((f.length - 1) / many)) q k)) ∧
    31 * (eq + ef + 86) + 100 ≤ 67108864 ∧ 1 ≤ ei ∧ Hs ei inner ∧ inner.getD (inner.length - 1) 0 ≠ 0 ∧ okL ei inner fuel f ∧ fuel ≤ 100 ∧ apartL inner fuel [] f = res
/-- what the law asks of a composition -/
def CoOk (xs ys : List Rat) : Prop :=
  ∃ ea eb hh : Nat, Hs ea xs ∧ Hs eb ys ∧ 1 ≤ ea ∧ 1 ≤ eb ∧ 1 ≤ hh ∧ xs.length ≤ 30 ∧ ys.length ≤ 30 ∧ (∀ i, i < xs.length → Hs hh (compR xs ys i) ∧ (compR xs ys i).length ≤ 30) ∧ 1 + 30 * (30 * (hh + eb + 1)) + ea ≤ 67108864
def ZcOk (xs ys : List Int) : Prop :=
  ∃ eb hh : Nat, zHs eb ys ∧ xs.length ≤ 30 ∧ ys.length ≤ 30 ∧ (∀ i, i < xs.length → zHs hh (zcompR xs ys i) ∧ (zcompR xs ys i).length ≤ 30) ∧ hh + eb ≤ 67108864
section
variable {prog : Program} {w : World} {p : Program} {loose : List Str} {mg mb : Str → Option Value}
theorem apart_ok {f : List Rat} {many : Nat} {inner : List Rat} {res : Option (List Rat)} (h : ApOk f many inner res) : Con (cx prog w p loose mg mb) 7 231 [pD f, .int many] (apD inner res) := by
  obtain ⟨q, fuel, ef, eq, ei, h1, h2, h3, h4, h5, h6, h7, h8, h9, h10, h11, h12, h13, h14, h15, h16, h17, h18, h19⟩ := h
  rw [← h19]
  exact apart_con f many q inner fuel h1 h2 h3 h4 h5 h6 h7 h8 h9 h10 h11 h12 h13 h14 h15 h16 h17 h18
theorem co_ok {xs ys : List Rat} (h : CoOk xs ys) : Con (cx prog w p loose mg mb) 5 184 [pD xs, pD ys] (pD (qcomposeR xs ys)) := by
  obtain ⟨ea, eb, hh, h1, h2, h3, h4, h5, h6, h7, h8, h9⟩ := h
  exact qcompose_con xs ys h1 h2 h3 h4 h5 h6 h7 h8 h9
theorem zc_ok {xs ys : List Int} (h : ZcOk xs ys) : Con (cx prog w p loose mg mb) 5 210 [pZ xs, pZ ys] (pZ (zcomposeR xs ys)) := by
  obtain ⟨eb, hh, h1, h2, h3, h4, h5⟩ := h
  exact zcompose_con xs ys h1 h2 h3 h4 h5
end
theorem rD_int (x : Int) : rD (x : Rat) = .tuple [.int x, .int 1] := by
  show PyData.tuple [.int ((x : Rat)).num, .int ((x : Rat)).den] = _
  rw [Rat.num_intCast, Rat.den_intCast]; rfl
def halfR (x : Int) : Rat := mkRat x 2
theorem drawZ_range (zs : List Int) (k : Nat) {m : Int} (hm : 0 < m) : 0 ≤ drawZ zs k m ∧ drawZ zs k m < m := by
  have key : ∀ x : Int, 0 ≤ x.fmod m ∧ x.fmod m < m := fun x => by
    rw [Int.fmod_eq_emod_of_nonneg _ (by lia)]
    exact ⟨Int.emod_nonneg _ (by lia), Int.emod_lt_of_pos _ hm⟩
  unfold drawZ
  split
  · exact key _
  · exact key _
theorem halfD_eq {x : Int} (h1 : -2 ≤ x) (h2 : x ≤ 2) : halfD x = rD (halfR x) := by
  have : x = -2 ∨ x = -1 ∨ x = 0 ∨ x = 1 ∨ x = 2 := by lia
  rcases this with rfl | rfl | rfl | rfl | rfl <;> rfl
/-- the drawn polynomials -/
def outR (zs : List Int) (k many : Nat) : List Rat := (List.range many).map (fun i => ((drawZ zs (k + i) 5 - 2 : Int) : Rat)) ++ [1]
def inR (zs : List Int) (k size : Nat) : List Rat := 0 :: ((List.range (size - 1)).map (fun i => halfR (drawZ zs (k + i) 5 - 2)) ++ [1])
end Mine

namespace Mine
abbrev sqZ (c : Int) : List Int := [c, 0, 1]
abbrev odZ (b : Int) : List Int := [0, b, 0, 1]
def zhB (xs : List Int) : Bool := xs.all fun x => decide (x.natAbs < 2 ^ 64)
theorem zhB_ok {xs : List Int} (h : zhB xs = true) : zHs 64 xs := fun x hx => of_decide_eq_true (List.all_eq_true.mp h x hx)
def zcB (xs ys : List Int) : Bool := zhB ys && decide (xs.length ≤ 30) && decide (ys.length ≤ 30) && (List.range xs.length).all fun i => zhB (zcompR xs ys i) && decide ((zcompR xs ys i).length ≤ 30)
theorem zcB_ok {xs ys : List Int} (h : zcB xs ys = true) : ZcOk xs ys := by
  simp only [zcB, Bool.and_eq_true, decide_eq_true_eq, List.all_eq_true, List.mem_range] at h
  exact ⟨64, 64, zhB_ok h.1.1.1, h.1.1.2, h.1.2, fun i hi => ⟨zhB_ok (h.2 i hi).1, (h.2 i hi).2⟩, by decide⟩
def k2B (c b l : Int) : Bool :=
  zcB (odZ b) (sqZ c) && zcB (sqZ c) (odZ b) && zcB (zcomposeR (odZ b) (sqZ c)) [l, 1] && zcB (sqZ c) [l, 1] && zcB (odZ b) (zcomposeR (sqZ c) [l, 1]) &&
    (decide (zcomposeR (odZ b) (sqZ c) = zcomposeR (sqZ c) (odZ b)) == (PyData.eqv (.tuple [.int c, .int b]) (.tuple [.int 0, .int 0]) || PyData.eqv (.tuple [.int c, .int b]) (.tuple [.int (-2), .int (-3)]))) &&
    decide (zcomposeR (zcomposeR (odZ b) (sqZ c)) [l, 1] = zcomposeR (odZ b) (zcomposeR (sqZ c) [l, 1]))
theorem k2all : (([-2, -1, 0] : List Int).all fun c => ([-3, -2, -1, 0] : List Int).all fun b => ([-2, -1, 0, 1, 2] : List Int).all fun l => k2B c b l) = true := by decide +kernel
theorem K2 (c b l : Int) (h1 : -2 ≤ c) (h2 : c ≤ 0) (h3 : -3 ≤ b) (h4 : b ≤ 0) (h5 : -2 ≤ l) (h6 : l ≤ 2) :
    ZcOk (odZ b) (sqZ c) ∧ ZcOk (sqZ c) (odZ b) ∧ ZcOk (zcomposeR (odZ b) (sqZ c)) [l, 1] ∧ ZcOk (sqZ c) [l, 1] ∧ ZcOk (odZ b) (zcomposeR (sqZ c) [l, 1]) ∧
    decide (zcomposeR (odZ b) (sqZ c) = zcomposeR (sqZ c) (odZ b)) = (PyData.eqv (.tuple [.int c, .int b]) (.tuple [.int 0, .int 0]) || PyData.eqv (.tuple [.int c, .int b]) (.tuple [.int (-2), .int (-3)])) ∧
    zcomposeR (zcomposeR (odZ b) (sqZ c)) [l, 1] = zcomposeR (odZ b) (zcomposeR (sqZ c) [l, 1]) := by
  have m1 : c ∈ ([-2, -1, 0] : List Int) := by simp; lia
  have m2 : b ∈ ([-3, -2, -1, 0] : List Int) := by simp; lia
  have m3 : l ∈ ([-2, -1, 0, 1, 2] : List Int) := by simp; lia
  have h := List.all_eq_true.mp (List.all_eq_true.mp (List.all_eq_true.mp k2all c m1) b m2) l m3
  simp only [k2B, Bool.and_eq_true] at h
  obtain ⟨⟨⟨⟨⟨⟨a1, a2⟩, a3⟩, a4⟩, a5⟩, a6⟩, a7⟩ := h
  exact ⟨zcB_ok a1, zcB_ok a2, zcB_ok a3, zcB_ok a4, zcB_ok a5, eq_of_beq a6, of_decide_eq_true a7⟩

abbrev sqR : List Rat := [0, 0, 1]
abbrev odR (c : Int) : List Rat := [0, (c : Rat), 0, 1]
abbrev cuR (c : Int) : List Rat := [0, ((c * c : Int) : Rat), ((2 * c : Int) : Rat), 1]
def hB (xs : List Rat) : Bool := xs.all fun q => decide (q.num.natAbs < 2 ^ 64) && decide (q.den < 2 ^ 64)
theorem hB_ok {xs : List Rat} (h : hB xs = true) : Hs 64 xs := fun x hx => by
  have := List.all_eq_true.mp h x hx
  simp only [Bool.and_eq_true, decide_eq_true_eq] at this
  exact this
def coB (xs ys : List Rat) : Bool := hB xs && hB ys && decide (xs.length ≤ 30) && decide (ys.length ≤ 30) && (List.range xs.length).all fun i => hB (compR xs ys i) && decide ((compR xs ys i).length ≤ 30)
theorem coB_ok {xs ys : List Rat} (h : coB xs ys = true) : CoOk xs ys := by
  simp only [coB, Bool.and_eq_true, decide_eq_true_eq, List.all_eq_true, List.mem_range] at h
  exact ⟨64, 64, 64, hB_ok h.1.1.1.1, hB_ok h.1.1.1.2, by decide, by decide, by decide, h.1.1.2, h.1.2, fun i hi => ⟨hB_ok (h.2 i hi).1, (h.2 i hi).2⟩, by decide⟩
def okB (inner : List Rat) : Nat → List Rat → Bool
  | 0, _ => false
  | n + 1, left => decide (left.length = 0) || (hB left && decide (left.length ≤ 15) && (decide (1 < (qdivmodR left inner).2.length) || okB inner n (qdivmodR left inner).1))
theorem okB_ok {inner : List Rat} : ∀ {n : Nat} {left : List Rat}, okB inner n left = true → okL 64 inner n left
  | 0, _, h => by cases h
  | n + 1, left, h => by
    simp only [okB, Bool.or_eq_true, Bool.and_eq_true, decide_eq_true_eq] at h
    rcases h with h | ⟨⟨a, b⟩, c⟩
    · exact .inl h
    · refine .inr ⟨⟨64, by decide, hB_ok a, ?_⟩, by lia, c.imp id okB_ok⟩
      have := Nat.pow_le_pow_right (n := 2) (by decide) b
      lia
def apB (f : List Rat) (many : Nat) (q : Rat) (inner : List Rat) (fuel : Nat) (res : Option (List Rat)) : Bool :=
  decide (1 ≤ f.length) && decide (f.length ≤ 30) && hB f && hB [q] && decide (1 ≤ (f.reverse.take ((f.length - 1) / many)).length) && decide ((f.reverse.take ((f.length - 1) / many)).getD 0 0 = 1) &&
    decide (inner = 0 :: (spowerR (f.reverse.take ((f.length - 1) / many)) q).reverse) && ((List.range ((f.reverse.take ((f.length - 1) / many)).length + 1)).all fun k => hB (spOut (f.reverse.take ((f.length - 1) / many)) q k)) &&
    hB inner && decide (inner.getD (inner.length - 1) 0 ≠ 0) && okB inner fuel f && decide (apartL inner fuel [] f = res)
theorem apB_ok {f : List Rat} {many : Nat} {q : Rat} {inner : List Rat} {fuel : Nat} {res : Option (List Rat)} (h : apB f many q inner fuel res = true) (hq : rD q = .tuple [.int 1, .int many]) (hm : 1 ≤ many) (hm2 : many ≤ 30) (hf : fuel ≤ 100) : ApOk f many inner res := by
  simp only [apB, Bool.and_eq_true, decide_eq_true_eq, List.all_eq_true, List.mem_range] at h
  obtain ⟨⟨⟨⟨⟨⟨⟨⟨⟨⟨⟨a1, a2⟩, a3⟩, a4⟩, a5⟩, a6⟩, a7⟩, a8⟩, a9⟩, a10⟩, a11⟩, a12⟩ := h
  exact ⟨q, fuel, 64, 64, 64, hq, hm, hm2, a1, a2, by decide, hB_ok a3, hB_ok a4 q (List.mem_singleton.mpr rfl), a5, a6, a7, fun k hk => hB_ok (a8 k (by lia)), by decide, by decide, hB_ok a9, a10, okB_ok a11, hf, a12⟩
def k1B (c : Int) : Bool := coB sqR (odR c) && coB (cuR c) sqR && decide (qcomposeR (cuR c) sqR = qcomposeR sqR (odR c)) &&
  apB (qcomposeR sqR (odR c)) 2 (mkRat 1 2) (odR c) 10 (some sqR) && apB (qcomposeR sqR (odR c)) 3 (mkRat 1 3) sqR 10 (some (cuR c))
theorem k1all : (([-2, -1, 0, 1, 2] : List Int).all fun c => k1B c) = true := by decide +kernel
theorem K1 (c : Int) (h1 : -2 ≤ c) (h2 : c ≤ 2) : CoOk sqR (odR c) ∧ CoOk (cuR c) sqR ∧ qcomposeR (cuR c) sqR = qcomposeR sqR (odR c) ∧
    ApOk (qcomposeR sqR (odR c)) 2 (odR c) (some sqR) ∧ ApOk (qcomposeR sqR (odR c)) 3 sqR (some (cuR c)) := by
  have m1 : c ∈ ([-2, -1, 0, 1, 2] : List Int) := by simp; lia
  have h := List.all_eq_true.mp k1all c m1
  simp only [k1B, Bool.and_eq_true, decide_eq_true_eq] at h
  obtain ⟨⟨⟨⟨a1, a2⟩, a3⟩, a4⟩, a5⟩ := h
  exact ⟨coB_ok a1, coB_ok a2, a3, apB_ok a4 rfl (by decide) (by decide) (by decide), apB_ok a5 rfl (by decide) (by decide) (by decide)⟩
end Mine

namespace Mine
theorem getD_out {xs : List Rat} {i : Nat} (h : xs.length ≤ i) : xs.getD i 0 = 0 := by
  rw [List.getD_eq_getElem?_getD, List.getElem?_eq_none h]; rfl
theorem getD_take (xs : List Rat) (n i : Nat) : (xs.take n).getD i 0 = if i < n then xs.getD i 0 else 0 := by
  rw [List.getD_eq_getElem?_getD, List.getElem?_take]
  split
  · rw [List.getD_eq_getElem?_getD]
  · rfl
theorem trimN_zero (xs : List Rat) : ∀ k i, trimN xs k ≤ i → i < k → xs.getD i 0 = 0
  | 0, i, _, h => absurd h (Nat.not_lt_zero _)
  | k + 1, i, h1, h2 => by
    have e : trimN xs (k + 1) = if xs.getD k 0 = 0 then trimN xs k else k + 1 := rfl
    rw [e] at h1
    split at h1
    · rename_i hz
      by_cases hi : i = k
      · rw [hi]; exact hz
      · exact trimN_zero xs k i h1 (Nat.lt_of_le_of_ne (Nat.le_of_lt_succ h2) hi)
    · exact absurd h2 (Nat.not_lt.mpr h1)
theorem trimN_last (xs : List Rat) : ∀ k, trimN xs k = 0 ∨ xs.getD (trimN xs k - 1) 0 ≠ 0
  | 0 => .inl rfl
  | k + 1 => by
    have e : trimN xs (k + 1) = if xs.getD k 0 = 0 then trimN xs k else k + 1 := rfl
    rw [e]
    split
    · exact trimN_last xs k
    · rename_i hz
      exact .inr hz
theorem getD_trim (xs : List Rat) (i : Nat) : (trim xs).getD i 0 = xs.getD i 0 := by
  rw [trim, getD_take]
  split
  · rfl
  · rename_i h
    by_cases hi : i < xs.length
    · exact (trimN_zero xs xs.length i (Nat.not_lt.mp h) hi).symm
    · exact (getD_out (Nat.not_lt.mp hi)).symm
/-- no zero at the end -/
def Td (xs : List Rat) : Prop := xs.length = 0 ∨ xs.getD (xs.length - 1) 0 ≠ 0
theorem Td.trim (xs : List Rat) : Td (Mine.trim xs) := by
  have hl : (Mine.trim xs).length = trimN xs xs.length := by
    rw [Mine.trim, List.length_take]
    exact Nat.min_eq_left (trimN_le xs xs.length)
  rcases trimN_last xs xs.length with h | h
  · exact .inl (by rw [hl, h])
  · exact .inr (by rw [hl, getD_trim]; exact h)
theorem Td.len {xs : List Rat} (h : Td xs) {t : Nat} (h1 : xs.getD t 0 ≠ 0) (h2 : ∀ n, t < n → xs.getD n 0 = 0) : xs.length = t + 1 := by
  have hlt : t < xs.length := by
    rcases Nat.lt_or_ge t xs.length with q | q
    · exact q
    · exact absurd (getD_out q) h1
  rcases h with h | h
  · exact absurd hlt (h ▸ Nat.not_lt_zero t)
  · rcases Nat.lt_or_ge t (xs.length - 1) with q | q
    · exact absurd (h2 _ q) h
    · exact Nat.le_antisymm (Nat.sub_le_iff_le_add.mp q) hlt
theorem list_ext {xs ys : List Rat} (hl : xs.length = ys.length) (h : ∀ i, xs.getD i 0 = ys.getD i 0) : xs = ys := by
  refine List.ext_getElem hl fun i h1 h2 => ?_
  have := h i
  rw [List.getD_eq_getElem?_getD, List.getD_eq_getElem?_getD, List.getElem?_eq_getElem h1, List.getElem?_eq_getElem h2] at this
  exact this
theorem Td.ext {xs ys : List Rat} (hx : Td xs) (hy : Td ys) (h : ∀ i, xs.getD i 0 = ys.getD i 0) : xs = ys := by
  refine list_ext ?_ h
  rcases Nat.lt_trichotomy xs.length ys.length with q | q | q
  · exfalso
    rcases hy with hy | hy
    · exact Nat.not_lt_zero _ (hy ▸ q)
    · exact hy ((h _).symm.trans (getD_out (Nat.le_sub_one_of_lt q)))
  · exact q
  · exfalso
    rcases hx with hx | hx
    · exact Nat.not_lt_zero _ (hx ▸ q)
    · exact hx ((h _).trans (getD_out (Nat.le_sub_one_of_lt q)))
theorem trim_self {xs : List Rat} (h : Td xs) : Mine.trim xs = xs := (Td.trim xs).ext h (getD_trim xs)
theorem getD_add (a b : List Rat) (i : Nat) : (qaddR a b).getD i 0 = a.getD i 0 + b.getD i 0 := by
  rw [qaddR, getD_trim, addR]
  by_cases h : i < max a.length b.length
  · rw [List.getD_eq_getElem?_getD, List.getElem?_map, List.getElem?_range h]; rfl
  · rw [getD_out (by rw [List.length_map, List.length_range]; exact Nat.not_lt.mp h), getD_out (xs := a) (Nat.le_trans (Nat.le_max_left _ _) (Nat.not_lt.mp h)), getD_out (xs := b) (Nat.le_trans (Nat.le_max_right _ _) (Nat.not_lt.mp h))]; decide +kernel
theorem getD_neg (a : List Rat) (i : Nat) : (qnegR a).getD i 0 = -(a.getD i 0) := by
  by_cases h : i < a.length
  · rw [qnegR, List.getD_eq_getElem?_getD, List.getElem?_map, List.getD_eq_getElem?_getD, List.getElem?_eq_getElem h]; rfl
  · rw [getD_out (by rw [len_neg]; exact Nat.not_lt.mp h), getD_out (xs := a) (Nat.not_lt.mp h)]; decide +kernel
theorem getD_sub (a b : List Rat) (i : Nat) : (qsubR a b).getD i 0 = a.getD i 0 - b.getD i 0 := by
  rw [qsubR, getD_add, getD_neg, Rat.sub_eq_add_neg]
theorem getD_scale (a : List Rat) (r : Rat) (i : Nat) : (qscaleR a r).getD i 0 = a.getD i 0 * r := by
  unfold qscaleR
  split
  · rename_i h
    rw [h, Rat.mul_zero]; rfl
  · by_cases h : i < a.length
    · rw [List.getD_eq_getElem?_getD, List.getElem?_map, List.getD_eq_getElem?_getD, List.getElem?_eq_getElem h]; rfl
    · rw [getD_out (by rw [List.length_map]; exact Nat.not_lt.mp h), getD_out (xs := a) (Nat.not_lt.mp h), Rat.zero_mul]
theorem getD_raise (a : List Rat) (k i : Nat) : (qraiseR a k).getD i 0 = if i < k then 0 else a.getD (i - k) 0 := by
  unfold qraiseR
  split
  · rename_i h
    rw [h]
    split <;> rfl
  · rw [List.getD_eq_getElem?_getD, List.getElem?_append, List.length_replicate]
    split
    · rename_i h
      rw [List.getElem?_replicate, if_pos h]; rfl
    · rw [List.getD_eq_getElem?_getD]
/-- the first j terms of the product's n-th number -/
def cv (a b : List Rat) : Nat → Nat → Rat
  | 0, _ => 0
  | j + 1, n => cv a b j n + if n < j then 0 else a.getD j 0 * b.getD (n - j) 0
theorem getD_upd (f : List Rat) (i n : Nat) (q : Rat) (h : i < f.length) : (upd f i q).getD n 0 = f.getD n 0 + if n = i then q else 0 := by
  rw [upd, List.getD_eq_getElem?_getD, List.getElem?_set]
  by_cases e : i = n
  · subst e
    rw [if_pos rfl, if_pos rfl, if_pos h]; rfl
  · rw [if_neg e, if_neg (Ne.symm e), Rat.add_zero, List.getD_eq_getElem?_getD]
theorem getD_row (l : Rat) (b : List Rat) (r : Nat) (f : List Rat) (n : Nat) : ∀ k, r + k ≤ f.length → (mulRow l b r f k).getD n 0 = f.getD n 0 + if r ≤ n ∧ n < r + k then l * b.getD (n - r) 0 else 0
  | 0, _ => by rw [if_neg (fun h => absurd h.2 (Nat.not_lt.mpr h.1)), Rat.add_zero]; rfl
  | k + 1, h => by
    show (upd (mulRow l b r f k) (r + k) (l * b.getD k 0)).getD n 0 = _
    rw [getD_upd _ _ _ _ (by rw [len_row]; exact h), getD_row l b r f n k (Nat.le_of_lt h)]
    by_cases e : n = r + k
    · subst e
      rw [if_pos rfl, if_neg (fun h => Nat.lt_irrefl _ h.2), if_pos ⟨Nat.le_add_right r k, Nat.lt_succ_self _⟩, Rat.add_zero, Nat.add_sub_cancel_left]
    · rw [if_neg e, Rat.add_zero]
      by_cases e2 : r ≤ n ∧ n < r + k
      · rw [if_pos e2, if_pos ⟨e2.1, Nat.lt_succ_of_lt e2.2⟩]
      · rw [if_neg e2, if_neg (fun h => e2 ⟨h.1, Nat.lt_of_le_of_ne (Nat.le_of_lt_succ h.2) e⟩)]
theorem getD_rows (a b : List Rat) (n : Nat) (hb : 1 ≤ b.length) : ∀ k, k ≤ a.length → (mulRows a b k).getD n 0 = cv a b k n
  | 0, _ => by
    show (List.replicate _ (0 : Rat)).getD n 0 = 0
    rw [List.getD_eq_getElem?_getD, List.getElem?_replicate]
    split <;> rfl
  | k + 1, h => by
    show (mulRow (a.getD k 0) b k (mulRows a b k) b.length).getD n 0 = _
    rw [getD_row _ _ _ _ _ _ (by rw [len_rows]; exact Nat.le_sub_of_add_le (by rw [Nat.add_right_comm]; exact Nat.add_le_add_right h _)), getD_rows a b n hb k (Nat.le_of_lt h)]
    show _ = cv a b k n + _
    by_cases e : n < k
    · rw [if_neg (fun h => absurd e (Nat.not_lt.mpr h.1)), if_pos e]
    · rw [if_neg e]
      by_cases e2 : n < k + b.length
      · rw [if_pos ⟨Nat.not_lt.mp e, e2⟩]
      · rw [if_neg (fun h => e2 h.2), getD_out (xs := b) (Nat.le_sub_of_add_le (Nat.add_comm k _ ▸ Nat.not_lt.mp e2)), Rat.mul_zero]
theorem getD_mul (a b : List Rat) (n : Nat) (hb : 1 ≤ b.length) : (qmulR a b).getD n 0 = cv a b a.length n := by
  unfold qmulR
  split
  · rename_i h
    rcases h with h | h
    · rw [h]; rfl
    · rw [h] at hb; exact absurd hb (Nat.not_succ_le_zero _)
  · exact getD_rows a b n hb _ (Nat.le_refl _)
theorem cv_top (a b : List Rat) {B : Nat} (hB : b.length = B + 1) : ∀ j n, j + B ≤ n → cv a b j n = 0
  | 0, _, _ => rfl
  | j + 1, n, h => by
    rw [Nat.add_right_comm] at h
    show cv a b j n + _ = 0
    rw [cv_top a b hB j n (Nat.le_of_lt h), if_neg (Nat.not_lt.mpr (Nat.le_trans (Nat.le_add_right j B) (Nat.le_of_lt h))), getD_out (xs := b) (hB.symm ▸ Nat.le_sub_of_add_le (Nat.le_trans (Nat.le_of_eq (Nat.add_comm _ _)) h)), Rat.mul_zero]; decide +kernel
theorem getD_step (b rest : List Rat) (n : Nat) {B j : Nat} (hB : b.length = B + 1) (hb : b.getD B 0 = 1) (hl : rest.length = j + B + 1) : (divStep b rest).getD n 0 = (if n < j + B then rest.getD n 0 else 0) - (if n < j then 0 else (if n - j < B then b.getD (n - j) 0 else 0) * rest.getD (j + B) 0) := by
  rw [divStep, getD_sub, getD_take, getD_raise, getD_scale, getD_take, hl, hB]
  show (if n < j + B then _ else _) - (if n < j + (B + 1) - (B + 1) then 0 else (if n - (j + (B + 1) - (B + 1)) < B then b.getD (n - (j + (B + 1) - (B + 1))) 0 else 0) * (rest.getD (j + B) 0 / b.getD B 0)) = _
  rw [Nat.add_sub_cancel, hb, Rat.div_def, show (1 : Rat)⁻¹ = 1 by decide +kernel, Rat.mul_one]
theorem div_main (b : List Rat) {B : Nat} (hB : b.length = B + 1) (hb : b.getD B 0 = 1) (q r : List Rat) (hr : Td r) (hrl : r.length ≤ B) : ∀ j, j ≤ q.length → ∀ (fuel : Nat) (rest found : List Rat), Td rest → (∀ n, rest.getD n 0 = cv q b j n + r.getD n 0) →
    found.length = q.length → (∀ i, i < j → found.getD i 0 = 0) → (∀ i, j ≤ i → found.getD i 0 = q.getD i 0) → rest.length ≤ fuel → divR b fuel found rest = (q, r)
  | 0, _, fuel, rest, found, ht, hc, hl, h0, h1, hf => by
    have e1 : rest = r := ht.ext hr fun i => by rw [hc i]; show 0 + _ = _; rw [Rat.zero_add]
    have e2 : found = q := list_ext hl fun i => h1 i (Nat.zero_le _)
    subst e1 e2
    cases fuel with
    | zero => rfl
    | succ f => show (if rest.length < b.length then _ else _) = _; rw [if_pos (hB.symm ▸ Nat.lt_succ_of_le hrl)]
  | j + 1, hj, fuel, rest, found, ht, hc, hl, h0, h1, hf => by
    by_cases hz : q.getD j 0 = 0
    · refine div_main b hB hb q r hr hrl j (Nat.le_of_lt hj) fuel rest found ht (fun n => ?_) hl (fun i hi => h0 i (Nat.lt_succ_of_lt hi)) (fun i hi => ?_) hf
      · rw [hc n]
        show cv q b j n + (if n < j then 0 else q.getD j 0 * b.getD (n - j) 0) + _ = _
        rw [hz, Rat.zero_mul, ite_self, Rat.add_zero]
      · by_cases e : i = j
        · rw [e, h0 j (Nat.lt_succ_self j), hz]
        · exact h1 i (Nat.lt_of_le_of_ne hi (Ne.symm e))
    · have hjB : ∀ n, j + B ≤ n → r.length ≤ n := fun n e => Nat.le_trans hrl (Nat.le_trans (Nat.le_add_left B j) e)
      have top : rest.getD (j + B) 0 = q.getD j 0 := by
        rw [hc]
        show cv q b j _ + (if j + B < j then 0 else q.getD j 0 * b.getD (j + B - j) 0) + _ = _
        rw [cv_top q b hB j _ (Nat.le_refl _), if_neg (Nat.not_lt.mpr (Nat.le_add_right j B)), Nat.add_sub_cancel_left, hb, getD_out (xs := r) (hjB _ (Nat.le_refl _)), Rat.mul_one, Rat.add_zero, Rat.zero_add]
      have hlen : rest.length = j + B + 1 := ht.len (by rw [top]; exact hz) fun n hn => by
        rw [hc, cv_top q b hB (j + 1) n (by rw [Nat.add_right_comm]; exact hn), getD_out (xs := r) (hjB _ (Nat.le_of_lt hn))]; decide +kernel
      have hge : ¬ rest.length < b.length := by rw [hlen, hB]; exact Nat.not_lt.mpr (Nat.succ_le_succ (Nat.le_add_left B j))
      cases fuel with
      | zero => rw [hlen] at hf; exact absurd hf (Nat.not_succ_le_zero _)
      | succ f =>
      show (if rest.length < b.length then _ else _) = _
      rw [if_neg hge]
      have hnum : rest.getD (rest.length - 1) 0 / b.getD (b.length - 1) 0 = q.getD j 0 := by
        rw [hB, hlen]
        show rest.getD (j + B) 0 / b.getD B 0 = _
        rw [hb, top, Rat.div_def, show (1 : Rat)⁻¹ = 1 by decide +kernel, Rat.mul_one]
      have hpow : rest.length - b.length = j := by rw [hlen, hB]; exact Nat.add_sub_cancel (n := j) (m := B + 1)
      rw [hnum, hpow]
      refine div_main b hB hb q r hr hrl j (Nat.le_of_lt hj) f _ _ (Td.trim _) (fun n => ?_) (by rw [List.length_set]; exact hl) (fun i hi => ?_) (fun i hi => ?_) (Nat.le_of_lt_succ (Nat.lt_of_lt_of_le (len_divStep (hB.symm ▸ Nat.succ_pos B) (Nat.not_lt.mp hge)) hf))
      · rw [getD_step b rest n hB hb hlen, top]
        by_cases e : n < j + B
        · rw [if_pos e, hc n]
          show cv q b j n + (if n < j then 0 else q.getD j 0 * b.getD (n - j) 0) + _ - _ = _
          by_cases e2 : n < j
          · rw [if_pos e2, if_pos e2, Rat.add_zero, Rat.sub_eq_add_neg, Rat.neg_zero, Rat.add_zero]
          · rw [if_neg e2, if_neg e2, if_pos (Nat.sub_lt_left_of_lt_add (Nat.not_lt.mp e2) e), Rat.sub_eq_add_neg, Rat.mul_comm, Rat.add_assoc, Rat.add_assoc, Rat.add_comm (_ * _), Rat.add_assoc, Rat.add_comm (-_), Rat.add_neg_cancel, Rat.add_zero]
        · have e' := Nat.not_lt.mp e
          rw [if_neg e, if_neg (Nat.not_lt.mpr (Nat.le_trans (Nat.le_add_right j B) e')), if_neg (Nat.not_lt.mpr (Nat.le_sub_of_add_le (Nat.le_trans (Nat.le_of_eq (Nat.add_comm _ _)) e'))), cv_top q b hB j n e', getD_out (xs := r) (hjB n e'), Rat.zero_mul]; decide +kernel
      · rw [List.getD_eq_getElem?_getD, List.getElem?_set, if_neg (Nat.ne_of_gt hi), ← List.getD_eq_getElem?_getD]
        exact h0 i (Nat.lt_succ_of_lt hi)
      · by_cases e : i = j
        · subst e
          rw [List.getD_eq_getElem?_getD, List.getElem?_set, if_pos rfl, if_pos (hl.symm ▸ hj)]; rfl
        · rw [List.getD_eq_getElem?_getD, List.getElem?_set, if_neg (Ne.symm e), ← List.getD_eq_getElem?_getD]
          exact h1 i (Nat.lt_of_le_of_ne hi (Ne.symm e))
theorem getD_pr (q b r : List Rat) (hb1 : 1 ≤ b.length) (n : Nat) : (qaddR (qmulR q b) r).getD n 0 = cv q b q.length n + r.getD n 0 := by rw [getD_add, getD_mul _ _ _ hb1]
theorem len_pr {q b r : List Rat} (hb : b.getD (b.length - 1) 0 = 1) (hb1 : 1 ≤ b.length) (hq : Td q) (hq1 : 1 ≤ q.length) (hrl : r.length < b.length) : (qaddR (qmulR q b) r).length = q.length - 1 + b.length := by
  obtain ⟨B, hB⟩ : ∃ B, b.length = B + 1 := ⟨_, (Nat.sub_add_cancel hb1).symm⟩
  obtain ⟨j, hj⟩ : ∃ j, q.length = j + 1 := ⟨_, (Nat.sub_add_cancel hq1).symm⟩
  have hz : q.getD j 0 ≠ 0 := by
    rcases hq with h | h
    · rw [hj] at h; exact absurd h (Nat.succ_ne_zero _)
    · rw [hj] at h; exact h
  rw [hB] at hb hrl
  have hjB : ∀ n, j + B ≤ n → r.length ≤ n := fun n e => Nat.le_trans (Nat.le_of_lt_succ hrl) (Nat.le_trans (Nat.le_add_left B j) e)
  have := (Td.trim (addR (qmulR q b) r)).len (t := j + B) ?_ ?_
  · show (Mine.trim _).length = _
    rw [this, hj, hB]; rfl
  · show (qaddR (qmulR q b) r).getD _ 0 ≠ 0
    rw [getD_pr _ _ _ hb1, hj]
    show cv q b j _ + (if j + B < j then 0 else q.getD j 0 * b.getD (j + B - j) 0) + _ ≠ 0
    rw [cv_top q b hB j _ (Nat.le_refl _), if_neg (Nat.not_lt.mpr (Nat.le_add_right j B)), Nat.add_sub_cancel_left, show b.getD B 0 = 1 from hb, getD_out (xs := r) (hjB _ (Nat.le_refl _)), Rat.mul_one, Rat.add_zero, Rat.zero_add]
    exact hz
  · intro n hn
    show (qaddR (qmulR q b) r).getD _ 0 = 0
    rw [getD_pr _ _ _ hb1, hj, cv_top q b hB (j + 1) n (by rw [Nat.add_right_comm]; exact hn), getD_out (xs := r) (hjB _ (Nat.le_of_lt hn))]; decide +kernel
theorem qdivmod_eq {q b r : List Rat} (hb : b.getD (b.length - 1) 0 = 1) (hb1 : 1 ≤ b.length) (hq : Td q) (hr : Td r) (hrl : r.length < b.length) : qdivmodR (qaddR (qmulR q b) r) b = (q, r) := by
  obtain ⟨B, hB⟩ : ∃ B, b.length = B + 1 := ⟨_, (Nat.sub_add_cancel hb1).symm⟩
  have hlen : (qaddR (qmulR q b) r).length + 1 - b.length = q.length := by
    rcases Nat.eq_zero_or_pos q.length with h | h
    · have e : qaddR (qmulR q b) r = r := (Td.trim _).ext hr fun i => by
        show (qaddR (qmulR q b) r).getD i 0 = _
        rw [getD_pr _ _ _ hb1, h]; show 0 + _ = _; rw [Rat.zero_add]
      rw [e, h]; exact Nat.sub_eq_zero_of_le hrl
    · rw [len_pr hb hb1 hq h hrl, Nat.add_right_comm, Nat.add_sub_cancel, Nat.sub_add_cancel h]
  have := div_main b hB (by rw [hB] at hb; exact hb) q r hr (Nat.le_of_lt_succ (Nat.lt_of_lt_of_eq hrl hB)) q.length (Nat.le_refl _) (qaddR (qmulR q b) r).length (qaddR (qmulR q b) r) (List.replicate q.length 0) (Td.trim _) (getD_pr q b r hb1) List.length_replicate (fun i hi => ?_) (fun i hi => ?_) (Nat.le_refl _)
  · unfold qdivmodR
    rw [hlen, this]
    show (Mine.trim q, r) = _
    rw [trim_self hq]
  · rw [List.getD_eq_getElem?_getD, List.getElem?_replicate, if_pos hi]; rfl
  · rw [List.getD_eq_getElem?_getD, List.getElem?_replicate, if_neg (Nat.not_lt.mpr hi), getD_out hi]; rfl
end Mine

namespace Mine
theorem comp_td (a b : List Rat) : ∀ k, Td (compR a b k)
  | 0 => .inl rfl
  | k + 1 => Td.trim _
theorem trim_one_len (q : Rat) : (Mine.trim [q]).length ≤ 1 := len_trim [q]
section
variable {a b : List Rat} (hb : b.getD (b.length - 1) 0 = 1) (hb2 : 2 ≤ b.length) (ha : a.getD (a.length - 1) 0 = 1)
include hb hb2 ha
theorem comp_one : compR a b 1 = [1] := by
  refine (comp_td a b 1).ext (.inr (by show (1 : Rat) ≠ 0; decide +kernel)) fun i => ?_
  show (qaddR (qmulR [] b) (Mine.trim [a.getD (a.length - 1 - 0) 0])).getD i 0 = _
  rw [getD_pr _ _ _ (by lia), getD_trim, Nat.sub_zero, ha]
  show 0 + _ = _
  rw [Rat.zero_add]
theorem comp_len : ∀ k, (compR a b (k + 1)).length = k * (b.length - 1) + 1
  | 0 => by rw [comp_one hb hb2 ha]; simp
  | k + 1 => by
    have h := comp_len k
    show (qaddR (qmulR (compR a b (k + 1)) b) (Mine.trim _)).length = _
    rw [len_pr hb (by lia) (comp_td a b (k + 1)) (by lia) (Nat.lt_of_le_of_lt (trim_one_len _) (by lia)), h, Nat.succ_mul]
    lia
theorem comp_div (k : Nat) : qdivmodR (compR a b (k + 1)) b = (compR a b k, Mine.trim [a.getD (a.length - 1 - k) 0]) :=
  qdivmod_eq hb (by lia) (comp_td a b k) (Td.trim _) (Nat.lt_of_le_of_lt (trim_one_len _) (by lia))
theorem apart_comp : ∀ (k n : Nat) (acc : List Rat), k ≤ a.length → k + 1 ≤ n → apartL b n acc (compR a b k) = some (acc ++ a.drop (a.length - k))
  | 0, n, acc, _, hn => by
    obtain ⟨m, rfl⟩ : ∃ m, n = m + 1 := ⟨n - 1, by lia⟩
    show (if ([] : List Rat).length = 0 then some acc else _) = _
    rw [if_pos (show ([] : List Rat).length = 0 from rfl), Nat.sub_zero, List.drop_length, List.append_nil]
  | k + 1, n, acc, hk, hn => by
    obtain ⟨m, rfl⟩ : ∃ m, n = m + 1 := ⟨n - 1, by lia⟩
    have hl := comp_len hb hb2 ha k
    show (if (compR a b (k + 1)).length = 0 then _ else if 1 < (qdivmodR (compR a b (k + 1)) b).2.length then none else apartL b m (acc ++ [(qdivmodR (compR a b (k + 1)) b).2.getD 0 0]) (qdivmodR (compR a b (k + 1)) b).1) = _
    rw [if_neg (by lia), comp_div hb hb2 ha k]
    have h1 := trim_one_len (a.getD (a.length - 1 - k) 0)
    rw [if_neg (by show ¬ 1 < (Mine.trim _).length; lia)]
    show apartL b m (acc ++ [(Mine.trim [a.getD (a.length - 1 - k) 0]).getD 0 0]) (compR a b k) = _
    rw [apart_comp k m _ (by lia) (by lia), getD_trim]
    have e : a.drop (a.length - (k + 1)) = a.getD (a.length - 1 - k) 0 :: a.drop (a.length - k) := by
      have hlt : a.length - (k + 1) < a.length := by lia
      rw [List.drop_eq_getElem_cons hlt, show a.length - 1 - k = a.length - (k + 1) by lia, List.getD_eq_getElem?_getD, List.getElem?_eq_getElem hlt, show a.length - (k + 1) + 1 = a.length - k by lia]
      rfl
    rw [e, List.append_assoc]
    rfl
end
/-- heights -/
def hG : Nat → Nat
  | 0 => 1
  | 1 => 4
  | 2 => 32
  | 3 => 564
  | _ => 15880
theorem comp_hs {a b : List Rat} (hb : b.getD (b.length - 1) 0 = 1) (hb2 : 2 ≤ b.length) (hb4 : b.length ≤ 4) (ha : a.getD (a.length - 1) 0 = 1) (h1 : Hs 2 a) (h2 : Hs 2 b) : ∀ k, k ≤ 4 → Hs (hG k) (compR a b k)
  | 0, _ => fun q hq => by cases hq
  | 1, _ => by
    rw [comp_one hb hb2 ha]
    intro q hq
    rw [List.mem_singleton.mp hq]
    exact ⟨by decide, by decide⟩
  | k + 2, hk => by
    have ih := comp_hs hb hb2 hb4 ha h1 h2 (k + 1) (by lia)
    have hl := comp_len hb hb2 ha k
    have hlast : Hs 2 (Mine.trim [a.getD (a.length - 1 - (k + 1)) 0]) := Hs.trim fun q hq => by rw [List.mem_singleton.mp hq]; exact h1.at (by decide) _
    have hg1 : 1 ≤ hG (k + 1) := by unfold hG; split <;> decide
    have := (ih.mul hg1 h2 (by decide)).add hlast (by lia) (by decide)
    refine Hs.le this ?_
    have hm : (compR a b (k + 1)).length * (b.length * (hG (k + 1) + 2 + 1)) ≤ (k * 3 + 1) * (4 * (hG (k + 1) + 2 + 1)) := by
      refine Nat.mul_le_mul ?_ (Nat.mul_le_mul_right _ hb4)
      rw [hl]
      have := Nat.mul_le_mul_left k (show b.length - 1 ≤ 3 by lia)
      lia
    have hk' : k = 0 ∨ k = 1 ∨ k = 2 := by lia
    rcases hk' with rfl | rfl | rfl
    · refine Nat.le_trans (Nat.add_le_add_right (Nat.add_le_add_right (Nat.add_le_add_left hm 1) 2) 1) (by decide)
    · refine Nat.le_trans (Nat.add_le_add_right (Nat.add_le_add_right (Nat.add_le_add_left hm 1) 2) 1) (by decide)
    · refine Nat.le_trans (Nat.add_le_add_right (Nat.add_le_add_right (Nat.add_le_add_left hm 1) 2) 1) (by decide)
theorem hG_le (k : Nat) : hG k ≤ 15880 := by unfold hG; split <;> decide
theorem spOut_take (a : List Rat) (q : Rat) : ∀ n k, k ≤ n → spOut a q k = (spOut a q n).take k
  | 0, k, h => by
    obtain rfl : k = 0 := by lia
    rfl
  | n + 1, k, h => by
    by_cases e : k = n + 1
    · subst e
      rw [List.take_of_length_le (by rw [len_spOut]; lia)]
    · rw [spOut_take a q n k (by lia)]
      show _ = (spOut a q n ++ [_]).take k
      rw [List.take_append_of_le_length (by rw [len_spOut]; lia)]
theorem rev_take {f : List Rat} {N k : Nat} (hl : f.length = N + 1) (hk : k ≤ N + 1) : f.reverse.take k = (List.range k).map (fun i => f.getD (N - i) 0) := by
  refine List.ext_getElem (by rw [List.length_take, List.length_reverse, hl, List.length_map, List.length_range]; exact Nat.min_eq_left hk) fun i h1 h2 => ?_
  have hi : i < k := by simpa using h2
  rw [List.getElem_take, List.getElem_reverse, List.getElem_map, List.getElem_range, List.getD_eq_getElem?_getD]
  have : N - i < f.length := hl ▸ Nat.lt_succ_of_le (Nat.sub_le N i)
  rw [List.getElem?_eq_getElem this]
  show _ = f[N - i]
  congr 1
  rw [hl]; rfl
/-- the class: many, size -/
theorem core {a b : List Rat} {many size : Nat} {q : Rat} (hq : rD q = .tuple [.int 1, .int many]) (hqb : Hb 2 q) (hm : many = 2 ∨ many = 3) (hs : size = 2 ∨ size = 3) (hal : a.length = many + 1) (hbl : b.length = size + 1) (hb : b.getD (b.length - 1) 0 = 1) (ha : a.getD (a.length - 1) 0 = 1) (h1 : Hs 2 a) (h2 : Hs 2 b)
    (hR : ∀ f : List Rat, f.length = many * size + 1 → (∀ n, 2 ≤ n → f.getD n 0 = (qcomposeR a b).getD n 0) → f.getD (many * size) 0 = 1 ∧ b = 0 :: (spowerR (f.reverse.take size) q).reverse) :
    CoOk a b ∧ (qcomposeR a b).length = many * size + 1 ∧ ApOk (qcomposeR a b) many b (some a) ∧ ApOk (qaddR (qcomposeR a b) [0, 1]) many b none ∧ ∃ i, Hs i (qcomposeR a b) ∧ 1 ≤ i ∧ i ≤ 1000000 := by
  have hb2 : 2 ≤ b.length := by lia
  have hb4 : b.length ≤ 4 := by lia
  have hH := comp_hs hb hb2 hb4 ha h1 h2
  have hL := comp_len hb hb2 ha
  have hLle : ∀ k, k ≤ 4 → (compR a b k).length ≤ 10 := fun k hk => by
    cases k with
    | zero => exact Nat.zero_le _
    | succ k =>
      rw [hL k]
      have := Nat.mul_le_mul (show k ≤ 3 by lia) (show b.length - 1 ≤ 3 by lia)
      lia
  have hfl : (qcomposeR a b).length = many * size + 1 := by
    show (compR a b a.length).length = _
    rw [hal, hL many, hbl]; rfl
  have hpos : 1 ≤ many * size := by rcases hm with rfl | rfl <;> rcases hs with rfl | rfl <;> decide
  have h10 : many * size ≤ 9 := by rcases hm with rfl | rfl <;> rcases hs with rfl | rfl <;> decide
  have h4 : 4 ≤ many * size := by rcases hm with rfl | rfl <;> rcases hs with rfl | rfl <;> decide
  have hfH : Hs 15880 (qcomposeR a b) := (hH a.length (by lia)).le (hG_le _)
  have hone : (1 : Rat) ≠ 0 := by decide +kernel
  have h01 : Hs 1 ([0, 1] : List Rat) := fun q hq => by
    rcases List.mem_cons.mp hq with rfl | hq
    · exact Hb.zero (by decide)
    · rw [List.mem_singleton.mp hq]; exact ⟨by decide, by decide⟩
  have hf2H : Hs 15882 (qaddR (qcomposeR a b) [0, 1]) := hfH.add h01 (by decide) (by decide)
  have hdiv : (many * size) / many = size := Nat.mul_div_cancel_left _ (by lia)
  have hok : ∀ (k n : Nat), k ≤ 4 → k + 1 ≤ n → okL 2 b n (compR a b k) := by
    intro k
    induction k with
    | zero =>
      intro n _ hn
      obtain ⟨m, rfl⟩ : ∃ m, n = m + 1 := ⟨n - 1, by lia⟩
      exact .inl rfl
    | succ k ih =>
      intro n hk hn
      obtain ⟨m, rfl⟩ : ∃ m, n = m + 1 := ⟨n - 1, by lia⟩
      have hle := hLle (k + 1) hk
      refine .inr ⟨⟨15880, by decide, (hH (k + 1) hk).le (hG_le _), ?_⟩, by lia, .inr ?_⟩
      · have := Nat.pow_le_pow_right (n := 2) (by decide) hle
        have := Nat.mul_le_mul_left (15880 + 2 * 2 + 1) this
        exact Nat.le_trans this (by decide)
      · rw [comp_div hb hb2 ha k]
        exact ih m (by lia) (by lia)
  have hsame : ∀ n, 2 ≤ n → (qaddR (qcomposeR a b) [0, 1]).getD n 0 = (qcomposeR a b).getD n 0 := fun n hn => by
    rw [getD_add, getD_out (xs := ([0, 1] : List Rat)) (by simp; lia), Rat.add_zero]
  have hf2l : (qaddR (qcomposeR a b) [0, 1]).length = many * size + 1 := by
    refine (Td.trim _).len (t := many * size) ?_ fun n hn => ?_
    · show (qaddR (qcomposeR a b) [0, 1]).getD _ 0 ≠ 0
      rw [hsame _ (by lia), (hR _ hfl fun _ _ => rfl).1]; exact hone
    · show (qaddR (qcomposeR a b) [0, 1]).getD _ 0 = 0
      rw [hsame _ (by lia), getD_out (by lia)]
  have hsize1 : 1 ≤ size := by lia
  have lead : ∀ f : List Rat, f.length = many * size + 1 → f.getD (many * size) 0 = 1 → (f.reverse.take size).length = size ∧ (f.reverse.take size).getD 0 0 = 1 := fun f hf h => by
    refine ⟨by rw [List.length_take, List.length_reverse, hf]; rcases hm with rfl | rfl <;> rcases hs with rfl | rfl <;> decide, ?_⟩
    rw [rev_take hf (by rcases hm with rfl | rfl <;> rcases hs with rfl | rfl <;> decide), List.getD_eq_getElem?_getD, List.getElem?_map, List.getElem?_range (by lia)]
    exact h
  have sp : ∀ f : List Rat, b = 0 :: (spowerR (f.reverse.take size) q).reverse → ∀ k, k ≤ (f.reverse.take size).length → Hs 64 (spOut (f.reverse.take size) q k) := fun f hf k hk => by
    rw [spOut_take _ _ _ k hk]
    refine Hs.take ?_ _
    intro z hz
    have : z ∈ b := by rw [hf]; exact List.mem_cons_of_mem _ (List.mem_reverse.mpr hz)
    exact (h2 z this).le (by decide)
  have hin : ∀ f : List Rat, f.length = many * size + 1 → (f.length - 1) / many = size := fun f hf => by rw [hf, Nat.add_sub_cancel, hdiv]
  have mk : ∀ (f : List Rat) (res : Option (List Rat)), f.length = many * size + 1 → (∀ n, 2 ≤ n → f.getD n 0 = (qcomposeR a b).getD n 0) → Hs 15882 f → okL 2 b 10 f → apartL b 10 [] f = res → ApOk f many b res := fun f res hf hsm hH' ho hr => by
    obtain ⟨r1, r2⟩ := hR f hf hsm
    obtain ⟨l1, l2⟩ := lead f hf r1
    have e := hin f hf
    refine ⟨q, 10, 15882, 2, 2, hq, by lia, by lia, by lia, by lia, by decide, hH', hqb, ?_, ?_, ?_, ?_, by decide, by decide, h2, by rw [hb]; exact hone, ho, by decide, hr⟩
    · rw [e, l1]; exact hsize1
    · rw [e]; exact l2
    · rw [e]; exact r2
    · rw [e]; exact sp f r2
  refine ⟨⟨2, 2, 15880, h1, h2, by decide, by decide, by decide, by lia, by lia, fun i hi => ⟨(hH i (by lia)).le (hG_le _), Nat.le_trans (hLle i (by lia)) (by decide)⟩, by decide⟩, hfl, ?_, ?_, 15880, hfH, by decide, by decide⟩
  · refine mk _ _ hfl (fun _ _ => rfl) (hfH.le (by decide)) (hok a.length 10 (by lia) (by lia)) ?_
    show apartL b 10 [] (compR a b a.length) = _
    rw [apart_comp hb hb2 ha a.length 10 [] (Nat.le_refl _) (by lia), Nat.sub_self]; rfl
  · obtain ⟨k, hk⟩ : ∃ k, a.length = k + 1 := ⟨many, hal⟩
    have e1 : qcomposeR a b = qaddR (qmulR (compR a b k) b) (Mine.trim [a.getD (a.length - 1 - k) 0]) := by
      exact congrArg (compR a b) hk
    have e2 : qaddR (qcomposeR a b) [0, 1] = qaddR (qmulR (compR a b k) b) [a.getD (a.length - 1 - k) 0, 1] := (Td.trim _).ext (Td.trim _) fun i => by
      show (qaddR (qcomposeR a b) [0, 1]).getD i 0 = (qaddR (qmulR (compR a b k) b) [_, 1]).getD i 0
      rw [e1, getD_add, getD_add, getD_add, getD_trim, Rat.add_assoc]
      congr 1
      match i with
      | 0 => exact Rat.add_zero _
      | 1 => exact Rat.zero_add _
      | i + 2 => exact Rat.add_zero _
    have e3 : qdivmodR (qaddR (qcomposeR a b) [0, 1]) b = (compR a b k, [a.getD (a.length - 1 - k) 0, 1]) := by
      rw [e2]
      exact qdivmod_eq hb (by lia) (comp_td a b k) (.inr hone) (by show 2 < _; lia)
    refine mk _ _ hf2l hsame hf2H ?_ ?_
    · refine .inr ⟨⟨15882, by decide, hf2H, ?_⟩, by lia, .inl (by rw [e3]; show 1 < 2; decide)⟩
      have := Nat.pow_le_pow_right (n := 2) (by decide) (show (qaddR (qcomposeR a b) [0, 1]).length ≤ 10 by lia)
      have := Nat.mul_le_mul_left (15882 + 2 * 2 + 1) this
      exact Nat.le_trans this (by decide)
    · show (if (qaddR (qcomposeR a b) [0, 1]).length = 0 then _ else if 1 < (qdivmodR (qaddR (qcomposeR a b) [0, 1]) b).2.length then none else _) = _
      rw [if_neg (by lia), e3, if_pos (by show 1 < 2; decide)]
end Mine

namespace Mine
section
variable {a b : List Rat} (hb : b.getD (b.length - 1) 0 = 1) (hb2 : 2 ≤ b.length) (ha : a.getD (a.length - 1) 0 = 1)
include hb hb2 ha
theorem comp_get (k n : Nat) (hn : 1 ≤ n) : (compR a b (k + 1)).getD n 0 = cv (compR a b k) b (compR a b k).length n := by
  show (qaddR (qmulR (compR a b k) b) (Mine.trim [_])).getD n 0 = _
  rw [getD_pr _ _ _ (by lia), getD_out (xs := Mine.trim [_]) (Nat.le_trans (trim_one_len _) hn), Rat.add_zero]
end
theorem half_pow : mkRat 1 2 = 1 / 2 := by decide +kernel
theorem third_pow : mkRat 1 3 = 1 / 3 := by decide +kernel
theorem sp2 (t q : Rat) : spowerR [1, t] q = [1, q * t] := by
  simp only [spowerR, spOut, spIn, List.length_cons, List.length_nil, List.nil_append, List.cons_append]
  simp only [List.getD_cons_zero, List.getD_cons_succ]
  simp
  grind
theorem sp3 (t u q : Rat) : spowerR [1, t, u] q = [1, q * t, ((q - 1) * t * (q * t) + 2 * q * u) / 2] := by
  simp only [spowerR, spOut, spIn, List.length_cons, List.length_nil, List.nil_append, List.cons_append]
  simp only [List.getD_cons_zero, List.getD_cons_succ]
  simp
  grind
theorem cvt (p b : List Rat) (j : Nat) (hb : b.length = 3) : cv p b (j + 1) (j + 2) = p.getD j 0 * b.getD 2 0 ∧ cv p b (j + 2) (j + 2) = p.getD j 0 * b.getD 2 0 + p.getD (j + 1) 0 * b.getD 1 0 := by
  have e1 : cv p b (j + 1) (j + 2) = p.getD j 0 * b.getD 2 0 := by
    show cv p b j (j + 2) + _ = _
    rw [cv_top p b (B := 2) hb j _ (Nat.le_refl _), if_neg (Nat.not_lt.mpr (Nat.le_add_right j 2)), Nat.add_sub_cancel_left, Rat.zero_add]
  refine ⟨e1, ?_⟩
  show cv p b (j + 1) (j + 2) + _ = _
  rw [e1, if_neg (Nat.not_lt.mpr (Nat.le_succ (j + 1))), show j + 2 - (j + 1) = 1 from Nat.add_sub_cancel_left (n := j + 1) (m := 1)]
theorem cvt3 (p b : List Rat) (j : Nat) (hb : b.length = 4) : cv p b (j + 1) (j + 3) = p.getD j 0 * b.getD 3 0 ∧ cv p b (j + 2) (j + 3) = p.getD j 0 * b.getD 3 0 + p.getD (j + 1) 0 * b.getD 2 0 ∧
    cv p b (j + 3) (j + 3) = p.getD j 0 * b.getD 3 0 + p.getD (j + 1) 0 * b.getD 2 0 + p.getD (j + 2) 0 * b.getD 1 0 := by
  have e1 : cv p b (j + 1) (j + 3) = p.getD j 0 * b.getD 3 0 := by
    show cv p b j (j + 3) + _ = _
    rw [cv_top p b (B := 3) hb j _ (Nat.le_refl _), if_neg (Nat.not_lt.mpr (Nat.le_add_right j 3)), Nat.add_sub_cancel_left, Rat.zero_add]
  have e2 : cv p b (j + 2) (j + 3) = p.getD j 0 * b.getD 3 0 + p.getD (j + 1) 0 * b.getD 2 0 := by
    show cv p b (j + 1) (j + 3) + _ = _
    rw [e1, if_neg (Nat.not_lt.mpr (Nat.le_add_right (j + 1) 2)), show j + 3 - (j + 1) = 2 from Nat.add_sub_cancel_left (n := j + 1) (m := 2)]
  refine ⟨e1, e2, ?_⟩
  show cv p b (j + 2) (j + 3) + _ = _
  rw [e2, if_neg (Nat.not_lt.mpr (Nat.le_succ (j + 2))), show j + 3 - (j + 2) = 1 from Nat.add_sub_cancel_left (n := j + 2) (m := 1)]
theorem R2 {a : List Rat} {x : Rat} (ha : a.getD (a.length - 1) 0 = 1) : ∀ many, many = 2 ∨ many = 3 → (compR a [0, x, 1] (many + 1)).getD (many * 2) 0 = 1 ∧ (compR a [0, x, 1] (many + 1)).getD (many * 2 - 1) 0 = many * x := by
  have hb : ([0, x, 1] : List Rat).getD (([0, x, 1] : List Rat).length - 1) 0 = 1 := rfl
  have hb2 : 2 ≤ ([0, x, 1] : List Rat).length := Nat.le_add_left 2 1
  have g := comp_get hb hb2 ha
  have l := comp_len hb hb2 ha
  have c1 := comp_one hb hb2 ha
  have a2 : (compR a [0, x, 1] 2).getD 2 0 = 1 := by rw [g 1 2 (by decide), c1]; exact (cvt [1] [0, x, 1] 0 rfl).1.trans (Rat.mul_one 1)
  have a1 : (compR a [0, x, 1] 2).getD 1 0 = x := by rw [g 1 1 (by decide), c1]; show 0 + 1 * x = x; rw [Rat.zero_add, Rat.one_mul]
  have b4 : (compR a [0, x, 1] 3).getD 4 0 = 1 := by rw [g 2 4 (by decide), l 1]; refine (cvt (compR a [0, x, 1] 2) [0, x, 1] 2 rfl).1.trans ?_; rw [a2]; exact Rat.mul_one 1
  have b3 : (compR a [0, x, 1] 3).getD 3 0 = x + x := by rw [g 2 3 (by decide), l 1]; refine (cvt (compR a [0, x, 1] 2) [0, x, 1] 1 rfl).2.trans ?_; rw [a1, a2]; show x * 1 + 1 * x = _; rw [Rat.mul_one, Rat.one_mul]
  have d6 : (compR a [0, x, 1] 4).getD 6 0 = 1 := by rw [g 3 6 (by decide), l 2]; refine (cvt (compR a [0, x, 1] 3) [0, x, 1] 4 rfl).1.trans ?_; rw [b4]; exact Rat.mul_one 1
  have d5 : (compR a [0, x, 1] 4).getD 5 0 = x + x + x := by rw [g 3 5 (by decide), l 2]; refine (cvt (compR a [0, x, 1] 3) [0, x, 1] 3 rfl).2.trans ?_; rw [b3, b4]; show (x + x) * 1 + 1 * x = _; rw [Rat.mul_one, Rat.one_mul]
  rintro many (rfl | rfl)
  · exact ⟨b4, b3.trans (by grind)⟩
  · exact ⟨d6, d5.trans (by grind)⟩
theorem R3 {a : List Rat} {x y : Rat} (ha : a.getD (a.length - 1) 0 = 1) : ∀ many, many = 2 ∨ many = 3 → (compR a [0, x, y, 1] (many + 1)).getD (many * 3) 0 = 1 ∧ (compR a [0, x, y, 1] (many + 1)).getD (many * 3 - 1) 0 = many * y ∧ (compR a [0, x, y, 1] (many + 1)).getD (many * 3 - 2) 0 = many * x + (if many = 2 then y * y else 3 * y * y) := by
  have hb : ([0, x, y, 1] : List Rat).getD (([0, x, y, 1] : List Rat).length - 1) 0 = 1 := rfl
  have hb2 : 2 ≤ ([0, x, y, 1] : List Rat).length := Nat.le_add_left 2 2
  have g := comp_get hb hb2 ha
  have l := comp_len hb hb2 ha
  have c1 := comp_one hb hb2 ha
  have a3 : (compR a [0, x, y, 1] 2).getD 3 0 = 1 := by rw [g 1 3 (by decide), c1]; exact (cvt3 [1] [0, x, y, 1] 0 rfl).1.trans (Rat.mul_one 1)
  have a2 : (compR a [0, x, y, 1] 2).getD 2 0 = y := by rw [g 1 2 (by decide), c1]; show 0 + 1 * y = y; rw [Rat.zero_add, Rat.one_mul]
  have a1 : (compR a [0, x, y, 1] 2).getD 1 0 = x := by rw [g 1 1 (by decide), c1]; show 0 + 1 * x = x; rw [Rat.zero_add, Rat.one_mul]
  have b6 : (compR a [0, x, y, 1] 3).getD 6 0 = 1 := by rw [g 2 6 (by decide), l 1]; refine (cvt3 (compR a [0, x, y, 1] 2) [0, x, y, 1] 3 rfl).1.trans ?_; rw [a3]; exact Rat.mul_one 1
  have b5 : (compR a [0, x, y, 1] 3).getD 5 0 = y + y := by rw [g 2 5 (by decide), l 1]; refine (cvt3 (compR a [0, x, y, 1] 2) [0, x, y, 1] 2 rfl).2.1.trans ?_; rw [a2, a3]; show y * 1 + 1 * y = _; rw [Rat.mul_one, Rat.one_mul]
  have b4 : (compR a [0, x, y, 1] 3).getD 4 0 = x + y * y + x := by rw [g 2 4 (by decide), l 1]; refine (cvt3 (compR a [0, x, y, 1] 2) [0, x, y, 1] 1 rfl).2.2.trans ?_; rw [a1, a2, a3]; show x * 1 + y * y + 1 * x = _; rw [Rat.mul_one, Rat.one_mul]
  have d9 : (compR a [0, x, y, 1] 4).getD 9 0 = 1 := by rw [g 3 9 (by decide), l 2]; refine (cvt3 (compR a [0, x, y, 1] 3) [0, x, y, 1] 6 rfl).1.trans ?_; rw [b6]; exact Rat.mul_one 1
  have d8 : (compR a [0, x, y, 1] 4).getD 8 0 = y + y + y := by rw [g 3 8 (by decide), l 2]; refine (cvt3 (compR a [0, x, y, 1] 3) [0, x, y, 1] 5 rfl).2.1.trans ?_; rw [b5, b6]; show (y + y) * 1 + 1 * y = _; rw [Rat.mul_one, Rat.one_mul]
  have d7 : (compR a [0, x, y, 1] 4).getD 7 0 = x + y * y + x + (y + y) * y + x := by rw [g 3 7 (by decide), l 2]; refine (cvt3 (compR a [0, x, y, 1] 3) [0, x, y, 1] 4 rfl).2.2.trans ?_; rw [b4, b5, b6]; show (x + y * y + x) * 1 + (y + y) * y + 1 * x = _; rw [Rat.mul_one, Rat.one_mul]
  rintro many (rfl | rfl)
  · exact ⟨b6, b5.trans (by grind), by rw [if_pos rfl]; exact b4.trans (by grind)⟩
  · exact ⟨d9, d8.trans (by grind), by rw [if_neg (by decide)]; exact d7.trans (by grind)⟩
theorem out_len (zs : List Int) (k many : Nat) : (outR zs k many).length = many + 1 := by simp [outR]
theorem out_last (zs : List Int) (k many : Nat) : (outR zs k many).getD ((outR zs k many).length - 1) 0 = 1 := by
  rw [out_len, Nat.add_sub_cancel, outR, List.getD_eq_getElem?_getD, List.getElem?_append_right (by simp)]
  simp
theorem out_hs (zs : List Int) (k many : Nat) : Hs 2 (outR zs k many) := fun q hq => by
  rcases List.mem_append.mp hq with hq | hq
  · obtain ⟨i, _, rfl⟩ := List.mem_map.mp hq
    have := drawZ_range zs (k + i) (m := 5) (by decide)
    have e : drawZ zs (k + i) 5 - 2 = -2 ∨ drawZ zs (k + i) 5 - 2 = -1 ∨ drawZ zs (k + i) 5 - 2 = 0 ∨ drawZ zs (k + i) 5 - 2 = 1 ∨ drawZ zs (k + i) 5 - 2 = 2 := by lia
    rcases e with e | e | e | e | e <;> rw [e] <;> exact ⟨by decide, by decide⟩
  · rw [List.mem_singleton.mp hq]; exact ⟨by decide, by decide⟩
theorem half_hb {x : Int} (h1 : -2 ≤ x) (h2 : x ≤ 2) : Hb 2 (halfR x) := by
  have : x = -2 ∨ x = -1 ∨ x = 0 ∨ x = 1 ∨ x = 2 := by lia
  rcases this with rfl | rfl | rfl | rfl | rfl <;> exact ⟨by decide +kernel, by decide +kernel⟩
theorem K0 (zs : List Int) (many size : Nat) (hm : many = 2 ∨ many = 3) (hs : size = 2 ∨ size = 3) :
    CoOk (outR zs 3 many) (inR zs (3 + many) size) ∧ (qcomposeR (outR zs 3 many) (inR zs (3 + many) size)).length = many * size + 1 ∧
    ApOk (qcomposeR (outR zs 3 many) (inR zs (3 + many) size)) many (inR zs (3 + many) size) (some (outR zs 3 many)) ∧
    ApOk (qaddR (qcomposeR (outR zs 3 many) (inR zs (3 + many) size)) [0, 1]) many (inR zs (3 + many) size) none ∧
    ∃ i, Hs i (qcomposeR (outR zs 3 many) (inR zs (3 + many) size)) ∧ 1 ≤ i ∧ i ≤ 1000000 := by
  have hr : ∀ k, Hb 2 (halfR (drawZ zs k 5 - 2)) := fun k => by
    have := drawZ_range zs k (m := 5) (by decide)
    exact half_hb (by lia) (by lia)
  have hal := out_len zs 3 many
  have ha := out_last zs 3 many
  have h1 := out_hs zs 3 many
  generalize outR zs 3 many = a at hal ha h1 ⊢
  have hq : rD (mkRat 1 many) = .tuple [.int 1, .int many] := by rcases hm with rfl | rfl <;> rfl
  have hqb : Hb 2 (mkRat 1 many) := by rcases hm with rfl | rfl <;> exact ⟨by decide +kernel, by decide +kernel⟩
  have hqm : (mkRat 1 many) * (many : Rat) = 1 := by rcases hm with rfl | rfl <;> decide +kernel
  have Hb0 : Hb 2 (0 : Rat) := Hb.zero (by decide)
  have Hb1 : Hb 2 (1 : Rat) := ⟨by decide, by decide⟩
  rcases hs with rfl | rfl
  · have e : inR zs (3 + many) 2 = [0, halfR (drawZ zs (3 + many + 0) 5 - 2), 1] := rfl
    have hx := hr (3 + many + 0)
    rw [e]
    generalize halfR (drawZ zs (3 + many + 0) 5 - 2) = x at hx ⊢
    have r2 := R2 (x := x) ha many hm
    refine core hq hqb hm (.inl rfl) hal rfl rfl ha h1 ?_ fun f hf hg => ?_
    · intro q h
      simp only [List.mem_cons, List.not_mem_nil, or_false] at h
      rcases h with rfl | rfl | rfl <;> assumption
    · have n1 : 2 ≤ many * 2 := by lia
      have n2 : 2 ≤ many * 2 - 1 := by lia
      have t0 : f.getD (many * 2) 0 = 1 := by rw [hg _ n1, qcomposeR, hal]; exact r2.1
      have t1 : f.getD (many * 2 - 1) 0 = many * x := by rw [hg _ n2, qcomposeR, hal]; exact r2.2
      refine ⟨t0, ?_⟩
      have et : f.reverse.take 2 = [1, many * x] := by
        rw [rev_take hf (by lia)]
        show [f.getD (many * 2) 0, f.getD (many * 2 - 1) 0] = _
        rw [t0, t1]
      rw [et, sp2, ← Rat.mul_assoc, hqm, Rat.one_mul]
      rfl
  · have e : inR zs (3 + many) 3 = [0, halfR (drawZ zs (3 + many + 0) 5 - 2), halfR (drawZ zs (3 + many + 1) 5 - 2), 1] := rfl
    have hx := hr (3 + many + 0)
    have hy := hr (3 + many + 1)
    rw [e]
    generalize halfR (drawZ zs (3 + many + 0) 5 - 2) = x at hx ⊢
    generalize halfR (drawZ zs (3 + many + 1) 5 - 2) = y at hy ⊢
    have r3 := R3 (x := x) (y := y) ha many hm
    refine core hq hqb hm (.inr rfl) hal rfl rfl ha h1 ?_ fun f hf hg => ?_
    · intro q h
      simp only [List.mem_cons, List.not_mem_nil, or_false] at h
      rcases h with rfl | rfl | rfl | rfl <;> assumption
    · have n1 : 2 ≤ many * 3 := by lia
      have n2 : 2 ≤ many * 3 - 1 := by lia
      have n3 : 2 ≤ many * 3 - 2 := by lia
      have t0 : f.getD (many * 3) 0 = 1 := by rw [hg _ n1, qcomposeR, hal]; exact r3.1
      have t1 : f.getD (many * 3 - 1) 0 = many * y := by rw [hg _ n2, qcomposeR, hal]; exact r3.2.1
      have t2 : f.getD (many * 3 - 2) 0 = many * x + (if many = 2 then y * y else 3 * y * y) := by rw [hg _ n3, qcomposeR, hal]; exact r3.2.2
      refine ⟨t0, ?_⟩
      have et : f.reverse.take 3 = [1, many * y, many * x + (if many = 2 then y * y else 3 * y * y)] := by
        rw [rev_take hf (by lia)]
        show [f.getD (many * 3) 0, f.getD (many * 3 - 1) 0, f.getD (many * 3 - 2) 0] = _
        rw [t0, t1, t2]
      rw [et, sp3]
      show [0, x, y, 1] = [0, _, _, 1]
      rcases hm with rfl | rfl
      · rw [if_pos rfl, half_pow]
        have h2 : ((2 : Nat) : Rat) = 2 := rfl
        rw [h2]
        congr 1
        grind
      · rw [if_neg (by decide), third_pow]
        have h3 : ((3 : Nat) : Rat) = 3 := rfl
        rw [h3]
        congr 1
        grind
end Mine

namespace Mine
section
variable {c : Cx} {n : Nat} {env : Env} {h0 : Heap} {S : Addr → Prop}
theorem Ev.or2 {e e2 : Expr} {pos : Pos} {b b2 : Bool} (h : Ev c n env h0 Any e (.bool b)) (h2 : b = false → Ev c n env h0 Any e2 (.bool b2)) : Ev c n env h0 S (.BoolOp .Or [e, e2] pos) (.bool (b || b2)) := fun A s Q E hA hx q => by
  show wpAny _ A (do
    let v ← eval e env
    standAt pos
    let t ← holding [v] (truthy v)
    match BoolOp.Or, t with
    | .And, false | .Or, true => pure v
    | _, _ => boolOp pos .Or (eval e2 env :: evalEach [] env)) _ _ _
  refine wpAny_bind (h A s _ _ hA hx fun v h1 t1 e1 r1 => wpAny_bind (wpAny_standAt (wpAny_bind (wpAny_holding ?_))))
  cases r1
  cases b with
  | true => exact wpAny_truthy_bool (wpAny_pure (q _ h1 t1 e1 (.bool _)))
  | false => exact wpAny_truthy_bool (h2 rfl A _ _ _ hA (hx.tr e1) fun v h3 t3 e3 r3 => q v h3 t3 (e1.tr e3) (r3.flat rfl))
theorem Ev.andT3 {e e2 e3 : Expr} {pos : Pos} {d : PyData} (h : Ev c n env h0 Any e (.bool true)) (h2 : Ev c n env h0 Any e2 (.bool true)) (h3 : Ev c n env h0 S e3 d) : Ev c n env h0 S (.BoolOp .And [e, e2, e3] pos) d := fun A s Q E hA hx q => by
  show wpAny _ A (do
    let v ← eval e env
    standAt pos
    let t ← holding [v] (truthy v)
    match BoolOp.And, t with
    | .And, false | .Or, true => pure v
    | _, _ => (do
      let v ← eval e2 env
      standAt pos
      let t ← holding [v] (truthy v)
      match BoolOp.And, t with
      | .And, false | .Or, true => pure v
      | _, _ => boolOp pos .And (eval e3 env :: evalEach [] env))) _ _ _
  refine wpAny_bind (h A s _ _ hA hx fun v h1 t1 e1 r1 => wpAny_bind (wpAny_standAt (wpAny_bind (wpAny_holding ?_))))
  cases r1
  refine wpAny_truthy_bool (wpAny_bind (h2 A _ _ _ hA (hx.tr e1) fun v h2' t2 e2' r2 => wpAny_bind (wpAny_standAt (wpAny_bind (wpAny_holding ?_)))))
  cases r2
  exact wpAny_truthy_bool (h3 A _ _ _ hA ((hx.tr e1).tr e2') fun v h4 t4 e4 r4 => q v h4 t4 ((e1.tr e2').tr e4) r4)
end
end Mine
namespace Mine
theorem law_start {c : Cx} {env : Env} {H : Heap} {s : Shared} {body : List Stmt} {Q : Flow → Shared → Prop} {E : Value → Shared → Prop} (hp : Pl env)
    (h : Rm 10 (callerA.deeper env) → wpAny (model c.prog c.w) (callerA.deeper env) (execs body env) (fun f s' => f = .ret (.bool true) ∧ ∃ h' tk m, s' = (up s h' tk) ∧ Fr H env.locals h' m) (fun _ _ => False) s)
    (fin : ∀ h' tk m, Fr H env.locals h' m → Q (.ret (.bool true)) (up s h' tk)) : wpAny (model c.prog c.w) (callerA.deeper env) (execs body env) Q E s := by
  refine wpAny_mono (h ⟨rfl, by show 1 + claimMargin + 1 + 10 ≤ 800; decide, by show 4 + 3 + 4 * 10 ≤ 5000; decide, ⟨env, [], rfl, hp⟩⟩) (fun f s' hq => ?_) fun _ _ x => x.elim
  obtain ⟨rfl, h', tk, m, rfl, F⟩ := hq
  exact fin h' tk m F
theorem ints_rps {S : Addr → Prop} {h : Heap} : ∀ {vs : List Value} {zs : List Int}, IntsAre vs zs → Rps S h vs (zs.map .int)
  | _, _, .nil => .nil
  | _, _, .cons _ t r => .cons (.int _ t) (ints_rps r)
theorem na {c : Int} (h : -2 ≤ c ∧ c ≤ 2) : c.natAbs < 2 ^ 2 := by
  cases c with
  | ofNat n => exact Nat.lt_succ_of_le (Nat.le_succ_of_le (Int.ofNat_le.mp h.2))
  | negSucc n => exact Nat.lt_succ_of_le (Nat.le_succ_of_le (Int.ofNat_le.mp (Int.neg_le_neg h.1)))
theorem two23 {z : Int} (h : 0 ≤ z ∧ z < 2) : ∃ k : Nat, (2 : Int) + z = k ∧ (k = 2 ∨ k = 3) := by
  obtain ⟨n, rfl⟩ := Int.eq_ofNat_of_zero_le h.1
  have hn : n < 2 := Int.ofNat_lt.mp h.2
  rcases Nat.lt_or_eq_of_le (Nat.le_of_lt_succ hn) with q | q
  · exact ⟨2, by rw [Nat.le_zero.mp (Nat.le_of_lt_succ q)]; rfl, .inl rfl⟩
  · exact ⟨3, by rw [q]; rfl, .inr rfl⟩
theorem sh {x z a b m : Int} (e : x = z - a) (h : 0 ≤ z ∧ z < m) (hb : m ≤ a + b + 1 := by decide) : -a ≤ x ∧ x ≤ b := by
  subst e
  exact ⟨Int.neg_le_sub_left_of_le_add (by rw [Int.add_comm]; exact Int.le_add_of_nonneg_left h.1), Int.sub_left_le_of_le_add (Int.le_of_lt_add_one (Int.lt_of_lt_of_le h.2 hb))⟩
end Mine

namespace Mine
theorem law_holds : PySem.Challenge.rw_xm0085_01.Holds := hd (by
  k_go0
  rename_i w s0 s1 mg mb G Y fa o pm doc ho hg KX X V GL T B0 TE TW w10 w9 M w8 w7 hcd script hs hlay0 hL1 hr1 hl2 w5 w4 sa vs w1a hL ra w1 r0 hI hr hc1 hc0 KB hD h1 tk1 F wc hwc N0 X0
  have hok : Ok (cx PySem.Challenge.rw_xm0085_01.row.prog w hd.view_39 (looseW hd.view_39 []) mg mb) s1.heap := ⟨KX, topRead_of T, T.seer (by decide +kernel), rfl⟩
  have hbox : h1.IsCell (s1.heap.objs.size + 1) none := ⟨wc, (N0 _ (List.mem_singleton.mpr rfl)).1, hwc⟩
  have hlen : script.length ≤ 63 := by lia
  clear Y V G GL B0 TE TW M X w1 hr hD KB T ho hcd N0 X0 hwc hs hL1 hr1 hl2 hlay0 r0 ra
  refine law_start (c := cx PySem.Challenge.rw_xm0085_01.row.prog w hd.view_39 (looseW hd.view_39 []) mg mb) (H := s1.heap) ⟨rfl, rfl, rfl, rfl⟩ (fun hA => ?_) (fun h' tk m F' => ?_)
  · have hkH : s1.heap.get? (s1.heap.objs.size + 1) = none := by
      cases q : s1.heap.get? (s1.heap.objs.size + 1) with
      | none => rfl
      | some ob => exact absurd (Heap.lt_size q) (Nat.not_lt.mpr (Nat.le_succ _))
    have hlz : (script.take 8).length ≤ 1000 := by rw [List.length_take]; exact Nat.le_trans (Nat.min_le_left _ _) (by decide)
    have rS : Rp Any s1.heap (.ref sa) (pZ script) := .list trivial hL (ints_rps hI)
    have o1 := hok.ext F.keep
    refine asgCellN (S := Any) hA F (k := s1.heap.objs.size + 1) rfl hbox hkH (.listd (.cons (EvN.any (S := Any) (.copy o1 rfl (EvN.any (S := Any) (.upto (.loc F.ns rfl (rS.mono F.keep)) .const (leM (Nat.le_trans hlen (by decide))) (flats_int _) (fun vs hl => upto_nonneg (by decide) vs hl))) (by rw [List.length_take]; exact Nat.le_trans (Nat.min_le_left _ _) (by decide)) (by rw [← List.map_take]; exact flats_int _))) (.cons .const .nil))) fun B us h2 tk2 F2 c2 n2 kne pB rB => ?_
    have hB : s1.heap.get? B = none := New.ext F.keep n2
    rw [← List.map_take] at rB
    obtain ⟨Sx, bx⟩ := Box.of (k := 0) pB rB
    generalize hzs : script.take (8 : Int).toNat = zs at bx rB
    have hlz' : zs.length ≤ 1000 := by rw [← hzs]; exact hlz
    have isC : ∀ {h h' : Heap}, Heap.ExtBut B h h' → h.IsCell (s1.heap.objs.size + 1) (some (.ref B)) → h'.IsCell (s1.heap.objs.size + 1) (some (.ref B)) := fun e ⟨ob, hob, r⟩ => ⟨ob, e _ _ kne hob, r⟩
    have hLc : s1.heap.objs.size + 1 ≠ s1.heap.objs.size := fun q => absurd q (Nat.succ_ne_self _)
    have isM : ∀ {h h' : Heap}, Mv B s1.heap.objs.size h h' → h.IsCell (s1.heap.objs.size + 1) (some (.ref B)) → h'.IsCell (s1.heap.objs.size + 1) (some (.ref B)) := fun e ⟨ob, hob, r⟩ => ⟨ob, e.kp _ _ kne hLc hob, r⟩
    have rK := drawZ_range zs 0 (m := 3) (by decide)
    refine asgB hA F2 hB bx (.take (n := 9) hok hB rfl c2 kne (by decide) hlz' (by decide)) fun vk h3 tk3 F3 m3 b3 rk => ?_
    have c3 := isM m3 c2
    refine execs_if hA (.ints (.loc F3.ns rfl rk.any) .const) (fun h4 tk4 e4 hb => ?_) fun h4 tk4 e4 hb => ?_
    · have F4 := frExt F3 e4
      have b4 := b3.ext e4
      have c4 := isCell_ext c3 e4
      have rM := drawZ_range zs (0 + 1) (m := 2) (by decide)
      have rZ := drawZ_range zs (0 + 1 + 1) (m := 2) (by decide)
      refine asg2B hA F4 hB b4 (.tuple (.cons hB (.add hB .const (.take (n := 9) hok hB rfl c4 kne (by decide) hlz' (by decide))) (.cons hB (.add hB .const (.take (n := 9) hok hB rfl c4 kne (by decide) hlz' (by decide))) .nil))) fun vm vz h5 tk5 F5 m5 b5 rm rz => ?_
      have c5 := isM m5 c4
      obtain ⟨many, hmany, hm23⟩ : ∃ many : Nat, (2 : Int) + drawZ zs (0 + 1) 2 = many ∧ (many = 2 ∨ many = 3) := two23 rM
      obtain ⟨size, hsize, hs23⟩ : ∃ size : Nat, (2 : Int) + drawZ zs (0 + 1 + 1) 2 = size ∧ (size = 2 ∨ size = 3) := two23 rZ
      have hm3 : many ≤ 3 := by rcases hm23 with q | q <;> rw [q] <;> decide
      have hz3 : size ≤ 3 := by rcases hs23 with q | q <;> rw [q] <;> decide
      have hs2 : size - 1 ≤ 2 := Nat.sub_le_sub_right hz3 1
      have hz1 : PyData.int ((size : Int) - 1) = PyData.int ((size - 1 : Nat) : Int) := by rcases hs23 with q | q <;> rw [q] <;> rfl
      have hmB : many ≤ 16777216 := Nat.le_trans hm3 (by decide)
      have hsB : size - 1 ≤ 16777216 := Nat.le_trans hs2 (by decide)
      rw [hmany] at rm
      rw [hsize] at rz
      obtain ⟨tm, rfl⟩ := rm.int_inv
      obtain ⟨tz, rfl⟩ := rz.int_inv
      obtain ⟨k1, k2, k3, k4, hh, k5, k6, k7⟩ := K0 zs many size hm23 hs23
      have b5' : Box h5 B Sx zs 3 := b5
      have hBL : ∀ {h : Heap} {m : Str → Option Value} {k : Nat}, Box h B Sx zs k → h.Ns s1.heap.objs.size m → s1.heap.objs.size ≠ B := fun b n q => by obtain ⟨its, hl⟩ := b.isL; exact ne_locals n hl q.symm
      refine asgB hA F5 hB b5' (k' := 3 + many) (d := pD (outR zs 3 many)) (.to (EvNB.ev (.cat hB (EvNB.comp (n := 10) (k0 := 3) (N := many) hB (fun h hx hb => It.rangeN (N := many) hmB (hok.ext hx) rfl (.loc (F5.ns.at fun o x => hb _ o (hBL b5 F5.ns) x) rfl (.int _ tm))) hmB rfl (fun i => rD ((drawZ zs (3 + i) 5 - 2 : Int) : Rat)) (fun _ => rfl)
        fun i v C h m hi hv hx hb hn hm => .to (.tuple (.cons hB (.sub hB (.take (n := 9) hok hB rfl (isC hb c5) kne (Nat.lt_trans (Nat.add_lt_add_left (Nat.lt_of_lt_of_le hi hm3) 3) (by decide)) hlz' (by decide)) .const) (.cons hB .const .nil))) (rD_int _).symm) (.pu fun h _ _ => .listd (.cons (d := rD 1) (.tuple (.cons .const (.cons .const .nil))) .nil)) (by rw [List.length_map, List.length_range]; exact Nat.le_trans (Nat.succ_le_succ hm3) (by decide)))) ?_) fun vo h6 tk6 F6 m6 b6 ro => ?_
      · rw [outR]
        show _ = PyData.list (List.map rD (_ ++ [1]))
        rw [List.map_append, List.map_map]; rfl
      have c6 := isM m6 c5
      refine asgB hA F6 hB b6 (k' := 3 + many + (size - 1)) (d := pD (inR zs (3 + many) size)) (.to (EvNB.ev (.cat hB (.cat hB (.pu fun h _ _ => .listd (.cons (d := rD 0) (.tuple (.cons .const (.cons .const .nil))) .nil)) (EvNB.comp (n := 10) (k0 := 3 + many) (N := size - 1) hB (fun h hx hb => It.rangeN (N := size - 1) hsB (hok.ext hx) rfl (Ev.to (.sub (.loc (F6.ns.at fun o x => hb _ o (hBL b6 F6.ns) x) rfl (.int _ tz)) .const) hz1)) hsB rfl (fun i => rD (halfR (drawZ zs (3 + many + i) 5 - 2))) (fun _ => rfl)
        fun i v C h m hi hv hx hb hn hm => .to (.call1 hok hB rfl rfl (.sub hB (.take (n := 9) hok hB rfl (isC hb c6) kne (Nat.lt_trans (Nat.add_lt_add_of_le_of_lt (Nat.add_le_add_left hm3 3) (Nat.lt_of_lt_of_le hi hs2)) (by decide)) hlz' (by decide)) .const) (Con.le (n := 1) (half_con _) (by decide)) (flat_halfD _)) (halfD_eq (sh (b := 2) rfl (drawZ_range zs (3 + many + i) (m := 5) (by decide))).1 (sh (b := 2) rfl (drawZ_range zs (3 + many + i) (m := 5) (by decide))).2)) (by rw [List.length_map, List.length_range]; exact Nat.le_trans (Nat.add_le_add_left hs2 1) (by decide))) (.pu fun h _ _ => .listd (.cons (d := rD 1) (.tuple (.cons .const (.cons .const .nil))) .nil)) (by rw [List.length_append, List.length_map, List.length_range]; exact Nat.le_trans (Nat.succ_le_succ (Nat.add_le_add_left hs2 1)) (by decide)))) ?_) fun vi h7 tk7 F7 m7 b7 ri => ?_
      · rw [inR]
        show _ = PyData.list (rD 0 :: List.map rD (_ ++ [1]))
        rw [List.map_append, List.map_map]; rfl
      have ro7 := m7.rp _ _ ro
      have o7 := hok.ext F7.keep
      refine asg (S := Any) hA F7 (.call o7 rfl rfl (.cons (.loc F7.ns rfl ro7.any) (.cons (.loc F7.ns rfl ri.any) .nil)) (Con.le (n := 5) (co_ok k1) (by decide)) fun _ _ => trivial) fun vf h8 tk8 F8 e8 rf => ?_
      have o8 := hok.ext F8.keep
      have ro8 := ro7.any.but F7.ns e8
      have ri8 := ri.any.but F7.ns e8
      generalize hf : qcomposeR (outR zs 3 many) (inR zs (3 + many) size) = f at k2 k3 k4 k5 rf
      have lf : f.length ≤ 1000 := by
        rw [k2]
        rcases hm23 with rfl | rfl <;> rcases hs23 with rfl | rfl <;> decide
      generalize ho' : outR zs 3 many = outer at k3 ro8
      generalize hi' : inR zs (3 + many) size = inner at k3 k4 ri8
      refine execs_if hA (.or (.ints (.len o8 rfl (.loc F8.ns rfl rf) (leM lf)) (.add (.mul (.loc F8.ns rfl (.int _ tm)) (.loc F8.ns rfl (.int _ tz)) (mulOk (i := 2) (j := 2) (show many < 4 from Nat.lt_succ_of_le hm3) (show size < 4 from Nat.lt_succ_of_le hz3) (by decide))) .const)) fun _ => .neD (.call o8 rfl rfl (.cons (.loc F8.ns rfl rf) (.cons (.loc F8.ns rfl (.int _ tm)) .nil)) (Con.le (n := 7) (apart_ok k3) (by decide)) fun _ _ => trivial) (.tuple (.cons (.loc F8.ns rfl ro8) (.cons (.loc F8.ns rfl ri8) .nil))) (shaped_two _ _) (shaped_two _ _)) (fun h9 tk9 e9 hb2 => ?_) fun h9 tk9 e9 hb2 => ?_
      · exfalso
        rw [List.length_map, k2, apD, eqv_self (shaped_two _ _)] at hb2
        simp [cI] at hb2
      · have F9 := frExt F8 e9
        have o9 := hok.ext F9.keep
        refine execs_nil' (ret_ (S := Any) (d := .bool true) hA (.isNone (.call o9 rfl rfl (.cons (.call o9 rfl rfl (.cons (.loc F9.ns rfl (rf.mono e9)) (.cons (EvN.any (S := Any) (.listd (ds := ([0, 1] : List Rat).map rD) (.cons (.tuple (.cons .const (.cons .const .nil))) (.cons (.tuple (.cons .const (.cons .const .nil))) .nil)))) .nil))
          (Con.le (n := 4) (qadd_con (i := hh) (j := 1) f [0, 1] k5 ?_ k6 (by decide) (Nat.le_trans (Nat.succ_le_succ k7) (by decide)) lf (by decide)) (by decide)) fun _ _ => trivial) (.cons (.loc F9.ns rfl (.int _ tm)) .nil)) (Con.le (n := 7) (apart_ok k4) (by decide)) fun _ _ => trivial)) fun v h' tk e r => ?_)
        · intro q hq
          rcases List.mem_cons.mp hq with rfl | hq
          · exact Hb.zero (by decide)
          · rw [List.mem_singleton.mp hq]; exact ⟨by decide, by decide⟩
        · cases r
          exact ⟨rfl, h', tk, _, rfl, frExt F9 e⟩
    · have F4 := frExt F3 e4
      have b4 := b3.ext e4
      have c4 := isCell_ext c3 e4
      have hk0 : drawZ zs 0 3 ≠ 0 := by simpa [cI] using hb
      refine execs_nil' (execs_if hA (.ints (.loc F4.ns rfl (rk.any.mono e4)) .const) (fun h5 tk5 e5 hb5 => ?_) fun h5 tk5 e5 hb5 => ?_)
      · have F5 := frExt F4 e5
        have b5 := b4.ext e5
        have c5 := isCell_ext c4 e5
        have rc := drawZ_range zs (0 + 1) (m := 5) (by decide)
        refine asgB hA F5 hB b5 (.sub hB (.take (n := 9) hok hB rfl c5 kne (by decide) hlz' (by decide)) .const) fun vc h6 tk6 F6 m6 b6 rv => ?_
        obtain ⟨c, hc⟩ : ∃ c, c = drawZ zs (0 + 1) 5 - 2 := ⟨_, rfl⟩
        rw [← hc] at rv
        obtain ⟨tc, rfl⟩ := rv.int_inv
        have hcr : -2 ≤ c ∧ c ≤ 2 := sh hc rc
        obtain ⟨k1, k2, k3, k4, k5⟩ := K1 c hcr.1 hcr.2
        have mk : IntMulOk c c := mulOk (na hcr) (na hcr) (by decide)
        have mk2 : IntMulOk 2 c := mulOk (i := 2) (by decide) (na hcr) (by decide)
        refine asg3 (c := cx PySem.Challenge.rw_xm0085_01.row.prog w hd.view_39 (looseW hd.view_39 []) mg mb) (S := Any) hA F6 (d := pD sqR) (d' := pD (odR c)) (d'' := pD (cuR c)) (.tuple (.cons (EvN.any (S := Any) (.listd (ds := sqR.map rD) ?_)) (.cons (EvN.any (S := Any) (.listd (ds := (odR c).map rD) ?_)) (.cons (EvN.any (S := Any) (.listd (ds := (cuR c).map rD) ?_)) .nil)))) ?_
        · exact .cons (.tuple (.cons .const (.cons .const .nil))) (.cons (.tuple (.cons .const (.cons .const .nil))) (.cons (.tuple (.cons .const (.cons .const .nil))) .nil))
        · exact .cons (.tuple (.cons .const (.cons .const .nil))) (.cons (.to (.tuple (.cons (.loc F6.ns rfl (.int _ tc)) (.cons .const .nil))) (rD_int c).symm) (.cons (.tuple (.cons .const (.cons .const .nil))) (.cons (.tuple (.cons .const (.cons .const .nil))) .nil)))
        · exact .cons (.tuple (.cons .const (.cons .const .nil))) (.cons (.to (.tuple (.cons (.mul (.loc F6.ns rfl (.int _ tc)) (.loc F6.ns rfl (.int _ tc)) mk) (.cons .const .nil))) (rD_int (c * c)).symm) (.cons (.to (.tuple (.cons (.mul .const (.loc F6.ns rfl (.int _ tc)) mk2) (.cons .const .nil))) (rD_int (2 * c)).symm) (.cons (.tuple (.cons .const (.cons .const .nil))) .nil)))
        refine fun vs' vo vu h7 tk7 F7 e7 rs' ro ru => ?_
        have o7 := hok.ext F7.keep
        refine asg (S := Any) hA F7 (.call o7 rfl rfl (.cons (.loc F7.ns rfl rs') (.cons (.loc F7.ns rfl ro) .nil)) (Con.le (n := 5) (co_ok k1) (by decide)) fun _ _ => trivial) fun vf h8 tk8 F8 e8 rf => ?_
        have o8 := hok.ext F8.keep
        have rs8 := rs'.but F7.ns e8
        have ro8 := ro.but F7.ns e8
        have ru8 := ru.but F7.ns e8
        generalize hf : qcomposeR sqR (odR c) = f at k3 k4 k5 rf
        refine ret_ (S := Any) (d := .bool true) hA (.andT3 (.to (.eqD (.call o8 rfl rfl (.cons (.loc F8.ns rfl ru8) (.cons (.loc F8.ns rfl rs8) .nil)) (Con.le (n := 5) (co_ok k2) (by decide)) fun _ _ => trivial) (.loc F8.ns rfl rf) (shaped_pD _) (shaped_pD _)) ?_)
          (.to (.eqD (.call o8 rfl rfl (.cons (.loc F8.ns rfl rf) (.cons .const .nil)) (Con.le (n := 7) (apart_ok k4) (by decide)) fun _ _ => trivial) (.tuple (.cons (.loc F8.ns rfl rs8) (.cons (.loc F8.ns rfl ro8) .nil))) (shaped_two _ _) (shaped_two _ _)) ?_)
          (.to (.eqD (.call o8 rfl rfl (.cons (.loc F8.ns rfl rf) (.cons .const .nil)) (Con.le (n := 7) (apart_ok k5) (by decide)) fun _ _ => trivial) (.tuple (.cons (.loc F8.ns rfl ru8) (.cons (.loc F8.ns rfl rs8) .nil))) (shaped_two _ _) (shaped_two _ _)) ?_)) fun v h' tk e r => ?_
        · rw [k3, eqv_self (shaped_pD _)]
        · rw [apD, eqv_self (shaped_two _ _)]
        · rw [apD, eqv_self (shaped_two _ _)]
        · cases r
          exact ⟨rfl, h', tk, _, rfl, frExt F8 e⟩
      · have F5 := frExt F4 e5
        have b5 := b4.ext e5
        have c5 := isCell_ext c4 e5
        have rc := drawZ_range zs (0 + 1) (m := 3) (by decide)
        have rb := drawZ_range zs (0 + 1 + 1) (m := 4) (by decide)
        have rl := drawZ_range zs (0 + 1 + 1 + 1) (m := 5) (by decide)
        refine execs_nil' (asg3B hA F5 hB b5 (.tuple (.cons hB (.sub hB (.take (n := 9) hok hB rfl c5 kne (by decide) hlz' (by decide)) .const) (.cons hB (.sub hB (.take (n := 9) hok hB rfl c5 kne (by decide) hlz' (by decide)) .const) (.cons hB (EvNB.ev (.listd (.cons hB (.sub hB (.take (n := 9) hok hB rfl c5 kne (by decide) hlz' (by decide)) .const) (.cons hB .const .nil)))) .nil)))) fun vc vb vl h6 tk6 F6 m6 b6 rvc rvb rvl => ?_)
        obtain ⟨c, hc⟩ : ∃ c, c = drawZ zs (0 + 1) 3 - 2 := ⟨_, rfl⟩
        obtain ⟨b, hb'⟩ : ∃ b, b = drawZ zs (0 + 1 + 1) 4 - 3 := ⟨_, rfl⟩
        obtain ⟨l, hl'⟩ : ∃ l, l = drawZ zs (0 + 1 + 1 + 1) 5 - 2 := ⟨_, rfl⟩
        rw [← hc] at rvc
        rw [← hb'] at rvb
        rw [← hl'] at rvl
        obtain ⟨tc, rfl⟩ := rvc.int_inv
        obtain ⟨tb, rfl⟩ := rvb.int_inv
        obtain ⟨k1, k2, k3, k4, k5, k6, k7⟩ := K2 c b l (sh (b := 0) hc rc).1 (sh (b := 0) hc rc).2 (sh (b := 0) hb' rb).1 (sh (b := 0) hb' rb).2 (sh (b := 2) hl' rl).1 (sh (b := 2) hl' rl).2
        have rl6 : Rp Any h6 vl (pZ [l, 1]) := rvl.any
        refine asg2 (c := cx PySem.Challenge.rw_xm0085_01.row.prog w hd.view_39 (looseW hd.view_39 []) mg mb) (S := Any) hA F6 (d := pZ (sqZ c)) (d' := pZ (odZ b)) (.tuple (.cons (EvN.any (S := Any) (.listd (.cons (.loc F6.ns rfl (.int _ tc)) (.cons .const (.cons .const .nil))))) (.cons (EvN.any (S := Any) (.listd (.cons .const (.cons (.loc F6.ns rfl (.int _ tb)) (.cons .const (.cons .const .nil)))))) .nil))) fun vq vo h7 tk7 F7 e7 rq ro => ?_
        have o7 := hok.ext F7.keep
        have rl7 := rl6.but F6.ns e7
        refine asg2 (S := Any) hA F7 (.tuple (.cons (.call o7 rfl rfl (.cons (.loc F7.ns rfl ro) (.cons (.loc F7.ns rfl rq) .nil)) (Con.le (n := 5) (zc_ok k1) (by decide)) fun _ _ => trivial) (.cons (.call o7 rfl rfl (.cons (.loc F7.ns rfl rq) (.cons (.loc F7.ns rfl ro) .nil)) (Con.le (n := 5) (zc_ok k2) (by decide)) fun _ _ => trivial) .nil))) fun v1 v2 h8 tk8 F8 e8 r1 r2 => ?_
        have o8 := hok.ext F8.keep
        have rl8 := rl7.but F7.ns e8
        have rq8 := rq.but F7.ns e8
        have ro8 := ro.but F7.ns e8
        refine execs_if hA (.neD (.eqD (.loc F8.ns rfl r1) (.loc F8.ns rfl r2) (shaped_pZ _) (shaped_pZ _)) (.or2 (.eqD (.tuple (.cons (.loc F8.ns rfl (.int _ tc)) (.cons (.loc F8.ns rfl (.int _ tb)) .nil))) (.tuple (.cons .const (.cons .const .nil))) rfl rfl) fun _ => .eqD (.tuple (.cons (.loc F8.ns rfl (.int _ tc)) (.cons (.loc F8.ns rfl (.int _ tb)) .nil))) (.tuple (.cons (.neg .const) (.cons (.neg .const) .nil))) rfl rfl) rfl rfl) (fun h9 tk9 e9 hb2 => ?_) fun h9 tk9 e9 hb2 => ?_
        · exfalso
          rw [eqv_pZ, k6, eqv_self rfl] at hb2
          cases hb2
        · have F9 := frExt F8 e9
          have o9 := hok.ext F9.keep
          refine execs_nil' (ret_ (S := Any) (d := .bool true) hA (.to (.eqD (.call o9 rfl rfl (.cons (.loc F9.ns rfl (r1.mono e9)) (.cons (.loc F9.ns rfl (rl8.mono e9)) .nil)) (Con.le (n := 5) (zc_ok k3) (by decide)) fun _ _ => trivial) (.call o9 rfl rfl (.cons (.loc F9.ns rfl (ro8.mono e9)) (.cons (.call o9 rfl rfl (.cons (.loc F9.ns rfl (rq8.mono e9)) (.cons (.loc F9.ns rfl (rl8.mono e9)) .nil)) (Con.le (n := 5) (zc_ok k4) (by decide)) fun _ _ => trivial) .nil)) (Con.le (n := 5) (zc_ok k5) (by decide)) fun _ _ => trivial) (shaped_pZ _) (shaped_pZ _)) ?_) fun v h' tk e r => ?_)
          · rw [eqv_pZ, k7]; simp
          · cases r
            exact ⟨rfl, h', tk, _, rfl, frExt F9 e⟩
  · clear hok hbox
    refine goodW_bool F' hg (raisesW_false ?_) ?_
    · wrow_none_raised
    · wrow_post)
end Mine

theorem PySem.Challenge.cw_xm0085_01_holds : PySem.Challenge.rw_xm0085_01.Holds :=
  Mine.law_holds
