import PyProof.Rows.All
import Wide.All
import OpenK.KWalk
import Open.Line
import Wide.FinOn
import PySem.Challenge.RW_xm0077_01
open PySem PySem.W PyProof.Rows
set_option Elab.async false
set_option maxRecDepth 100000
set_option maxHeartbeats 8000000
set_option linter.unusedVariables false

namespace Mine

/-! heaps that grow, heaps whose solid objects stand -/
abbrev Ext (h h' : Heap) : Prop := ∀ b o, h.get? b = some o → h'.get? b = some o
def Solid (o : Obj) : Prop := match o.data with | .dict .. => False | .cell _ => False | _ => True
def Stab (h h' : Heap) : Prop := ∀ b o, h.get? b = some o → Solid o → h'.get? b = some o
theorem Stab.refl (h : Heap) : Stab h h := fun _ _ e _ => e
theorem Stab.trans {h h' h'' : Heap} (a : Stab h h') (b : Stab h' h'') : Stab h h'' := fun c o e t => b c o (a c o e t) t
theorem Stab.of_ext {h h' : Heap} (a : Ext h h') : Stab h h' := fun c o e _ => a c o e
theorem Ext.trans {h h' h'' : Heap} (a : Ext h h') (b : Ext h' h'') : Ext h h'' := fun c o e => b c o (a c o e)
theorem Solid.seq {o : Obj} {xs n} (h : o.data = .seq xs n) : Solid o := by unfold Solid; rw [h]; trivial
theorem Solid.fields {o : Obj} {xs} (h : o.data = .fields xs) : Solid o := by unfold Solid; rw [h]; trivial
theorem Ext.push (h : Heap) (o : Obj) : Ext h (h.push o) := fun _ _ e => Heap.get?_push_of_some _ e

/-- only heap and tokens part -/
def Sm (s s' : Shared) : Prop := ∃ h t, s' = { s with heap := h, toks := t }
theorem Sm.refl (s : Shared) : Sm s s := ⟨s.heap, s.toks, rfl⟩
theorem Sm.trans {a b c : Shared} (x : Sm a b) (y : Sm b c) : Sm a c := by
  obtain ⟨h, t, rfl⟩ := x; obtain ⟨h', t', rfl⟩ := y; exact ⟨h', t', rfl⟩
theorem Sm.mk (s : Shared) (h : Heap) (t : Nat) : Sm s { s with heap := h, toks := t } := ⟨h, t, rfl⟩

/-! the defs of the text -/
def dfN (i : Nat) : DefRec := match Challenge.pw_xm0077_01.main.body[i]? with
  | some (.FunctionDef name a b _ _ _ sc _ _ pos) => ⟨name, a, b, sc, pos⟩
  | _ => ⟨.empty, ⟨[], [], none, [], [], none, []⟩, [], ⟨.function, [], false, false, []⟩, default⟩
def IsFn (h : Heap) (f : Addr) (i : Nat) : Prop :=
  ∃ o pm code doc, h.get? f = some o ∧ o.data = .func (Calls.docDef (dfN i).name (dfN i).params (dfN i).body (dfN i).scope pm code doc) ∧ h.CodeRec code (dfN i).name
theorem IsFn.ext {h h' : Heap} {f i} (x : IsFn h f i) (e : Ext h h') : IsFn h' f i :=
  let ⟨o, pm, code, doc, a, b, c⟩ := x; ⟨o, pm, code, doc, e _ _ a, b, c.keeps e⟩
theorem IsFn.obj {h : Heap} {f i} (x : IsFn h f i) : ∃ o fd, h.get? f = some o ∧ o.data = .func fd :=
  let ⟨o, _, _, _, a, b, _⟩ := x; ⟨o, _, a, b⟩

/-- a tuple (x, 1) -/
def Rat (h : Heap) (v : Value) (x : Int) : Prop := ∃ a t u, v = .ref a ∧ IsTup h a #[.int x t, .int 1 u]

def fnIx : List Nat := [3, 4, 5, 6, 8, 14, 15, 16, 17, 18, 19, 20, 22, 23, 24, 25, 26, 27, 28, 30, 31, 32, 33]
structure Gl (mg mb : Str → Option Value) (h : Heap) : Prop where
  g : h.Ns mainGlobals mg
  b : h.Ns builtinsNs mb
  lim : h.NoLimit
  bi : ∀ x : Str, x ≠ "__name__" → mb x = bootBuiltins x
  free : ∀ x ∈ (["range", "len", "abs", "list", "min", "max", "enumerate", "int"] : List Str), mg x = none
  fn : ∀ i ∈ fnIx, ∃ f, mg (dfN i).name = some (.ref f) ∧ IsFn h f i
  r0 : ∃ v, mg "R0" = some v ∧ Rat h v 0
  r1 : ∃ v, mg "R1" = some v ∧ Rat h v 1

theorem IsTup.stab {h h' : Heap} {a : Addr} {xs : Array Value} (x : IsTup h a xs) (e : Stab h h') : IsTup h' a xs :=
  let ⟨o, ho, hc, n, hd⟩ := x; ⟨o, e _ _ ho (Solid.seq hd), hc, n, hd⟩
theorem IsList.stab {h h' : Heap} {a : Addr} {xs : Array Value} (x : h.IsList a xs) (e : Stab h h') : h'.IsList a xs :=
  let ⟨o, ho, hc, n, hd⟩ := x; ⟨o, e _ _ ho (Solid.seq hd), hc, n, hd⟩
theorem Rat.stab {h h' : Heap} {v : Value} {x : Int} (r : Rat h v x) (e : Stab h h') : Rat h' v x :=
  let ⟨a, t, u, hv, ht⟩ := r; ⟨a, t, u, hv, IsTup.stab ht e⟩

theorem Gl.ext {mg mb : Str → Option Value} {h h' : Heap} (G : Gl mg mb h) (e : Ext h h') : Gl mg mb h' where
  g := G.g.keeps e
  b := G.b.keeps e
  lim := G.lim.keeps e
  bi := G.bi
  free := G.free
  fn := fun i hi => let ⟨f, a, b⟩ := G.fn i hi; ⟨f, a, b.ext e⟩
  r0 := let ⟨v, a, b⟩ := G.r0; ⟨v, a, b.stab (.of_ext e)⟩
  r1 := let ⟨v, a, b⟩ := G.r1; ⟨v, a, b.stab (.of_ext e)⟩

/-! a frame -/
abbrev up (m : Str → Option Value) (x : Str) (v : Value) : Str → Option Value := fun y => if y = x then some v else m y
structure Fm (s₀ : Shared) (hb : Heap) (env : Env) (m cm : Str → Option Value) (s : Shared) : Prop where
  fk : env.scope.kind = .function
  gl : env.globals = mainGlobals
  bl : env.builtins = builtinsNs
  ns : s.heap.Ns env.locals m
  cell : ∀ n c, env.cells.lookup n = some c → s.heap.IsCell c (cm n)
  sm : Sm s₀ s
  keep : Ext s₀.heap s.heap
  stb : Stab hb s.heap
  new : s₀.heap.get? env.locals = none

theorem Ns.ne_cell {h : Heap} {L c : Addr} {m : Str → Option Value} {v : Option Value} (n : h.Ns L m) (x : h.IsCell c v) : c ≠ L := by
  rintro rfl
  obtain ⟨o, es, ep, a, b, _⟩ := n
  obtain ⟨o', a', b'⟩ := x
  rw [a] at a'; cases a'; rw [b] at b'; cases b'
theorem Ns.solid {h : Heap} {L c : Addr} {m : Str → Option Value} {o : Obj} (n : h.Ns L m) (e : h.get? c = some o) (x : Solid o) : c ≠ L := by
  rintro rfl
  obtain ⟨o', es, ep, a, b, _⟩ := n
  rw [a] at e; cases e; unfold Solid at x; rw [b] at x; exact x

section
variable {s₀ s s' : Shared} {hb : Heap} {env : Env} {m m' cm : Str → Option Value}
theorem Fm.ext (F : Fm s₀ hb env m cm s) (q : Sm s s') (e : Ext s.heap s'.heap) : Fm s₀ hb env m cm s' :=
  ⟨F.fk, F.gl, F.bl, F.ns.keeps e, fun n c q => (F.cell n c q).keeps e, F.sm.trans q, F.keep.trans e, F.stb.trans (.of_ext e), F.new⟩
theorem Fm.tok (F : Fm s₀ hb env m cm s) (t : Nat) : Fm s₀ hb env m cm { s with toks := t } := F.ext ⟨s.heap, t, rfl⟩ fun _ _ e => e
theorem Fm.base (F : Fm s₀ hb env m cm s) : Fm s₀ s.heap env m cm s := ⟨F.fk, F.gl, F.bl, F.ns, F.cell, F.sm, F.keep, .refl _, F.new⟩
theorem Fm.rebase {h : Heap} (F : Fm s₀ hb env m cm s) (e : Stab h hb) : Fm s₀ h env m cm s := ⟨F.fk, F.gl, F.bl, F.ns, F.cell, F.sm, F.keep, e.trans F.stb, F.new⟩
theorem Fm.set (F : Fm s₀ hb env m cm s) {h' : Heap} (t : Nat) (hn : h'.Ns env.locals m') (hs : Heap.SameBut env.locals s.heap h') : Fm s₀ hb env m' cm { s with heap := h', toks := t } :=
  ⟨F.fk, F.gl, F.bl, hn, fun n c q => (F.cell n c q).sameBut hs (Ns.ne_cell F.ns (F.cell n c q)), F.sm.trans ⟨_, _, rfl⟩,
   fun b o e => (hs.2 b (fun q => by rw [q, F.new] at e; cases e)).trans (F.keep b o e),
   fun b o e t => (hs.2 b (Ns.solid F.ns (F.stb b o e t) t)).trans (F.stb b o e t), F.new⟩
/-- another object of the frame's own is changed -/
theorem Fm.mut {l : Addr} {ol : Obj} (F : Fm s₀ hb env m cm s) (hl : s.heap.get? l = some ol) (ho : Solid ol) (hn : s₀.heap.get? l = none) (hn' : hb.get? l = none)
    (q : Sm s s') (hs : ∀ b o, b ≠ l → s.heap.get? b = some o → s'.heap.get? b = some o) : Fm s₀ hb env m cm s' :=
  ⟨F.fk, F.gl, F.bl, let ⟨o', es, ep, a, r⟩ := F.ns; ⟨o', es, ep, hs _ _ (Ne.symm (Ns.solid F.ns hl ho)) a, r⟩,
   fun n c q => let ⟨o', a, b⟩ := F.cell n c q; ⟨o', hs _ _ (fun e => by subst e; rw [hl] at a; cases a; unfold Solid at ho; rw [b] at ho; exact ho) a, b⟩, F.sm.trans q,
   fun b o e => hs _ _ (fun q => by rw [q, hn] at e; cases e) (F.keep b o e),
   fun b o e t => hs _ _ (fun q => by rw [q, hn'] at e; cases e) (F.stb b o e t), F.new⟩
end

/-- the goal's words made short -/
theorem hide {M : Model} {A : Around} {α : Type} {t : Sem α} {Q : α → Shared → Prop} {E : Value → Shared → Prop} {s : Shared}
    (h : ∀ (K : α → Shared → Prop) (E' : Value → Shared → Prop), (∀ x s', Q x s' → K x s') → wpAny M A t K E' s) : wpAny M A t Q E s := h Q E fun _ _ x => x

theorem bitsN {k : Int} (h : k.natAbs < 2 ^ 64) : Builtin.Int.intBits k ≤ 64 := intBits_le_64 (by omega) (by omega)

theorem iteP {c : Prop} [Decidable c] {a b : Prop} (hc : c) (h : a) : if c then a else b := (if_pos hc).mpr h
theorem iteN {c : Prop} [Decidable c] {a b : Prop} (hc : ¬ c) (h : b) : if c then a else b := (if_neg hc).mpr h

/-- a returning call -/
def Ret (s : Shared) (Q : Value → Shared → Prop) (P : Value → Heap → Prop) : Prop := ∀ v s', Sm s s' → Ext s.heap s'.heap → P v s'.heap → Q v s'
structure Room (k : Nat) (A : Around) : Prop where
  hh : A.handled = none
  dp : A.depth + k < recursionLimit
  un : A.units + 8 * k + 1000 < cLine
theorem Room.le {A : Around} {k k' : Nat} (R : Room k A) (h : k' ≤ k) : Room k' A := ⟨R.hh, by have := R.dp; omega, by have := R.un; omega⟩
theorem Room.deeper {A : Around} {k : Nat} (R : Room (k + 1) A) (e : Env) : Room k (A.deeper e) := ⟨R.hh, by have := R.dp; simp only [Around.deeper]; omega, by have := R.un; simp only [Around.deeper]; omega⟩

section
variable {M : Model} {prog : Program} {w : World} {A : Around} {E : Value → Shared → Prop} {s₀ s : Shared} {hb : Heap} {env : Env} {m cm mg mb : Str → Option Value}

theorem Fm.ret {Q : Value → Shared → Prop} {P : Value → Heap → Prop} (F : Fm s₀ hb env m cm s) (h : ∀ v s', Fm s₀ hb env m cm s' → Ext s.heap s'.heap → P v s'.heap → Q v s') : Ret s Q P :=
  fun v s' a b c => h v s' (F.ext a b) b c

theorem ld {x : Str} {pos : Pos} {v : Value} {Q : Value → Shared → Prop} (F : Fm s₀ hb env m cm s) (hv : m x = some v) (h : Q v s)
    (hl : env.kindOf x = some .local := by rfl) (hd : (x == ("__debug__" : Str)) = false := by decide) :
    wpAny M A (eval (.Name x pos) env) Q E s := wpAny_Name (wpAny_loadName_local F.fk hl F.ns hv h) hd
theorem ldc {x : Str} {pos : Pos} {c : Addr} {v : Value} {Q : Value → Shared → Prop} (F : Fm s₀ hb env m cm s) (hc : env.cells.lookup x = some c) (hv : cm x = some v) (h : Q v s)
    (hl : env.kindOf x = some .cell := by rfl) (hd : (x == ("__debug__" : Str)) = false := by decide) :
    wpAny M A (eval (.Name x pos) env) Q E s := wpAny_Name (wpAny_loadName_cell F.fk hl hc (hv ▸ F.cell x c hc) h) hd
theorem ldf {x : Str} {pos : Pos} {c : Addr} {v : Value} {Q : Value → Shared → Prop} (F : Fm s₀ hb env m cm s) (hc : env.cells.lookup x = some c) (hv : cm x = some v) (h : Q v s)
    (hl : env.kindOf x = some .free := by rfl) (hn : (x == ("__classdict__" : Str)) = false := by decide) (hd : (x == ("__debug__" : Str)) = false := by decide) :
    wpAny M A (eval (.Name x pos) env) Q E s := wpAny_Name (wpAny_loadName_free F.fk hl hc (hv ▸ F.cell x c hc) h hn) hd
theorem ldg {x : Str} {pos : Pos} {v : Value} {Q : Value → Shared → Prop} (F : Fm s₀ hb env m cm s) (G : Gl mg mb s₀.heap) (hv : mg x = some v) (h : Q v s)
    (hl : env.kindOf x = some .globalImplicit := by rfl) (hd : (x == ("__debug__" : Str)) = false := by decide) :
    wpAny M A (eval (.Name x pos) env) Q E s :=
  Calls.Name_function_global F.fk hl (Calls.loadGlobal_global (by rw [F.gl]; exact G.g.keeps F.keep) hv h) hd
theorem ldb {x : Str} {pos : Pos} {v : Value} {Q : Value → Shared → Prop} (F : Fm s₀ hb env m cm s) (G : Gl mg mb s₀.heap)
    (hf : x ∈ (["range", "len", "abs", "list", "min", "max", "enumerate", "int"] : List Str)) (hv : bootBuiltins x = some v) (h : Q v s)
    (hl : env.kindOf x = some .globalImplicit := by rfl) (hn : x ≠ "__name__" := by decide) (hd : (x == ("__debug__" : Str)) = false := by decide) :
    wpAny M A (eval (.Name x pos) env) Q E s :=
  Calls.Name_function_global F.fk hl (Calls.loadGlobal_builtin (by rw [F.gl]; exact G.g.keeps F.keep) (G.free x hf) (by rw [F.bl]; exact G.b.keeps F.keep) ((G.bi x hn).trans hv) h) hd

theorem st {x : Str} {v : Value} {Q : Unit → Shared → Prop} (F : Fm s₀ hb env m cm s)
    (h : ∀ s', Fm s₀ hb env (up m x v) cm s' → Q () s') (hl : env.kindOf x = some .local := by rfl) :
    wpAny M A (storeName env x v) Q E s :=
  wpAny_storeName_local hl F.ns (fun h' hn hs => h _ (F.set _ hn hs)) (by rw [F.fk]; rfl)

theorem args_cons {e : Expr} {rest : List Expr} {pos : Pos} {Q : List Value → Shared → Prop}
    (h : wpAny M A (eval e env) (fun v s₁ => wpAny M A (spliced (backTo pos (starEach rest env))) (fun vs s₂ => Q (v :: vs) s₂) E s₁) E s)
    (he : starEach (e :: rest) env = (false, eval e env) :: starEach rest env := by rfl) :
    wpAny M A (spliced (backTo pos (starEach (e :: rest) env))) Q E s := by
  rw [he]; exact Calls.spliced_cons h
theorem args_nil {pos : Pos} {Q : List Value → Shared → Prop} (h : Q [] s) : wpAny M A (spliced (backTo pos (starEach [] env))) Q E s := Calls.spliced_nil h

theorem evalArgs_ {f : Value} {e : Expr} {rest : List Expr} {pos : Pos} {Q : Args → Shared → Prop}
    (h : wpAny M A (spliced (backTo pos (starEach (e :: rest) env))) (fun vs s' => Q ⟨vs, []⟩ s') E s)
    (he : starEach (e :: rest) env = (false, eval e env) :: starEach rest env := by rfl) :
    wpAny M A (evalArgs f true (backTo pos (starEach (e :: rest) env)) []) Q E s := by
  rw [he] at h ⊢; exact Calls.evalArgs_plain h

theorem call_def {id : Str} {p pos : Pos} {e : Expr} {rest : List Expr} {Q : Value → Shared → Prop} (i : Nat) (F : Fm s₀ hb env m cm s) (G : Gl mg mb s₀.heap)
    (h : ∀ f, (∀ s₁ : Shared, Ext s₀.heap s₁.heap → IsFn s₁.heap f i) → wpAny M A (spliced (backTo pos (starEach (e :: rest) env))) (fun vs s₁ => Ext s₀.heap s₁.heap ∧ wpAny M A (call (.ref f) vs) Q E s₁) E s)
    (hi : (dfN i).name = id := by rfl) (hm : i ∈ fnIx := by decide)
    (hl : env.kindOf id = some .globalImplicit := by rfl) (hd : (id == ("__debug__" : Str)) = false := by decide)
    (he : starEach (e :: rest) env = (false, eval e env) :: starEach rest env := by rfl) :
    wpAny M A (eval (.Call (.Name id p) (e :: rest) [] pos) env) Q E s := by
  obtain ⟨f, hf, hF⟩ := G.fn i hm
  refine wpAny_Call_NameR (ldg F G (hi ▸ hf) ?_ hl hd)
  obtain ⟨o, fd, h1, h2⟩ := hF.obj
  refine Calls.callWith_function (o := o) (fd := fd) (evalArgs_ (wpAny_mono (h f fun s₁ e => hF.ext e) (fun vs s₁ q => ?_) fun _ _ x => x) he)
  exact ⟨⟨q.1 _ _ h1, h2⟩, q.2⟩
theorem call_blt {id : Str} {bid : String} {p pos : Pos} {e : Expr} {rest : List Expr} {Q : Value → Shared → Prop} (F : Fm s₀ hb env m cm s) (G : Gl mg mb s₀.heap)
    (hf : id ∈ (["range", "len", "abs", "list", "min", "max", "enumerate", "int"] : List Str)) (hv : bootBuiltins id = some (.builtin bid))
    (h : wpAny M A (spliced (backTo pos (starEach (e :: rest) env))) (fun vs s₁ => wpAny M A (call (.builtin bid) vs) Q E s₁) E s)
    (hplain : (backTo pos (starEach (e :: rest) env)).any (·.1) = false := by rfl)
    (hl : env.kindOf id = some .globalImplicit := by rfl) (hn : id ≠ "__name__" := by decide) (hd : (id == ("__debug__" : Str)) = false := by decide)
    (he : starEach (e :: rest) env = (false, eval e env) :: starEach rest env := by rfl) :
    wpAny M A (eval (.Call (.Name id p) (e :: rest) [] pos) env) Q E s := by
  refine wpAny_Call_NameR (ldb F G hf hv ?_ hl hn hd)
  exact Calls.callWith_builtin hplain (evalArgs_ (wpAny_mono h (fun vs s₁ q => q) fun _ _ x => x) he)
theorem call_typ {id : Str} {bid : String} {p pos : Pos} {e : Expr} {rest : List Expr} {Q : Value → Shared → Prop} (F : Fm s₀ hb env m cm s) (G : Gl mg mb s₀.heap)
    (hf : id ∈ (["range", "len", "abs", "list", "min", "max", "enumerate", "int"] : List Str)) (hv : bootBuiltins id = some (.type bid))
    (h : wpAny M A (spliced (backTo pos (starEach (e :: rest) env))) (fun vs s₁ => wpAny M A (call (.type bid) vs) Q E s₁) E s)
    (hplain : (backTo pos (starEach (e :: rest) env)).any (·.1) = false := by rfl)
    (hl : env.kindOf id = some .globalImplicit := by rfl) (hn : id ≠ "__name__" := by decide) (hd : (id == ("__debug__" : Str)) = false := by decide)
    (he : starEach (e :: rest) env = (false, eval e env) :: starEach rest env := by rfl) :
    wpAny M A (eval (.Call (.Name id p) (e :: rest) [] pos) env) Q E s := by
  refine wpAny_Call_NameR (ldb F G hf hv ?_ hl hn hd)
  exact PySem.callWith_type hplain (evalArgs_ (wpAny_mono h (fun vs s₁ q => q) fun _ _ x => x) he)

/-- entering a def without cells -/
theorem enter_plain {Q : Value → Shared → Prop} {f : Addr} {i : Nat} {vals : List Value} {k : Nat} (hf : IsFn s.heap f i) (G : Gl mg mb s.heap) (Rm : Room (k + 1) A)
    {name : Str} {params : Arguments} {body : List Stmt} {scope : Scope} {pos : Pos} (hd : dfN i = ⟨name, params, body, scope, pos⟩)
    {binds : List (Str × Value)} (hbind : ∀ pm cd doc, bindArgs (Calls.docDef name params body scope pm cd doc) ⟨vals, []⟩ = pure binds)
    (hloc : ∀ x ∈ binds, scope.names.lookup x.1 = some .local)
    (h : ∀ L cd A' s', Room k A' → Fm s s.heap (envOf name scope L f cd) (fun x => binds.reverse.lookup x) (fun _ => none) s' →
      wpAny (model prog w) A' (execs body (envOf name scope L f cd)) (fun f s' => Q (match f with | .ret v => v | _ => .none) s') (fun _ _ => False) s')
    (hco : scope.isCoroutine = false := by rfl) (hgen : scope.isGenerator = false := by rfl) (hk : scope.kind = .function := by rfl)
    (hcell : ∀ x ∈ scope.names, x.2 ≠ .cell := by decide) :
    wpAny (model prog w) A (call (.ref f) vals) Q E s := by
  obtain ⟨o, pm, cd, doc, ho, hda, hcd⟩ := hf
  rw [hd] at hda hcd
  refine wpAny_call (call_plain_ret (by have := Rm.dp; omega) ho hda G.lim hcd (hbind _ _ _) hloc (fun h₁ F => ?_) hco hgen hk hcell)
  exact h _ _ _ _ (Rm.deeper _) ⟨hk, rfl, rfl, F.ns, (fun n c e => nomatch e), ⟨_, _, rfl⟩, F.keep, .of_ext F.keep, Heap.get?_none_of_le F.above⟩

theorem asg2 {x y : Str} {e1 e2 : Expr} {p1 p2 tp vp pos : Pos} {k k' : Nat} {Q : Flow → Shared → Prop} (hh : A.handled = none)
    (h : wpAny (model prog w) A (eval e1 env) (fun v1 s₁ => wpAny (model prog w) A (eval e2 env) (fun v2 s₂ => ∀ s₃, Sm s₂ s₃ → Ext s₂.heap s₃.heap →
      wpAny (model prog w) A (storeName env y v2) (fun _ s₄ => wpAny (model prog w) A (storeName env x v1) (fun _ => Q .next) E s₄) E s₃) E s₁) E s)
    (he : starEach [e1, e2] env = [(false, eval e1 env), (false, eval e2 env)] := by rfl)
    (hs : swapsWithSole [.Tuple [.Name x p1, .Name y p2] k tp] (.Tuple [e1, e2] k' vp) pos.line env = pure false := by rfl)
    (hw : swappedStores [.Tuple [.Name x p1, .Name y p2] k tp] (.Tuple [e1, e2] k' vp) env = pure (some [x, y]) := by rfl) :
    wpAny (model prog w) A (exec (.Assign [.Tuple [.Name x p1, .Name y p2] k tp] (.Tuple [e1, e2] k' vp) pos) env) Q E s := by
  refine Assign_Tuple_swapped ?_ hs hw
  refine wpAny_Tuple_spliced ?_
  rw [he]
  refine Calls.spliced_cons (wpAny_mono h (fun v1 s₁ h₁ => Calls.spliced_cons (wpAny_mono h₁ (fun v2 s₂ h₂ => Calls.spliced_nil ⟨(by show 2 ≤ sizeLine; decide), ?_⟩) fun _ _ x => x)) fun _ _ x => x)
  show wpAny _ _ (unpackItems (.ref s₂.heap.objs.size) (#[v1, v2] : Array Value).size none) _ _ _
  refine unpackItems_tuple (items := #[v1, v2]) hh ⟨_, Heap.get?_push_size _ rfl, rfl, _, rfl⟩ fun h' he' => ?_
  have hx : Ext s₂.heap h' := fun b o e => he' b o (by simp only [Heap.size_push]; exact Nat.ne_of_lt (Nat.lt_succ_of_lt (Heap.lt_size e))) (Heap.get?_push_of_some _ e)
  show wpAny _ _ (assignInOrder [bindName env y, bindName env x] [v2, v1]) _ _ _
  refine wpAny_assignInOrder_more (wpAny_bindName (wpAny_mono (h₂ _ ⟨h', s₂.toks, rfl⟩ hx) (fun _ s₄ h₄ => ?_) fun _ _ x => x))
  exact wpAny_assignInOrder_more (wpAny_bindName (wpAny_mono h₄ (fun _ _ q => wpAny_assignInOrder_none q) fun _ _ x => x))
end
end Mine

namespace Mine
section
variable {prog : Program} {w : World} {A : Around} {E : Value → Shared → Prop} {s₀ s : Shared} {hb : Heap} {env : Env} {m cm mg mb : Str → Option Value} {a b : Int} {t u : Tok}

theorem rint {i : Int} {k pos} {Q : Value → Shared → Prop} (F : Fm s₀ hb env m cm s) (h : ∀ t s', Fm s₀ hb env m cm s' → Q (.int i t) s') :
    wpAny (model prog w) A (eval (.Constant (.int i) k pos) env) Q E s := wpAny_Constant_int (h _ _ (F.tok _))
theorem rneg {Q : Value → Shared → Prop} (F : Fm s₀ hb env m cm s) (h : ∀ t s', Fm s₀ hb env m cm s' → Q (.int (-a) t) s') :
    wpAny (model prog w) A (unaryOp .USub (.int a t)) Q E s := PyProof.Rows.neg_int (h _ _ (F.tok _))
theorem radd_ {Q : Value → Shared → Prop} (F : Fm s₀ hb env m cm s) (h : ∀ t s', Fm s₀ hb env m cm s' → Q (.int (a + b) t) s') :
    wpAny (model prog w) A (binaryOp .Add (.int a t) (.int b u)) Q E s := PyProof.Rows.add_int (h _ _ (F.tok _))
theorem rsub_ {Q : Value → Shared → Prop} (F : Fm s₀ hb env m cm s) (h : ∀ t s', Fm s₀ hb env m cm s' → Q (.int (a - b) t) s') :
    wpAny (model prog w) A (binaryOp .Sub (.int a t) (.int b u)) Q E s := PyProof.Rows.sub_int (h _ _ (F.tok _))
theorem rmul_ {Q : Value → Shared → Prop} (F : Fm s₀ hb env m cm s) (hm : IntMulOk a b) (h : ∀ t s', Fm s₀ hb env m cm s' → Q (.int (a * b) t) s') :
    wpAny (model prog w) A (binaryOp .Mult (.int a t) (.int b u)) Q E s := PyProof.Rows.mul_int (h _ _ (F.tok _)) hm
theorem rdiv_ {Q : Value → Shared → Prop} (F : Fm s₀ hb env m cm s) (hb' : b ≠ 0) (hl : b.natAbs.log2 < 9000) (h : ∀ t s', Fm s₀ hb env m cm s' → Q (.int (a.fdiv b) t) s') :
    wpAny (model prog w) A (binaryOp .FloorDiv (.int a t) (.int b u)) Q E s := PyProof.Rows.floordiv_int hb' (h _ _ (F.tok _)) (Or.inl (PyProof.noPylong_of_log2 hl))
theorem rmod_ {Q : Value → Shared → Prop} (F : Fm s₀ hb env m cm s) (hb' : b ≠ 0) (h : ∀ t s', Fm s₀ hb env m cm s' → Q (.int (a.fmod b) t) s') :
    wpAny (model prog w) A (binaryOp .Mod (.int a t) (.int b u)) Q E s := PyProof.Rows.mod_int hb' (h _ _ (F.tok _))
theorem rabs {Q : Value → Shared → Prop} (F : Fm s₀ hb env m cm s) (h : ∀ t s', Fm s₀ hb env m cm s' → Q (.int (a.natAbs : Int) t) s') :
    wpAny (model prog w) A (call (.builtin "abs") [.int a t]) Q E s := call_abs_int fun u tk => by
  have := h u _ (F.tok tk)
  have e : (a.natAbs : Int) = if a < 0 then -a else a := by split <;> omega
  rw [← e]; exact this
theorem rmax {Q : Value → Shared → Prop} (hh : A.handled = none) (F : Fm s₀ hb env m cm s) (h : ∀ t s', Fm s₀ hb env m cm s' → Q (.int (max a b) t) s') :
    wpAny (model prog w) A (call (.builtin "max") [.int a t, .int b u]) Q E s := max_two_ints hh fun h' tk hk => by
  have h1 := h u _ (F.ext ⟨h', tk, rfl⟩ hk)
  have h2 := h t _ (F.ext ⟨h', tk, rfl⟩ hk)
  by_cases c : b > a
  · rw [show max a b = b by omega] at h1; simpa only [if_pos c] using h1
  · rw [show max a b = a by omega] at h2; simpa only [if_neg c] using h2
theorem rmin {Q : Value → Shared → Prop} (hh : A.handled = none) (F : Fm s₀ hb env m cm s) (h : ∀ t s', Fm s₀ hb env m cm s' → Q (.int (min a b) t) s') :
    wpAny (model prog w) A (call (.builtin "min") [.int a t, .int b u]) Q E s := min_two_ints hh fun h' tk hk => by
  have h1 := h u _ (F.ext ⟨h', tk, rfl⟩ hk)
  have h2 := h t _ (F.ext ⟨h', tk, rfl⟩ hk)
  by_cases c : b < a
  · rw [show min a b = b by omega] at h1; simpa only [if_pos c] using h1
  · rw [show min a b = a by omega] at h2; simpa only [if_neg c] using h2
theorem rpow {Q : Value → Shared → Prop} (F : Fm s₀ hb env m cm s) (hn : 0 ≤ b) (hsz : (Builtin.Int.intBits a : Int) * b ≤ 2 ^ 27) (h : ∀ t s', Fm s₀ hb env m cm s' → Q (.int (a ^ b.toNat) t) s') :
    wpAny (model prog w) A (binaryOp .Pow (.int a t) (.int b u)) Q E s := PyProof.Rows.pow_int hn hsz (h _ _ (F.tok _))
theorem rtuple {es : List Expr} {k pos} {Q : Value → Shared → Prop}
    (h : wpAny (model prog w) A (spliced (backTo pos (starEach es env))) (fun vs s₁ => vs.length ≤ sizeLine ∧ ∀ a s', Sm s₁ s' → Ext s₁.heap s'.heap → IsTup s'.heap a vs.toArray → s₁.heap.get? a = none → Q (.ref a) s') E s) :
    wpAny (model prog w) A (eval (.Tuple es k pos) env) Q E s :=
  wpAny_Tuple_spliced (wpAny_mono h (fun vs s₁ q => by
    obtain ⟨q1, q2⟩ := q
    exact ⟨q1, q2 _ _ ⟨_, _, rfl⟩ (Ext.push _ _) ⟨_, Heap.get?_push_size _ rfl, rfl, _, rfl⟩ (Heap.get?_none_of_le (Nat.le_refl _))⟩) fun _ _ x => x)
theorem rlist {es : List Expr} {pos} {Q : Value → Shared → Prop}
    (h : wpAny (model prog w) A (spliced (backTo pos (starEach es env))) (fun vs s₁ => vs.length ≤ sizeLine ∧ ∀ a s', Sm s₁ s' → Ext s₁.heap s'.heap → s'.heap.get? a = some { cls := .type "list", dict := none, data := .seq vs.toArray 0, slots := #[] } → s₁.heap.get? a = none → Q (.ref a) s') E s) :
    wpAny (model prog w) A (eval (.List es pos) env) Q E s :=
  wpAny_List_spliced (wpAny_mono h (fun vs s₁ q => by
    obtain ⟨q1, q2⟩ := q
    exact ⟨q1, q2 _ _ ⟨_, _, rfl⟩ (Ext.push _ _) (Heap.get?_push_size _ rfl) (Heap.get?_none_of_le (Nat.le_refl _))⟩) fun _ _ x => x)

/-- place i of a tuple: facts at the base heap -/
theorem rtupAt {value slice : Expr} {p : Addr} {l : List Value} {k : Int} {j : Nat} {x : Value} {Q : Value → Shared → Prop} (F : Fm s₀ hb env m cm s) (ht : IsTup hb p l.toArray)
    (hj : seqIndex? k l.length = some j) (hx : l[j]? = some x) (h : Q x s) (hlo : -(2 ^ 63) ≤ k := by decide) (hhi : k < 2 ^ 63 := by decide)
    (hs : subscripted slice false (.ref p) (.int k u) = operate [.ref p, .int k u] (getItem (.ref p) (.int k u)) := by with_unfolding_all rfl) :
    wpAny (model prog w) A (subscriptTail value slice (.ref p) (.int k u)) Q E s :=
  item_tupleT (IsTup.stab ht F.stb) hlo hhi hj hx h hs
theorem rlistAt {value slice : Expr} {p : Addr} {l : List Value} {k : Int} {x : Value} {Q : Value → Shared → Prop} (F : Fm s₀ hb env m cm s) (hl : hb.IsList p l.toArray)
    (h0 : 0 ≤ k) (hk : k < 2 ^ 63) (hx : l[k.toNat]? = some x) (h : Q x s)
    (hs : subscripted slice false (.ref p) (.int k u) = operate [.ref p, .int k u] (getItem (.ref p) (.int k u)) := by with_unfolding_all rfl) :
    wpAny (model prog w) A (subscriptTail value slice (.ref p) (.int k u)) Q E s :=
  have hL := IsList.stab hl F.stb
  tail_any hL.typeIs slot_list_getitem.lookup (wpAny_getItem_list hL h0 hk (by simpa using hx) h) hs
theorem rlen {p : Addr} {l : List Value} {Q : Value → Shared → Prop} (F : Fm s₀ hb env m cm s) (hl : hb.IsList p l.toArray) (hfit : l.length < 2 ^ 62) (h : ∀ t s', Fm s₀ hb env m cm s' → Q (.int l.length t) s') :
    wpAny (model prog w) A (call (.builtin "len") [.ref p]) Q E s :=
  PyProof.Rows.len_list (IsList.stab hl F.stb) (by simp; omega) (by simpa using h _ _ (F.tok _))

/-! facts of ratios -/
theorem Rat.reads {h : Heap} {v : Value} {x : Int} (r : Rat h v x) : ∃ as, Reads h v (.tuple [.int x, .int 1]) as := by
  obtain ⟨a, t, u, rfl, o, ho, hc, n, hd⟩ := r
  exact ⟨_, reads_tuple_at ho hc (by simpa using hd) (.cons (.int _ _) (.cons (.int _ _) .nil))⟩
theorem rne_rat {v v' : Value} {x y : Int} {Q : Value → Shared → Prop} (F : Fm s₀ hb env m cm s) (hv : Rat hb v x) (hv' : Rat hb v' y) (hu : A.units + 64 < cLine) (h : Q (.bool (x != y)) s) :
    wpAny (model prog w) A (compareOp .NotEq v v') Q E s := by
  obtain ⟨_, r1⟩ := (hv.stab F.stb).reads
  obtain ⟨_, r2⟩ := (hv'.stab F.stb).reads
  refine ne_dataH r1 r2 rfl rfl hu ?_
  have e : (!PyData.eqv (.tuple [.int x, .int 1]) (.tuple [.int y, .int 1])) = (x != y) := by
    simp [PyData.eqv, PyData.eqvAll, bne]
  rw [e]; exact h
theorem req_rat {v v' : Value} {x y : Int} {Q : Value → Shared → Prop} (F : Fm s₀ hb env m cm s) (hv : Rat hb v x) (hv' : Rat hb v' y) (hu : A.units + 64 < cLine) (h : Q (.bool (x == y)) s) :
    wpAny (model prog w) A (compareOp .Eq v v') Q E s := by
  obtain ⟨_, r1⟩ := (hv.stab F.stb).reads
  obtain ⟨_, r2⟩ := (hv'.stab F.stb).reads
  refine eq_dataH r1 r2 rfl rfl hu ?_
  have e : (PyData.eqv (.tuple [.int x, .int 1]) (.tuple [.int y, .int 1])) = (x == y) := by
    simp [PyData.eqv, PyData.eqvAll]
  rw [e]; exact h
theorem ints_shaped (ns : List Int) : SeqAt.shaped (.list (ns.map PyData.int)) = true := by
  have h1 : ∀ ns : List Int, PyData.canLayAll0 (ns.map PyData.int) = true := by
    intro ns; induction ns with
    | nil => rfl
    | cons x r ih => simp [PyData.canLayAll0, PyData.canLay0, ih]
  have h2 : ∀ ns : List Int, PyData.depthAll (ns.map PyData.int) = 0 := by
    intro ns; induction ns with
    | nil => rfl
    | cons x r ih => simp [PyData.depthAll, PyData.depth, ih]
  simp [SeqAt.shaped, PyData.canLay0, PyData.depth, h1, h2]
theorem ints_eqv (ns : List Int) : PyData.eqv (.list (ns.map PyData.int)) (.list (ns.map PyData.int)) = true := by
  have : ∀ ns : List Int, PyData.eqvAll (ns.map PyData.int) (ns.map PyData.int) = true := by
    intro ns; induction ns with
    | nil => simp [PyData.eqvAll]
    | cons x r ih => simp [PyData.eqvAll, PyData.eqv, ih]
  simp [PyData.eqv, this]
theorem ints_read {h : Heap} {a : Addr} {vs : List Value} {ns : List Int} (hl : h.IsList a vs.toArray) (hi : IntsAre vs ns) : Reads h (.ref a) (.list (ns.map PyData.int)) [a] := by
  obtain ⟨o, ho, hc, n, hd⟩ := hl
  exact reads_list_at ho hc (by simpa using hd) (hi.reads h)
theorem rne_ints {a b : Addr} {vs us : List Value} {ns : List Int} {Q : Value → Shared → Prop} (ha : s.heap.IsList a vs.toArray) (hb' : s.heap.IsList b us.toArray) (hi : IntsAre vs ns) (hj : IntsAre us ns) (hu : A.units + 64 < cLine) (h : Q (.bool false) s) :
    wpAny (model prog w) A (compareOp .NotEq (.ref a) (.ref b)) Q E s :=
  ne_dataH (ints_read ha hi) (ints_read hb' hj) (ints_shaped _) (ints_shaped _) hu (by rw [ints_eqv]; exact h)
end
end Mine

namespace Mine
section
variable {prog : Program} {w : World} {A : Around} {E : Value → Shared → Prop} {s : Shared} {mg mb : Str → Option Value} {Q : Value → Shared → Prop} {f : Addr}

theorem gcd_c {x : Int} {t u : Tok} (hf : IsFn s.heap f 8) (G : Gl mg mb s.heap) (Rm : Room 1 A)
    (h : Ret s Q fun v _ => ∃ t, v = .int 1 t) : wpAny (model prog w) A (call (.ref f) [.int x t, .int 1 u]) Q E s := by
  refine enter_plain (k := 0) (binds := [("a", .int x t), ("b", .int 1 u)]) hf G Rm rfl (fun _ _ _ => rfl) (locs rfl) (fun L cd A' s' R' F => ?_)
  refine wpAny_execs_cons (asg2 R'.hh ?_)
  refine call_blt F G (by decide) boot_abs (args_cons (ld F rfl (args_nil ?_)))
  refine rabs F fun t1 s1 F => ?_
  refine call_blt F G (by decide) boot_abs (args_cons (ld F rfl (args_nil ?_)))
  refine rabs F fun t2 s2 F => ?_
  intro s3 q e
  have F := F.ext q e
  refine st F fun s4 F => st F fun s5 F => ?_
  refine wpAny_execs_cons (wpAny_While ?_)
  refine codeAny_whileLoop (I := fun n s' => ∃ m a b ta tb, Fm s s.heap (envOf _ _ L f cd) m (fun _ => none) s' ∧ m "a" = some (.int a ta) ∧ m "b" = some (.int b tb) ∧ ((n = 1 ∧ b = 1) ∨ (n = 0 ∧ a = 1 ∧ b = 0))) ?_ 1 ⟨_, _, _, _, _, F, rfl, rfl, .inl ⟨rfl, rfl⟩⟩
  rintro n s6 ⟨m, a, b, ta, tb, F, ha, hb, hc⟩
  refine wpAny_isTrue_Compare1 (ld F hb (rint F fun t s7 F => ?_))
  refine PyProof.Rows.ne_int (wpAny_truthy_bool ?_)
  rcases hc with ⟨rfl, rfl⟩ | ⟨rfl, rfl, rfl⟩
  · refine wpAny_execs_cons (asg2 R'.hh ?_)
    refine ld F hb (wpAny_BinOp (ld F ha (ld F hb (rmod_ F (by decide) fun t s8 F => ?_))))
    intro s9 q e
    have F := F.ext q e
    refine st F fun s10 F => st F fun s11 F => ?_
    exact wpAny_execs_nil ⟨0, by decide, _, _, _, _, _, F, rfl, rfl, .inr ⟨rfl, rfl, by simp [Int.fmod_one]⟩⟩
  · refine wpAny_execs_nil ?_
    refine wpAny_execs_cons (wpAny_Return_some (ld F ha ?_))
    exact h _ _ F.sm F.keep ⟨_, rfl⟩
end
end Mine

namespace Mine
section
variable {prog : Program} {w : World} {A : Around} {E : Value → Shared → Prop} {s₀ s : Shared} {hb : Heap} {env : Env} {m cm mg mb : Str → Option Value} {Q : Value → Shared → Prop} {f : Addr}

/-- a written place of a local tuple -/
theorem tupAt {x : Str} {p1 p2 p3 : Pos} {i : Int} {k : Nat} {p : Addr} {l : List Value} {j : Nat} {v : Value} (F : Fm s₀ hb env m cm s) (hm : m x = some (.ref p)) (ht : IsTup hb p l.toArray)
    (hj : seqIndex? i l.length = some j) (hx : l[j]? = some v) (h : ∀ s', Fm s₀ hb env m cm s' → Q v s') (hlo : -(2 ^ 63) ≤ i := by decide) (hhi : i < 2 ^ 63 := by decide)
    (hl : env.kindOf x = some .local := by rfl) (hd : (x == ("__debug__" : Str)) = false := by decide) :
    wpAny (model prog w) A (eval (.Subscript (.Name x p1) (.Constant (.int i) k p2) p3) env) Q E s :=
  Subscript_ (ld F hm (rint F fun t s' F => rtupAt F ht hj hx (h _ F) hlo hhi) hl hd)

theorem rat_c {x : Int} {t u : Tok} (hf : IsFn s.heap f 14) (G : Gl mg mb s.heap) (Rm : Room 2 A)
    (h : Ret s Q fun v h => Rat h v x) : wpAny (model prog w) A (call (.ref f) [.int x t, .int 1 u]) Q E s := by
  refine enter_plain (k := 1) (binds := [("top", .int x t), ("bottom", .int 1 u)]) hf G Rm rfl (fun _ _ _ => rfl) (locs rfl) (fun L cd A' s' R' F => ?_)
  refine wpAny_execs_cons (wpAny_If (wpAny_isTrue_Compare1 (ld F rfl (rint F fun t s7 F => ?_))))
  refine PyProof.Rows.eq_int (wpAny_truthy_bool ?_)
  refine wpAny_execs_nil ?_
  refine wpAny_execs_cons (wpAny_Assign_Name (IfExp_ (wpAny_isTrue_Compare1 (ld F rfl (rint F fun t s7 F => ?_)))))
  refine PyProof.Rows.gt_int (wpAny_truthy_bool ?_)
  refine call_def 8 F G fun g hg => args_cons (ld F rfl (args_cons (ld F rfl (args_nil ⟨F.keep, ?_⟩))))
  refine gcd_c (hg _ F.keep) (G.ext F.keep) R' (F.ret fun v s8 F _ hP => ?_)
  obtain ⟨tg, rfl⟩ := hP
  refine st F fun s9 F => ?_
  refine wpAny_execs_cons (wpAny_Return_some (rtuple (args_cons (wpAny_BinOp (ld F rfl (ld F rfl (rdiv_ F (by decide) (by decide) fun t1 s10 F => ?_)))))))
  refine args_cons (wpAny_BinOp (ld F rfl (ld F rfl (rdiv_ F (by decide) (by decide) fun t2 s11 F => ?_))))
  refine args_nil ⟨by show 2 ≤ sizeLine; decide, fun a s12 q e hT _ => ?_⟩
  have F := F.ext q e
  refine h _ _ F.sm F.keep ⟨a, t1, t2, rfl, ?_⟩
  simpa using hT

theorem radd_c {va vb : Value} {x y : Int} (hf : IsFn s.heap f 15) (G : Gl mg mb s.heap) (Rm : Room 3 A) (hx : Rat s.heap va x) (hy : Rat s.heap vb y)
    (h : Ret s Q fun v h => Rat h v (x + y)) : wpAny (model prog w) A (call (.ref f) [va, vb]) Q E s := by
  obtain ⟨pa, t1, t2, rfl, ha⟩ := hx
  obtain ⟨pb, t3, t4, rfl, hb⟩ := hy
  refine enter_plain (k := 2) (binds := [("a", .ref pa), ("b", .ref pb)]) hf G Rm rfl (fun _ _ _ => rfl) (locs rfl) (fun L cd A' s' R' F => ?_)
  refine wpAny_execs_cons (wpAny_Return_some (call_def 14 F G fun g hg => args_cons (wpAny_BinOp (wpAny_BinOp (tupAt F rfl ha rfl rfl fun s1 F => tupAt F rfl hb rfl rfl fun s2 F => ?_)))))
  refine rmul_ F (.of_right (by decide)) fun t s3 F => wpAny_BinOp (tupAt F rfl hb rfl rfl fun s1 F => tupAt F rfl ha rfl rfl fun s2 F => ?_)
  refine rmul_ F (.of_right (by decide)) fun t s3 F => radd_ F fun t5 s4 F => ?_
  refine args_cons (wpAny_BinOp (tupAt F rfl ha rfl rfl fun s1 F => tupAt F rfl hb rfl rfl fun s2 F => rmul_ F (.of_right (by decide)) fun t6 s3 F => args_nil ⟨F.keep, ?_⟩))
  refine rat_c (hg _ F.keep) (G.ext F.keep) R' (F.ret fun v s8 F _ hP => ?_)
  exact h _ _ F.sm F.keep (by simpa using hP)

theorem rsub_c {va vb : Value} {x y : Int} (hf : IsFn s.heap f 16) (G : Gl mg mb s.heap) (Rm : Room 3 A) (hx : Rat s.heap va x) (hy : Rat s.heap vb y)
    (h : Ret s Q fun v h => Rat h v (x - y)) : wpAny (model prog w) A (call (.ref f) [va, vb]) Q E s := by
  obtain ⟨pa, t1, t2, rfl, ha⟩ := hx
  obtain ⟨pb, t3, t4, rfl, hb⟩ := hy
  refine enter_plain (k := 2) (binds := [("a", .ref pa), ("b", .ref pb)]) hf G Rm rfl (fun _ _ _ => rfl) (locs rfl) (fun L cd A' s' R' F => ?_)
  refine wpAny_execs_cons (wpAny_Return_some (call_def 14 F G fun g hg => args_cons (wpAny_BinOp (wpAny_BinOp (tupAt F rfl ha rfl rfl fun s1 F => tupAt F rfl hb rfl rfl fun s2 F => ?_)))))
  refine rmul_ F (.of_right (by decide)) fun t s3 F => wpAny_BinOp (tupAt F rfl hb rfl rfl fun s1 F => tupAt F rfl ha rfl rfl fun s2 F => ?_)
  refine rmul_ F (.of_right (by decide)) fun t s3 F => rsub_ F fun t5 s4 F => ?_
  refine args_cons (wpAny_BinOp (tupAt F rfl ha rfl rfl fun s1 F => tupAt F rfl hb rfl rfl fun s2 F => rmul_ F (.of_right (by decide)) fun t6 s3 F => args_nil ⟨F.keep, ?_⟩))
  refine rat_c (hg _ F.keep) (G.ext F.keep) R' (F.ret fun v s8 F _ hP => ?_)
  exact h _ _ F.sm F.keep (by simpa using hP)

theorem rmul_c {va vb : Value} {x y : Int} (hf : IsFn s.heap f 17) (G : Gl mg mb s.heap) (Rm : Room 3 A) (hx : Rat s.heap va x) (hy : Rat s.heap vb y) (hm : IntMulOk x y)
    (h : Ret s Q fun v h => Rat h v (x * y)) : wpAny (model prog w) A (call (.ref f) [va, vb]) Q E s := by
  obtain ⟨pa, t1, t2, rfl, ha⟩ := hx
  obtain ⟨pb, t3, t4, rfl, hb⟩ := hy
  refine enter_plain (k := 2) (binds := [("a", .ref pa), ("b", .ref pb)]) hf G Rm rfl (fun _ _ _ => rfl) (locs rfl) (fun L cd A' s' R' F => ?_)
  refine wpAny_execs_cons (wpAny_Return_some (call_def 14 F G fun g hg => args_cons (wpAny_BinOp (tupAt F rfl ha rfl rfl fun s1 F => tupAt F rfl hb rfl rfl fun s2 F => ?_))))
  refine rmul_ F hm fun t5 s3 F => ?_
  refine args_cons (wpAny_BinOp (tupAt F rfl ha rfl rfl fun s1 F => tupAt F rfl hb rfl rfl fun s2 F => rmul_ F (.of_right (by decide)) fun t6 s3 F => args_nil ⟨F.keep, ?_⟩))
  refine rat_c (hg _ F.keep) (G.ext F.keep) R' (F.ret fun v s8 F _ hP => ?_)
  exact h _ _ F.sm F.keep hP

/-- over 1 alone -/
theorem rdiv_c {va vb : Value} {x : Int} (hf : IsFn s.heap f 18) (G : Gl mg mb s.heap) (Rm : Room 3 A) (hx : Rat s.heap va x) (hy : Rat s.heap vb 1)
    (h : Ret s Q fun v h => Rat h v x) : wpAny (model prog w) A (call (.ref f) [va, vb]) Q E s := by
  obtain ⟨pa, t1, t2, rfl, ha⟩ := hx
  obtain ⟨pb, t3, t4, rfl, hb⟩ := hy
  refine enter_plain (k := 2) (binds := [("a", .ref pa), ("b", .ref pb)]) hf G Rm rfl (fun _ _ _ => rfl) (locs rfl) (fun L cd A' s' R' F => ?_)
  refine wpAny_execs_cons (wpAny_Return_some (call_def 14 F G fun g hg => args_cons (wpAny_BinOp (tupAt F rfl ha rfl rfl fun s1 F => tupAt F rfl hb rfl rfl fun s2 F => ?_))))
  refine rmul_ F (.of_right (by decide)) fun t5 s3 F => ?_
  refine args_cons (wpAny_BinOp (tupAt F rfl ha rfl rfl fun s1 F => tupAt F rfl hb rfl rfl fun s2 F => rmul_ F (.of_right (by decide)) fun t6 s3 F => args_nil ⟨F.keep, ?_⟩))
  refine rat_c (hg _ F.keep) (G.ext F.keep) R' (F.ret fun v s8 F _ hP => ?_)
  exact h _ _ F.sm F.keep (by simpa using hP)

theorem is_vast_c {va : Value} {x : Int} (hf : IsFn s.heap f 19) (G : Gl mg mb s.heap) (Rm : Room 1 A) (hx : Rat s.heap va x) (hs : x.natAbs < 2 ^ 64)
    (h : Ret s Q fun v _ => v = .bool false) : wpAny (model prog w) A (call (.ref f) [va]) Q E s := by
  obtain ⟨pa, t1, t2, rfl, ha⟩ := hx
  refine enter_plain (k := 0) (binds := [("a", .ref pa)]) hf G Rm rfl (fun _ _ _ => rfl) (locs rfl) (fun L cd A' s' R' F => ?_)
  refine wpAny_execs_cons (wpAny_Assign_Name (call_blt F G (by decide) boot_max (args_cons ?_)))
  refine call_blt F G (by decide) boot_abs (args_cons (tupAt F rfl ha rfl rfl fun s1 F => args_nil ?_))
  refine rabs F fun t3 s2 F => args_cons (tupAt F rfl ha rfl rfl fun s1 F => args_nil ?_)
  refine rmax R'.hh F fun t4 s3 F => st F fun s4 F => ?_
  refine wpAny_execs_cons (wpAny_Return_some (BoolOp_and (wpAny_Compare1 (ld F rfl (wpAny_BinOp (rint F fun t s5 F => rint F fun t s6 F => ?_))))))
  refine rpow F (by decide) (by decide) fun t s7 F => PyProof.Rows.ge_int (wpAny_truthy_bool ?_)
  have e : decide ((2 : Int) ^ (64 : Int).toNat ≤ max (x.natAbs : Int) 1) = false := by
    have : (2 : Int) ^ (64 : Int).toNat = 2 ^ 64 := rfl
    rw [this]; simp only [decide_eq_false_iff_not]; omega
  rw [e]
  exact h _ _ F.sm F.keep rfl

theorem let_c {va : Value} {x : Int} (hf : IsFn s.heap f 23) (G : Gl mg mb s.heap) (Rm : Room 2 A) (hx : Rat s.heap va x) (hs : x.natAbs < 2 ^ 64)
    (h : Ret s Q fun v h => Rat h v x) : wpAny (model prog w) A (call (.ref f) [va]) Q E s := by
  refine enter_plain (k := 1) (binds := [("number", va)]) hf G Rm rfl (fun _ _ _ => rfl) (locs rfl) (fun L cd A' s' R' F => ?_)
  refine wpAny_execs_cons (wpAny_If (isTrue_plain (call_def 19 F G fun g hg => args_cons (ld F rfl (args_nil ⟨F.keep, ?_⟩)))))
  refine is_vast_c (hg _ F.keep) (G.ext F.keep) R' (hx.stab F.stb) hs (F.ret fun v s8 F _ hP => ?_)
  subst hP
  refine wpAny_truthy_bool (wpAny_execs_nil ?_)
  exact wpAny_execs_cons (wpAny_Return_some (ld F rfl (h _ _ F.sm F.keep (hx.stab F.stb))))
end
end Mine

namespace Mine

def Seqs (h h' : Heap) : Prop := ∀ b o xs n, h.get? b = some o → o.data = .seq xs n → h'.get? b = some o
def Iters (h h' : Heap) : Prop := ∀ b o, Solid o → (∀ xs n, o.data ≠ .seq xs n) → h.get? b = some o → h'.get? b = some o
theorem Stab.sq {h h' : Heap} (x : Stab h h') : Seqs h h' := fun b o xs n e d => x b o e (Solid.seq d)
theorem Stab.it {h h' : Heap} (x : Stab h h') : Iters h h' := fun b o t _ e => x b o e t
theorem Seqs.refl (h : Heap) : Seqs h h := fun _ _ _ _ e _ => e
theorem Iters.refl (h : Heap) : Iters h h := fun _ _ _ _ e => e
theorem Seqs.trans {h h' h'' : Heap} (a : Seqs h h') (b : Seqs h' h'') : Seqs h h'' := fun c o xs n e d => b c o xs n (a c o xs n e d) d
theorem Iters.trans {h h' h'' : Heap} (a : Iters h h') (b : Iters h' h'') : Iters h h'' := fun c o t d e => b c o t d (a c o t d e)
theorem IsTup.sq {h h' : Heap} {a : Addr} {xs : Array Value} (x : IsTup h a xs) (e : Seqs h h') : IsTup h' a xs :=
  let ⟨o, ho, hc, n, hd⟩ := x; ⟨o, e _ _ _ _ ho hd, hc, n, hd⟩
theorem IsList.sq {h h' : Heap} {a : Addr} {xs : Array Value} (x : h.IsList a xs) (e : Seqs h h') : h'.IsList a xs :=
  let ⟨o, ho, hc, n, hd⟩ := x; ⟨o, e _ _ _ _ ho hd, hc, n, hd⟩
theorem Rat.sq {h h' : Heap} {v : Value} {x : Int} (r : Rat h v x) (e : Seqs h h') : Rat h' v x :=
  let ⟨a, t, u, hv, ht⟩ := r; ⟨a, t, u, hv, IsTup.sq ht e⟩
/-- one list is changed -/
abbrev But (l : Addr) (h h' : Heap) : Prop := ∀ b o, b ≠ l → h.get? b = some o → h'.get? b = some o
theorem But.it {l : Addr} {h h' : Heap} {xs : Array Value} (x : But l h h') (hl : h.IsList l xs) : Iters h h' := fun b o t d e => x b o (by
  rintro rfl
  obtain ⟨o', ho, _, n, hd⟩ := hl
  rw [ho] at e; cases e; exact d _ _ hd) e
theorem But.tup {l a : Addr} {h h' : Heap} {xs ys : Array Value} (x : But l h h') (hl : h.IsList l xs) (ht : IsTup h a ys) : IsTup h' a ys :=
  let ⟨o, ho, hc, n, hd⟩ := ht; ⟨o, x _ _ (by
    rintro rfl
    obtain ⟨o', ho', hc', n, hd⟩ := hl
    rw [ho] at ho'; cases ho'; rw [hc] at hc'; exact absurd hc' (by decide)) ho, hc, n, hd⟩
theorem But.lst {l a : Addr} {h h' : Heap} {ys : Array Value} (x : But l h h') (ht : h.IsList a ys) (hn : a ≠ l) : h'.IsList a ys :=
  let ⟨o, ho, hc, n, hd⟩ := ht; ⟨o, x _ _ hn ho, hc, n, hd⟩
theorem But.rat {l : Addr} {h h' : Heap} {xs : Array Value} {v : Value} {y : Int} (x : But l h h') (hl : h.IsList l xs) (r : Rat h v y) : Rat h' v y :=
  let ⟨a, t, u, hv, ht⟩ := r; ⟨a, t, u, hv, x.tup hl ht⟩
/-- an iterator is changed -/
theorem seqs_of_but {l : Addr} {h h' : Heap} {o : Obj} {xs} (x : But l h h') (ho : h.get? l = some o) (hd : o.data = .fields xs) : Seqs h h' := fun b o' ys n e d => x b o' (by
  rintro rfl; rw [ho] at e; cases e; rw [hd] at d; cases d) e

section
variable {prog : Program} {w : World} {A : Around} {E : Value → Shared → Prop} {s₀ s : Shared} {hb : Heap} {env : Env} {m cm mg mb : Str → Option Value} {K : Value → Shared → Prop}

theorem rrange1 {N : Int} {n : Nat} {t : Tok} (hN : N = n) (hn : n < 2 ^ 60) (h : ∀ I s₂, Sm s s₂ → Ext s.heap s₂.heap → s.heap.get? I = none → IsRangeIter s₂.heap I 0 n 1 → K (.ref I) s₂) :
    wpAny (model prog w) A (call (.type "range") [.int N t]) (fun x s₁ => wpAny (model prog w) A (pyIter x) K E s₁) E s := by
  subst hN
  refine call_range_1 ?_
  refine wpAny_pyIter_range (IsRange.new ..) (small_one (by decide) (by decide) (by omega) (by omega)) ?_
  refine h _ _ ⟨_, _, rfl⟩ ((Ext.push _ _).trans (Ext.push _ _)) (Heap.get?_none_of_le (by simp [Heap.size_push])) ?_
  have e : Builtin.Range.rangeSize 0 (n : Int) 1 = n := by rw [rangeSize_one]; split <;> omega
  rw [e]
  exact Heap.get?_push_size _ rfl
theorem rrange2 {n : Nat} {a b : Int} {t u : Tok} (hn : n < 2 ^ 60) (ha : a.natAbs < 2 ^ 60) (hab : b = a + n) (h : ∀ I s₂, Sm s s₂ → Ext s.heap s₂.heap → s.heap.get? I = none → IsRangeIter s₂.heap I a n 1 → K (.ref I) s₂) :
    wpAny (model prog w) A (call (.type "range") [.int a t, .int b u]) (fun x s₁ => wpAny (model prog w) A (pyIter x) K E s₁) E s := by
  refine call_range_2 ?_
  refine wpAny_pyIter_range (IsRange.new ..) (small_one (by omega) (by omega) (by omega) (by omega)) ?_
  refine h _ _ ⟨_, _, rfl⟩ ((Ext.push _ _).trans (Ext.push _ _)) (Heap.get?_none_of_le (by simp [Heap.size_push])) ?_
  have e : Builtin.Range.rangeSize a b 1 = n := by rw [rangeSize_one]; split <;> omega
  rw [e]
  exact Heap.get?_push_size _ rfl
/-- n - 1 down to 0 -/
theorem rrange_down {N : Int} {n : Nat} {t u v : Tok} (hN : N = (n : Int) - 1) (hn : n < 2 ^ 60) (h : ∀ I s₂, Sm s s₂ → Ext s.heap s₂.heap → s.heap.get? I = none → IsRangeIter s₂.heap I ((n : Int) - 1) n (-1) → K (.ref I) s₂) :
    wpAny (model prog w) A (call (.type "range") [.int N t, .int (-1) u, .int (-1) v]) (fun x s₁ => wpAny (model prog w) A (pyIter x) K E s₁) E s := by
  subst hN
  have e : Builtin.Range.rangeSize ((n : Int) - 1) (-1) (-1) = n := by
    unfold Builtin.Range.rangeSize
    simp only [show ¬ ((-1 : Int) > 0) by decide, if_false, Int.neg_neg, Int.ediv_one]
    split <;> omega
  refine call_range_3 (by decide) ?_ (.inl (PyProof.noPylong_small (by decide)))
  refine wpAny_pyIter_range (IsRange.new ..) ?_ ?_
  · unfold Builtin.Range.small
    rw [e]
    simp only [Builtin.Range.rangeFitsLong, Bool.and_eq_true, Bool.or_eq_true, decide_eq_true_eq, beq_iff_eq]
    simp
    omega
  · refine h _ _ ⟨_, _, rfl⟩ ((Ext.push _ _).trans (Ext.push _ _)) (Heap.get?_none_of_le (by simp [Heap.size_push])) ?_
    rw [e]
    exact Heap.get?_push_size _ rfl

theorem for_range {R : Result → Shared → Prop} {x : Str} {px : Pos} {body : List Stmt} {I : Addr} {n : Nat} {a c : Int} (hh : A.handled = none) (F : Fm s₀ hb env m cm s)
    (it : IsRangeIter s.heap I a n c) (hnew : s₀.heap.get? I = none) (hB : Heap) (hBI : hB.get? I = none) (hB0 : Ext hB s.heap)
    (Inv : Nat → (Str → Option Value) → Heap → Prop) (mono : ∀ k m h h', Inv k m h → Seqs h h' → Inv k m h') (init : Inv 0 m s.heap)
    (turn : ∀ k m s₁ t, k < n → Iters hB s₁.heap → Inv k m s₁.heap → Fm s₀ s₁.heap env (up m x (.int (a + k * c) t)) cm s₁ → wpAny (model prog w) A (execs body env) (fun f s₂ => match f with
      | .next | .cont => ∃ hb' m', Fm s₀ hb' env m' cm s₂ ∧ Iters s₁.heap s₂.heap ∧ Inv (k + 1) m' s₂.heap
      | .brk => R (.ok .next) s₂
      | .ret v => R (.ok (.ret v)) s₂) (notedBy (model prog w) A env fun e s' => R (.error e) s') s₁)
    (done : ∀ m s₁, Iters hB s₁.heap → Inv n m s₁.heap → Fm s₀ s₁.heap env m cm s₁ → R (.ok .next) s₁)
    (hl : env.kindOf x = some .local := by rfl) :
    codeAny (model prog w) A (.forLoop (.Name x px) (.ref I) body [] env) R s := by
  have W := Walks.range (prog := prog) (w := w) hh I a c n
  refine codeAny_forLoop (fun q s' => ∃ k m hb', Fm s₀ hb' env m cm s' ∧ Inv k m s'.heap ∧ IsRangeIter s'.heap I (a + (k : Nat) * c) ((n : Int) - (k : Nat)) c ∧ k ≤ n ∧ q = n + 1 - k ∧ Iters hB s'.heap) ?_ (n + 1)
    ⟨0, m, hb, F, init, by simpa using it, Nat.zero_le _, rfl, fun b o _ _ e => hB0 b o e⟩
  rintro q s' ⟨k, m, hb', F, hI, it, hk, rfl, hBs⟩
  have fm : ∀ {h'} {tk : Nat}, (∀ b o, b ∉ [I] → s'.heap.get? b = some o → h'.get? b = some o) → Fm s₀ h' env m cm { s' with heap := h', toks := tk } ∧ Seqs s'.heap h' ∧ Iters hB h' := fun {h' tk} hk' => by
    have hbut : But I s'.heap h' := fun b o hb e => hk' b o (by simpa using hb) e
    refine ⟨(F.base.rebase (h := Heap.mk #[] {}) (fun b o e => by simp [Heap.get?] at e)).mut (l := I) it (Solid.fields rfl) hnew (by simp [Heap.get?]) ⟨h', tk, rfl⟩ hbut |>.base, seqs_of_but hbut it rfl, fun b o t d e => hbut b o (fun q => by rw [q, hBI] at e; cases e) (hBs b o t d e)⟩
  by_cases hlt : k < n
  · refine W.item k _ _ _ hlt it fun v h₁ tk₁ hP it₁ hk₁ => ?_
    obtain ⟨t, rfl⟩ := hP
    obtain ⟨F₁, sq, hB₁⟩ := fm (tk := tk₁) hk₁
    refine wpAny_assign_Name (st F₁ (fun s₂ F₂ => ?_) hl)
    have st2 := F₂.stb
    refine wpAny_mono (turn k m s₂ t hlt (hB₁.trans st2.it) (mono _ _ _ _ hI (sq.trans st2.sq)) F₂.base) (fun f s₃ h₃ => ?_) fun _ _ e => e
    have go : (∃ hb' m', Fm s₀ hb' env m' cm s₃ ∧ Iters s₂.heap s₃.heap ∧ Inv (k + 1) m' s₃.heap) → _ := fun ⟨hb', m', F₃, ki, hI₃⟩ =>
      (⟨n + 1 - (k + 1), by omega, k + 1, m', hb', F₃, hI₃, ki _ _ (Solid.fields rfl) (by intro _ _ e; cases e) (st2 _ _ it₁ (Solid.fields rfl)), hlt, rfl, (hB₁.trans st2.it).trans ki⟩ :
        ∃ m_1, m_1 < n + 1 - k ∧ ∃ k m hb', Fm s₀ hb' env m cm s₃ ∧ Inv k m s₃.heap ∧ IsRangeIter s₃.heap I (a + (k : Nat) * c) ((n : Int) - (k : Nat)) c ∧ k ≤ n ∧ m_1 = n + 1 - k ∧ Iters hB s₃.heap)
    cases f with
    | next => exact go h₃
    | cont => exact go h₃
    | brk => exact h₃
    | ret v => exact h₃
  · have hkn : k = n := by omega
    subst hkn
    refine W.done _ _ _ it fun h₁ tk₁ hk₁ => wpAny_execs_nil ?_
    obtain ⟨F₁, sq, hB₁⟩ := fm (tk := tk₁) hk₁
    exact done m _ hB₁ (mono _ _ _ _ hI sq) F₁
end
end Mine

namespace Mine

def Rats (h : Heap) (vs : List Value) (xs : List Int) : Prop := vs.length = xs.length ∧ ∀ i v, vs[i]? = some v → Rat h v (xs.getD i 0)
theorem Rats.sq {h h' : Heap} {vs : List Value} {xs : List Int} (r : Rats h vs xs) (e : Seqs h h') : Rats h' vs xs := ⟨r.1, fun i v q => (r.2 i v q).sq e⟩
theorem Rats.at {h : Heap} {vs : List Value} {xs : List Int} (r : Rats h vs xs) {i : Nat} (hi : i < xs.length) : ∃ v, vs[i]? = some v ∧ Rat h v (xs.getD i 0) := by
  have : i < vs.length := by rw [r.1]; exact hi
  exact ⟨vs[i], List.getElem?_eq_getElem this, r.2 i _ (List.getElem?_eq_getElem this)⟩
theorem Rats.nil {h : Heap} : Rats h [] [] := ⟨rfl, fun i v q => by simp at q⟩
theorem Rats.snoc {h : Heap} {vs : List Value} {xs : List Int} {v : Value} {x : Int} (r : Rats h vs xs) (q : Rat h v x) : Rats h (vs ++ [v]) (xs ++ [x]) := by
  refine ⟨by simp [r.1], fun i u e => ?_⟩
  rcases Nat.lt_trichotomy i vs.length with hi | hi | hi
  · rw [List.getElem?_append_left hi] at e
    have := r.2 i u e
    rw [List.getD_eq_getElem?_getD] at this ⊢
    rwa [List.getElem?_append_left (by rw [← r.1]; exact hi)]
  · subst hi
    rw [List.getElem?_append_right (Nat.le_refl _)] at e
    simp at e; subst e
    rw [List.getD_eq_getElem?_getD, r.1, List.getElem?_append_right (Nat.le_refl _)]
    simpa using q
  · rw [List.getElem?_eq_none (by simp; omega)] at e; cases e

/-- a series: a list of ratios over 1 -/
def Ser (h : Heap) (v : Value) (xs : List Int) : Prop := ∃ a vs, v = .ref a ∧ h.IsList a vs.toArray ∧ Rats h vs xs
theorem Ser.sq {h h' : Heap} {v : Value} {xs : List Int} (r : Ser h v xs) (e : Seqs h h') : Ser h' v xs :=
  let ⟨a, vs, hv, hl, hr⟩ := r; ⟨a, vs, hv, IsList.sq hl e, hr.sq e⟩

def conv (xs ys : List Int) (at_ : Nat) : Nat → Int
  | 0 => 0
  | k + 1 => conv xs ys at_ k + xs.getD k 0 * ys.getD (at_ - k) 0

section
variable {prog : Program} {w : World} {A : Around} {E : Value → Shared → Prop} {s₀ s : Shared} {hb : Heap} {env : Env} {m cm mg mb : Str → Option Value} {Q : Value → Shared → Prop} {f : Addr}

theorem Fm.sq (F : Fm s₀ hb env m cm s) : Seqs s₀.heap s.heap := (Stab.of_ext F.keep).sq

theorem Fm.fresh {I : Addr} (F : Fm s₀ hb env m cm s) (h : s.heap.get? I = none) : s₀.heap.get? I = none := by
  cases q : s₀.heap.get? I with
  | none => rfl
  | some o => rw [F.keep _ _ q] at h; cases h

theorem mixed_c {va vb : Value} {xs ys : List Int} {n : Nat} {t : Tok} (hf : IsFn s.heap f 24) (G : Gl mg mb s.heap) (Rm : Room 4 A) (hx : Ser s.heap va xs) (hy : Ser s.heap vb ys)
    (hnx : n < xs.length) (hny : n < ys.length) (hfit : xs.length < 2 ^ 59) (hm : ∀ i j, IntMulOk (xs.getD i 0) (ys.getD j 0))
    (h : Ret s Q fun v h => Rat h v (conv xs ys n (n + 1))) : wpAny (model prog w) A (call (.ref f) [va, vb, .int n t]) Q E s := by
  obtain ⟨pa, vs, rfl, hla, hra⟩ := hx
  obtain ⟨pb, us, rfl, hlb, hrb⟩ := hy
  obtain ⟨v0, hv0, hr0⟩ := G.r0
  refine enter_plain (k := 3) (binds := [("a", .ref pa), ("b", .ref pb), ("at", .int n t)]) hf G Rm rfl (fun _ _ _ => rfl) (locs rfl) (fun L cd A' s' R' F => ?_)
  refine wpAny_execs_cons (wpAny_Assign_Name (ldg F G hv0 (st F fun s1 F => ?_)))
  refine wpAny_execs_cons (wpAny_For (call_typ F G (by decide) boot_range (args_cons (wpAny_BinOp (ld F rfl (rint F fun t1 s2 F => radd_ F fun t2 s3 F => args_nil ?_))))))
  refine rrange1 (n := n + 1) (by simp) (by omega) fun I s4 q e hI it => ?_
  have hI0 := F.fresh hI
  have F := F.ext q e
  refine for_range R'.hh F it hI0 s3.heap hI e (fun k m h => m "a" = some (.ref pa) ∧ m "b" = some (.ref pb) ∧ m "at" = some (.int n t) ∧ ∃ v, m "found" = some v ∧ Rat h v (conv xs ys n k))
    (fun k m h h' ⟨i1, i2, i3, v, i4, i5⟩ sq => ⟨i1, i2, i3, v, i4, i5.sq sq⟩) ⟨rfl, rfl, rfl, v0, rfl, hr0.sq F.sq⟩ ?_ ?_
  · rintro k m s5 t3 hk _ hInv F
    refine hide fun K E1 hK => ?_
    obtain ⟨i1, i2, i3, vf, i4, i5⟩ := hInv
    have la := IsList.sq hla F.sq
    have lb := IsList.sq hlb F.sq
    have hr0 := hr0.sq F.sq
    obtain ⟨v1, q1, r1⟩ := (hra.sq F.sq).at (i := k) (by omega)
    obtain ⟨v2, q2, r2⟩ := (hrb.sq F.sq).at (i := n - k) (by omega)
    have ek : ((0 : Int) + (k : Int) * 1) = k := by omega
    have ek2 : ((n : Int) - (0 + (k : Int) * 1)).toNat = n - k := by omega
    refine wpAny_execs_cons (wpAny_If (isTrue_and (wpAny_isTrue_Compare1 (Subscript_ (ld F i1 (ld F rfl (rlistAt F la (by omega) (by omega) (by rw [ek]; exact q1) (ldg F G hv0 ?_))))))))
    refine rne_rat F r1 hr0 (by have := R'.un; omega) (wpAny_truthy_bool ?_)
    by_cases h1 : xs.getD k 0 = 0
    · refine iteN (by rw [h1]; decide) ?_
      refine wpAny_execs_nil (wpAny_execs_nil (hK _ _ ⟨_, _, F, F.stb.it, i1, i2, i3, vf, i4, ?_⟩))
      rw [conv, h1]; simpa using i5
    · refine iteP (bne_iff_ne.mpr h1) ?_
      refine isTrue_and (wpAny_isTrue_Compare1 (Subscript_ (ld F i2 (wpAny_BinOp (ld F i3 (ld F rfl (rsub_ F fun t4 s6 F => rlistAt F lb (by omega) (by omega) (by rw [ek2]; exact q2) (ldg F G hv0 ?_))))))))
      refine rne_rat F r2 hr0 (by have := R'.un; omega) (wpAny_truthy_bool ?_)
      by_cases h2 : ys.getD (n - k) 0 = 0
      · refine iteN (by rw [h2]; decide) ?_
        refine wpAny_execs_nil (wpAny_execs_nil (hK _ _ ⟨_, _, F, F.stb.it, i1, i2, i3, vf, i4, ?_⟩))
        rw [conv, h2]; simpa using i5.stab F.stb
      · refine iteP (bne_iff_ne.mpr h2) (isTrue_and_nil ?_)
        refine wpAny_execs_cons (wpAny_Assign_Name (call_def 15 F G fun g hg => args_cons (ld F i4 (args_cons ?_))))
        refine call_def 17 F G fun g2 hg2 => args_cons (Subscript_ (ld F i1 (ld F rfl (rlistAt F la (by omega) (by omega) (by rw [ek]; exact q1) (args_cons ?_)))))
        refine Subscript_ (ld F i2 (wpAny_BinOp (ld F i3 (ld F rfl (rsub_ F fun t5 s7 F => rlistAt F lb (by omega) (by omega) (by rw [ek2]; exact q2) (args_nil ⟨F.keep, ?_⟩))))))
        refine rmul_c (hg2 _ F.keep) (G.ext F.keep) R' (r1.stab F.stb) (r2.stab F.stb) (hm _ _) (F.ret fun v8 s8 F _ r8 => args_nil ⟨F.keep, ?_⟩)
        refine radd_c (hg _ F.keep) (G.ext F.keep) R' (i5.stab F.stb) r8 (F.ret fun v9 s9 F _ r9 => st F.base fun s10 F' => wpAny_execs_nil (wpAny_execs_nil (hK _ _ ⟨_, _, F', F.stb.it.trans F'.stb.it, i1, i2, i3, v9, rfl, r9.stab F'.stb⟩)))
  · rintro m s5 _ ⟨i1, i2, i3, vf, i4, i5⟩ F
    refine wpAny_execs_cons (wpAny_Return_some (ld F i4 (h _ _ F.sm F.keep i5)))
end
end Mine

namespace Mine

/-- all but one list stands among the sequences -/
def SeqsBut (D : Addr) (h h' : Heap) : Prop := ∀ b o xs n, b ≠ D → h.get? b = some o → o.data = .seq xs n → h'.get? b = some o
theorem Seqs.but {D : Addr} {h h' : Heap} (x : Seqs h h') : SeqsBut D h h' := fun b o xs n _ e d => x b o xs n e d
theorem Ext.of_push {h : Heap} : ∀ (names : List (Str × NameKind)), Ext h (pushCells h names) := fun names => pushCells_keeps names h

/-- a source of items: an iterator on the heap -/
structure Src (prog : Program) (w : World) (A : Around) (h₁ : Heap) (I : Addr) (n : Nat) (P : Nat → Value → Prop) (St : Nat → Heap → Prop) : Prop where
  W : ∃ fp, Walks prog w A I fp [I] n P St ∧ ∀ b ∈ fp, b ≠ I → ∃ o xs k, h₁.get? b = some o ∧ o.data = .seq xs k
  new : h₁.get? I = none
  fld : ∀ k h, St k h → ∃ o xs, h.get? I = some o ∧ o.data = .fields xs
  lst : ∀ k h, St k h → ∀ h', (∀ b o, Solid o → h.get? b = some o → h'.get? b = some o) → St k h'

theorem Src.range {prog : Program} {w : World} {A : Around} {h₁ : Heap} {I : Addr} {n : Nat} {a c : Int} (hh : A.handled = none) (hI : h₁.get? I = none) :
    Src prog w A h₁ I n (fun i v => ∃ t, v = .int (a + i * c) t) (fun i h => IsRangeIter h I (a + (i : Nat) * c) ((n : Int) - (i : Nat)) c) where
  W := ⟨[I], Walks.range hh I a c n, fun b hb hne => absurd (List.mem_singleton.mp hb) hne⟩
  new := hI
  fld := fun k h st => ⟨_, _, st, rfl⟩
  lst := fun k h st h' e => e _ _ (Solid.fields rfl) st
theorem Src.list {prog : Program} {w : World} {A : Around} {h₁ : Heap} {I ax : Addr} {items : Array Value} (hh : A.handled = none) (hI : h₁.get? I = none) (hl : h₁.IsList ax items) :
    Src prog w A h₁ I items.size (fun i v => items[i]? = some v) (fun i h => h.IsListIter I ax i ∧ h.IsList ax items) where
  W := ⟨[I, ax], Walks.list hh I ax (by rintro rfl; obtain ⟨o, ho, _⟩ := hl; rw [hI] at ho; cases ho) items, fun b hb hne => by
    rcases List.mem_cons.mp hb with h | h
    · exact absurd h hne
    · obtain ⟨o, ho, hc, n, hd⟩ := hl
      exact ⟨o, _, n, by rw [List.mem_singleton.mp h]; exact ho, hd⟩⟩
  new := hI
  fld := fun k h st => let ⟨o, ho, hc, hd⟩ := st.1; ⟨o, _, ho, hd⟩
  lst := fun k h st h' e => ⟨let ⟨o, ho, hc, hd⟩ := st.1; ⟨o, e _ _ (Solid.fields hd) ho, hc, hd⟩, let ⟨o, ho, hc, n, hd⟩ := st.2; ⟨o, e _ _ (Solid.seq hd) ho, hc, n, hd⟩⟩

section
variable {prog : Program} {w : World} {A : Around} {E : Value → Shared → Prop} {s₀ s : Shared} {hb : Heap} {env : Env} {m cm mg mb : Str → Option Value} {Q : Value → Shared → Prop} {f : Addr}

theorem newCompEnv {M : Model} {scope : Scope} {globals : Addr} {cl : List (Str × Addr)} {qual : Str} {Q : Env → Shared → Prop}
    (h : Q (newEnv scope s.heap.objs.size globals (cellsFrom (s.heap.objs.size + 1) scope.names cl) qual none .none (some env) builtinsNs)
      { s with heap := pushCells (s.heap.push { cls := .type "dict", data := .dict #[] }) scope.names }) :
    wpAny M A (newFunctionEnv scope globals cl [] qual none .none (some env)) Q E s := by
  simp only [newFunctionEnv, Option.isSome_some, if_true]
  refine wpAny_bind (wpAny_alloc ?_)
  refine wpAny_bind (wpAny_layCells _ (fun name kind cells => by cases hkc : kind == NameKind.cell <;> simp [hkc]) _ _ _ _ ?_)
  simp only [Heap.size_push]
  simp only [List.forIn_nil]
  exact wpAny_bind (wpAny_pure (wpAny_pure h))

theorem get_none_mono {h h' : Heap} {a : Addr} (e : Ext h h') (x : h'.get? a = none) : h.get? a = none := by
  cases q : h.get? a with
  | none => rfl
  | some o => rw [e _ _ q] at x; cases x

/-- a list comprehension without tests behind its source. The store of the target is given by `hst`. -/
theorem comp_rule {s₁ s₂ : Shared} {elt target iter : Expr} {scope : Scope} {pos : Pos} {cl : List (Str × Addr)} {I : Addr} {n : Nat} {P : Nat → Value → Prop} {St : Nat → Heap → Prop}
    (q12 : Sm s₁ s₂) (e12 : Ext s₁.heap s₂.heap) (hgl : env.globals = mainGlobals) (hbl : env.builtins = builtinsNs)
    (S : Src prog w A s₁.heap I n P St) (st0 : St 0 s₂.heap) (hsz : n ≤ sizeLine) (hk : scope.kind = .function)
    (Ok : Addr → (Str → Option Value) → (Str → Option Value) → Prop) (cm₀ : Str → Option Value)
    (hcell : ∀ C (h : Heap), Ext s₁.heap h → (∀ x c, (x, c) ∈ cellsFrom (C + 1) scope.names [] → h.IsCell c none) →
      ∀ x c, (cellsFrom (C + 1) scope.names cl).lookup x = some c → h.IsCell c (cm₀ x))
    (J : Addr → Nat → List Value → Heap → Prop) (Bd : Value → (Str → Option Value) → (Str → Option Value) → Prop)
    (mono : ∀ D zs k ys h h', J D k ys h → h.IsList D zs → SeqsBut D h h' → J D k ys h')
    (init : ∀ D h, s₁.heap.get? D = none → Ext s₁.heap h → J D 0 [] h)
    (hst : ∀ C s m cm v hb, Fm s₁ hb (compEnvC scope (cellsFrom (C + 1) scope.names cl) C env) m cm s → Ok C m cm → s₁.heap.get? C = none → (∀ c, s₁.heap.get? c ≠ none → c ≠ C + 1) →
      ∀ E', wpAny (model prog w) A (assign target (compEnvC scope (cellsFrom (C + 1) scope.names cl) C env) v) (fun _ s' => ∃ m' cm', Fm s₁ hb (compEnvC scope (cellsFrom (C + 1) scope.names cl) C env) m' cm' s' ∧ Ok C m' cm' ∧ Bd v m' cm') E' s)
    (hok0 : ∀ C, Ok C (fun _ => none) cm₀)
    (helt : ∀ C D k ys s v m cm, k < n → P k v → J D k ys s.heap → s.heap.IsList D ys.toArray → ys.length = k → s₁.heap.get? D = none →
      Fm s₁ s.heap (compEnvC scope (cellsFrom (C + 1) scope.names cl) C env) m cm s → Ok C m cm → Bd v m cm →
      ∀ E', wpAny (model prog w) A (eval elt (compEnvC scope (cellsFrom (C + 1) scope.names cl) C env)) (fun y s' =>
        ∃ m' cm', Fm s₁ s.heap (compEnvC scope (cellsFrom (C + 1) scope.names cl) C env) m' cm' s' ∧ Ok C m' cm' ∧ J D (k + 1) (ys ++ [y]) s'.heap) E' s)
    (fin : ∀ D (ys : List Value) s', Sm s₁ s' → Ext s₁.heap s'.heap → s₁.heap.get? D = none → s'.heap.IsList D ys.toArray → ys.length = n → J D n ys s'.heap → Q (.ref D) s')
    (ht : ∀ v, letOwnedTupleGo target (.ref I) v = pure () := by intro _; rfl) :
    wpAny (model prog w) A (newList []) (fun acc s₃ => wpAny (model prog w) A (newFunctionEnv scope env.globals cl [] env.qual none .none (some env)) (fun cenv s₄ =>
      codeAny (model prog w) A (.compStart (.ListComp elt [⟨target, iter, [], 0⟩] scope pos) 0 (.ref I) acc { cenv with scope := relabel scope env })
        (compPost (model prog w) A E none Q acc cenv.locals) s₄) E s₃) E s₂ := by
  obtain ⟨fp, W, hfp⟩ := S.W
  refine wpAny_newObj_type (newCompEnv ?_)
  dsimp only
  generalize hD : s₂.heap.objs.size = D
  generalize hH : s₂.heap.push { cls := .type "list", dict := none, data := .seq ([] : List Value).toArray } = H
  generalize hC : H.objs.size = C
  have eH : Ext s₂.heap H := by rw [← hH]; exact Ext.push _ _
  have hDH : H.IsList D #[] := ⟨_, by rw [← hH, ← hD]; exact Heap.get?_push_size _ rfl, rfl, _, rfl⟩
  have hDC : D < C := by rw [← hC, ← hH, ← hD, Heap.size_push]; exact Nat.lt_succ_self _
  have hD₂ : s₂.heap.get? D = none := Heap.get?_none_of_le (by rw [hD]; exact Nat.le_refl _)
  have hD₁ : s₁.heap.get? D = none := get_none_mono e12 hD₂
  have hC₁ : s₁.heap.get? C = none := get_none_mono (e12.trans eH) (Heap.get?_none_of_le (by rw [hC]; exact Nat.le_refl _))
  have hC₁' : ∀ c, s₁.heap.get? c ≠ none → c ≠ C + 1 := by
    rintro c hc rfl
    exact hc (get_none_mono (e12.trans eH) (Heap.get?_none_of_le (by rw [hC]; exact Nat.le_succ _)))
  generalize hK : pushCells (H.push { cls := .type "dict", data := .dict #[] }) scope.names = K
  have eK : Ext (H.push { cls := .type "dict", data := .dict #[] }) K := by rw [← hK]; exact pushCells_keeps _ _
  have eHK : Ext H K := (Ext.push _ _).trans eK
  have own := cellsFrom_ok scope.names (H.push { cls := .type "dict", data := .dict #[] }) 0 [] ⟨fun _ _ hm => (nomatch hm), List.Pairwise.nil⟩ (Nat.zero_le _)
  rw [Heap.size_push, hC, hK] at own
  have F0 : Fm s₁ K (compEnvC scope (cellsFrom (C + 1) scope.names cl) C env) (fun _ => none) cm₀ { s₂ with heap := K } :=
    ⟨hk, hgl, hbl, Heap.Ns.keeps (by have := Heap.Ns.new H (.type "dict"); rw [hC] at this; exact this) eK, hcell C K (e12.trans (eH.trans eHK)) (fun x c hm => (own.empty x c hm).1),
      q12.trans ⟨K, s₂.toks, rfl⟩, e12.trans (eH.trans eHK), .refl _, hC₁⟩
  show codeAny (model prog w) A (.compStart (.ListComp elt [⟨target, iter, [], 0⟩] scope pos) 0 (.ref I) (.ref D) (compEnvC scope (cellsFrom (C + 1) scope.names cl) C env)) _ _
  have loop : codeAny (model prog w) A (.compLoop (.ListComp elt [⟨target, iter, [], 0⟩] scope pos) 0 (.ref I) (.ref D) (compEnvC scope (cellsFrom (C + 1) scope.names cl) C env))
      (compPost (model prog w) A E none Q (.ref D) C) { s₂ with heap := K } := by
    refine codeAny_compLoop_list (fun q s' => ∃ k ys m cm hb', Fm s₁ hb' (compEnvC scope (cellsFrom (C + 1) scope.names cl) C env) m cm s' ∧ Ok C m cm ∧ J D k ys s'.heap ∧ s'.heap.IsList D ys.toArray ∧ ys.length = k ∧
        St k s'.heap ∧ k ≤ n ∧ q = n + 1 - k) ?_ (n + 1)
      ⟨0, [], _, _, _, F0, hok0 C, init D K hD₁ (e12.trans (eH.trans eHK)), by simpa using IsList.sq hDH (Stab.of_ext eHK).sq, rfl,
        S.lst _ _ st0 _ (fun b o _ e => eHK _ _ (eH _ _ e)), Nat.zero_le _, rfl⟩ ht
    rintro q s' ⟨k, ys, m, cm, hb', F, hok, hJ, hl, hlen, stk, hkn, rfl⟩
    obtain ⟨oI, xsI, hIo, hId⟩ := S.fld _ _ stk
    have fm : ∀ {h'} {tk : Nat}, (∀ b o, b ∉ [I] → s'.heap.get? b = some o → h'.get? b = some o) →
        Fm s₁ h' (compEnvC scope (cellsFrom (C + 1) scope.names cl) C env) m cm { s' with heap := h', toks := tk } ∧ Seqs s'.heap h' := fun {h' tk} hk' => by
      have hbut : But I s'.heap h' := fun b o hb e => hk' b o (by simpa using hb) e
      exact ⟨(F.base.rebase (h := Heap.mk #[] {}) (fun b o e => by simp [Heap.get?] at e)).mut (l := I) hIo (Solid.fields hId) S.new (by simp [Heap.get?]) ⟨h', tk, rfl⟩ hbut |>.base, seqs_of_but hbut hIo hId⟩
    by_cases hlt : k < n
    · refine W.item k _ _ _ hlt stk fun v h₁ tk₁ hP st₁ hk₁ => ?_
      obtain ⟨F₁, sq₁⟩ := fm (tk := tk₁) hk₁
      refine wpAny_mono (hst C _ m cm v h₁ F₁ hok hC₁ hC₁' _) (fun _ s₂' hs => ?_) fun _ _ e => e
      obtain ⟨m', cm', F₂, hok₂, hbd⟩ := hs
      have hJ₂ := mono _ _ _ _ _ _ hJ hl (sq₁.trans F₂.stb.sq).but
      have hl₂ := IsList.sq hl (sq₁.trans F₂.stb.sq)
      refine wpAny_mono (helt C D k ys s₂' v m' cm' hlt hP hJ₂ hl₂ hlen hD₁ F₂.base hok₂ hbd _) (fun y s₃' hs => ?_) fun _ _ e => e
      obtain ⟨m'', cm'', F₃, hok₃, hJ₃⟩ := hs
      have hl₃ := IsList.sq hl₂ F₃.stb.sq
      have st₃ := S.lst _ _ (S.lst _ _ st₁ _ fun b o t e => F₂.stb b o e t) _ fun b o t e => F₃.stb b o e t
      refine wpAny_list_append hl₃ (fun h₄ hl₄ hs₄ => ?_) (by simp; omega)
      have hbut : But D s₃'.heap h₄ := fun b o hb e => (hs₄.2 b hb).trans e
      obtain ⟨oD, hoD, hcD, nD, hdD⟩ := id hl₃
      refine ⟨n + 1 - (k + 1), by omega, k + 1, ys ++ [y], m'', cm'', h₄, ?_, hok₃, mono _ _ _ _ _ _ hJ₃ hl₃ (fun b o xs n' hb e _ => hbut b o hb e), by simpa using hl₄, by simp [hlen], ?_, hlt, rfl⟩
      · exact ((F₃.base.rebase (h := Heap.mk #[] {}) (fun b o e => by simp [Heap.get?] at e)).mut (l := D) (s' := { s₃' with heap := h₄ }) hoD (Solid.seq hdD) hD₁ (by simp [Heap.get?]) ⟨h₄, s₃'.toks, rfl⟩ hbut).base
      · refine W.frame _ _ _ st₃ fun b hb o e => hbut b o ?_ e
        by_cases hbI : b = I
        · subst hbI
          rintro rfl
          obtain ⟨oI', xsI', hIo', hId'⟩ := S.fld _ _ st₃
          rw [hoD] at hIo'; cases hIo'; rw [hdD] at hId'; cases hId'
        · obtain ⟨o', _, _, ho', _⟩ := hfp b hb hbI
          rintro rfl
          rw [hD₁] at ho'; cases ho'
    · have hkn' : k = n := by omega
      subst hkn'
      refine W.done _ _ _ stk fun h₁ tk₁ hk₁ => ?_
      obtain ⟨F₁, sq₁⟩ := fm (tk := tk₁) hk₁
      refine ⟨m, F₁.ns, fun h' hs' => ?_⟩
      have sqC : Seqs h₁ h' := fun b o xs n' e d => (hs'.2 b (Ns.solid F₁.ns e (Solid.seq d))).trans e
      refine fin D ys _ (F₁.sm.trans ⟨h', tk₁, rfl⟩) (fun b o e => (hs'.2 b (by rintro rfl; rw [hC₁] at e; cases e)).trans (F₁.keep b o e)) hD₁ ?_ hlen (mono _ _ _ _ _ _ hJ hl (sq₁.trans sqC).but)
      exact IsList.sq hl (sq₁.trans sqC)
  exact codeAny_compStart_list loop (W.self 0 _ _ _ (S.lst _ _ st0 _ (fun b o _ e => eHK _ _ (eH _ _ e))) loop)

theorem ListComp_ {elt target iter : Expr} {scope : Scope} {pos : Pos} {cl : List (Str × Addr)} {s : Shared}
    (h : wpAny (model prog w) A (eval iter env) (fun x s₁ => wpAny (model prog w) A (pyIter x) (fun it s₂ => wpAny (model prog w) A (newList []) (fun acc s₃ =>
      wpAny (model prog w) A (newFunctionEnv scope env.globals cl [] env.qual none .none (some env)) (fun cenv s₄ =>
        codeAny (model prog w) A (.compStart (.ListComp elt [⟨target, iter, [], 0⟩] scope pos) 0 it acc { cenv with scope := relabel scope env }) (compPost (model prog w) A E none Q acc cenv.locals) s₄) E s₃) E s₂) E s₁) E s)
    (hclos : closureFor scope env = pure cl := by rfl) (hkind : scope.kind = .function := by rfl) (hnames : ∀ x ∈ scope.names, x.2 = .local → scope.names.lookup x.1 = some .local := by decide)
    (hs : ∀ x, foldedSetIterable iter env x = pure x := by intro _; rfl) :
    wpAny (model prog w) A (eval (.ListComp elt [⟨target, iter, [], 0⟩] scope pos) env) Q E s := by
  rw [eval_ListComp]
  exact wpAny_comprehension_free (use := none) rfl hs hclos hkind hnames h

def LSub (cs : List (Str × Addr)) : List (Str × Addr) → Prop
  | [] => True
  | p :: r => cs.lookup p.1 = some p.2 ∧ LSub cs r
theorem lookup_sub {cs : List (Str × Addr)} : ∀ {cl : List (Str × Addr)}, LSub cs cl → ∀ x c, cl.lookup x = some c → cs.lookup x = some c
  | [], _, x, c, e => by cases e
  | (y, d) :: r, ⟨h1, h2⟩, x, c, e => by
    rw [List.lookup_cons] at e
    split at e
    · rename_i hb; cases e; rw [beq_iff_eq.mp hb]; exact h1
    · exact lookup_sub h2 x c e

/-- target a local name, no cells of its own, elements told one by one -/
theorem comp_local {s₁ s₂ : Shared} {elt iter : Expr} {x : Str} {px : Pos} {scope : Scope} {pos : Pos} {cl : List (Str × Addr)} {I : Addr} {n : Nat} {P : Nat → Value → Prop} {St : Nat → Heap → Prop}
    (q12 : Sm s₁ s₂) (e12 : Ext s₁.heap s₂.heap) (F : Fm s₀ hb env m cm s₁)
    (S : Src prog w A s₁.heap I n P St) (st0 : St 0 s₂.heap) (hsz : n ≤ sizeLine)
    (T : Addr → Nat → Value → Heap → Prop)
    (mono : ∀ D zs k y h h', T D k y h → h.IsList D zs → SeqsBut D h h' → T D k y h')
    (helt : ∀ C D k s v m o, k < n → P k v → s.heap.get? D = some o → s₁.heap.get? D = none →
      Fm s₁ s.heap (compEnvC scope cl C env) m cm s → m x = some v →
      ∀ E', wpAny (model prog w) A (eval elt (compEnvC scope cl C env)) (fun y s' => ∃ m', Fm s₁ s.heap (compEnvC scope cl C env) m' cm s' ∧ T D k y s'.heap) E' s)
    (fin : ∀ D (ys : List Value) s', Sm s₁ s' → Ext s₁.heap s'.heap → s₁.heap.get? D = none → s'.heap.IsList D ys.toArray → ys.length = n → (∀ i y, ys[i]? = some y → T D i y s'.heap) → Q (.ref D) s')
    (hown : ∀ C, cellsFrom (C + 1) scope.names cl = cl := by intro _; rfl) (hcl : LSub env.cells cl)
    (hx : ∀ C, (compEnvC scope cl C env).kindOf x = some .local := by intro _; rfl) (hk : scope.kind = .function := by rfl)
    (ht : ∀ v, letOwnedTupleGo (.Name x px) (.ref I) v = pure () := by intro _; rfl) :
    wpAny (model prog w) A (newList []) (fun acc s₃ => wpAny (model prog w) A (newFunctionEnv scope env.globals cl [] env.qual none .none (some env)) (fun cenv s₄ =>
      codeAny (model prog w) A (.compStart (.ListComp elt [⟨.Name x px, iter, [], 0⟩] scope pos) 0 (.ref I) acc { cenv with scope := relabel scope env })
        (compPost (model prog w) A E none Q acc cenv.locals) s₄) E s₃) E s₂ := by
  refine comp_rule q12 e12 F.gl F.bl S st0 hsz hk (fun C m c => c = cm) cm ?_ (fun D k ys h => ys.length = k ∧ ∀ i y, ys[i]? = some y → T D i y h) (fun v m _ => m x = some v) ?_ ?_ ?_ (fun _ => rfl) ?_ ?_ ht
  · intro C h e _ y c q
    rw [hown] at q
    exact (F.cell y c (lookup_sub hcl y c q)).keeps e
  · rintro D zs k ys h h' ⟨a, b⟩ hl sb
    exact ⟨a, fun i y q => mono _ _ _ _ _ _ (b i y q) hl sb⟩
  · intro D h _ _; exact ⟨rfl, fun i y q => by simp at q⟩
  · rintro C s m c v hb' F' rfl hC hC' E'
    refine wpAny_assign_Name (Mine.st F' (fun s' F' => ⟨_, _, F', rfl, by simp⟩) (by rw [hown]; exact hx C))
  · rintro C D k ys s v m c hk hP ⟨hlen, hT⟩ hl _ hD F' rfl hm E'
    rw [hown] at F' ⊢
    obtain ⟨o, ho, _⟩ := id hl
    refine wpAny_mono (helt C D k s v m o hk hP ho hD F' hm E') (fun y s' hs => ?_) fun _ _ e => e
    obtain ⟨m', F'', hT'⟩ := hs
    refine ⟨m', _, F'', rfl, by simp [hlen], fun i z q => ?_⟩
    rcases Nat.lt_trichotomy i ys.length with hi | hi | hi
    · rw [List.getElem?_append_left hi] at q
      exact mono _ _ _ _ _ _ (hT i z q) hl F''.stb.sq.but
    · rw [List.getElem?_append_right (by omega), hi] at q
      simp at q; subst q; rw [hi, hlen]; exact hT'
    · rw [List.getElem?_eq_none (by simp; omega)] at q; cases q
  · rintro D ys s' a b c d e ⟨_, f⟩
    exact fin D ys s' a b c d e f
end
end Mine

namespace Mine

def smulP (xs ys : List Int) : List Int := (List.range (min xs.length ys.length)).map fun n => conv xs ys n (n + 1)

section
variable {prog : Program} {w : World} {A : Around} {E : Value → Shared → Prop} {s₀ s : Shared} {hb : Heap} {env : Env} {m cm mg mb : Str → Option Value} {Q : Value → Shared → Prop} {f : Addr}

theorem enter_cells {vals : List Value} {i k : Nat} (hf : IsFn s.heap f i) (G : Gl mg mb s.heap) (Rm : Room (k + 1) A)
    {name : Str} {params : Arguments} {body : List Stmt} {scope : Scope} {pos : Pos} (hd : dfN i = ⟨name, params, body, scope, pos⟩)
    {binds : List (Str × Value)} (hbind : ∀ pm cd doc, bindArgs (Calls.docDef name params body scope pm cd doc) ⟨vals, []⟩ = pure binds)
    (hkind : ∀ L, ∀ x ∈ binds, scope.names.lookup x.1 = some .local ∨ (scope.names.lookup x.1 = some .cell ∧ ((cellsFrom (L + 1) scope.names []).lookup x.1).isSome = true))
    (h : ∀ L cd A' s', Room k A' → s.heap.objs.size = L → Fm s s.heap (envOfC name scope L f cd) (bindL (envOfC name scope L f cd).kindOf binds fun _ => none) (bindC (envOfC name scope L f cd).kindOf binds fun _ => none) s' →
      (cellsFrom (L + 1) scope.names []).Pairwise (fun x y => x.2 ≠ y.2) → (∀ n c, (n, c) ∈ cellsFrom (L + 1) scope.names [] → s.heap.get? c = none) →
      wpAny (model prog w) A' (execs body (envOfC name scope L f cd)) (fun f s' => Q (match f with | .ret v => v | _ => .none) s') (fun _ _ => False) s')
    (hco : scope.isCoroutine = false := by rfl) (hgen : scope.isGenerator = false := by rfl) (hk : scope.kind = .function := by rfl) :
    wpAny (model prog w) A (call (.ref f) vals) Q E s := by
  obtain ⟨o, pm, cd, doc, ho, hda, hcd⟩ := hf
  rw [hd] at hda hcd
  refine wpAny_call (call_cells_ret (by have := Rm.dp; omega) ho hda G.lim hcd (hbind _ _ _) (hkind _) (fun h₁ tk F X => ?_) hco hgen hk)
  exact h _ _ _ _ (Rm.deeper _) rfl ⟨hk, rfl, rfl, F.ns, X.cell, ⟨_, _, rfl⟩, F.keep, .of_ext F.keep, Heap.get?_none_of_le F.above⟩ X.apart (fun n c hm => Heap.get?_none_of_le (Nat.le_of_lt (X.above n c hm)))

theorem Rat.sqBut {h h' : Heap} {D : Addr} {v : Value} {x : Int} {zs : Array Value} (r : Rat h v x) (hl : h.IsList D zs) (sb : SeqsBut D h h') : Rat h' v x := by
  obtain ⟨a, t, u, hv, o, ho, hc, n, hd⟩ := r
  refine ⟨a, t, u, hv, o, sb _ _ _ _ ?_ ho hd, hc, n, hd⟩
  rintro rfl
  obtain ⟨o', ho', hc', _⟩ := hl
  rw [ho] at ho'; cases ho'; rw [hc] at hc'; exact absurd hc' (by decide)

theorem smul_c {va vb : Value} {xs ys : List Int} (hf : IsFn s.heap f 25) (G : Gl mg mb s.heap) (Rm : Room 5 A) (hx : Ser s.heap va xs) (hy : Ser s.heap vb ys)
    (hfx : xs.length < 2 ^ 20) (hfy : ys.length < 2 ^ 20) (hm : ∀ i j, IntMulOk (xs.getD i 0) (ys.getD j 0)) (hs : ∀ n, n < xs.length → n < ys.length → (conv xs ys n (n + 1)).natAbs < 2 ^ 64)
    (h : ∀ v s', Sm s s' → Ext s.heap s'.heap → (∃ a vs, v = .ref a ∧ s'.heap.IsList a vs.toArray ∧ Rats s'.heap vs (smulP xs ys) ∧ s.heap.get? a = none) → Q v s') : wpAny (model prog w) A (call (.ref f) [va, vb]) Q E s := by
  obtain ⟨pa, vs, rfl, hla, hra⟩ := id hx
  obtain ⟨pb, us, rfl, hlb, hrb⟩ := id hy
  refine enter_cells (k := 4) (binds := [("a", .ref pa), ("b", .ref pb)]) hf G Rm rfl (fun _ _ _ => rfl) (fun L => by simp only [List.mem_cons, List.not_mem_nil, or_false]; rintro y (rfl | rfl) <;> exact .inr ⟨rfl, rfl⟩) (fun L cd A' s' R' hL F _ _ => ?_)
  refine wpAny_execs_cons (wpAny_Return_some (ListComp_ ?_))
  refine call_typ F G (by decide) boot_range (args_cons (call_blt F G (by decide) boot_min (args_cons ?_)))
  refine call_blt F G (by decide) boot_len (args_cons (ldc F rfl rfl (args_nil ?_)))
  refine rlen F hla (by have := hra.1; omega) fun t1 s1 F => args_cons ?_
  refine call_blt F G (by decide) boot_len (args_cons (ldc F rfl rfl (args_nil ?_)))
  refine rlen F hlb (by have := hrb.1; omega) fun t2 s2 F => args_nil ?_
  refine rmin R'.hh F fun t3 s3 F => args_nil ?_
  refine rrange1 (n := min xs.length ys.length) (by have := hra.1; have := hrb.1; omega) (by omega) fun I s4 q e hI it => ?_
  refine comp_local q e F (Src.range R'.hh hI) (by simpa using it) (by show _ ≤ 2 ^ 24; omega) (fun D k y h => Rat h y (conv xs ys k (k + 1))) (fun D zs k y h h' r hl sb => r.sqBut hl sb) ?_ ?_ (hcl := ⟨rfl, rfl, trivial⟩)
  · rintro C D k s5 v m o hk ⟨t4, rfl⟩ hD hDn F5 hv E'
    have G5 := G.ext F.keep
    have ek : ((0 : Int) + (k : Int) * 1) = k := by omega
    have R5 := R'
    refine call_def 23 F5 G5 fun g hg => args_cons ?_
    refine call_def 24 F5 G5 fun g2 hg2 => args_cons (ldc F5 rfl rfl (args_cons (ldc F5 rfl rfl (args_cons (ld F5 hv (args_nil ⟨F5.keep, ?_⟩))))))
    rw [ek]
    have sq : Seqs s.heap s5.heap := F.sq.trans F5.sq
    refine mixed_c (hg2 _ F5.keep) (G5.ext F5.keep) R' (hx.sq sq) (hy.sq sq) (by omega) (by omega) (by omega) hm (F5.ret fun v6 s6 F6 _ r6 => args_nil ⟨F6.keep, ?_⟩)
    refine let_c (hg _ F6.keep) (G5.ext F6.keep) (R'.le (by decide)) r6 (hs _ (by omega) (by omega)) (F6.ret fun v7 s7 F7 _ r7 => ⟨_, F7, r7⟩)
  · rintro D zs s5 q e hDn hl hlen hT
    have F5 := F.ext q e
    refine h _ _ F5.sm F5.keep ⟨D, zs, rfl, hl, ⟨by simp [smulP, hlen], fun i v hv => ?_⟩, F.fresh hDn⟩
    have hi : i < min xs.length ys.length := by
      have := (List.getElem?_eq_some_iff.mp hv).1
      omega
    have := hT i v hv
    rw [List.getD_eq_getElem?_getD, smulP, List.getElem?_map, List.getElem?_range hi]
    simpa using this
end
end Mine

namespace Mine

def allOf (h : Heap) (L : Addr) : List (Addr × Obj) := (List.range h.objs.size).filterMap fun a => if a = L then none else (h.get? a).map fun o => (a, o)
theorem mem_allOf {h : Heap} {L a : Addr} {o : Obj} (e : h.get? a = some o) (n : a ≠ L) : (a, o) ∈ allOf h L :=
  List.mem_filterMap.mpr ⟨a, List.mem_range.mpr (Heap.lt_size e), by rw [if_neg n, e]; rfl⟩
theorem of_allOf {h : Heap} {L a : Addr} {o : Obj} (e : (a, o) ∈ allOf h L) : h.get? a = some o ∧ a ≠ L := by
  obtain ⟨b, _, hb⟩ := List.mem_filterMap.mp e
  split at hb
  · cases hb
  · rename_i hn
    obtain ⟨o', ho, he⟩ := Option.map_eq_some_iff.mp hb
    cases he; exact ⟨ho, hn⟩
abbrev hE : Heap := Heap.mk #[] {}
theorem none_at (a : Addr) : hE.get? a = none := by simp [Heap.get?]

section
variable {prog : Program} {w : World} {A : Around} {E : Value → Shared → Prop} {s₀ s : Shared} {hb : Heap} {env : Env} {m cm mg mb : Str → Option Value} {Q : Value → Shared → Prop} {f : Addr}

theorem Fm.fr (F : Fm s₀ hb env m cm s) : Fr hE env.locals s.heap m := ⟨F.ns, (fun b o e => by rw [none_at] at e; cases e), Nat.zero_le _⟩
theorem Fm.news (F : Fm s₀ hb env m cm s) : News hE env.locals s.heap (allOf s.heap env.locals) := fun p hp => ⟨(of_allOf hp).1, (of_allOf hp).2, none_at _⟩
theorem Fm.back {h' : Heap} {x : Addr × Obj} {t : Nat} (F : Fm s₀ hb env m cm s) (F' : Fr hE env.locals h' m) (N : News hE env.locals h' (x :: allOf s.heap env.locals)) :
    Fm s₀ hb env m cm { s with heap := h', toks := t } ∧ Stab s.heap h' ∧ h'.get? x.1 = some x.2 := by
  have but : But env.locals s.heap h' := fun b o n e => (N _ (List.mem_cons_of_mem _ (mem_allOf e n))).1
  have stb : Stab s.heap h' := fun b o e t => but b o (Ns.solid F.ns e t) e
  exact ⟨⟨F.fk, F.gl, F.bl, F'.ns, fun n c q => let ⟨o, a, b⟩ := F.cell n c q; ⟨o, but _ _ (Ns.ne_cell F.ns (F.cell n c q)) a, b⟩, F.sm.trans ⟨_, _, rfl⟩,
    fun b o e => but b o (fun q => by rw [q, F.new] at e; cases e) (F.keep b o e), F.stb.trans stb, F.new⟩, stb, (N _ (List.mem_cons_self)).1⟩

theorem raddl {l b : Addr} {vs ws : List Value} (F : Fm s₀ hb env m cm s) (hl : s.heap.IsList l vs.toArray) (hb' : s.heap.IsList b ws.toArray) (hsz : vs.length + ws.length ≤ sizeLine)
    (h : ∀ a s', Fm s₀ hb env m cm s' → Stab s.heap s'.heap → s'.heap.IsList a (vs ++ ws).toArray → s.heap.get? a = none → Q (.ref a) s') :
    wpAny (model prog w) A (binaryOp .Add (.ref l) (.ref b)) Q E s :=
  add_lists F.fr F.news hl hb' (fun h' F' N' => by
    obtain ⟨a, b, c⟩ := F.back (t := s.toks) F' N'
    exact h _ _ a b ⟨_, c, rfl, _, rfl⟩ (Heap.get?_none_of_le (Nat.le_refl _))) hsz
theorem rmull {l : Addr} {v : Value} {x : Int} {u : Tok} (F : Fm s₀ hb env m cm s) (hl : s.heap.get? l = some { cls := .type "list", dict := none, data := .seq [v].toArray 0, slots := #[] })
    (h0 : 0 ≤ x) (hx : x ≤ 2 ^ 24)
    (h : ∀ a s', Fm s₀ hb env m cm s' → Stab s.heap s'.heap → s'.heap.IsList a (List.replicate x.toNat v).toArray → s.heap.get? a = none → Q (.ref a) s') :
    wpAny (model prog w) A (binaryOp .Mult (.ref l) (.int x u)) Q E s :=
  PyProof.Rows.mul_list F.fr F.news hl (by omega) (by omega) (by simp; omega) (fun h' F' N' => by
    obtain ⟨a, b, c⟩ := F.back (t := s.toks) F' N'
    refine h _ _ a b ⟨_, c, rfl, 0, ?_⟩ (Heap.get?_none_of_le (Nat.le_refl _))
    have key : ∀ (n : Nat) (acc : Array Value), List.foldl (fun x1 x2 => x1 ++ x2) acc (List.replicate n [v].toArray) = acc ++ (List.replicate n v).toArray := by
      intro n
      induction n with
      | zero => intro acc; simp
      | succ n ih => intro acc; rw [List.replicate_succ, List.foldl_cons, ih]; apply Array.toList_inj.mp; simp; rfl
    show Data.seq _ _ = _
    rw [key]; simp)
theorem rcopy {l : Addr} {vs : List Value} (F : Fm s₀ hb env m cm s) (hl : s.heap.IsList l vs.toArray) (hsz : vs.length ≤ sizeLine)
    (h : ∀ a s', Sm s s' → Ext s.heap s'.heap → s'.heap.IsList a vs.toArray → s.heap.get? a = none → Q (.ref a) s') :
    wpAny (model prog w) A (call (.type "list") [.ref l]) Q E s := by
  obtain ⟨o, ho, hc, n, hd⟩ := hl
  exact call_list_seq (hsz := by simpa using hsz) l (.inl rfl) ho hc hd fun h' c' hk hD => h _ _ ⟨h', s.toks, rfl⟩ hk ⟨_, hD, rfl, _, rfl⟩ (Heap.get?_none_of_le (Nat.le_refl _))
/-- a slice from nothing to a place, or to one behind the end -/
theorem rslice {value : Expr} {lower upper : Option Expr} {p pos : Pos}
    (h : wpAny (model prog w) A (eval value env) (fun o s₁ => wpAny (model prog w) A (evalPart lower env) (fun vl s₂ => wpAny (model prog w) A (evalPart upper env) (fun vu s₃ =>
      ∃ l vs lo hi, o = .ref l ∧ s₃.heap.IsList l (List.toArray vs) ∧ vs.length ≤ sizeLine ∧ IsPart vl lo ∧ IsPart vu hi ∧
        ∀ a s', Sm s₃ s' → Ext s₃.heap s'.heap → s'.heap.IsList a (slicePick vs.toArray lo hi none) → s₃.heap.get? a = none → Q (.ref a) s') E s₂) E s₁) E s)
    (ht : ∀ o r, letTemporaryGo value o r = pure () := by intro _ _; rfl) :
    wpAny (model prog w) A (eval (.Subscript value (.Slice lower upper none p) pos) env) Q E s :=
  wpAny_Subscript_list_slice (wpAny_mono h (fun o s₁ h₁ => wpAny_mono h₁ (fun vl s₂ h₂ => wpAny_mono h₂ (fun vu s₃ h₃ => by
    obtain ⟨l, vs, lo, hi, rfl, hl, hsz, pl, pu, hQ⟩ := h₃
    refine ⟨l, _, lo, hi, rfl, hl, by simpa using hsz, pl, pu, hQ _ _ ⟨_, _, rfl⟩ ((Ext.push _ _).trans (Ext.push _ _)) ⟨{ cls := .type "list", data := .seq (slicePick vs.toArray lo hi none) }, ?_, rfl, _, rfl⟩ (Heap.get?_none_of_le (Nat.le_succ _))⟩
    rw [← Heap.size_push s₃.heap { cls := .type "slice", data := .fields #[vl, vu, .none] }]
    exact Heap.get?_push_size _ rfl) fun _ _ e => e) fun _ _ e => e) fun _ _ e => e) ht

theorem rcompare_c {va vb : Value} {x y : Int} (hf : IsFn s.heap f 20) (G : Gl mg mb s.heap) (Rm : Room 1 A) (hx : Rat s.heap va x) (hy : Rat s.heap vb y)
    (h : Ret s Q fun v h => ∃ t, v = .int ((if 0 < x - y then 1 else 0) - (if x - y < 0 then 1 else 0)) t) : wpAny (model prog w) A (call (.ref f) [va, vb]) Q E s := by
  obtain ⟨pa, t1, t2, rfl, ha⟩ := hx
  obtain ⟨pb, t3, t4, rfl, hb⟩ := hy
  refine enter_plain (k := 0) (binds := [("a", .ref pa), ("b", .ref pb)]) hf G Rm rfl (fun _ _ _ => rfl) (locs rfl) (fun L cd A' s' R' F => ?_)
  refine wpAny_execs_cons (wpAny_Assign_Name (wpAny_BinOp (wpAny_BinOp (tupAt F rfl ha rfl rfl fun s1 F => tupAt F rfl hb rfl rfl fun s2 F => ?_))))
  refine rmul_ F (.of_right (by decide)) fun t s3 F => wpAny_BinOp (tupAt F rfl hb rfl rfl fun s1 F => tupAt F rfl ha rfl rfl fun s2 F => ?_)
  refine rmul_ F (.of_right (by decide)) fun t s3 F => rsub_ F fun t5 s4 F => st F fun s5 F => ?_
  refine wpAny_execs_cons (wpAny_Return_some (wpAny_BinOp (wpAny_Compare1 (ld F rfl (rint F fun t6 s6 F => PyProof.Rows.gt_int (wpAny_Compare1 (ld F rfl (rint F fun t7 s7 F => PyProof.Rows.lt_int ?_))))))))
  refine PyProof.Rows.sub_bool ?_
  refine h _ _ (F.tok _).sm (F.tok _).keep ⟨s7.toks, ?_⟩
  simp only [Int.mul_one, b2i, decide_eq_true_eq]
end
end Mine

namespace Mine

theorem PlainL.sq {h h' : Heap} {a : Addr} {xs : Array Value} (x : PlainL h a xs) (e : Seqs h h') : PlainL h' a xs :=
  let ⟨o, n, ho, hc, hd, hs⟩ := x; ⟨o, n, e _ _ _ _ ho hs, hc, hd, hs⟩
theorem Rats.but {l : Addr} {h h' : Heap} {xs : Array Value} {vs : List Value} {ys : List Int} (r : Rats h vs ys) (x : But l h h') (hl : h.IsList l xs) : Rats h' vs ys :=
  ⟨r.1, fun i v q => x.rat hl (r.2 i v q)⟩
theorem Ser.rats {h : Heap} {v : Value} {xs : List Int} (r : Ser h v xs) : ∃ a vs, v = .ref a ∧ h.IsList a vs.toArray ∧ Rats h vs xs := r

section
variable {prog : Program} {w : World} {A : Around} {E : Value → Shared → Prop} {s₀ s : Shared} {hb : Heap} {env : Env} {m cm mg mb : Str → Option Value} {Q : Value → Shared → Prop} {f : Addr}

theorem Fm.mutL {s' : Shared} {l : Addr} {xs : Array Value} (F : Fm s₀ hb env m cm s) (hl : s.heap.IsList l xs) (hn : s₀.heap.get? l = none) (q : Sm s s') (hs : But l s.heap s'.heap) : Fm s₀ s'.heap env m cm s' := by
  obtain ⟨o, ho, hc, n, hd⟩ := hl
  exact ((F.base.rebase (h := hE) (fun b o e => by rw [none_at] at e; cases e)).mut ho (Solid.seq hd) hn (none_at _) q hs).base

theorem rset {l : Addr} {vs : List Value} {k : Int} {t : Tok} {v : Value} {Q : Unit → Shared → Prop} (F : Fm s₀ hb env m cm s) (hl : s.heap.IsList l vs.toArray) (hn : s₀.heap.get? l = none)
    (h0 : 0 ≤ k) (hk : k < vs.length) (hf : vs.length < 2 ^ 62) (h : ∀ s', Fm s₀ s'.heap env m cm s' → But l s.heap s'.heap → s'.heap.IsList l (vs.set k.toNat v).toArray → Q () s') :
    wpAny (model prog w) A (setItem (.ref l) (.int k t) v) Q E s :=
  wpAny_setItem_list hl h0 (by omega) (by simpa using hk) fun h' hl' hs =>
    have but : But l s.heap h' := fun b o n e => (hs.2 b n).trans e
    h _ (F.mutL (s' := { s with heap := h' }) hl hn ⟨h', s.toks, rfl⟩ but) but (by simpa using hl')

theorem rappend {o : Str} {p1 apos pos epos : Pos} {elt : Expr} {l : Addr} {Q : Flow → Shared → Prop} (F : Fm s₀ hb env m cm s) (hm : m o = some (.ref l)) (hn : s₀.heap.get? l = none)
    {its : Array Value} (hp : PlainL s.heap l its)
    (h : wpAny (model prog w) A (eval elt env) (fun y s₁ => ∃ (vs : List Value) (m' cm' : Str → Option Value) (hb' : Heap), Fm s₀ hb' env m' cm' s₁ ∧ PlainL s₁.heap l vs.toArray ∧ vs.length < sizeLine ∧
      ∀ s', Fm s₀ s'.heap env m' cm' s' → But l s₁.heap s'.heap → PlainL s'.heap l (vs ++ [y]).toArray → Q .next s') E s)
    (hl : env.kindOf o = some .local := by rfl) (hd : (o == ("__debug__" : Str)) = false := by decide)
    (hbase : attributeBase (.Name o p1) "append" env (eval (.Name o p1) env) = eval (.Name o p1) env := by rfl)
    (hfew : ((backTo pos (starEach [elt] env)).all (fun x => !x.1) && (backToKw pos (keywordEach [] env)).all (fun x => x.1.isSome)
      && decide (([elt] : List Expr).length + ([] : List Keyword).length + (if ([] : List Keyword).isEmpty then 0 else 1) < 30)) = true := by rfl)
    (hline : (apos.endLine == pos.line) = true := by rfl)
    (htrees : backTo pos (starEach [elt] env) = [(false, eval elt env)] := by rfl)
    (hi : interactive env = false := by rfl) (hs : swapsWith (.Call (.Attribute (.Name o p1) "append" apos) [elt] [] pos) none epos.line env = pure false := by rfl) :
    wpAny (model prog w) A (exec (.Expr (.Call (.Attribute (.Name o p1) "append" apos) [elt] [] pos) epos) env) Q E s := by
  refine wpAny_Expr (wpAny_Call_append hbase hfew hline htrees (ld F hm ⟨l, its, rfl, hp, wpAny_mono h (fun y s₁ q => ?_) fun _ _ x => x⟩ hl hd)) hi hs
  obtain ⟨vs, m', cm', hb', F', hp', hsz, hq⟩ := q
  refine list_append_plainL hp' (fun h' hl' hs' => ?_) (by simp; omega)
  have but : But l s₁.heap h' := fun b o n e => (hs'.2 b n).trans e
  exact hq _ (F'.mutL (s' := { s₁ with heap := h' }) hp'.isList hn ⟨h', s₁.toks, rfl⟩ but) but (by simpa using hl')

theorem need_begin_c {va vn : Value} {xs : List Int} (hf : IsFn s.heap f 27) (G : Gl mg mb s.heap) (Rm : Room 2 A) (hx : Ser s.heap va xs) (hn : Rat s.heap vn 0) (h0 : xs.getD 0 0 = 0) (hlen : 0 < xs.length) (hfit : xs.length < 2 ^ 20)
    (h : Ret s Q fun v h => v = .none) : wpAny (model prog w) A (call (.ref f) [va, vn]) Q E s := by
  obtain ⟨pa, vs, rfl, hla, hra⟩ := hx
  obtain ⟨v0, q0, r0⟩ := hra.at hlen
  have hlv := hra.1
  refine enter_plain (k := 1) (binds := [("a", .ref pa), ("number", vn)]) hf G Rm rfl (fun _ _ _ => rfl) (locs rfl) (fun L cd A' s' R' F => ?_)
  refine wpAny_execs_cons (wpAny_If (isTrue_and (wpAny_isTrue_Compare1 (call_blt F G (by decide) boot_len (args_cons (ld F rfl (args_nil ?_)))))))
  refine rlen F hla (by omega) fun t1 s1 F => rint F fun t2 s2 F => PyProof.Rows.gt_int (wpAny_truthy_bool ?_)
  refine iteP (by simp; omega) ?_
  refine isTrue_and (wpAny_isTrue_Compare1 (call_def 20 F G fun g hg => args_cons (Subscript_ (ld F rfl (rint F fun t3 s3 F => rlistAt F hla (by decide) (by decide) q0 (args_cons (ld F rfl (args_nil ⟨F.keep, ?_⟩))))))))
  refine rcompare_c (hg _ F.keep) (G.ext F.keep) R' (r0.stab F.stb) (hn.stab F.stb) (F.ret fun v s4 F _ hv => ?_)
  obtain ⟨t4, rfl⟩ := hv
  refine rint F fun t5 s5 F => PyProof.Rows.ne_int (wpAny_truthy_bool ?_)
  refine iteN (by rw [h0]; decide) ?_
  exact wpAny_execs_nil (wpAny_execs_nil (h _ _ F.sm F.keep rfl))

/-- cut([], order): zeros -/
theorem cut_c {p : Addr} {n : Nat} {t : Tok} (hf : IsFn s.heap f 22) (G : Gl mg mb s.heap) (Rm : Room 1 A) (hl : s.heap.IsList p ([] : List Value).toArray) (hn : n < 2 ^ 20)
    (h : ∀ v s', Sm s s' → Ext s.heap s'.heap → (∃ a vs, v = .ref a ∧ s'.heap.IsList a vs.toArray ∧ Rats s'.heap vs (List.replicate n 0) ∧ s.heap.get? a = none) → Q v s') : wpAny (model prog w) A (call (.ref f) [.ref p, .int n t]) Q E s := by
  obtain ⟨v0, hv0, hr0⟩ := G.r0
  refine enter_plain (k := 0) (binds := [("a", .ref p), ("order", .int n t)]) hf G Rm rfl (fun _ _ _ => rfl) (locs rfl) (fun L cd A' s' R' F => ?_)
  refine wpAny_execs_cons (wpAny_Return_some (wpAny_BinOp (call_typ F G (by decide) boot_list (args_cons (rslice (ld F rfl (wpAny_evalPart_none (wpAny_evalPart_some (ld F rfl ?_)))))))))
  refine ⟨p, [], none, some n, rfl, IsList.sq hl F.stb.sq, by decide, .none, .int _ _, fun a s1 q e hs hf1 => ?_⟩
  rw [slicePick_upto'] at hs
  have F := F.ext q e
  refine args_nil (rcopy F (vs := []) (by simpa using hs) (by decide) fun a2 s2 q e hl2 hf2 => ?_)
  have F := F.ext q e
  refine wpAny_BinOp (rlist (args_cons (ldg F G hv0 (args_nil ⟨by show 1 ≤ sizeLine; decide, fun a3 s3 q e hl3 hf3 => ?_⟩))))
  have F := (F.ext q e).base
  have hl0 := IsList.sq hl F.sq
  have hl2 := IsList.sq hl2 (Stab.of_ext e).sq
  refine wpAny_BinOp (ld F rfl (call_blt F G (by decide) boot_len (args_cons (ld F rfl (args_nil ?_)))))
  refine rlen F hl0 (by decide) fun t1 s4 F => rsub_ F fun t2 s5 F => ?_
  refine rmull F (F.stb _ _ hl3 (Solid.seq rfl)) (by simp) (by simp; omega) fun a4 s6 F6 stb6 hl4 hf4 => ?_
  refine raddl F6 (IsList.sq hl2 F6.stb.sq) hl4 (by show _ ≤ 2 ^ 24; simp; omega) fun a5 s7 F7 stb7 hl5 hf5 => ?_
  refine h _ _ F7.sm F7.keep ⟨a5, _, rfl, hl5, ⟨by simp, fun i v hv => ?_⟩, F6.fresh hf5⟩
  have hvv : v = v0 := by
    have := List.mem_of_getElem? hv
    simp at this
    exact this.2
  subst hvv
  have : (List.replicate n (0 : Int)).getD i 0 = 0 := by
    rw [List.getD_eq_getElem?_getD, List.getElem?_replicate]
    split <;> rfl
  rw [this]; exact hr0.sq F7.sq

def compStep (xs ys : List Int) (g : List Int) (k : Nat) : List Int := (smulP g ys).set 0 ((smulP g ys).getD 0 0 + xs.getD k 0)
/-- after k turns, from the top coefficient down -/
def compSeq (xs ys : List Int) (n : Nat) : Nat → List Int
  | 0 => List.replicate n 0
  | k + 1 => compStep xs ys (compSeq xs ys n k) (n - 1 - k)
theorem compSeq_length (xs ys : List Int) (n : Nat) (h : ys.length = n) : ∀ k, (compSeq xs ys n k).length = n
  | 0 => by simp [compSeq]
  | k + 1 => by simp [compSeq, compStep, smulP, compSeq_length xs ys n h k, h]

theorem scompose_c {va vb : Value} {xs ys : List Int} {n : Nat} (hf : IsFn s.heap f 28) (G : Gl mg mb s.heap) (Rm : Room 6 A) (hx : Ser s.heap va xs) (hy : Ser s.heap vb ys)
    (hnx : xs.length = n) (hny : ys.length = n) (hn0 : 0 < n) (hn : n < 2 ^ 20) (h0 : ys.getD 0 0 = 0)
    (hm : ∀ k, k < n → ∀ i j, IntMulOk ((compSeq xs ys n k).getD i 0) (ys.getD j 0)) (hs : ∀ k, k < n → ∀ i, i < n → (conv (compSeq xs ys n k) ys i (i + 1)).natAbs < 2 ^ 64)
    (h : Ret s Q fun v h => Ser h v (compSeq xs ys n n)) : wpAny (model prog w) A (call (.ref f) [va, vb]) Q E s := by
  obtain ⟨pa, vs, rfl, hla, hra⟩ := id hx
  obtain ⟨pb, us, rfl, hlb, hrb⟩ := id hy
  obtain ⟨v0, hv0, hr0⟩ := G.r0
  have hlv := hra.1
  have hlu := hrb.1
  refine enter_plain (k := 5) (binds := [("a", .ref pa), ("b", .ref pb)]) hf G Rm rfl (fun _ _ _ => rfl) (locs rfl) (fun L cd A' s' R' F => ?_)
  refine wpAny_execs_cons (wpAny_Expr (call_def 27 F G fun g hg => args_cons (ld F rfl (args_cons (ldg F G hv0 (args_nil ⟨F.keep, ?_⟩))))))
  refine need_begin_c (hg _ F.keep) (G.ext F.keep) (R'.le (by decide)) (hy.sq F.sq) (hr0.sq F.sq) h0 (by omega) (by omega) (F.ret fun v s1 F _ hv => ?_)
  subst hv
  refine wpAny_execs_cons (wpAny_Assign_Name (call_blt F G (by decide) boot_min (args_cons (call_blt F G (by decide) boot_len (args_cons (ld F rfl (args_nil ?_)))))))
  refine rlen F hla (by omega) fun t1 s2 F => args_cons (call_blt F G (by decide) boot_len (args_cons (ld F rfl (args_nil ?_))))
  refine rlen F hlb (by omega) fun t2 s3 F => args_nil (rmin R'.hh F fun t3 s4 F => st F fun s5 F => ?_)
  have emin : min (vs.length : Int) (us.length : Int) = n := by omega
  rw [emin] at F
  refine wpAny_execs_cons (wpAny_Assign_Name (call_def 22 F G fun g hg => args_cons (rlist (args_nil ⟨by decide, fun a1 s6 q e hl1 hf1 => ?_⟩))))
  have F := F.ext q e
  refine args_cons (ld F rfl (args_nil ⟨F.keep, ?_⟩))
  refine cut_c (hg _ F.keep) (G.ext F.keep) (R'.le (by decide)) ⟨_, hl1, rfl, _, rfl⟩ hn (fun v s7 q e hv => ?_)
  obtain ⟨D, ws, rfl, hlD, hrD, hfD⟩ := hv
  have hD0 := F.fresh hfD
  have F := (F.ext q e).base
  refine st F fun s8 F => ?_
  have hlD := IsList.sq hlD F.stb.sq
  have hrD := hrD.sq F.stb.sq
  have F := F.base
  refine wpAny_execs_cons (wpAny_For (call_typ F G (by decide) boot_range (args_cons (wpAny_BinOp (ld F rfl (rint F fun t s9 F => rsub_ F fun t s10 F => args_cons (UnaryOp_ (rint F fun t s11 F => rneg F fun t s12 F => args_cons (UnaryOp_ (rint F fun t s13 F => rneg F fun t s14 F => args_nil ?_))))))))))
  refine rrange_down (n := n) rfl (by omega) fun I s15 q e hI it => ?_
  have hI0 := F.fresh hI
  have F := F.ext q e
  refine for_range R'.hh F it hI0 s14.heap hI e (fun k m h => m "a" = some (.ref pa) ∧ m "b" = some (.ref pb) ∧ (∃ t, m "order" = some (.int n t)) ∧
      ∃ D ws, m "found" = some (.ref D) ∧ h.IsList D (List.toArray ws) ∧ Rats h ws (compSeq xs ys n k))
    (fun k m h h' ⟨i1, i2, i3, D, ws, i4, i5, i6⟩ sq => ⟨i1, i2, i3, D, ws, i4, IsList.sq i5 sq, i6.sq sq⟩) ⟨rfl, rfl, ⟨_, rfl⟩, D, ws, rfl, IsList.sq hlD F.stb.sq, hrD.sq F.stb.sq⟩ ?_ ?_
  · rintro k m s16 t4 hk _ hInv F
    refine hide fun K E1 hK => ?_
    obtain ⟨i1, i2, ⟨t5, i3⟩, D, ws, i4, i5, i6⟩ := hInv
    have ek : ((n : Int) - 1 + (k : Int) * (-1)) = ((n - 1 - k : Nat) : Int) := by omega
    rw [ek] at F
    have la := IsList.sq hla F.sq
    have lb := IsList.sq hlb F.sq
    have rb := hrb.sq F.sq
    obtain ⟨vk, qk, rk⟩ := (hra.sq F.sq).at (i := n - 1 - k) (by omega)
    have hlen := compSeq_length xs ys n hny k
    refine wpAny_execs_cons (wpAny_Assign_Name (call_def 25 F G fun g hg => args_cons (ld F i4 (args_cons (rslice (ld F i2 (wpAny_evalPart_none (wpAny_evalPart_some (ld F i3 ?_)))))))))
    refine ⟨pb, us, none, some n, rfl, lb, by show _ ≤ 2 ^ 24; omega, .none, .int _ _, fun a2 s17 q e hs2 hf2 => ?_⟩
    rw [slicePick_upto', show (us.toArray.toList.take n) = us from by rw [List.toList_toArray]; exact List.take_of_length_le (by omega)] at hs2
    have F17 := F.ext q e
    refine args_nil ⟨F17.keep, ?_⟩
    refine smul_c (xs := compSeq xs ys n k) (ys := ys) (hg _ F17.keep) (G.ext F17.keep) R' ⟨D, ws, rfl, IsList.sq i5 F17.stb.sq, i6.sq F17.stb.sq⟩ ⟨a2, us, rfl, hs2, rb.sq F17.stb.sq⟩ (by omega) (by omega) (hm k hk)
      (fun i h1 h2 => hs k hk i (by omega)) (fun v s18 q e hv => ?_)
    obtain ⟨D2, zs, rfl, hlZ, hrZ, hfZ⟩ := hv
    have hD2 := F17.fresh hfZ
    have F18 := F17.ext q e
    refine st F18.base fun s19 F19 => ?_
    have hlZ := IsList.sq hlZ F19.stb.sq
    have hrZ := hrZ.sq F19.stb.sq
    have st19 := F19.stb
    have F19 := F19.base
    have sZ : (smulP (compSeq xs ys n k) ys).length = n := by simp [smulP, hlen, hny]
    have rk := (hra.sq F19.sq).2 (n - 1 - k) vk qk
    obtain ⟨v1, q1, r1⟩ := hrZ.at (i := 0) (by omega)
    refine wpAny_execs_cons (wpAny_Assign_Subscript (call_def 15 F19 G fun g hg => args_cons (Subscript_ (ld F19 rfl (rint F19 fun t6 s20 F20 => rlistAt F20 hlZ (by decide) (by decide) q1 (args_cons ?_))))))
    refine Subscript_ (ld F20 i1 (ld F20 rfl (rlistAt F20 (IsList.sq hla F19.sq) (by omega) (by omega) (by rw [Int.toNat_natCast]; exact qk) (args_nil ⟨F20.keep, ?_⟩))))
    refine radd_c (hg _ F20.keep) (G.ext F20.keep) (R'.le (by decide)) (r1.stab F20.stb) (rk.stab F20.stb) (F20.ret fun v8 s21 F21 _ r8 => ?_)
    refine ld F21.base rfl (rint F21.base fun t7 s22 F22 => ?_)
    have r8 := r8.stab F22.stb
    have hlZ' := IsList.sq hlZ (F21.stb.sq.trans F22.stb.sq)
    refine rset F22 hlZ' hD2 (by decide) (by have := hrZ.1; omega) (by have := hrZ.1; omega) (fun s23 F23 but hl23 => ?_)
    refine wpAny_execs_nil (hK _ _ ⟨_, _, F23, (F18.stb.trans (st19.trans (F21.stb.trans F22.stb))).it.trans (but.it hlZ'), i1, i2, ⟨_, i3⟩, D2, _, rfl, hl23, ?_⟩)
    have hrZ' := (hrZ.sq (F21.stb.sq.trans F22.stb.sq)).but but hlZ'
    have r8 := but.rat hlZ' r8
    rw [compSeq, compStep]
    refine ⟨by simpa using hrZ'.1, fun i v hv => ?_⟩
    by_cases h0i : i = 0
    · subst h0i
      have hz : 0 < zs.length := by have := hrZ.1; omega
      rw [show ((0 : Int).toNat) = 0 from rfl, List.getElem?_set_self hz] at hv
      cases hv
      rw [List.getD_eq_getElem?_getD, List.getElem?_set_self (by omega)]
      exact r8
    · rw [show ((0 : Int).toNat) = 0 from rfl, List.getElem?_set_ne (Ne.symm h0i)] at hv
      rw [List.getD_eq_getElem?_getD, List.getElem?_set_ne (Ne.symm h0i), ← List.getD_eq_getElem?_getD]
      exact hrZ'.2 i v hv
  · rintro m s16 _ ⟨i1, i2, i3, D, ws, i4, i5, i6⟩ F
    exact wpAny_execs_cons (wpAny_Return_some (ld F i4 (h _ _ F.sm F.keep ⟨D, ws, rfl, i5, i6⟩)))
end
end Mine

namespace Mine

def invTot (xs F : List Int) (k : Nat) : Nat → Int
  | 0 => if k = 0 then 1 else 0
  | j + 1 => invTot xs F k j - xs.getD (j + 1) 0 * F.getD (k - (j + 1)) 0
def invSeq (xs : List Int) : Nat → List Int
  | 0 => []
  | k + 1 => invSeq xs k ++ [invTot xs (invSeq xs k) k k]
theorem invSeq_length (xs : List Int) : ∀ k, (invSeq xs k).length = k
  | 0 => rfl
  | k + 1 => by simp [invSeq, invSeq_length xs k]

section
variable {prog : Program} {w : World} {A : Around} {E : Value → Shared → Prop} {s₀ s : Shared} {hb : Heap} {env : Env} {m cm mg mb : Str → Option Value} {Q : Value → Shared → Prop} {f : Addr}

theorem same_frame {M : Model} {t : Sem Value} (F : Fm s₀ hb env m cm s) (P : Value → Heap → Prop) (h1 : wpAny M A t (fun v s' => Fm s₀ hb env m cm s' ∧ P v s'.heap) E s)
    (h2 : ∀ v s', Fm s₀ hb env m cm s' → P v s'.heap → Q v s') : wpAny M A t Q E s := wpAny_mono h1 (fun v s' q => h2 v s' q.1 q.2) fun _ _ x => x

theorem sinverse_c {va : Value} {xs : List Int} (hf : IsFn s.heap f 26) (G : Gl mg mb s.heap) (Rm : Room 5 A) (hx : Ser s.heap va xs) (h1 : xs.getD 0 0 = 1) (hlen : 0 < xs.length) (hfit : xs.length < 2 ^ 20)
    (hm : ∀ k, k < xs.length → ∀ i j, IntMulOk (xs.getD i 0) ((invSeq xs k).getD j 0)) (hs : ∀ k, k < xs.length → (invTot xs (invSeq xs k) k k).natAbs < 2 ^ 64)
    (h : Ret s Q fun v h => Ser h v (invSeq xs xs.length)) : wpAny (model prog w) A (call (.ref f) [va]) Q E s := by
  obtain ⟨pa, vs, rfl, hla, hra⟩ := id hx
  obtain ⟨v0, hv0, hr0⟩ := G.r0
  obtain ⟨v1, hv1, hr1⟩ := G.r1
  obtain ⟨va0, qa0, ra0⟩ := hra.at hlen
  rw [h1] at ra0
  have hlv := hra.1
  refine enter_plain (k := 4) (binds := [("a", .ref pa)]) hf G Rm rfl (fun _ _ _ => rfl) (locs rfl) (fun L cd A' s' R' F => ?_)
  refine wpAny_execs_cons (wpAny_If (isTrue_and (wpAny_isTrue_Compare1 (call_blt F G (by decide) boot_len (args_cons (ld F rfl (args_nil ?_)))))))
  refine rlen F hla (by omega) fun t1 s1 F => rint F fun t2 s2 F => PyProof.Rows.gt_int (wpAny_truthy_bool ?_)
  refine iteP (by simp; omega) ?_
  refine isTrue_and (wpAny_isTrue_Compare1 (Subscript_ (ld F rfl (rint F fun t3 s3 F => rlistAt F hla (by decide) (by decide) qa0 (ldg F G hv0 ?_)))))
  refine req_rat F ra0 hr0 (by have := R'.un; omega) (wpAny_truthy_bool ?_)
  refine iteN (by decide) ?_
  refine wpAny_execs_nil (wpAny_execs_cons (wpAny_Assign_Name (rlist (args_nil ⟨by decide, fun D s4 q e hlD hfD => ?_⟩))))
  have hD0 := F.fresh hfD
  have F := (F.ext q e).base
  refine st F fun s5 F => ?_
  have hpD : PlainL s5.heap D ([] : List Value).toArray := ⟨_, _, F.stb _ _ hlD (Solid.seq rfl), rfl, rfl, rfl⟩
  have F := F.base
  refine wpAny_execs_cons (wpAny_For (call_typ F G (by decide) boot_range (args_cons (call_blt F G (by decide) boot_len (args_cons (ld F rfl (args_nil ?_)))))))
  refine rlen F (IsList.sq hla F.sq) (by omega) fun t4 s6 F => args_nil ?_
  refine rrange1 (n := xs.length) (by omega) (by omega) fun I s7 q e hI it => ?_
  have hI0 := F.fresh hI
  have F := F.ext q e
  refine for_range R'.hh F it hI0 s6.heap hI e (fun k m h => m "a" = some (.ref pa) ∧ m "found" = some (.ref D) ∧ ∃ us, PlainL h D (List.toArray us) ∧ Rats h us (invSeq xs k))
    (fun k m h h' ⟨i1, i2, us, i3, i4⟩ sq => ⟨i1, i2, us, PlainL.sq i3 sq, i4.sq sq⟩) ⟨rfl, rfl, [], PlainL.sq hpD F.stb.sq, Rats.nil⟩ ?_ ?_
  · rintro k m s8 t5 hk _ hInv F
    refine hide fun K E1 hK => ?_
    obtain ⟨i1, i2, us, i3, i4⟩ := hInv
    have ek : ((0 : Int) + (k : Int) * 1) = k := by omega
    rw [ek] at F
    have hus : us.length = k := by rw [i4.1, invSeq_length]
    have hr0' := hr0.sq F.sq
    have hr1' := hr1.sq F.sq
    refine wpAny_execs_cons (wpAny_Assign_Name (same_frame F (fun v h => Rat h v (if k = 0 then 1 else 0)) ?_ fun v s10 F10 hv => ?_))
    · refine IfExp_ (wpAny_isTrue_Compare1 (ld F rfl (rint F fun t6 s9 F => PyProof.Rows.eq_int (wpAny_truthy_bool ?_))))
      by_cases hk0 : k = 0
      · subst hk0
        exact iteP (by decide) (ldg F G hv1 ⟨F, by simpa using hr1'.stab F.stb⟩)
      · refine iteN (by simp; omega) (ldg F G hv0 ⟨F, ?_⟩)
        rw [if_neg hk0]; exact hr0'.stab F.stb
    refine st F10.base fun s11 F11 => ?_
    have hv := hv.stab F11.stb
    have i3' := PlainL.sq i3 (F10.stb.sq.trans F11.stb.sq)
    have i4' := i4.sq (F10.stb.sq.trans F11.stb.sq)
    have kk := F10.stb.it.trans F11.stb.it
    have F := F11.base
    refine wpAny_execs_cons (wpAny_For (call_typ F G (by decide) boot_range (args_cons (rint F fun t7 s12 F => args_cons (wpAny_BinOp (ld F rfl (rint F fun t8 s13 F => radd_ F fun t9 s14 F => args_nil ?_)))))))
    refine rrange2 (n := k) (by omega) (by decide) (by omega) fun I2 s15 q e hI2 it2 => ?_
    have hI2' := F.fresh hI2
    have kk2 := kk.trans F.stb.it
    have st14 := F.stb.trans (Stab.of_ext e)
    have F := F.ext q e
    refine for_range R'.hh F it2 hI2' s14.heap hI2 e (fun j m h => m "a" = some (.ref pa) ∧ m "found" = some (.ref D) ∧ (∃ t, m "at" = some (.int k t)) ∧ PlainL h D (List.toArray us) ∧ Rats h us (invSeq xs k) ∧
        ∃ v, m "total" = some v ∧ Rat h v (invTot xs (invSeq xs k) k j))
      (fun j m h h' ⟨j1, j2, j3, j4, j5, v, j6, j7⟩ sq => ⟨j1, j2, j3, PlainL.sq j4 sq, j5.sq sq, v, j6, j7.sq sq⟩) ⟨i1, i2, ⟨_, rfl⟩, PlainL.sq i3' st14.sq, i4'.sq st14.sq, v, rfl, hv.stab st14⟩ ?_ ?_
    · rintro j m2 s16 t10 hj hit hInv F
      refine hide fun K E1 hK => ?_
      obtain ⟨j1, j2, ⟨t11, j3⟩, j4, j5, vt, j6, j7⟩ := hInv
      have ej : ((1 : Int) + (j : Int) * 1) = ((j + 1 : Nat) : Int) := by omega
      rw [ej] at F
      obtain ⟨w1, q1, r1⟩ := (hra.sq F.sq).at (i := j + 1) (by omega)
      obtain ⟨w2, q2, r2⟩ := j5.at (i := k - (j + 1)) (by rw [invSeq_length]; omega)
      have la := IsList.sq hla F.sq
      have ek2 : ((k : Int) - ((j + 1 : Nat) : Int)).toNat = k - (j + 1) := by omega
      refine wpAny_execs_cons (wpAny_Assign_Name (call_def 16 F G fun g hg => args_cons (ld F j6 (args_cons ?_))))
      refine call_def 17 F G fun g2 hg2 => args_cons (Subscript_ (ld F j1 (ld F rfl (rlistAt F la (by omega) (by omega) (by rw [Int.toNat_natCast]; exact q1) (args_cons ?_)))))
      refine Subscript_ (ld F j2 (wpAny_BinOp (ld F j3 (ld F rfl (rsub_ F fun t12 s17 F => rlistAt F j4.isList (by omega) (by omega) (by rw [ek2]; exact q2) (args_nil ⟨F.keep, ?_⟩))))))
      refine rmul_c (hg2 _ F.keep) (G.ext F.keep) (R'.le (by decide)) (r1.stab F.stb) (r2.stab F.stb) (hm k hk _ _) (F.ret fun v8 s18 F _ r8 => args_nil ⟨F.keep, ?_⟩)
      refine rsub_c (hg _ F.keep) (G.ext F.keep) (R'.le (by decide)) (j7.stab F.stb) r8 (F.ret fun v9 s19 F _ r9 => st F.base fun s20 F' => ?_)
      have stt := F.stb.trans F'.stb
      exact wpAny_execs_nil (hK _ _ ⟨_, _, F', stt.it, j1, j2, ⟨_, j3⟩, PlainL.sq j4 stt.sq, j5.sq stt.sq, v9, rfl, r9.stab F'.stb⟩)
    · rintro m2 s16 hit ⟨j1, j2, ⟨t11, j3⟩, j4, j5, vt, j6, j7⟩ F
      have kk3 := kk2.trans hit
      have la := IsList.sq hla F.sq
      have ra := ra0.sq F.sq
      refine wpAny_execs_cons (rappend F j2 hD0 j4 ?_)
      refine call_def 23 F G fun g hg => args_cons (call_def 18 F G fun g2 hg2 => args_cons (ld F j6 (args_cons (Subscript_ (ld F j1 (rint F fun t12 s17 F => rlistAt F la (by decide) (by decide) qa0 (args_nil ⟨F.keep, ?_⟩)))))))
      refine rdiv_c (hg2 _ F.keep) (G.ext F.keep) (R'.le (by decide)) (j7.stab F.stb) (ra.stab F.stb) (F.ret fun v8 s18 F _ r8 => args_nil ⟨F.keep, ?_⟩)
      refine let_c (hg _ F.keep) (G.ext F.keep) (R'.le (by decide)) r8 (hs k hk) (F.ret fun v9 s19 F _ r9 => ?_)
      have j4' := PlainL.sq j4 F.stb.sq
      refine ⟨us, _, _, _, F, j4', by show _ < 2 ^ 24; omega, fun s20 F' but hp => ?_⟩
      exact wpAny_execs_nil (hK _ _ ⟨_, _, F', (kk3.trans F.stb.it).trans (but.it j4'.isList), j1, j2, _, hp, ((j5.sq F.stb.sq).but but j4'.isList).snoc (but.rat j4'.isList r9)⟩)
  · rintro m s8 _ ⟨i1, i2, us, i3, i4⟩ F
    exact wpAny_execs_cons (wpAny_Return_some (ld F i2 (h _ _ F.sm F.keep ⟨D, us, rfl, i3.isList, i4⟩)))
end
end Mine

namespace Mine

/-- a list of n ints, told place by place -/
def RowIs (h : Heap) (a : Addr) (n : Nat) (g : Nat → Int) : Prop := ∃ vs : List Value, h.IsList a vs.toArray ∧ vs.length = n ∧ ∀ j, j < n → ∃ t, vs[j]? = some (.int (g j) t)
theorem RowIs.sq {h h' : Heap} {a : Addr} {n : Nat} {g : Nat → Int} (r : RowIs h a n g) (e : Seqs h h') : RowIs h' a n g := let ⟨vs, hl, x⟩ := r; ⟨vs, IsList.sq hl e, x⟩
theorem RowIs.congr {h : Heap} {a : Addr} {n : Nat} {g g' : Nat → Int} (r : RowIs h a n g) (e : ∀ j, j < n → g j = g' j) : RowIs h a n g' :=
  let ⟨vs, hl, hn, x⟩ := r; ⟨vs, hl, hn, fun j hj => by rw [← e j hj]; exact x j hj⟩
theorem RowIs.but {h h' : Heap} {a l : Addr} {n : Nat} {g : Nat → Int} (r : RowIs h a n g) (x : But l h h') (hn : a ≠ l) : RowIs h' a n g := let ⟨vs, hl, y⟩ := r; ⟨vs, x.lst hl hn, y⟩
structure Mat (h : Heap) (rs : List Addr) (n : Nat) (M : Nat → Nat → Int) : Prop where
  len : rs.length = n
  nd : rs.Nodup
  row : ∀ i, i < n → ∃ a, rs[i]? = some a ∧ RowIs h a n (M i)
theorem Mat.sq {h h' : Heap} {rs : List Addr} {n : Nat} {M : Nat → Nat → Int} (r : Mat h rs n M) (e : Seqs h h') : Mat h' rs n M :=
  ⟨r.len, r.nd, fun i hi => let ⟨a, x, y⟩ := r.row i hi; ⟨a, x, y.sq e⟩⟩
theorem Mat.congr {h : Heap} {rs : List Addr} {n : Nat} {M M' : Nat → Nat → Int} (r : Mat h rs n M) (e : ∀ i j, i < n → j < n → M i j = M' i j) : Mat h rs n M' :=
  ⟨r.len, r.nd, fun i hi => let ⟨a, x, y⟩ := r.row i hi; ⟨a, x, y.congr fun j hj => e i j hi hj⟩⟩
theorem Mat.set {h h' : Heap} {rs : List Addr} {n : Nat} {M : Nat → Nat → Int} {i j : Nat} {l : Addr} {vs : List Value} {x : Int} {t : Tok} (r : Mat h rs n M) (hi : i < n) (hl : rs[i]? = some l)
    (hv : vs.length = n) (hvs : ∀ j, j < n → ∃ t, vs[j]? = some (.int (M i j) t)) (b : But l h h') (hl' : h'.IsList l (vs.set j (.int x t)).toArray) :
    Mat h' rs n (fun i' j' => if i' = i ∧ j' = j then x else M i' j') := by
  refine ⟨r.len, r.nd, fun i' hi' => ?_⟩
  obtain ⟨a, ha, hr⟩ := r.row i' hi'
  refine ⟨a, ha, ?_⟩
  by_cases e : i' = i
  · subst e
    rw [ha] at hl; cases hl
    refine ⟨_, hl', by simpa using hv, fun j' hj' => ?_⟩
    by_cases ej : j' = j
    · subst ej
      exact ⟨t, by rw [List.getElem?_set_self (by omega)]; simp⟩
    · obtain ⟨u, hu⟩ := hvs j' hj'
      exact ⟨u, by rw [List.getElem?_set_ne (Ne.symm ej)]; simpa [ej] using hu⟩
  · refine (hr.but b ?_).congr fun j' hj' => by simp [e]
    rintro rfl
    exact e ((List.getElem?_inj (by rw [r.len]; exact hi') r.nd).mp (ha.trans hl.symm))

def stepM (M : Nat → Nat → Int) (step : Nat) (ahead : Int) : Nat → Nat → Int := fun i j =>
  if step < i then (if step < j then (M i j * M step step - M i step * M step j).fdiv ahead else if j = step then 0 else M i j) else M i j
def pivotFrom (M : Nat → Nat → Int) (step : Nat) : Nat → Nat → Option Nat
  | _, 0 => none
  | i, c + 1 => if M i step ≠ 0 then some i else pivotFrom M step (i + 1) c

/-- heaps where no address of rs stands -/
theorem removed (h : Heap) (rs : List Addr) : ∃ h₀ : Heap, (∀ b o, h₀.get? b = some o → b ∉ rs ∧ h.get? b = some o) ∧ (∀ b o, b ∉ rs → h.get? b = some o → h₀.get? b = some o) := by
  induction rs with
  | nil => exact ⟨h, fun b o e => ⟨by simp, e⟩, fun b o _ e => e⟩
  | cons r rs ih =>
    obtain ⟨h₁, a, b⟩ := ih
    refine ⟨h₁.update r fun o => { o with data := .freed }, fun c o e => ?_, fun c o n e => ?_⟩
    · by_cases hc : c = r
      · subst hc
        exfalso
        revert e
        unfold Heap.get? Heap.update
        simp only [Array.getElem?_modify, if_true]
        cases h₁.objs[c]? <;> simp
      · rw [Heap.get?_update_other _ _ (Ne.symm hc)] at e
        exact ⟨fun hm => by rcases List.mem_cons.mp hm with q | q; exact hc q; exact (a c o e).1 q, (a c o e).2⟩
    · rw [Heap.get?_update_other _ _ (fun q => n (by rw [← q]; exact List.mem_cons_self))]
      exact b c o (fun q => n (List.mem_cons_of_mem _ q)) e

def NonList (o : Obj) : Prop := ∀ xs n, o.data = .seq xs n → o.cls ≠ .type "list"
theorem Gl.nl {mg mb : Str → Option Value} {h h' : Heap} (G : Gl mg mb h) (e : ∀ b o, NonList o → h.get? b = some o → h'.get? b = some o) : Gl mg mb h' := by
  have ns : ∀ {a m}, h.Ns a m → h'.Ns a m := fun {a m} ⟨o, es, ep, x, y, z⟩ => ⟨o, es, ep, e _ _ (fun xs n q => by rw [y] at q; cases q) x, y, z⟩
  have rat : ∀ {v x}, Rat h v x → Rat h' v x := fun {v x} ⟨a, t, u, hv, o, ho, hc, n, hd⟩ => ⟨a, t, u, hv, o, e _ _ (fun xs n _ => by rw [hc]; decide) ho, hc, n, hd⟩
  refine ⟨ns G.g, ns G.b, let ⟨mc, x, y⟩ := G.lim; ⟨mc, ns x, y⟩, G.bi, G.free, fun i hi => ?_, let ⟨v, a, b⟩ := G.r0; ⟨v, a, rat b⟩, let ⟨v, a, b⟩ := G.r1; ⟨v, a, rat b⟩⟩
  obtain ⟨f, a, o, pm, code, doc, x, y, c, oc, vs, t, z1, z2, z3, z4⟩ := G.fn i hi
  exact ⟨f, a, o, pm, code, doc, e _ _ (fun xs n q => by rw [y] at q; cases q) x, y, c, oc, vs, t, z1, e _ _ (fun xs n q => by rw [z3] at q; cases q) z2, z3, z4⟩

section
variable {prog : Program} {w : World} {A : Around} {E : Value → Shared → Prop} {s₀ s : Shared} {hb : Heap} {env : Env} {m cm mg mb : Str → Option Value} {Q : Value → Shared → Prop} {f : Addr}

theorem pivot_c {pa : Addr} {rs : List Addr} {n step : Nat} {M : Nat → Nat → Int} {t : Tok} (hf : IsFn s.heap f 3) (G : Gl mg mb s.heap) (Rm : Room 1 A)
    (hl : s.heap.IsList pa (rs.map Value.ref).toArray) (hM : Mat s.heap rs n M) (hn : n < 2 ^ 20) (hst : step < n)
    (h : Ret s Q fun v _ => match pivotFrom M step step (n - step) with | some r => ∃ t, v = .int r t | none => v = .none) : wpAny (model prog w) A (call (.ref f) [.ref pa, .int step t]) Q E s := by
  have hlen := hM.len
  refine enter_plain (k := 0) (binds := [("a", .ref pa), ("step", .int step t)]) hf G Rm rfl (fun _ _ _ => rfl) (locs rfl) (fun L cd A' s' R' F => ?_)
  refine wpAny_execs_cons (wpAny_For (call_typ F G (by decide) boot_range (args_cons (ld F rfl (args_cons (call_blt F G (by decide) boot_len (args_cons (ld F rfl (args_nil ?_)))))))))
  refine rlen F hl (by simp; omega) fun t1 s1 F => args_nil ?_
  refine rrange2 (n := n - step) (by omega) (by omega) (by simp; omega) fun I s2 q e hI it => ?_
  have hI0 := F.fresh hI
  have F := F.ext q e
  refine for_range R'.hh F it hI0 s1.heap hI e (fun k m h => m "a" = some (.ref pa) ∧ m "step" = some (.int step t) ∧ pivotFrom M step step (n - step) = pivotFrom M step (step + k) (n - step - k))
    (fun k m h h' i sq => i) ⟨rfl, rfl, by simp⟩ ?_ ?_
  · rintro k m s3 t2 hk _ hInv F
    refine hide fun K E1 hK => ?_
    obtain ⟨i1, i2, i3⟩ := hInv
    have ek : ((step : Int) + (k : Int) * 1) = ((step + k : Nat) : Int) := by omega
    rw [ek] at F
    obtain ⟨r, hr, vs, hvl, hvn, hv⟩ := (hM.sq F.sq).row (step + k) (by omega)
    obtain ⟨t3, hv⟩ := hv step hst
    refine wpAny_execs_cons (wpAny_If (wpAny_isTrue_Compare1 (Subscript_ (Subscript_ (ld F i1 (ld F rfl (rlistAt F (IsList.sq hl F.sq) (by omega) (by omega) (by rw [Int.toNat_natCast, List.getElem?_map, hr]; rfl) (ld F i2 (rlistAt F hvl (by omega) (by omega) (by simpa using hv) (rint F fun t4 s4 F => ?_))))))))))
    refine PyProof.Rows.ne_int (wpAny_truthy_bool ?_)
    rw [(by omega : n - step - k = (n - step - (k + 1)) + 1), pivotFrom] at i3
    by_cases h0 : M (step + k) step = 0
    · refine iteN (by rw [h0]; decide) (wpAny_execs_nil (wpAny_execs_nil (hK _ _ ⟨_, _, F, F.stb.it, i1, i2, ?_⟩)))
      rw [i3, if_neg (by simpa using h0), Nat.add_assoc]
    · refine iteP (bne_iff_ne.mpr h0) (wpAny_execs_cons (wpAny_Return_some (ld F rfl (hK _ _ (h _ _ F.sm F.keep ?_)))))
      rw [i3, if_pos h0]
      exact ⟨_, rfl⟩
  · rintro m s3 _ ⟨i1, i2, i3⟩ F
    refine wpAny_execs_cons (wpAny_Return_some (Constant_none (h _ _ F.sm F.keep ?_)))
    rw [i3, Nat.sub_self, pivotFrom]
end
end Mine

namespace Mine
def rowM (M : Nat → Nat → Int) (step : Nat) (ahead : Int) (r i' j' : Nat) : Int := if i' < r then stepM M step ahead i' j' else M i' j'
def cellM (M : Nat → Nat → Int) (step : Nat) (ahead : Int) (r c i' j' : Nat) : Int := if i' = r ∧ step < j' ∧ j' < c then stepM M step ahead i' j' else if i' < r then stepM M step ahead i' j' else M i' j'

theorem Sm.on {s s' : Shared} (x : Sm s s') (h : Heap) : Sm { s with heap := h } s' := by obtain ⟨h1, t1, rfl⟩ := x; exact ⟨h1, t1, rfl⟩
theorem Sm.off {s s' : Shared} {h : Heap} (x : Sm { s with heap := h } s') : Sm s s' := by obtain ⟨h1, t1, rfl⟩ := x; exact ⟨h1, t1, rfl⟩
theorem mulOk {x y : Int} {b : Nat} (hb : b ≤ 9000) (hx : x.natAbs < 2 ^ b) (hy : y.natAbs < 2 ^ b) : IntMulOk x y :=
  IntMulOk.of_bits (Nat.le_trans (intBits_le hx) (Nat.le_trans hb (by decide))) (Nat.le_trans (intBits_le hy) (Nat.le_trans hb (by decide)))
theorem log2_small {x : Int} {b : Nat} (hb : b ≤ 9000) (h0 : x ≠ 0) (hx : x.natAbs < 2 ^ b) : x.natAbs.log2 < 9000 :=
  Nat.lt_of_lt_of_le ((Nat.log2_lt (by omega)).mpr hx) hb

section
variable {prog : Program} {w : World} {A : Around} {E : Value → Shared → Prop} {s₀ s : Shared} {hb : Heap} {env : Env} {m cm mg mb : Str → Option Value} {Q : Value → Shared → Prop} {f : Addr}

theorem at2 {x y z : Str} {p1 p2 p3 p4 p5 : Pos} {pa : Addr} {rs : List Addr} {n i j : Nat} {M : Nat → Nat → Int} {t u : Tok} (F : Fm s₀ hb env m cm s) (hx : m x = some (.ref pa)) (hy : m y = some (.int i t)) (hz : m z = some (.int j u))
    (hl : hb.IsList pa (rs.map Value.ref).toArray) (hM : Mat hb rs n M) (hi : i < n) (hj : j < n) (hn : n < 2 ^ 20) (h : ∀ t, Q (.int (M i j) t) s)
    (h1 : env.kindOf x = some .local := by rfl) (h2 : env.kindOf y = some .local := by rfl) (h3 : env.kindOf z = some .local := by rfl)
    (d1 : (x == ("__debug__" : Str)) = false := by decide) (d2 : (y == ("__debug__" : Str)) = false := by decide) (d3 : (z == ("__debug__" : Str)) = false := by decide) :
    wpAny (model prog w) A (eval (.Subscript (.Subscript (.Name x p1) (.Name y p2) p3) (.Name z p4) p5) env) Q E s := by
  obtain ⟨r, hr, vs, hvl, hvn, hv⟩ := hM.row i hi
  obtain ⟨t3, hv⟩ := hv j hj
  exact Subscript_ (Subscript_ (ld F hx (ld F hy (rlistAt F hl (by omega) (by omega) (by rw [Int.toNat_natCast, List.getElem?_map, hr]; rfl)
    (ld F hz (rlistAt F hvl (by omega) (by omega) (by rw [Int.toNat_natCast]; exact hv) (h t3)) h3 d3)) h2 d2) h1 d1))

theorem bareiss_c {pa : Addr} {rs : List Addr} {n step b : Nat} {M : Nat → Nat → Int} {ahead : Int} {t t' : Tok} (hf : IsFn s.heap f 4) (G : Gl mg mb s.heap) (Rm : Room 1 A)
    (hl : s.heap.IsList pa (rs.map Value.ref).toArray) (hpa : pa ∉ rs) (hM : Mat s.heap rs n M) (hn : n < 2 ^ 20) (hst : step < n) (hb' : b ≤ 4000) (hB : ∀ i j, i < n → j < n → (M i j).natAbs < 2 ^ b)
    (ha0 : ahead ≠ 0) (haB : ahead.natAbs < 2 ^ b)
    (h : ∀ s', Sm s s' → (∀ b o, b ∉ rs → s.heap.get? b = some o → s'.heap.get? b = some o) → Mat s'.heap rs n (stepM M step ahead) → Q .none s') :
    wpAny (model prog w) A (call (.ref f) [.ref pa, .int step t, .int ahead t']) Q E s := by
  have hlen := hM.len
  obtain ⟨h₀, hr1, hr2⟩ := removed s.heap rs
  refine enter_plain (k := 0) (binds := [("a", .ref pa), ("step", .int step t), ("ahead", .int ahead t')]) hf G Rm rfl (fun _ _ _ => rfl) (locs rfl) (fun L cd A' s' R' F => ?_)
  have notl : ∀ b o, NonList o → s.heap.get? b = some o → b ∉ rs := fun b o hn e hm => by
    obtain ⟨i, hi, hib⟩ := List.getElem_of_mem hm
    obtain ⟨a, ha, vs, ⟨o', ho', hc', n', hd'⟩, _⟩ := hM.row i (by omega)
    rw [List.getElem?_eq_getElem hi, hib] at ha
    cases ha
    rw [e] at ho'; cases ho'
    exact hn _ _ hd' hc'
  have G0 : Gl mg mb h₀ := G.nl fun b o hn e => hr2 b o (notl b o hn e) e
  have F0 : Fm { s with heap := h₀ } s'.heap (envOf _ _ L f cd) _ _ s' := ⟨F.fk, F.gl, F.bl, F.ns, F.cell, Sm.on F.sm h₀, fun b o e => F.keep b o (hr1 b o e).2, .refl _, get_none_mono (fun b o e => (hr1 b o e).2) F.new⟩
  have hl1 := IsList.sq hl F.sq
  have hM1 := hM.sq F.sq
  have hn0 : ∀ r ∈ rs, h₀.get? r = none := fun r hr => by
    cases q : h₀.get? r with
    | none => rfl
    | some o => exact absurd hr (hr1 r o q).1
  clear F
  refine wpAny_execs_cons (wpAny_Assign_Name (at2 F0 rfl rfl rfl hl1 hM1 hst hst hn fun t1 => st F0 fun s1 F => ?_))
  have hl1 := IsList.sq hl1 F.stb.sq
  have hM1 := hM1.sq F.stb.sq
  have F := F.base
  refine wpAny_execs_cons (wpAny_For (call_typ F G0 (by decide) boot_range (args_cons (wpAny_BinOp (ld F rfl (rint F fun t2 s2 F => radd_ F fun t3 s3 F => args_cons (call_blt F G0 (by decide) boot_len (args_cons (ld F rfl (args_nil ?_))))))))))
  refine rlen F hl1 (by simp; omega) fun t1 s4 F => args_nil ?_
  refine rrange2 (n := n - (step + 1)) (by omega) (by omega) (by simp; omega) fun I s5 q e hI it => ?_
  have hI0 := F.fresh hI
  have sq5 := F.stb.sq.trans (Stab.of_ext e).sq
  have F := F.ext q e
  refine for_range R'.hh F it hI0 s4.heap hI e (fun k m h => m "a" = some (.ref pa) ∧ m "step" = some (.int step t) ∧ m "ahead" = some (.int ahead t') ∧ (∃ t, m "lead" = some (.int (M step step) t)) ∧
      h.IsList pa (rs.map Value.ref).toArray ∧ Mat h rs n (rowM M step ahead (step + 1 + k)))
    (fun k m h h' ⟨i1, i2, i3, i4, i5, i6⟩ sq => ⟨i1, i2, i3, i4, IsList.sq i5 sq, i6.sq sq⟩)
    ⟨rfl, rfl, rfl, ⟨_, rfl⟩, IsList.sq hl1 sq5, (hM1.sq sq5).congr fun i j hi hj => by rw [rowM]; split; (rw [stepM, if_neg (by omega)]); rfl⟩ ?_ ?_
  · rintro k m s6 t6 hk _ hInv F
    refine hide fun K E1 hK => ?_
    obtain ⟨i1, i2, i3, ⟨tl, i4⟩, i5, i6⟩ := hInv
    have ek : ((step : Int) + 1 + (k : Int) * 1) = ((step + 1 + k : Nat) : Int) := by omega
    rw [ek] at F
    refine wpAny_execs_cons (wpAny_Assign_Name (at2 F i1 rfl i2 i5 i6 (by omega) hst hn fun t7 => st F fun s7 F => ?_))
    rw [rowM, if_neg (by omega)] at F
    have i5' := IsList.sq i5 F.stb.sq
    have i6' := i6.sq F.stb.sq
    have kk := F.stb.it
    have F := F.base
    refine wpAny_execs_cons (wpAny_For (call_typ F G0 (by decide) boot_range (args_cons (wpAny_BinOp (ld F i2 (rint F fun t2 s8 F => radd_ F fun t3 s9 F => args_cons (call_blt F G0 (by decide) boot_len (args_cons (ld F i1 (args_nil ?_))))))))))
    refine rlen F i5' (by simp; omega) fun t1 s10 F => args_nil ?_
    refine rrange2 (n := n - (step + 1)) (by omega) (by omega) (by simp; omega) fun I2 s11 q e hI2 it2 => ?_
    have hI2' := F.fresh hI2
    have sq11 := F.stb.sq.trans (Stab.of_ext e).sq
    have kk := kk.trans F.stb.it
    have F := F.ext q e
    refine for_range R'.hh F it2 hI2' s10.heap hI2 e (fun c m h => m "a" = some (.ref pa) ∧ m "step" = some (.int step t) ∧ m "ahead" = some (.int ahead t') ∧ (∃ t, m "lead" = some (.int (M step step) t)) ∧
        (∃ t, m "row" = some (.int ((step + 1 + k : Nat) : Int) t)) ∧ (∃ t, m "first" = some (.int (M (step + 1 + k) step) t)) ∧
        h.IsList pa (rs.map Value.ref).toArray ∧ Mat h rs n (cellM M step ahead (step + 1 + k) (step + 1 + c)))
      (fun k m h h' ⟨i1, i2, i3, i4, i7, i8, i5, i6⟩ sq => ⟨i1, i2, i3, i4, i7, i8, IsList.sq i5 sq, i6.sq sq⟩)
      ⟨i1, i2, i3, ⟨tl, i4⟩, ⟨_, rfl⟩, ⟨_, rfl⟩, IsList.sq i5' sq11, (i6'.sq sq11).congr fun i j hi hj => by rw [cellM, if_neg (by omega), rowM]⟩ ?_ ?_
    · rintro c m s12 t12 hc _ hInv F
      refine hide fun K E1 hK => ?_
      obtain ⟨i1, i2, i3, ⟨tl, i4⟩, ⟨tr, i7⟩, ⟨tf, i8⟩, i5, i6⟩ := hInv
      have ec : ((step : Int) + 1 + (c : Int) * 1) = ((step + 1 + c : Nat) : Int) := by omega
      rw [ec] at F
      have b1 := hB (step + 1 + k) (step + 1 + c) (by omega) (by omega)
      have b2 := hB step (step + 1 + c) (by omega) (by omega)
      have b3 := hB (step + 1 + k) step (by omega) (by omega)
      have b4 := hB step step (by omega) (by omega)
      refine wpAny_execs_cons (wpAny_Assign_Subscript (wpAny_BinOp (wpAny_BinOp (wpAny_BinOp (at2 F i1 i7 rfl i5 i6 (by omega) (by omega) hn fun t13 => ld F i4 ?_)))))
      rw [cellM, if_neg (by omega), if_neg (by omega)]
      refine rmul_ F (mulOk (b := b) (by omega) b1 b4) fun t14 s13 F => wpAny_BinOp (ld F i8 (at2 F i1 i2 rfl i5 i6 (by omega) (by omega) hn fun t15 => ?_))
      rw [cellM, if_neg (by omega), if_pos (by omega), show stepM M step ahead step (step + 1 + c) = M step (step + 1 + c) from by rw [stepM, if_neg (by omega)]]
      refine rmul_ F (mulOk (b := b) (by omega) b3 b2) fun t16 s14 F => rsub_ F fun t17 s15 F => ld F i3 (rdiv_ F ha0 (log2_small (b := b) (by omega) ha0 haB) fun t18 s16 F => ?_)
      obtain ⟨r, hr, vs, hvl, hvn, hv⟩ := i6.row (step + 1 + k) (by omega)
      refine Subscript_ (ld F i1 (ld F i7 (rlistAt F i5 (by omega) (by omega) (by rw [Int.toNat_natCast, List.getElem?_map, hr]; rfl) (ld F rfl ?_))))
      have hvl' := IsList.sq hvl F.stb.sq
      have i6' := i6.sq F.stb.sq
      refine rset F hvl' (hn0 r (List.mem_of_getElem? hr)) (by omega) (by omega) (by omega) (fun s17 F' but hl17 => ?_)
      rw [Int.toNat_natCast] at hl17
      refine wpAny_execs_nil (hK _ _ ⟨_, _, F', F.stb.it.trans (but.it hvl'), i1, i2, i3, ⟨_, i4⟩, ⟨_, i7⟩, ⟨_, i8⟩, but.lst (IsList.sq i5 F.stb.sq) (fun q => hpa (q ▸ List.mem_of_getElem? hr)),
        (i6'.set (by omega) hr hvn hv but hl17).congr fun i' j' hi' hj' => ?_⟩)
      unfold cellM
      by_cases e1 : i' = step + 1 + k
      · by_cases e2 : j' = step + 1 + c
        · subst e1 e2
          rw [if_pos ⟨rfl, rfl⟩, if_pos ⟨rfl, by omega, by omega⟩, stepM, if_pos (by omega), if_pos (by omega)]
        · rw [if_neg (by omega)]
          by_cases e3 : step < j' ∧ j' < step + 1 + c
          · rw [if_pos ⟨e1, e3⟩, if_pos ⟨e1, e3.1, by omega⟩]
          · rw [if_neg (by omega), if_neg (c := i' = step + 1 + k ∧ _) (by omega)]
      · rw [if_neg (by omega), if_neg (by omega), if_neg (c := i' = step + 1 + k ∧ _) (by omega)]
    · rintro m s12 hit ⟨i1, i2, i3, ⟨tl, i4⟩, ⟨tr, i7⟩, ⟨tf, i8⟩, i5, i6⟩ F
      have kk := kk.trans hit
      refine wpAny_execs_cons (wpAny_Assign_Subscript (rint F fun t13 s13 F => ?_))
      obtain ⟨r, hr, vs, hvl, hvn, hv⟩ := i6.row (step + 1 + k) (by omega)
      refine Subscript_ (ld F i1 (ld F i7 (rlistAt F i5 (by omega) (by omega) (by rw [Int.toNat_natCast, List.getElem?_map, hr]; rfl) (ld F i2 ?_))))
      have hvl' := IsList.sq hvl F.stb.sq
      refine rset F hvl' (hn0 r (List.mem_of_getElem? hr)) (by omega) (by omega) (by omega) (fun s17 F' but hl17 => ?_)
      rw [Int.toNat_natCast] at hl17
      refine wpAny_execs_nil (hK _ _ ⟨_, _, F', (kk.trans F.stb.it).trans (but.it hvl'), i1, i2, i3, ⟨_, i4⟩, but.lst (IsList.sq i5 F.stb.sq) (fun q => hpa (q ▸ List.mem_of_getElem? hr)),
        ((i6.sq F.stb.sq).set (by omega) hr hvn hv but hl17).congr fun i' j' hi' hj' => ?_⟩)
      unfold cellM rowM
      by_cases e1 : i' = step + 1 + k
      · subst e1
        by_cases e2 : j' = step
        · subst e2
          rw [if_pos ⟨rfl, rfl⟩, if_pos (by omega), stepM, if_pos (by omega), if_neg (by omega), if_pos rfl]
        · rw [if_neg (by omega)]
          by_cases e3 : step < j'
          · rw [if_pos ⟨rfl, e3, by omega⟩, if_pos (by omega)]
          · rw [if_neg (c := _ ∧ _) (by omega), if_neg (by omega), if_pos (by omega), stepM, if_pos (by omega), if_neg e3, if_neg e2]
      · rw [if_neg (by omega), if_neg (by omega)]
        by_cases e4 : i' < step + 1 + k
        · rw [if_pos e4, if_pos (by omega)]
        · rw [if_neg e4, if_neg (by omega)]
  · rintro m s6 _ ⟨i1, i2, i3, i4, i5, i6⟩ F
    refine wpAny_execs_nil (h _ ?_ (fun b o hb e => F.keep _ _ (hr2 b o hb e)) (i6.congr fun i j hi hj => by rw [rowM, if_pos (by omega)]))
    exact Sm.off F.sm
end
end Mine

namespace Mine

section
variable {prog : Program} {w : World} {A : Around} {E : Value → Shared → Prop} {s₀ s : Shared} {hb : Heap} {env : Env} {m cm mg mb : Str → Option Value} {Q : Value → Shared → Prop} {f : Addr}

/-- target a local name, no cells of its own, the list told whole -/
theorem comp_localJ {s₁ s₂ : Shared} {elt iter : Expr} {x : Str} {px : Pos} {scope : Scope} {pos : Pos} {cl : List (Str × Addr)} {I : Addr} {n : Nat} {P : Nat → Value → Prop} {St : Nat → Heap → Prop}
    (q12 : Sm s₁ s₂) (e12 : Ext s₁.heap s₂.heap) (F : Fm s₀ hb env m cm s₁)
    (S : Src prog w A s₁.heap I n P St) (st0 : St 0 s₂.heap) (hsz : n ≤ sizeLine)
    (J : Addr → Nat → List Value → Heap → Prop)
    (mono : ∀ D zs k ys h h', J D k ys h → h.IsList D zs → SeqsBut D h h' → J D k ys h')
    (init : ∀ D h, J D 0 [] h)
    (helt : ∀ C D k ys s v m, k < n → P k v → J D k ys s.heap → s.heap.IsList D ys.toArray → ys.length = k → s₁.heap.get? D = none →
      Fm s₁ s.heap (compEnvC scope cl C env) m cm s → m x = some v →
      ∀ E', wpAny (model prog w) A (eval elt (compEnvC scope cl C env)) (fun y s' => ∃ m', Fm s₁ s.heap (compEnvC scope cl C env) m' cm s' ∧ J D (k + 1) (ys ++ [y]) s'.heap) E' s)
    (fin : ∀ D (ys : List Value) s', Sm s₁ s' → Ext s₁.heap s'.heap → s₁.heap.get? D = none → s'.heap.IsList D ys.toArray → ys.length = n → J D n ys s'.heap → Q (.ref D) s')
    (hown : ∀ C, cellsFrom (C + 1) scope.names cl = cl := by intro _; rfl) (hcl : LSub env.cells cl)
    (hx : ∀ C, (compEnvC scope cl C env).kindOf x = some .local := by intro _; rfl) (hk : scope.kind = .function := by rfl)
    (ht : ∀ v, letOwnedTupleGo (.Name x px) (.ref I) v = pure () := by intro _; rfl) :
    wpAny (model prog w) A (newList []) (fun acc s₃ => wpAny (model prog w) A (newFunctionEnv scope env.globals cl [] env.qual none .none (some env)) (fun cenv s₄ =>
      codeAny (model prog w) A (.compStart (.ListComp elt [⟨.Name x px, iter, [], 0⟩] scope pos) 0 (.ref I) acc { cenv with scope := relabel scope env })
        (compPost (model prog w) A E none Q acc cenv.locals) s₄) E s₃) E s₂ := by
  refine comp_rule q12 e12 F.gl F.bl S st0 hsz hk (fun C m c => c = cm) cm ?_ J (fun v m _ => m x = some v) mono (fun D h _ _ => init D h) ?_ (fun _ => rfl) ?_ fin ht
  · intro C h e _ y c q
    rw [hown] at q
    exact (F.cell y c (lookup_sub hcl y c q)).keeps e
  · rintro C s m c v hb' F' rfl hC hC' E'
    refine wpAny_assign_Name (Mine.st F' (fun s' F' => ⟨_, _, F', rfl, by simp⟩) (by rw [hown]; exact hx C))
  · rintro C D k ys s v m c hk hP hJ hl hlen hD F' rfl hm E'
    rw [hown] at F' ⊢
    refine wpAny_mono (helt C D k ys s v m hk hP hJ hl hlen hD F' hm E') (fun y s' hs => ?_) fun _ _ e => e
    obtain ⟨m', F'', hT'⟩ := hs
    exact ⟨m', _, F'', rfl, hT'⟩

theorem ListComp1_ {elt target iter t1 : Expr} {scope : Scope} {pos : Pos} {cl : List (Str × Addr)} {s : Shared}
    (h : wpAny (model prog w) A (eval iter env) (fun x s₁ => wpAny (model prog w) A (pyIter x) (fun it s₂ => wpAny (model prog w) A (newList []) (fun acc s₃ =>
      wpAny (model prog w) A (newFunctionEnv scope env.globals cl [] env.qual none .none (some env)) (fun cenv s₄ =>
        codeAny (model prog w) A (.compStart (.ListComp elt [⟨target, iter, [t1], 0⟩] scope pos) 0 it acc { cenv with scope := relabel scope env }) (compPost (model prog w) A E none Q acc cenv.locals) s₄) E s₃) E s₂) E s₁) E s)
    (hclos : closureFor scope env = pure cl := by rfl) (hkind : scope.kind = .function := by rfl) (hnames : ∀ x ∈ scope.names, x.2 = .local → scope.names.lookup x.1 = some .local := by decide)
    (hs : ∀ x, foldedSetIterable iter env x = pure x := by intro _; rfl) :
    wpAny (model prog w) A (eval (.ListComp elt [⟨target, iter, [t1], 0⟩] scope pos) env) Q E s := by
  rw [eval_ListComp]
  exact wpAny_comprehension_free (use := none) rfl hs hclos hkind hnames h

/-- one test, never true: the empty list -/
theorem comp_none {s₁ s₂ : Shared} {elt iter t1 : Expr} {x : Str} {px : Pos} {scope : Scope} {pos : Pos} {cl : List (Str × Addr)} {I : Addr} {n : Nat} {P : Nat → Value → Prop} {St : Nat → Heap → Prop}
    (q12 : Sm s₁ s₂) (e12 : Ext s₁.heap s₂.heap) (F : Fm s₀ hb env m cm s₁)
    (S : Src prog w A s₁.heap I n P St) (st0 : St 0 s₂.heap)
    (htest : ∀ C k s v m, k < n → P k v → Fm s₁ s.heap (compEnvC scope cl C env) m cm s → m x = some v → ∀ E',
      wpAny (model prog w) A (isTrue t1 (compEnvC scope cl C env) (eval t1 (compEnvC scope cl C env))) (fun b s' => b = false ∧ ∃ m', Fm s₁ s.heap (compEnvC scope cl C env) m' cm s') E' s)
    (fin : ∀ D s', Sm s₁ s' → Ext s₁.heap s'.heap → s₁.heap.get? D = none → s'.heap.IsList D ([] : List Value).toArray → Q (.ref D) s')
    (hown : ∀ C, cellsFrom (C + 1) scope.names cl = cl := by intro _; rfl) (hcl : LSub env.cells cl)
    (hx : ∀ C, (compEnvC scope cl C env).kindOf x = some .local := by intro _; rfl) (hk : scope.kind = .function := by rfl)
    (ht : ∀ v, letOwnedTupleGo (.Name x px) (.ref I) v = pure () := by intro _; rfl) :
    wpAny (model prog w) A (newList []) (fun acc s₃ => wpAny (model prog w) A (newFunctionEnv scope env.globals cl [] env.qual none .none (some env)) (fun cenv s₄ =>
      codeAny (model prog w) A (.compStart (.ListComp elt [⟨.Name x px, iter, [t1], 0⟩] scope pos) 0 (.ref I) acc { cenv with scope := relabel scope env })
        (compPost (model prog w) A E none Q acc cenv.locals) s₄) E s₃) E s₂ := by
  obtain ⟨fp, W, hfp⟩ := S.W
  refine wpAny_newObj_type (newCompEnv ?_)
  dsimp only
  rw [hown]
  generalize hD : s₂.heap.objs.size = D
  generalize hH : s₂.heap.push { cls := .type "list", dict := none, data := .seq ([] : List Value).toArray } = H
  generalize hC : H.objs.size = C
  have eH : Ext s₂.heap H := by rw [← hH]; exact Ext.push _ _
  have hDH : H.IsList D #[] := ⟨_, by rw [← hH, ← hD]; exact Heap.get?_push_size _ rfl, rfl, _, rfl⟩
  have hD₂ : s₂.heap.get? D = none := Heap.get?_none_of_le (by rw [hD]; exact Nat.le_refl _)
  have hD₁ : s₁.heap.get? D = none := get_none_mono e12 hD₂
  have hC₁ : s₁.heap.get? C = none := get_none_mono (e12.trans eH) (Heap.get?_none_of_le (by rw [hC]; exact Nat.le_refl _))
  generalize hK : pushCells (H.push { cls := .type "dict", data := .dict #[] }) scope.names = K
  have eK : Ext (H.push { cls := .type "dict", data := .dict #[] }) K := by rw [← hK]; exact pushCells_keeps _ _
  have eHK : Ext H K := (Ext.push _ _).trans eK
  have F0 : Fm s₁ K (compEnvC scope cl C env) (fun _ => none) cm { s₂ with heap := K } :=
    ⟨hk, F.gl, F.bl, Heap.Ns.keeps (by have := Heap.Ns.new H (.type "dict"); rw [hC] at this; exact this) eK, fun x c q => (F.cell x c (lookup_sub hcl x c q)).keeps (e12.trans (eH.trans eHK)),
      q12.trans ⟨K, s₂.toks, rfl⟩, e12.trans (eH.trans eHK), .refl _, hC₁⟩
  show codeAny (model prog w) A (.compStart (.ListComp elt [⟨.Name x px, iter, [t1], 0⟩] scope pos) 0 (.ref I) (.ref D) (compEnvC scope cl C env)) _ _
  have loop : codeAny (model prog w) A (.compLoop (.ListComp elt [⟨.Name x px, iter, [t1], 0⟩] scope pos) 0 (.ref I) (.ref D) (compEnvC scope cl C env))
      (compPost (model prog w) A E none Q (.ref D) C) { s₂ with heap := K } := by
    refine codeAny_compLoop_tests (fun q s' => ∃ k m hb', Fm s₁ hb' (compEnvC scope cl C env) m cm s' ∧ s'.heap.IsList D #[] ∧ St k s'.heap ∧ k ≤ n ∧ q = n + 1 - k) ?_ (n + 1)
      ⟨0, _, _, F0, IsList.sq hDH (Stab.of_ext eHK).sq, S.lst _ _ st0 _ (fun b o _ e => eHK _ _ (eH _ _ e)), Nat.zero_le _, rfl⟩ ht
    rintro q s' ⟨k, m, hb', F, hl, stk, hkn, rfl⟩
    obtain ⟨oI, xsI, hIo, hId⟩ := S.fld _ _ stk
    have fm : ∀ {h'} {tk : Nat}, (∀ b o, b ∉ [I] → s'.heap.get? b = some o → h'.get? b = some o) → Fm s₁ h' (compEnvC scope cl C env) m cm { s' with heap := h', toks := tk } ∧ Seqs s'.heap h' := fun {h' tk} hk' => by
      have hbut : But I s'.heap h' := fun b o hb e => hk' b o (by simpa using hb) e
      exact ⟨(F.base.rebase (h := hE) (fun b o e => by rw [none_at] at e; cases e)).mut (l := I) hIo (Solid.fields hId) S.new (none_at _) ⟨h', tk, rfl⟩ hbut |>.base, seqs_of_but hbut hIo hId⟩
    by_cases hlt : k < n
    · refine W.item k _ _ _ hlt stk fun v h₁ tk₁ hP st₁ hk₁ => ?_
      obtain ⟨F₁, sq₁⟩ := fm (tk := tk₁) hk₁
      refine wpAny_assign_Name (Mine.st F₁ (fun s₂' F₂ => ?_) (hx C))
      rw [List.forIn_cons]
      simp only [if_true, List.forIn_nil]
      refine wpAny_bind (wpAny_bind (wpAny_mono (htest C k s₂' v _ hlt hP F₂.base (by simp) _) (fun b s₃' hs => ?_) fun _ _ e => e))
      obtain ⟨rfl, m', F₃⟩ := hs
      refine wpAny_pure (wpAny_pure ?_)
      have st₃ := S.lst _ _ (S.lst _ _ st₁ _ fun b o t e => F₂.stb b o e t) _ fun b o t e => F₃.stb b o e t
      exact iteN (by decide) ⟨n + 1 - (k + 1), by omega, k + 1, m', _, F₃, IsList.sq hl (sq₁.trans (F₂.stb.sq.trans F₃.stb.sq)), st₃, hlt, rfl⟩
    · have hkn' : k = n := by omega
      subst hkn'
      refine W.done _ _ _ stk fun h₁ tk₁ hk₁ => ?_
      obtain ⟨F₁, sq₁⟩ := fm (tk := tk₁) hk₁
      refine ⟨m, F₁.ns, fun h' hs' => ?_⟩
      have sqC : Seqs h₁ h' := fun b o xs n' e d => (hs'.2 b (Ns.solid F₁.ns e (Solid.seq d))).trans e
      exact fin D _ (F₁.sm.trans ⟨h', tk₁, rfl⟩) (fun b o e => (hs'.2 b (by rintro rfl; rw [hC₁] at e; cases e)).trans (F₁.keep b o e)) hD₁ (IsList.sq hl (sq₁.trans sqC))
  have hst : St 0 ({ s₂ with heap := K } : Shared).heap := S.lst _ _ st0 _ (fun b o _ e => eHK _ _ (eH _ _ e))
  exact codeAny_compStart_list loop (W.self 0 _ _ _ hst loop)
end
end Mine

namespace Mine

def swapM (M : Nat → Nat → Int) (r step : Nat) : Nat → Nat → Int := fun i j => if i = r then M step j else if i = step then M r j else M i j
def detLoop (n : Nat) : Nat → Nat → (Nat → Nat → Int) → Int → Int → Int
  | 0, _, _, sg, ah => sg * ah
  | c + 1, step, M, sg, ah => match pivotFrom M step step (n - step) with
    | none => 0
    | some r => detLoop n c (step + 1) (stepM (swapM M r step) step ah) (if r = step then sg else -sg) (swapM M r step step step)
def detP (n : Nat) (M : Nat → Nat → Int) : Int := detLoop n n 0 M 1 1
def bb (b : Nat) : Nat → Nat
  | 0 => b
  | k + 1 => 2 * bb b k + 1
theorem bb_mono (b : Nat) : ∀ {k n : Nat}, k ≤ n → bb b k ≤ bb b n := by
  intro k n h
  induction n with
  | zero => rw [Nat.le_zero.mp h]; exact Nat.le_refl _
  | succ n ih =>
    rcases Nat.lt_or_eq_of_le h with h | h
    · have := ih (Nat.le_of_lt_succ h); rw [bb]; omega
    · rw [h]; exact Nat.le_refl _
theorem pivotFrom_some {M : Nat → Nat → Int} {step r : Nat} : ∀ {c i : Nat}, pivotFrom M step i c = some r → i ≤ r ∧ r < i + c ∧ M r step ≠ 0
  | 0, _, h => by cases h
  | c + 1, i, h => by
    rw [pivotFrom] at h
    split at h
    · cases h; exact ⟨Nat.le_refl _, by omega, by assumption⟩
    · have := pivotFrom_some h; exact ⟨by omega, by omega, this.2.2⟩
theorem stepM_bound {M : Nat → Nat → Int} {n step b : Nat} {ah : Int} (hst : step < n) (hB : ∀ i j, i < n → j < n → (M i j).natAbs < 2 ^ b) :
    ∀ i j, i < n → j < n → (stepM M step ah i j).natAbs < 2 ^ (2 * b + 1) := by
  intro i j hi hj
  have up : ∀ x : Int, x.natAbs < 2 ^ b → x.natAbs < 2 ^ (2 * b + 1) := fun x hx => Nat.lt_of_lt_of_le hx (Nat.pow_le_pow_right (by decide) (by omega))
  unfold stepM
  split
  · split
    · refine Nat.lt_of_le_of_lt (Int.natAbs_fdiv_le_natAbs _ _) ?_
      have h1 : (M i j * M step step).natAbs < 2 ^ b * 2 ^ b := by
        rw [Int.natAbs_mul]; exact Nat.mul_lt_mul'' (hB _ _ hi hj) (hB _ _ hst hst)
      have h2 : (M i step * M step j).natAbs < 2 ^ b * 2 ^ b := by
        rw [Int.natAbs_mul]; exact Nat.mul_lt_mul'' (hB _ _ hi hst) (hB _ _ hst hj)
      have e : (2 : Nat) ^ (2 * b + 1) = 2 * (2 ^ b * 2 ^ b) := by rw [Nat.pow_succ, Nat.two_mul, Nat.pow_add]; omega
      rw [e]; omega
    · split
      · exact Nat.pow_pos (by decide)
      · exact up _ (hB _ _ hi hj)
  · exact up _ (hB _ _ hi hj)
theorem swapM_bound {M : Nat → Nat → Int} {n r step b : Nat} (hr : r < n) (hst : step < n) (hB : ∀ i j, i < n → j < n → (M i j).natAbs < 2 ^ b) :
    ∀ i j, i < n → j < n → (swapM M r step i j).natAbs < 2 ^ b := by
  intro i j hi hj
  unfold swapM
  split
  · exact hB _ _ hst hj
  · split
    · exact hB _ _ hr hj
    · exact hB _ _ hi hj

def swapL (rs : List Addr) (r step : Nat) (a b : Addr) : List Addr := (rs.set r b).set step a
theorem Mat.swap {h : Heap} {rs : List Addr} {n r step : Nat} {M : Nat → Nat → Int} {a b : Addr} (x : Mat h rs n M) (hr : r < n) (hs : step < n) (hne : r ≠ step) (ha : rs[r]? = some a) (hb : rs[step]? = some b) :
    Mat h (swapL rs r step a b) n (swapM M r step) := by
  have hl := x.len
  have get : ∀ i, i < n → (swapL rs r step a b)[i]? = if i = step then some a else if i = r then some b else rs[i]? := fun i hi => by
    unfold swapL
    by_cases e1 : i = step
    · subst e1; rw [if_pos rfl, List.getElem?_set_self (by simp; omega)]
    · rw [if_neg e1, List.getElem?_set_ne (Ne.symm e1)]
      by_cases e2 : i = r
      · subst e2; rw [if_pos rfl, List.getElem?_set_self (by omega)]
      · rw [if_neg e2, List.getElem?_set_ne (Ne.symm e2)]
  have inj : ∀ i j, i < n → rs[i]? = rs[j]? → i = j := fun i j hi e => (List.getElem?_inj (by omega) x.nd).mp e
  refine ⟨by simp [swapL, hl], ?_, fun i hi => ?_⟩
  · rw [List.nodup_iff_pairwise_ne, List.pairwise_iff_getElem]
    intro i j hi hj hij e
    have hi' : i < n := by simpa [swapL, hl] using hi
    have hj' : j < n := by simpa [swapL, hl] using hj
    have e' : (swapL rs r step a b)[i]? = (swapL rs r step a b)[j]? := by rw [List.getElem?_eq_getElem hi, List.getElem?_eq_getElem hj, e]
    rw [get i hi', get j hj'] at e'
    have q : ∀ u v, u < n → v < n → u ≠ v → rs[u]? ≠ rs[v]? := fun u v hu hv hn e => hn (inj u v hu e)
    rw [← ha, ← hb] at e'
    by_cases i1 : i = step
    · have j1 : j ≠ step := by omega
      rw [if_pos i1, if_neg j1] at e'
      split at e'
      · exact q _ _ hr hs hne e'
      · rename_i j2; exact q _ _ hr hj' (Ne.symm j2) e'
    · rw [if_neg i1] at e'
      by_cases i2 : i = r
      · rw [if_pos i2] at e'
        split at e'
        · exact q _ _ hs hr (Ne.symm hne) e'
        · rename_i j1
          rw [if_neg (by omega)] at e'
          exact q _ _ hs hj' (Ne.symm j1) e'
      · rw [if_neg i2] at e'
        split at e'
        · exact q _ _ hi' hr i2 e'
        · split at e'
          · exact q _ _ hi' hs i1 e'
          · exact q _ _ hi' hj' (by omega) e'
  · rw [get i hi]
    unfold swapM
    by_cases e1 : i = step
    · obtain ⟨c, hc, y⟩ := x.row r hr
      rw [ha] at hc; cases hc
      rw [if_pos e1]
      exact ⟨a, rfl, y.congr fun j hj => by rw [if_neg (by omega), if_pos e1]⟩
    · rw [if_neg e1]
      by_cases e2 : i = r
      · obtain ⟨c, hc, y⟩ := x.row step hs
        rw [hb] at hc; cases hc
        rw [if_pos e2]
        exact ⟨b, rfl, y.congr fun j hj => by rw [if_pos e2]⟩
      · obtain ⟨c, hc, y⟩ := x.row i hi
        rw [if_neg e2]
        exact ⟨c, hc, y.congr fun j hj => by rw [if_neg e2, if_neg e1]⟩
theorem mem_swapL {rs : List Addr} {r step : Nat} {a b c : Addr} (ha : rs[r]? = some a) (hb : rs[step]? = some b) (h : c ∈ swapL rs r step a b) : c ∈ rs := by
  unfold swapL at h
  rcases List.mem_or_eq_of_mem_set h with h | h
  · rcases List.mem_or_eq_of_mem_set h with h | h
    · exact h
    · exact h ▸ List.mem_of_getElem? hb
  · exact h ▸ List.mem_of_getElem? ha

section
variable {prog : Program} {w : World} {A : Around} {E : Value → Shared → Prop} {s₀ s : Shared} {hb : Heap} {env : Env} {m cm mg mb : Str → Option Value} {f : Addr}

theorem Fm.mutR {s' : Shared} {R : List Addr} (F : Fm s₀ hb env m cm s) (hR : ∀ r ∈ R, ∃ xs, s.heap.IsList r xs) (hn : ∀ r ∈ R, s₀.heap.get? r = none)
    (q : Sm s s') (hs : ∀ b o, b ∉ R → s.heap.get? b = some o → s'.heap.get? b = some o) : Fm s₀ s'.heap env m cm s' := by
  have nr : ∀ b o, s.heap.get? b = some o → NonList o → b ∉ R := fun b o e t hm => by
    obtain ⟨xs, o', ho', hc, n, hd⟩ := hR b hm
    rw [e] at ho'; cases ho'; exact t _ _ hd hc
  exact ⟨F.fk, F.gl, F.bl, let ⟨o', es, ep, a, b, r⟩ := F.ns; ⟨o', es, ep, hs _ _ (nr _ _ a fun xs n e => by rw [b] at e; cases e) a, b, r⟩,
    fun n c e => let ⟨o', a, b⟩ := F.cell n c e; ⟨o', hs _ _ (nr _ _ a fun xs n e => by rw [b] at e; cases e) a, b⟩, F.sm.trans q,
    fun b o e => hs _ _ (fun hm => by rw [hn b hm] at e; cases e) (F.keep b o e), .refl _, F.new⟩
theorem iters_of_R {s' : Shared} {R : List Addr} (hR : ∀ r ∈ R, ∃ xs, s.heap.IsList r xs) (hs : ∀ b o, b ∉ R → s.heap.get? b = some o → s'.heap.get? b = some o) : Iters s.heap s'.heap :=
  fun b o t d e => hs b o (fun hm => by
    obtain ⟨xs, o', ho', hc, n, hd⟩ := hR b hm
    rw [e] at ho'; cases ho'; exact d _ _ hd) e

theorem asgSub {o i : Expr} {pos : Pos} {v : Value} {Q : Unit → Shared → Prop}
    (h : wpAny (model prog w) A (eval o env) (fun ov s₂ => wpAny (model prog w) A (eval i env) (fun iv s₃ => wpAny (model prog w) A (setItem ov iv v) (fun _ s₄ => Q () s₄) E s₃) E s₂) E s) :
    wpAny (model prog w) A (assign (.Subscript o i pos) env v) Q E s := fun Γ p hΓ => by
  simp only [assign_Subscript, Sem.wp_bind', Sem.wp_holding, Sem.wp_cmd_standAt, Sem.wp_release]
  exact Sem.wp_mono _ Γ _ (fun ov p₂ s₂ h₂ => Sem.wp_mono _ Γ _ (fun iv _ s₃ h₃ => h₃ Γ _ hΓ) (fun _ _ _ h' => h') _ _ (h₂ Γ p₂ hΓ)) (fun _ _ _ h' => h') _ _ (h Γ _ hΓ)

theorem asg3 {x y z : Str} {e1 e2 e3 : Expr} {p1 p2 p3 tp vp pos : Pos} {k k' : Nat} {Q : Flow → Shared → Prop} (hh : A.handled = none)
    (h : wpAny (model prog w) A (eval e1 env) (fun v1 s₁ => wpAny (model prog w) A (eval e2 env) (fun v2 s₂ => wpAny (model prog w) A (eval e3 env) (fun v3 s₃ => ∀ s₄, Sm s₃ s₄ → Ext s₃.heap s₄.heap →
      wpAny (model prog w) A (storeName env z v3) (fun _ s₅ => wpAny (model prog w) A (storeName env y v2) (fun _ s₆ => wpAny (model prog w) A (storeName env x v1) (fun _ => Q .next) E s₆) E s₅) E s₄) E s₂) E s₁) E s)
    (he : starEach [e1, e2, e3] env = [(false, eval e1 env), (false, eval e2 env), (false, eval e3 env)] := by rfl)
    (hs : swapsWithSole [.Tuple [.Name x p1, .Name y p2, .Name z p3] k tp] (.Tuple [e1, e2, e3] k' vp) pos.line env = pure false := by rfl)
    (hw : swappedStores [.Tuple [.Name x p1, .Name y p2, .Name z p3] k tp] (.Tuple [e1, e2, e3] k' vp) env = pure (some [x, y, z]) := by rfl) :
    wpAny (model prog w) A (exec (.Assign [.Tuple [.Name x p1, .Name y p2, .Name z p3] k tp] (.Tuple [e1, e2, e3] k' vp) pos) env) Q E s := by
  refine Assign_Tuple_swapped ?_ hs hw
  refine wpAny_Tuple_spliced ?_
  rw [he]
  refine Calls.spliced_cons (wpAny_mono h (fun v1 s₁ h₁ => Calls.spliced_cons (wpAny_mono h₁ (fun v2 s₂ h₂ => Calls.spliced_cons (wpAny_mono h₂ (fun v3 s₃ h₃ => Calls.spliced_nil ⟨(by show 3 ≤ sizeLine; decide), ?_⟩) fun _ _ x => x)) fun _ _ x => x)) fun _ _ x => x)
  show wpAny _ _ (unpackItems (.ref s₃.heap.objs.size) (#[v1, v2, v3] : Array Value).size none) _ _ _
  refine unpackItems_tuple (items := #[v1, v2, v3]) hh ⟨_, Heap.get?_push_size _ rfl, rfl, _, rfl⟩ fun h' he' => ?_
  have hx : Ext s₃.heap h' := fun b o e => he' b o (by simp only [Heap.size_push]; exact Nat.ne_of_lt (Nat.lt_succ_of_lt (Heap.lt_size e))) (Heap.get?_push_of_some _ e)
  show wpAny _ _ (assignInOrder [bindName env z, bindName env y, bindName env x] [v3, v2, v1]) _ _ _
  refine wpAny_assignInOrder_more (wpAny_bindName (wpAny_mono (h₃ _ ⟨h', s₃.toks, rfl⟩ hx) (fun _ s₄ h₄ => ?_) fun _ _ x => x))
  refine wpAny_assignInOrder_more (wpAny_bindName (wpAny_mono h₄ (fun _ s₅ h₅ => ?_) fun _ _ x => x))
  exact wpAny_assignInOrder_more (wpAny_bindName (wpAny_mono h₅ (fun _ _ q => wpAny_assignInOrder_none q) fun _ _ x => x))

/-- two targets stored in their order -/
theorem asgPair {t1 t2 e1 e2 : Expr} {tp vp pos : Pos} {k k' : Nat} {Q : Flow → Shared → Prop} (hh : A.handled = none)
    (h : wpAny (model prog w) A (eval e1 env) (fun v1 s₁ => wpAny (model prog w) A (eval e2 env) (fun v2 s₂ => ∀ s₃, Sm s₂ s₃ → Ext s₂.heap s₃.heap →
      wpAny (model prog w) A (assign t1 env v1) (fun _ s₄ => wpAny (model prog w) A (assign t2 env v2) (fun _ => Q .next) E s₄) E s₃) E s₁) E s)
    (he : starEach [e1, e2] env = [(false, eval e1 env), (false, eval e2 env)] := by rfl)
    (ha : assignEach [t1, t2] env = [(false, assign t1 env), (false, assign t2 env)] := by rfl)
    (hs : swapsWithSole [.Tuple [t1, t2] k tp] (.Tuple [e1, e2] k' vp) pos.line env = pure false := by rfl)
    (hw : swappedStores [.Tuple [t1, t2] k tp] (.Tuple [e1, e2] k' vp) env = pure none := by rfl) :
    wpAny (model prog w) A (exec (.Assign [.Tuple [t1, t2] k tp] (.Tuple [e1, e2] k' vp) pos) env) Q E s := by
  refine Assign_Tuple ?_ hs hw
  refine wpAny_Tuple_spliced ?_
  rw [he]
  refine Calls.spliced_cons (wpAny_mono h (fun v1 s₁ h₁ => Calls.spliced_cons (wpAny_mono h₁ (fun v2 s₂ h₂ => Calls.spliced_nil ⟨(by show 2 ≤ sizeLine; decide), ?_⟩) fun _ _ x => x)) fun _ _ x => x)
  refine assign_Tuple_tuple (items := #[v1, v2]) hh ⟨_, Heap.get?_push_size _ rfl, rfl, _, rfl⟩ (by rw [ha]; rfl) (by rw [ha]; rfl) fun h' he' => ?_
  have hx : Ext s₂.heap h' := fun b o e => he' b o (by simp only [Heap.size_push]; exact Nat.ne_of_lt (Nat.lt_succ_of_lt (Heap.lt_size e))) (Heap.get?_push_of_some _ e)
  rw [ha]
  show wpAny _ _ (assignInOrder [assign t1 env, assign t2 env] [v1, v2]) _ _ _
  refine wpAny_assignInOrder_more (wpAny_mono (h₂ _ ⟨h', s₂.toks, rfl⟩ hx) (fun _ s₄ h₄ => ?_) fun _ _ x => x)
  exact wpAny_assignInOrder_more (wpAny_mono h₄ (fun _ _ q => wpAny_assignInOrder_none q) fun _ _ x => x)
end
end Mine

namespace Mine

/-- k rows of n ints -/
structure Tb (h : Heap) (rs : List Addr) (k n : Nat) (M : Nat → Nat → Int) : Prop where
  len : rs.length = k
  row : ∀ i, i < k → ∃ a, rs[i]? = some a ∧ RowIs h a n (M i)
theorem Tb.sq {h h' : Heap} {rs : List Addr} {k n : Nat} {M : Nat → Nat → Int} (r : Tb h rs k n M) (e : Seqs h h') : Tb h' rs k n M :=
  ⟨r.len, fun i hi => let ⟨a, x, y⟩ := r.row i hi; ⟨a, x, y.sq e⟩⟩
theorem RowIs.lst {h : Heap} {a : Addr} {n : Nat} {g : Nat → Int} (r : RowIs h a n g) : ∃ xs, h.IsList a xs := let ⟨vs, hl, _⟩ := r; ⟨_, hl⟩
theorem RowIs.some {h : Heap} {a : Addr} {n : Nat} {g : Nat → Int} (r : RowIs h a n g) : h.get? a ≠ none := by
  obtain ⟨vs, ⟨o, ho, _⟩, _⟩ := r
  rw [ho]; exact fun e => nomatch e
theorem RowIs.sqBut {h h' : Heap} {D a : Addr} {n : Nat} {g : Nat → Int} (r : RowIs h a n g) (hn : a ≠ D) (e : SeqsBut D h h') : RowIs h' a n g := by
  obtain ⟨vs, ⟨o, ho, hc, k, hd⟩, x⟩ := r
  exact ⟨vs, ⟨o, e _ _ _ _ hn ho hd, hc, k, hd⟩, x⟩

/-- freshly made rows in a list under D -/
def Rows (h₁ : Heap) (n : Nat) (M : Nat → Nat → Int) (D : Addr) (k : Nat) (ys : List Value) (h : Heap) : Prop :=
  ∃ rs : List Addr, ys = rs.map Value.ref ∧ rs.length = k ∧ rs.Nodup ∧ D ∉ rs ∧ (∀ i a, rs[i]? = some a → RowIs h a n (M i)) ∧ ∀ r ∈ rs, h₁.get? r = none
theorem Rows.mono {h₁ : Heap} {n : Nat} {M : Nat → Nat → Int} {D : Addr} {k : Nat} {ys : List Value} {h h' : Heap} (r : Rows h₁ n M D k ys h) (e : SeqsBut D h h') : Rows h₁ n M D k ys h' :=
  let ⟨rs, a, b, c, d, x, f⟩ := r; ⟨rs, a, b, c, d, fun i a q => (x i a q).sqBut (fun z => d (by rw [← z]; exact List.mem_of_getElem? q)) e, f⟩
theorem Rows.nil {h₁ : Heap} {n : Nat} {M : Nat → Nat → Int} {D : Addr} {h : Heap} : Rows h₁ n M D 0 [] h := ⟨[], rfl, rfl, List.nodup_nil, by simp, fun i a q => by simp at q, fun r hr => by simp at hr⟩
theorem Rows.snoc {h₁ : Heap} {n : Nat} {M : Nat → Nat → Int} {D a : Addr} {k : Nat} {ys : List Value} {h h' : Heap} (r : Rows h₁ n M D k ys h) (e : Seqs h h') (ha : h.get? a = none) (hD : h.get? D ≠ none) (hr : RowIs h' a n (M k)) (h1 : h₁.get? a = none) :
    Rows h₁ n M D (k + 1) (ys ++ [.ref a]) h' := by
  obtain ⟨rs, p1, p2, p3, p4, p5, p6⟩ := r
  have hnot : a ∉ rs := fun hm => by
    obtain ⟨i, hi, q⟩ := List.getElem_of_mem hm
    exact (p5 i a (by rw [List.getElem?_eq_getElem hi, q])).some ha
  refine ⟨rs ++ [a], by simp [p1], by simp [p2], ?_, ?_, fun i b q => ?_, fun r hr' => ?_⟩
  · rw [List.nodup_append]
    refine ⟨p3, by simp, fun x hx y hy => ?_⟩
    rw [List.mem_singleton.mp hy]; rintro rfl; exact hnot hx
  · intro hm
    rcases List.mem_append.mp hm with hm | hm
    · exact p4 hm
    · rw [List.mem_singleton.mp hm] at hD; exact hD ha
  · rcases Nat.lt_trichotomy i rs.length with hi | hi | hi
    · rw [List.getElem?_append_left hi] at q
      exact (p5 i b q).sq e
    · rw [List.getElem?_append_right (by omega), hi] at q
      simp at q; subst q; rw [hi, p2]; exact hr
    · rw [List.getElem?_eq_none (by simp; omega)] at q; cases q
  · rcases List.mem_append.mp hr' with hm | hm
    · exact p6 r hm
    · rw [List.mem_singleton.mp hm]; exact h1

section
variable {prog : Program} {w : World} {A : Around} {E : Value → Shared → Prop} {s₀ s : Shared} {hb : Heap} {env : Env} {m cm mg mb : Str → Option Value} {Q : Value → Shared → Prop} {f : Addr} {K : Value → Shared → Prop}

theorem riter {l : Addr} {vs : List Value} (hl : s.heap.IsList l vs.toArray) (h : ∀ I s₂, Sm s s₂ → Ext s.heap s₂.heap → s.heap.get? I = none → (s₂.heap.IsListIter I l 0 ∧ s₂.heap.IsList l vs.toArray) → K (.ref I) s₂) :
    wpAny (model prog w) A (pyIter (.ref l)) K E s :=
  wpAny_pyIter_list hl (h _ _ ⟨_, s.toks, rfl⟩ (Ext.push _ _) (Heap.get?_none_of_le (Nat.le_refl _)) ⟨⟨_, Heap.get?_push_size _ rfl, rfl, rfl⟩, hl.push _⟩)

theorem mid {Mo : Model} {t : Sem Flow} {Q : Flow → Shared → Prop} (F : Fm s₀ hb env m cm s) (P : (Str → Option Value) → Shared → Prop)
    (h1 : wpAny Mo A t (fun fl s' => fl = .next ∧ ∃ hb' m', Fm s₀ hb' env m' cm s' ∧ P m' s') E s)
    (h2 : ∀ hb' m' s', Fm s₀ hb' env m' cm s' → P m' s' → Q .next s') : wpAny Mo A t Q E s :=
  wpAny_mono h1 (fun fl s' q => by obtain ⟨rfl, hb', m', F', p⟩ := q; exact h2 _ _ _ F' p) fun _ _ x => x
theorem Mat.but {h h' : Heap} {rs : List Addr} {n : Nat} {M : Nat → Nat → Int} {l : Addr} (r : Mat h rs n M) (x : But l h h') (hn : l ∉ rs) : Mat h' rs n M :=
  ⟨r.len, r.nd, fun i hi => let ⟨a, p, y⟩ := r.row i hi; ⟨a, p, y.but x (fun q => hn (by rw [← q]; exact List.mem_of_getElem? p))⟩⟩
theorem Mat.lists {h : Heap} {rs : List Addr} {n : Nat} {M : Nat → Nat → Int} (r : Mat h rs n M) : ∀ a ∈ rs, ∃ xs, h.IsList a xs := fun a ha => by
  obtain ⟨i, hi, q⟩ := List.getElem_of_mem ha
  obtain ⟨b, hb, y⟩ := r.row i (by rw [← r.len]; exact hi)
  rw [List.getElem?_eq_getElem hi, q] at hb; cases hb
  exact y.lst

theorem det_c {pa : Addr} {rs : List Addr} {n b : Nat} {M : Nat → Nat → Int} (hf : IsFn s.heap f 5) (G : Gl mg mb s.heap) (Rm : Room 3 A)
    (hl : s.heap.IsList pa (rs.map Value.ref).toArray) (hM : Tb s.heap rs n n M) (hn : n < 2 ^ 20) (hb' : bb b n ≤ 4000) (hb1 : 1 ≤ b) (hB : ∀ i j, i < n → j < n → (M i j).natAbs < 2 ^ b)
    (h : Ret s Q fun v _ => ∃ t, v = .int (detP n M) t) : wpAny (model prog w) A (call (.ref f) [.ref pa]) Q E s := by
  have hlen := hM.len
  refine enter_cells (k := 2) (binds := [("a", .ref pa)]) hf G Rm rfl (fun _ _ _ => rfl) (fun L => by simp only [List.mem_cons, List.not_mem_nil, or_false]; rintro y rfl; exact .inr ⟨rfl, rfl⟩) (fun L cd A' s' R' hL F _ _ => ?_)
  refine wpAny_execs_cons (wpAny_If (wpAny_isTrue_Compare1 (ListComp1_ (ldc F rfl rfl (riter (IsList.sq hl F.sq) fun I s1 q e hI it => ?_)))))
  refine comp_none q e F (Src.list R'.hh hI (IsList.sq hl F.sq)) it ?_ ?_ (hcl := ⟨rfl, trivial⟩)
  · rintro C k s2 v m hk hP F2 hv E'
    have G2 := G.ext F.keep
    have hk' : k < n := by simpa [hlen] using hk
    obtain ⟨r, hr, vs, hvl, hvn, hvs⟩ := (hM.sq (F.sq.trans F2.sq)).row k hk'
    have hvr : v = .ref r := by
      rw [List.getElem?_toArray, List.getElem?_map, hr] at hP
      exact (Option.some.inj hP).symm
    subst hvr
    refine wpAny_isTrue_Compare1 (call_blt F2 G2 (by decide) boot_len (args_cons (ld F2 hv (args_nil ?_))))
    refine rlen F2 hvl (by omega) fun t1 s3 F3 => call_blt F3 G2 (by decide) boot_len (args_cons (ldc F3 rfl rfl (args_nil ?_)))
    refine rlen F3 (IsList.sq hl (F.sq.trans F2.sq)) (by simp; omega) fun t2 s4 F4 => PyProof.Rows.ne_int (wpAny_truthy_bool ⟨?_, _, F4⟩)
    simp [hvn, hlen]
  intro D s2 q e hD hlD
  have F := (F.ext q e).base
  refine rlist (args_nil ⟨by decide, fun a2 s3 q e hl2 hf2 => ?_⟩)
  have F := F.ext q e
  refine rne_ints (IsList.sq hlD F.stb.sq) ⟨_, hl2, rfl, _, rfl⟩ .nil .nil (by have := R'.un; omega) (wpAny_truthy_bool ?_)
  refine iteN (by decide) (wpAny_execs_nil ?_)
  have F := F.base
  refine wpAny_execs_cons (asg3 R'.hh (ListComp_ (ldc F rfl rfl (riter (IsList.sq hl F.sq) fun I s4 q e hI it => ?_))))
  refine comp_localJ q e F (Src.list R'.hh hI (IsList.sq hl F.sq)) it (by show _ ≤ 2 ^ 24; simp; omega) (Rows s3.heap n M) (fun D zs k ys h h' r _ e => r.mono e) (fun D h => Rows.nil) ?_ ?_ (hcl := trivial)
  · rintro C D k ys s5 v m hk hP hJ hlD hys hD F5 hv E'
    have G5 := G.ext F.keep
    have hk' : k < n := by simpa [hlen] using hk
    obtain ⟨r, hr, vs, hvl, hvn, hvs⟩ := (hM.sq (F.sq.trans F5.sq)).row k hk'
    have hvr : v = .ref r := by
      rw [List.getElem?_toArray, List.getElem?_map, hr] at hP
      exact (Option.some.inj hP).symm
    subst hvr
    refine call_typ F5 G5 (by decide) boot_list (args_cons (ld F5 hv (args_nil (rcopy F5 hvl (by show _ ≤ 2 ^ 24; omega) fun a s6 q e hl6 hf6 => ?_))))
    exact ⟨_, F5.ext q e, hJ.snoc (Stab.of_ext e).sq hf6 (let ⟨o, ho, _⟩ := hlD; by rw [ho]; exact fun e => nomatch e) ⟨vs, hl6, hvn, hvs⟩ (F5.fresh hf6)⟩
  rintro pf ys s5 q e hpf hlf hys ⟨rs', rfl, hl', hnd, hpr, hrow, hfr⟩
  have hpf0 := F.fresh hpf
  have hfr0 : ∀ r ∈ rs', s.heap.get? r = none := fun r hr => F.fresh (hfr r hr)
  have F := (F.ext q e).base
  have hMat : Mat s5.heap rs' n M := ⟨by simpa [hlen] using hl', hnd, fun i hi => by
    have : i < rs'.length := by rw [hl']; simpa [hlen] using hi
    exact ⟨rs'[i], List.getElem?_eq_getElem this, hrow i _ (List.getElem?_eq_getElem this)⟩⟩
  refine rint F fun t1 s6 F => rint F fun t2 s7 F => ?_
  intro s8 q e
  have F := F.ext q e
  refine st F fun s9 F => st F fun s10 F => st F fun s11 F => ?_
  have hlf := IsList.sq hlf F.stb.sq
  have hMat := hMat.sq F.stb.sq
  have F := F.base
  refine wpAny_execs_cons (wpAny_For (call_typ F G (by decide) boot_range (args_cons (call_blt F G (by decide) boot_len (args_cons (ldc F rfl rfl (args_nil ?_)))))))
  refine rlen F (IsList.sq hl F.sq) (by simp; omega) fun t3 s12 F => args_nil ?_
  refine rrange1 (n := n) (by simp; omega) (by omega) fun I s13 q e hI it => ?_
  have hI0 := F.fresh hI
  have sq13 := F.stb.sq.trans (Stab.of_ext e).sq
  have F := F.ext q e
  refine for_range R'.hh F it hI0 s12.heap hI e (fun k m h => m "found" = some (.ref pf) ∧ ∃ sg ah t t' rs M', m "sign" = some (.int sg t) ∧ m "ahead" = some (.int ah t') ∧ h.IsList pf (List.toArray (List.map Value.ref rs)) ∧ pf ∉ rs ∧
      Mat h rs n M' ∧ (∀ r ∈ rs, s.heap.get? r = none) ∧ detP n M = detLoop n (n - k) k M' sg ah ∧ (sg = 1 ∨ sg = -1) ∧ ah ≠ 0 ∧ ah.natAbs < 2 ^ bb b k ∧ ∀ i j, i < n → j < n → (M' i j).natAbs < 2 ^ bb b k)
    (fun k m h h' ⟨i1, sg, ah, t, t', rs, M', i2, i3, i4, i5, i6, r⟩ sq => ⟨i1, sg, ah, t, t', rs, M', i2, i3, IsList.sq i4 sq, i5, i6.sq sq, r⟩)
    ⟨rfl, 1, 1, _, _, rs', M, rfl, rfl, IsList.sq hlf sq13, hpr, hMat.sq sq13, hfr0, rfl, .inl rfl, by decide, Nat.one_lt_two_pow (by show bb b 0 ≠ 0; rw [bb]; omega), hB⟩ ?_ ?_
  · rintro k m s14 t4 hk _ hInv F
    refine hide fun K E1 hK => ?_
    obtain ⟨i1, sg, ah, t5, t6, rs, M', i2, i3, i4, i5, i6, i7, i8, i9, i10, i11, i12⟩ := hInv
    have ek : ((0 : Int) + (k : Int) * 1) = k := by omega
    rw [ek] at F
    have hbk : bb b k ≤ 4000 := Nat.le_trans (bb_mono b (Nat.le_of_lt hk)) hb'
    rw [show n - k = (n - (k + 1)) + 1 by omega, detLoop] at i8
    refine wpAny_execs_cons (wpAny_Assign_Name (call_def 3 F G fun g hg => args_cons (ld F i1 (args_cons (ld F rfl (args_nil ⟨F.keep, ?_⟩))))))
    refine pivot_c (hg _ F.keep) (G.ext F.keep) (R'.le (by decide)) i4 i6 hn hk (F.ret fun v s15 F _ hv => ?_)
    refine st F.base fun s16 F16 => ?_
    have kk := F.stb.it.trans F16.stb.it
    have sq16 := F.stb.sq.trans F16.stb.sq
    have i4 := IsList.sq i4 sq16
    have i6 := i6.sq sq16
    have F := F16.base
    cases hp : pivotFrom M' k k (n - k) with
    | none =>
      rw [hp] at hv i8
      subst hv
      refine wpAny_execs_cons (wpAny_If (wpAny_isTrue_Compare1 (ld F rfl (Constant_none (is_none_gen (wpAny_truthy_bool (iteP (by decide) ?_)))))))
      exact wpAny_execs_cons (wpAny_Return_some (rint F fun t s17 F => hK _ _ (h _ _ F.sm F.keep ⟨t, by rw [i8]⟩)))
    | some r =>
      rw [hp] at hv i8
      obtain ⟨t7, rfl⟩ := hv
      obtain ⟨p1, p2, p3⟩ := pivotFrom_some hp
      refine wpAny_execs_cons (wpAny_If (wpAny_isTrue_Compare1 (ld F rfl (Constant_none (is_int_none (wpAny_truthy_bool (iteN (by decide) (wpAny_execs_nil ?_))))))))
      refine wpAny_execs_cons (mid F (fun m' s' => m' "found" = some (.ref pf) ∧ (∃ t, m' "step" = some (.int k t)) ∧ (∃ t, m' "ahead" = some (.int ah t)) ∧ (∃ t, m' "sign" = some (.int (if r = k then sg else -sg) t)) ∧
        ∃ rs2, s'.heap.IsList pf (List.toArray (List.map Value.ref rs2)) ∧ pf ∉ rs2 ∧ Mat s'.heap rs2 n (swapM M' r k) ∧ (∀ r ∈ rs2, s.heap.get? r = none) ∧ Iters s14.heap s'.heap) ?_ ?_)
      · refine hide fun K E1 hK => ?_
        refine wpAny_If (wpAny_isTrue_Compare1 (ld F rfl (ld F rfl (PyProof.Rows.ne_int (wpAny_truthy_bool ?_)))))
        by_cases hrk : r = k
        · subst hrk
          refine iteN (by simp) (wpAny_execs_nil (hK _ _ ⟨rfl, _, _, F, i1, ⟨_, rfl⟩, ⟨_, i3⟩, ⟨_, by rw [if_pos rfl]; exact i2⟩, rs, i4, i5, i6.congr fun i j _ _ => ?_, i7, kk⟩))
          unfold swapM; split <;> (try split) <;> simp_all
        · refine iteP (bne_iff_ne.mpr (by omega)) ?_
          obtain ⟨ra, hra, _⟩ := i6.row r (by omega)
          obtain ⟨rb, hrb, _⟩ := i6.row k hk
          have hlen' := i6.len
          refine wpAny_execs_cons (asgPair R'.hh (Subscript_ (ld F i1 (ld F rfl (rlistAt F i4 (by omega) (by omega) (by rw [Int.toNat_natCast, List.getElem?_map, hrb]; rfl) ?_)))))
          refine Subscript_ (ld F i1 (ld F rfl (rlistAt F i4 (by omega) (by omega) (by rw [Int.toNat_natCast, List.getElem?_map, hra]; rfl) ?_)))
          intro s17 q e
          have F17 := (F.ext q e).base
          refine asgSub (ld F17 i1 (ld F17 rfl (rset F17 (IsList.sq i4 (Stab.of_ext e).sq) hpf0 (by omega) (by simp; omega) (by simp; omega) fun s18 F18 but hl18 => ?_)))
          refine asgSub (ld F18 i1 (ld F18 rfl (rset F18 hl18 hpf0 (by omega) (by simp; omega) (by simp; omega) fun s19 F19 but2 hl19 => ?_)))
          refine wpAny_execs_cons (wpAny_Assign_Name (UnaryOp_ (ld F19 i2 (rneg F19 fun t8 s20 F20 => st F20 fun s21 F21 => ?_))))
          have hm17 := ((i6.sq (Stab.of_ext e).sq).but but i5).but but2 i5
          have kk2 := ((kk.trans (Stab.of_ext e).it).trans (but.it (IsList.sq i4 (Stab.of_ext e).sq))).trans (but2.it hl18)
          refine wpAny_execs_nil (hK _ _ ⟨rfl, _, _, F21, i1, ⟨_, rfl⟩, ⟨_, i3⟩, ⟨_, by rw [if_neg hrk]; rfl⟩, swapL rs r k ra rb, ?_, fun hm => i5 (mem_swapL hra hrb hm), (hm17.swap (by omega) hk hrk hra hrb).sq F21.stb.sq, fun x hx => i7 x (mem_swapL hra hrb hx), kk2.trans F21.stb.it⟩)
          have hl20 := IsList.sq hl19 F21.stb.sq
          rw [Int.toNat_natCast, Int.toNat_natCast] at hl20
          simpa [swapL, List.map_set] using hl20
      · rintro hb2 m2 s17 F ⟨j1, ⟨t8, j2⟩, ⟨t9, j3⟩, ⟨t10, j4⟩, rs2, j5, j6, j7, j8, j9⟩
        have F := F.base
        have hbs := swapM_bound (n := n) (r := r) (step := k) (by omega) hk i12
        refine wpAny_execs_cons (wpAny_Expr (call_def 4 F G fun g hg => args_cons (ld F j1 (args_cons (ld F j2 (args_cons (ld F j3 (args_nil ⟨F.keep, ?_⟩))))))))
        refine bareiss_c (hg _ F.keep) (G.ext F.keep) (R'.le (by decide)) j5 j6 j7 hn hk hbk hbs i10 i11 (fun s18 q18 k18 m18 => ?_)
        have F18 := F.mutR j7.lists j8 q18 k18
        have l18 : s18.heap.IsList pf (List.toArray (List.map Value.ref rs2)) := let ⟨o, ho, r⟩ := j5; ⟨o, k18 _ _ j6 ho, r⟩
        have it18 := iters_of_R j7.lists k18
        refine wpAny_execs_cons (wpAny_Assign_Name (at2 F18 j1 j2 j2 l18 m18 hk hk hn fun t11 => st F18 fun s19 F19 => ?_))
        have eah : stepM (swapM M' r k) k ah k k = swapM M' r k k k := by rw [stepM, if_neg (by omega)]
        have eah2 : swapM M' r k k k = M' r k := by unfold swapM; split <;> simp_all
        refine wpAny_execs_nil (hK _ _ ⟨_, _, F19, (j9.trans it18).trans F19.stb.it, j1, _, _, _, _, rs2, _, j4, rfl, IsList.sq l18 F19.stb.sq, j6, m18.sq F19.stb.sq, j8, ?_, ?_, ?_, ?_, stepM_bound hk hbs⟩)
        · rw [eah]; exact i8
        · split
          · exact i9
          · rcases i9 with rfl | rfl
            · exact .inr rfl
            · exact .inl rfl
        · rw [eah, eah2]; exact p3
        · rw [eah]
          exact Nat.lt_of_lt_of_le (hbs k k hk hk) (Nat.pow_le_pow_right (by decide) (bb_mono b (Nat.le_succ k)))
  · rintro m s14 _ ⟨i1, sg, ah, t5, t6, rs, M', i2, i3, i4, i5, i6, i7, i8, i9, i10⟩ F
    rw [Nat.sub_self, detLoop] at i8
    refine wpAny_execs_cons (wpAny_Return_some (wpAny_BinOp (ld F i2 (ld F i3 (rmul_ F (.of_left (by rcases i9 with rfl | rfl <;> decide)) fun t s15 F => h _ _ F.sm F.keep ⟨t, by rw [i8]⟩)))))
end
end Mine

namespace Mine

theorem RowIs.ints {h : Heap} {a : Addr} {n : Nat} {g : Nat → Int} (r : RowIs h a n g) : ∃ vs, h.IsList a (List.toArray vs) ∧ IntsAre vs ((List.range n).map g) := by
  obtain ⟨vs, hl, hn, hv⟩ := r
  refine ⟨vs, hl, ?_⟩
  clear hl
  induction n generalizing vs g with
  | zero => rw [List.length_eq_zero_iff.mp hn]; exact .nil
  | succ n ih =>
    cases vs with
    | nil => cases hn
    | cons v vs =>
      obtain ⟨t, e⟩ := hv 0 (by omega)
      simp at e; subst e
      rw [List.range_succ_eq_map, List.map_cons, List.map_map]
      refine .cons _ _ (ih (g := g ∘ Nat.succ) vs (by simpa using hn) fun j hj => ?_)
      obtain ⟨u, q⟩ := hv (j + 1) (by omega)
      exact ⟨u, by simpa using q⟩

section
variable {prog : Program} {w : World} {A : Around} {E : Value → Shared → Prop} {s₀ s : Shared} {hb : Heap} {env : Env} {m cm mg mb : Str → Option Value} {f : Addr}

theorem stc {M : Model} {x : Str} {c : Addr} {v : Value} {Q : Unit → Shared → Prop} (F : Fm s₀ hb env m cm s) (hc : env.cells.lookup x = some c) (hn : s₀.heap.get? c = none)
    (ap : ∀ y d, env.cells.lookup y = some d → y ≠ x → d ≠ c) (h : ∀ s', Fm s₀ hb env m (up cm x v) s' → Q () s') (hl : env.kindOf x = some .cell := by rfl) :
    wpAny M A (storeName env x v) Q E s := by
  have hcc := F.cell x c hc
  refine wpAny_storeName_cell F.fk hl hc hcc fun h' hc' hs => h _ ⟨F.fk, F.gl, F.bl, F.ns.sameBut hs (Ne.symm (Ns.ne_cell F.ns hcc)), fun y d e => ?_, F.sm.trans ⟨h', s.toks, rfl⟩,
    fun b o e => (hs.2 b (fun q => by rw [q, hn] at e; cases e)).trans (F.keep b o e), fun b o e t => (hs.2 b (fun q => ?_)).trans (F.stb b o e t), F.new⟩
  · by_cases hy : y = x
    · subst hy
      rw [hc] at e; cases e
      simpa [up] using hc'
    · have := (F.cell y d e).sameBut hs (ap y d e hy)
      simpa [up, hy] using this
  · subst q
    obtain ⟨o', ho', hd'⟩ := hcc
    have := F.stb _ _ e t
    rw [ho'] at this; cases this
    unfold Solid at t; rw [hd'] at t; exact t

theorem minors_c {Q : Value → Shared → Prop} {pa : Addr} {rs : List Addr} {n b : Nat} {M : Nat → Nat → Int} (hf : IsFn s.heap f 6) (G : Gl mg mb s.heap) (Rm : Room 4 A)
    (hl : s.heap.IsList pa (rs.map Value.ref).toArray) (hM : Tb s.heap rs n n M) (hn : n < 2 ^ 20) (hb' : bb b n ≤ 4000) (hb1 : 1 ≤ b) (hB : ∀ i j, i < n → j < n → (M i j).natAbs < 2 ^ b)
    (h : ∀ v s', Sm s s' → Ext s.heap s'.heap → (∃ a, v = .ref a ∧ RowIs s'.heap a n (fun k => detP (k + 1) M) ∧ s.heap.get? a = none) → Q v s') : wpAny (model prog w) A (call (.ref f) [.ref pa]) Q E s := by
  have hlen := hM.len
  refine enter_cells (k := 3) (binds := [("a", .ref pa)]) hf G Rm rfl (fun _ _ _ => rfl) (fun L => by simp only [List.mem_cons, List.not_mem_nil, or_false]; rintro y rfl; exact .inr ⟨rfl, rfl⟩) (fun L cd A' s' R' hL F _ _ => ?_)
  refine wpAny_execs_cons (wpAny_Return_some (ListComp_ ?_))
  refine call_typ F G (by decide) boot_range (args_cons (rint F fun t1 s1 F => args_cons (wpAny_BinOp (call_blt F G (by decide) boot_len (args_cons (ldc F rfl rfl (args_nil ?_)))))))
  refine rlen F hl (by simp; omega) fun t2 s2 F => rint F fun t3 s3 F => radd_ F fun t4 s4 F => args_nil ?_
  refine rrange2 (n := n) (by omega) (by decide) (by simp; omega) fun I s5 q e hI it => ?_
  have G4 := G.ext F.keep
  refine comp_rule q e F.gl F.bl (Src.range (a := 1) (c := 1) (n := n) R'.hh hI) (by simpa using it) (by show _ ≤ 2 ^ 24; omega) rfl
    (fun C m c => ∀ y, y ≠ Str.ofString "size" → c y = bindC (envOfC (dfN 6).name (dfN 6).scope L f cd).kindOf [("a", .ref pa)] (fun _ => none) y)
    (fun y => if y = Str.ofString "size" then none else bindC (envOfC (dfN 6).name (dfN 6).scope L f cd).kindOf [("a", .ref pa)] (fun _ => none) y) ?_
    (fun D k ys h => ys.length = k ∧ ∀ i, i < k → ∃ t, ys[i]? = some (.int (detP (i + 1) M) t)) (fun v m c => c (Str.ofString "size") = some v) (fun _ _ _ _ _ _ r _ _ => r) (fun _ _ _ _ => ⟨rfl, fun i hi => absurd hi (Nat.not_lt_zero i)⟩) ?_ ?_ ?_ ?_
  · intro C h e own x c q
    replace q : List.lookup x [(Str.ofString "size", C + 1), (Str.ofString "a", L + 1)] = some c := q
    rw [List.lookup_cons] at q
    split at q
    · rename_i hb
      cases q
      rw [if_pos (beq_iff_eq.mp hb)]
      exact own _ _ (List.mem_cons_self)
    · rename_i hb
      rw [if_neg (fun z => by rw [z] at hb; simp at hb)]
      exact (F.cell x c q).keeps e
  · rintro C s m c v hb F2 hok hC hC' E'
    refine wpAny_assign_Name (stc F2 rfl (Classical.byContradiction fun q => hC' _ q rfl) (fun y d e hy => ?_) fun s' F' => ⟨_, _, F', fun y hy => by simp [up, hy, hok y hy], by simp⟩)
    replace e : List.lookup y [(Str.ofString "size", C + 1), (Str.ofString "a", L + 1)] = some d := e
    rw [List.lookup_cons] at e
    split at e
    · rename_i hb; exact absurd (beq_iff_eq.mp hb) hy
    · obtain ⟨o, ho, _⟩ := F.cell y d e
      exact hC' d (by rw [ho]; exact fun z => nomatch z)
  · intro C y hy; exact if_neg hy
  · rintro C D k ys s6 v m c hk ⟨t5, rfl⟩ ⟨hys, hJ⟩ hlD _ hD F6 hok hbd E'
    have ek : (1 : Int) + (k : Int) * 1 = ((k + 1 : Nat) : Int) := by omega
    rw [ek] at hbd
    have ha : c (Str.ofString "a") = some (.ref pa) := (hok _ (by decide)).trans rfl
    refine call_def 5 F6 G4 fun g hg => args_cons (ListComp_ (rslice (ldc F6 rfl ha (wpAny_evalPart_none (wpAny_evalPart_some (ldc F6 rfl hbd ?_))))))
    refine ⟨pa, rs.map Value.ref, none, some _, rfl, IsList.sq hl (F.sq.trans F6.sq), by show _ ≤ 2 ^ 24; simp; omega, .none, .int _ _, fun a s7 q e hs7 hf7 => ?_⟩
    rw [slicePick_upto', List.toList_toArray] at hs7
    have F7 := F6.ext q e
    refine riter hs7 fun I2 s8 q e hI2 it2 => ?_
    have hsz : ((rs.map Value.ref).take (k + 1)).toArray.size = k + 1 := by simp; omega
    refine comp_localJ q e F7 (Src.list R'.hh hI2 hs7) it2 (by show _ ≤ 2 ^ 24; rw [hsz]; omega) (Rows s7.heap (k + 1) M) (fun D zs k ys h h' r _ e => r.mono e) (fun D h => Rows.nil) ?_ ?_ (hcl := ⟨rfl, trivial⟩)
    · rintro C2 D2 j ys2 s9 v2 m2 hj hP hJ2 hlD2 hys2 hD2 F9 hv2 E2
      rw [hsz] at hj
      obtain ⟨r, hr, vs, hvl, hvn, hvs⟩ := (hM.sq (F.sq.trans (F7.sq.trans F9.sq))).row j (by omega)
      have hvr : v2 = .ref r := by
        rw [List.getElem?_toArray, List.getElem?_take, if_pos hj, List.getElem?_map, hr] at hP
        exact (Option.some.inj hP).symm
      subst hvr
      refine rslice (ld F9 hv2 (wpAny_evalPart_none (wpAny_evalPart_some (ldc F9 rfl hbd ?_))))
      refine ⟨r, vs, none, some _, rfl, hvl, by show _ ≤ 2 ^ 24; omega, .none, .int _ _, fun a2 s10 q e hs10 hf10 => ?_⟩
      rw [slicePick_upto', List.toList_toArray] at hs10
      refine ⟨_, F9.ext q e, hJ2.snoc (Stab.of_ext e).sq hf10 (let ⟨o, ho, _⟩ := hlD2; by rw [ho]; exact fun e => nomatch e) ⟨_, hs10, by simp; omega, fun x hx => ?_⟩ (F9.fresh hf10)⟩
      obtain ⟨u, hu⟩ := hvs x (by omega)
      exact ⟨u, by rw [List.getElem?_take, if_pos hx]; exact hu⟩
    · rintro pf ys2 s9 q e hpf hlf hys2 ⟨rs2, rfl, hl2, nd, _, hrow, hfr⟩
      rw [hsz] at hl2
      have F9 := F7.ext q e
      refine args_nil ⟨F9.keep, ?_⟩
      refine det_c (n := k + 1) (b := b) (M := M) (hg _ F9.keep) (G4.ext F9.keep) R' hlf ⟨hl2, fun i hi => ?_⟩ (by omega) (Nat.le_trans (bb_mono b (by omega)) hb') hb1 (fun i j hi hj => hB i j (by omega) (by omega)) (F9.ret fun v s10 F10 _ hv => ?_)
      · have : i < rs2.length := by omega
        exact ⟨rs2[i], List.getElem?_eq_getElem this, hrow i _ (List.getElem?_eq_getElem this)⟩
      · obtain ⟨t, rfl⟩ := hv
        refine ⟨_, _, F10, hok, by simp [hys], fun i hi => ?_⟩
        by_cases hik : i = k
        · subst hik
          exact ⟨t, by rw [List.getElem?_append_right (by omega), hys]; simp⟩
        · obtain ⟨u, hu⟩ := hJ i (by omega)
          exact ⟨u, by rw [List.getElem?_append_left (by omega)]; exact hu⟩
  · rintro D ys s6 q e hD hlD hlen ⟨_, hJ⟩
    have F6 := F.ext q e
    exact h _ _ F6.sm F6.keep ⟨D, rfl, ⟨ys, hlD, hlen, hJ⟩, F.fresh hD⟩
end
end Mine

namespace Mine
section
variable {prog : Program} {w : World} {A : Around} {E : Value → Shared → Prop} {s₀ s : Shared} {hb : Heap} {env : Env} {m cm mg mb : Str → Option Value} {f : Addr}

/-- two fresh iterators are changed -/
theorem Fm.mut2 {s' : Shared} {a b : Addr} {oa ob : Obj} {xa xb} (F : Fm s₀ hb env m cm s) (ha : s.heap.get? a = some oa) (da : oa.data = .fields xa) (hb' : s.heap.get? b = some ob) (db : ob.data = .fields xb)
    (na : s₀.heap.get? a = none) (nb : s₀.heap.get? b = none) (q : Sm s s') (hs : ∀ c o, c ≠ a → c ≠ b → s.heap.get? c = some o → s'.heap.get? c = some o) : Fm s₀ s'.heap env m cm s' ∧ Seqs s.heap s'.heap := by
  have ne : ∀ c o, s.heap.get? c = some o → (∀ xs, o.data ≠ .fields xs) → c ≠ a ∧ c ≠ b := fun c o e t => ⟨by rintro rfl; rw [e] at ha; cases ha; exact t _ da, by rintro rfl; rw [e] at hb'; cases hb'; exact t _ db⟩
  refine ⟨⟨F.fk, F.gl, F.bl, ?_, fun n c e => ?_, F.sm.trans q, fun c o e => hs _ _ (fun z => by rw [z, na] at e; cases e) (fun z => by rw [z, nb] at e; cases e) (F.keep c o e), .refl _, F.new⟩, fun c o xs n e d => ?_⟩
  · obtain ⟨o', es, ep, x, y, z⟩ := F.ns
    have := ne _ _ x (fun xs e => by rw [y] at e; cases e)
    exact ⟨o', es, ep, hs _ _ this.1 this.2 x, y, z⟩
  · obtain ⟨o', x, y⟩ := F.cell n c e
    have := ne _ _ x (fun xs e => by rw [y] at e; cases e)
    exact ⟨o', hs _ _ this.1 this.2 x, y⟩
  · have := ne _ _ e (fun xs z => by rw [d] at z; cases z)
    exact hs _ _ this.1 this.2 e

theorem for_enum {R : Result → Shared → Prop} {xi xv : Str} {pi pv pt : Pos} {x1 : Nat} {body : List Stmt} {e it l : Addr} {items : Array Value} (hh : A.handled = none) (F : Fm s₀ hb env m cm s)
    (he : IsEnum s.heap e it 0 .none) (hit : s.heap.IsListIter it l 0) (hl : s₀.heap.IsList l items) (hne : e ≠ it) (hen : s₀.heap.get? e = none) (hin : s₀.heap.get? it = none)
    (hB : Heap) (hBe : hB.get? e = none) (hBi : hB.get? it = none) (hB0 : Ext hB s.heap)
    (Inv : Nat → (Str → Option Value) → Heap → Prop) (mono : ∀ k m h h', Inv k m h → Seqs h h' → Inv k m h') (init : Inv 0 m s.heap)
    (turn : ∀ k v m s₁ t, items[k]? = some v → Iters hB s₁.heap → Inv k m s₁.heap → Fm s₀ s₁.heap env (up (up m xi (.int k t)) xv v) cm s₁ → wpAny (model prog w) A (execs body env) (fun f s₂ => match f with
      | .next | .cont => ∃ hb' m', Fm s₀ hb' env m' cm s₂ ∧ Iters s₁.heap s₂.heap ∧ Inv (k + 1) m' s₂.heap
      | .brk => R (.ok .next) s₂
      | .ret v => R (.ok (.ret v)) s₂) (notedBy (model prog w) A env fun e s' => R (.error e) s') s₁)
    (done : ∀ m s₁, Iters hB s₁.heap → Inv items.size m s₁.heap → Fm s₀ s₁.heap env m cm s₁ → R (.ok .next) s₁)
    (hxi : env.kindOf xi = some .local := by rfl) (hxv : env.kindOf xv = some .local := by rfl) :
    codeAny (model prog w) A (.forLoop (.Tuple [.Name xi pi, .Name xv pv] x1 pt) (.ref e) body [] env) R s := by
  refine codeAny_forLoop_any (fun q s' => ∃ k m hb' old, Fm s₀ hb' env m cm s' ∧ Inv k m s'.heap ∧ IsEnum s'.heap e it ((k : Nat) : Int) old ∧ s'.heap.IsListIter it l k ∧ k ≤ items.size ∧ q = items.size + 1 - k ∧ Iters hB s'.heap) ?_ (items.size + 1)
    ⟨0, m, hb, .none, F, init, he, hit, Nat.zero_le _, rfl, fun b o _ _ e => hB0 b o e⟩
  rintro q s' ⟨k, m, hb', old, F, hI, he, hit, hk, rfl, hBs⟩
  have hl' : s'.heap.IsList l items := IsList.sq hl F.sq
  obtain ⟨oi, hio, hic, hid⟩ := id hit
  have fm : ∀ {h'} {tk : Nat}, (∀ b o, b ≠ e → b ≠ it → s'.heap.get? b = some o → h'.get? b = some o) → Fm s₀ h' env m cm { s' with heap := h', toks := tk } ∧ Seqs s'.heap h' ∧ Iters hB h' := fun {h' tk} hk' => by
    obtain ⟨a, b⟩ := F.mut2 (s' := { s' with heap := h', toks := tk }) he rfl hio hid hen hin ⟨h', tk, rfl⟩ hk'
    exact ⟨a, b, fun c o t d e => hk' c o (fun q => by rw [q, hBe] at e; cases e) (fun q => by rw [q, hBi] at e; cases e) (hBs c o t d e)⟩
  cases hv : items[k]? with
  | none =>
    have hsz : k = items.size := Nat.le_antisymm hk (by simpa using hv)
    subst hsz
    refine wpAny_pyNext_enum_end hh he hit hl' hv fun h₁ he₁ => wpAny_execs_nil ?_
    obtain ⟨F₁, sq, hB₁⟩ := fm (tk := s'.toks) (fun b o _ n x => he₁ b o n x)
    exact done m _ hB₁ (mono _ _ _ _ hI sq) F₁
  | some v =>
    have hlt : k < items.size := (Array.getElem?_eq_some_iff.mp hv).1
    have heH : e < s'.heap.objs.size := Heap.lt_size he
    refine wpAny_pyNext_enum_item he hit hl' hv hne fun h₁ heo hit₁ ht₁ hz₁ hk₁ => ?_
    refine wpAny_letOwnedTupleGo_enum heo fun h₂ he₂ hs₂ => ?_
    replace hs₂ : Heap.SameBut e h₁ h₂ := hs₂
    have hk₂ : ∀ b o, b ≠ e → b ≠ it → s'.heap.get? b = some o → h₂.get? b = some o := fun b o n1 n2 x => (hs₂.2 b n1).trans (hk₁ b o n1 n2 x)
    obtain ⟨F₂, sq₂, hB₂⟩ := fm (tk := s'.toks + 1) hk₂
    have ht₂ : IsTup h₂ s'.heap.objs.size #[.int k s'.toks, v] := ⟨_, (hs₂.2 _ (Nat.ne_of_gt heH)).trans ht₁, rfl, _, rfl⟩
    have hit₂ : h₂.IsListIter it l (k + 1) := hit₁.extBut hs₂.extBut (Ne.symm hne)
    refine assign_Tuple_tuple (s := { s' with heap := h₂, toks := s'.toks + 1 }) (items := #[.int k s'.toks, v]) hh ht₂ rfl rfl fun h₃ hx₃ => ?_
    have ext₃ : Ext h₂ h₃ := fun b o x => hx₃ b o (Nat.ne_of_lt (Heap.lt_size x)) x
    have F₃ := (F₂.ext (s' := { s' with heap := h₃, toks := s'.toks + 1 }) ⟨h₃, _, rfl⟩ ext₃)
    show wpAny _ _ (assignInOrder [assign (.Name xi pi) env, assign (.Name xv pv) env] [.int k s'.toks, v]) _ _ _
    refine wpAny_assignInOrder_more (wpAny_assign_Name (st F₃ (fun s₄ F₄ => ?_) hxi))
    refine wpAny_assignInOrder_more (wpAny_assign_Name (st F₄ (fun s₅ F₅ => wpAny_assignInOrder_none ?_) hxv))
    have st5 := F₅.stb
    refine wpAny_mono (turn k v m s₅ s'.toks hv (hB₂.trans st5.it) (mono _ _ _ _ hI (sq₂.trans st5.sq)) F₅.base) (fun f s₆ h₆ => ?_) fun _ _ x => x
    have go : (∃ hb' m', Fm s₀ hb' env m' cm s₆ ∧ Iters s₅.heap s₆.heap ∧ Inv (k + 1) m' s₆.heap) → _ := fun ⟨hb', m', F₆, ki, hI₆⟩ =>
      (⟨items.size + 1 - (k + 1), by omega, k + 1, m', hb', v, F₆, hI₆,
        by have : ((k + 1 : Nat) : Int) = (k : Int) + 1 := by push_cast; rfl
           rw [this]; exact ki _ _ (Solid.fields rfl) (by intro _ _ e; cases e) (st5 _ _ he₂ (Solid.fields rfl)),
        let ⟨o, ho, hc, hd⟩ := hit₂; ⟨o, ki _ _ (Solid.fields hd) (by intro _ _ e; rw [hd] at e; cases e) (st5 _ _ ho (Solid.fields hd)), hc, hd⟩, hlt, rfl, (hB₂.trans st5.it).trans ki⟩ :
        ∃ m_1, m_1 < items.size + 1 - k ∧ ∃ k m hb' old, Fm s₀ hb' env m cm s₆ ∧ Inv k m s₆.heap ∧ IsEnum s₆.heap e it ((k : Nat) : Int) old ∧ s₆.heap.IsListIter it l k ∧ k ≤ items.size ∧ m_1 = items.size + 1 - k ∧ Iters hB s₆.heap)
    cases f with
    | next => exact go h₆
    | cont => exact go h₆
    | brk => exact h₆
    | ret v => exact h₆

theorem renum {K : Value → Shared → Prop} {l : Addr} {items : Array Value} (hl : s.heap.IsList l items)
    (h : ∀ e it s₂, Sm s s₂ → Ext s.heap s₂.heap → s.heap.get? e = none → s.heap.get? it = none → e ≠ it → IsEnum s₂.heap e it 0 .none → s₂.heap.IsListIter it l 0 → K (.ref e) s₂) :
    wpAny (model prog w) A (call (.type "enumerate") [.ref l]) (fun x s₁ => wpAny (model prog w) A (pyIter x) K E s₁) E s :=
  call_enumerate_list hl fun h' he hit hsz hk => wpAny_pyIter_enum he (h _ _ _ ⟨h', s.toks, rfl⟩ hk (Heap.get?_none_of_le (Nat.le_succ _)) (Heap.get?_none_of_le (Nat.le_refl _)) (Nat.ne_of_gt (Nat.lt_succ_self _)) he hit)

/-- a draw -/
theorem draw_c {Q : Value → Shared → Prop} {p q : Addr} {n k : Nat} {g : Nat → Int} {many : Nat} {t t' : Tok} (hf : IsFn s.heap f 30) (G : Gl mg mb s.heap) (Rm : Room 1 A)
    (hp : s.heap.IsList p [.ref q, .int k t].toArray) (hpq : q ≠ p) (hq : RowIs s.heap q n g) (hn : n < 2 ^ 20) (hk : k < 2 ^ 20) (hm0 : 0 < many) 
    (h : ∀ (x : Int) t1 s', Sm s s' → But p s.heap s'.heap → (∃ t2, s'.heap.IsList p [.ref q, .int ((k + 1 : Nat) : Int) t2].toArray) → 0 ≤ x → x < (many : Int) → Q (.int x t1) s') : wpAny (model prog w) A (call (.ref f) [.ref p, .int many t']) Q E s := by
  obtain ⟨vs, hlq, hvn, hvs⟩ := hq
  obtain ⟨h₀, hr1, hr2⟩ := removed s.heap [p]
  refine enter_plain (k := 0) (binds := [("pool", .ref p), ("many", .int many t')]) hf G Rm rfl (fun _ _ _ => rfl) (locs rfl) (fun L cd A' s' R' F => ?_)
  have notl : ∀ b o, NonList o → s.heap.get? b = some o → b ∉ [p] := fun b o hn e hm => by
    obtain ⟨o', ho', hc', n', hd'⟩ := hp
    rw [List.mem_singleton.mp hm, ho'] at e
    cases e; exact hn _ _ hd' hc'
  have G0 : Gl mg mb h₀ := G.nl fun b o hn e => hr2 b o (notl b o hn e) e
  have F0 : Fm { s with heap := h₀ } s'.heap (envOf _ _ L f cd) _ _ s' := ⟨F.fk, F.gl, F.bl, F.ns, F.cell, Sm.on F.sm h₀, fun b o e => F.keep b o (hr1 b o e).2, .refl _, get_none_mono (fun b o e => (hr1 b o e).2) F.new⟩
  have hp1 := IsList.sq hp F.sq
  have hq1 := IsList.sq hlq F.sq
  have hn0 : h₀.get? p = none := by
    cases q' : h₀.get? p with
    | none => rfl
    | some o => exact absurd (List.mem_singleton.mpr rfl) (hr1 p o q').1
  clear F
  have fin : ∀ (x : Int) t1 s2 hb2 m2, Fm { s with heap := h₀ } hb2 (envOf (dfN 30).name (dfN 30).scope L f cd) m2 (fun _ => none) s2 → (∃ t2, s2.heap.IsList p [.ref q, .int ((k + 1 : Nat) : Int) t2].toArray) → 0 ≤ x → x < (many : Int) → Q (.int x t1) s2 :=
    fun x t1 s2 hb2 m2 F2 hl2 h0 h1 => h x t1 s2 (Sm.off F2.sm) (fun b o n e => F2.keep _ _ (hr2 b o (by simpa using n) e)) hl2 h0 h1
  refine wpAny_execs_cons (wpAny_Assign_Name (Subscript_ (ld F0 rfl (rint F0 fun t1 s1 F1 => rlistAt F1 hp1 (by decide) (by decide) rfl (st F1 fun s2 F2 => ?_)))))
  have hp2 := IsList.sq hp1 F2.stb.sq
  have hq2 := IsList.sq hq1 F2.stb.sq
  refine wpAny_execs_cons (wpAny_Assign_Subscript (wpAny_BinOp (ld F2.base rfl (rint F2.base fun t3 s3 F3 => radd_ F3 fun t4 s4 F4 => ld F4 rfl (rint F4 fun t5 s5 F5 => ?_)))))
  refine rset F5 (IsList.sq hp2 F5.stb.sq) hn0 (by decide) (by simp) (by simp) fun s6 F6 but hl6 => ?_
  have hq6 := but.lst (IsList.sq hq2 F5.stb.sq) hpq
  have hl6' : ∃ t2, s6.heap.IsList p [.ref q, .int ((k + 1 : Nat) : Int) t2].toArray := ⟨_, hl6⟩
  have hmi : (many : Int) ≠ 0 := by omega
  have hmp : (0 : Int) < many := by omega
  refine wpAny_execs_cons (wpAny_If (wpAny_isTrue_Compare1 (ld F6 rfl (call_blt F6 G0 (by decide) boot_len (args_cons (Subscript_ (ld F6 rfl (rint F6 fun t7 s7 F7 => rlistAt F7 hl6 (by decide) (by decide) rfl (args_nil ?_)))))))))
  refine rlen F7 hq6 (by omega) fun t8 s8 F8 => PyProof.Rows.lt_int (wpAny_truthy_bool ?_)
  have hl8 : ∃ t2, s8.heap.IsList p [.ref q, .int ((k + 1 : Nat) : Int) t2].toArray := ⟨_, IsList.sq hl6 F8.stb.sq⟩
  by_cases hkn : k < n
  · refine iteP (by simp; omega) ?_
    obtain ⟨u, hu⟩ := hvs k hkn
    refine wpAny_execs_cons (wpAny_Return_some (wpAny_BinOp (call_blt F8 G0 (by decide) boot_abs (args_cons (Subscript_ (Subscript_ (ld F8 rfl (rint F8 fun t9 s9 F9 => rlistAt F9 hl6 (by decide) (by decide) rfl (ld F9 rfl (rlistAt F9 hq6 (by omega) (by omega) (by rw [Int.toNat_natCast]; exact hu) (args_nil ?_)))))))))))
    refine rabs F9 fun t10 s10 F10 => ld F10 rfl (rmod_ F10 hmi fun t11 s11 F11 => ?_)
    exact fin _ _ _ _ _ F11 ⟨_, IsList.sq hl6 F11.stb.sq⟩ (Int.fmod_nonneg_of_pos _ hmp) (Int.fmod_lt_of_pos _ hmp)
  · refine iteN (by simp; omega) (wpAny_execs_nil ?_)
    refine wpAny_execs_cons (wpAny_Return_some (wpAny_BinOp (Subscript_ (rtuple (args_cons (rint F8 fun u1 s9 F => ?_))))))
    refine args_cons (rint F fun u2 s9 F => ?_)
    refine args_cons (rint F fun u3 s9 F => ?_)
    refine args_cons (rint F fun u4 s9 F => ?_)
    refine args_cons (rint F fun u5 s9 F => ?_)
    refine args_cons (rint F fun u6 s9 F => ?_)
    refine args_cons (rint F fun u7 s9 F => ?_)
    refine args_nil ⟨by show 7 ≤ sizeLine; decide, fun a s10 q e hT _ => ?_⟩
    have stF := F.stb
    have F10 := (F.ext q e).base
    have hl10 := IsList.sq hl6 (stF.sq.trans (Stab.of_ext e).sq)
    refine wpAny_BinOp (ld F10 rfl (rint F10 fun u8 s11 F11 => rmod_ F11 (by decide) fun u9 s12 F12 => ?_))
    have b0 : 0 ≤ (k : Int).fmod 7 := Int.fmod_nonneg_of_pos _ (by decide)
    have b1 : (k : Int).fmod 7 < 7 := Int.fmod_lt_of_pos _ (by decide)
    obtain ⟨j, hj⟩ := Int.eq_ofNat_of_zero_le b0
    rw [hj] at b1 ⊢
    have hsi : seqIndex? (j : Int) 7 = some j := by
      have h1 : ¬ ((j : Int) < 0) := by omega
      have h2 : j < 7 := by omega
      have h3 : (j : Int) < 7 := by omega
      simp [seqIndex?, h1, h3]
    have hint : ∃ i t, ([.int 0 u1, .int 3 u2, .int 4 u3, .int 2 u4, .int 1 u5, .int 4 u6, .int 2 u7] : List Value)[j]? = some (.int i t) := by
      have : j < 7 := by omega
      rcases j with _ | _ | _ | _ | _ | _ | _ | j <;> first | exact ⟨_, _, rfl⟩ | omega
    obtain ⟨i, u10, hi⟩ := hint
    refine rtupAt F12 hT hsi hi ?_ (by omega) (by omega)
    refine ld F12 rfl (rmod_ F12 hmi fun u11 s13 F13 => ?_)
    exact fin _ _ _ _ _ F13 ⟨_, IsList.sq hl10 F13.stb.sq⟩ (Int.fmod_nonneg_of_pos _ hmp) (Int.fmod_lt_of_pos _ hmp)
end
end Mine

namespace Mine
section
variable {prog : Program} {w : World} {A : Around} {E : Value → Shared → Prop} {s₀ s : Shared} {hb : Heap} {env : Env} {m cm mg mb : Str → Option Value} {f : Addr}

theorem square_c {Q : Value → Shared → Prop} {pr : Addr} {n N : Nat} {g : Nat → Int} {t : Tok} (hf : IsFn s.heap f 32) (G : Gl mg mb s.heap) (Rm : Room 1 A)
    (hr : RowIs s.heap pr N g) (hnN : 2 * n ≤ N + 1) (hn0 : 0 < n) (hN : N < 2 ^ 20)
    (h : ∀ a rs s', Sm s s' → Ext s.heap s'.heap → s'.heap.IsList a (List.toArray (List.map Value.ref rs)) → Tb s'.heap rs n n (fun i j => g (i + j)) → Q (.ref a) s') : wpAny (model prog w) A (call (.ref f) [.ref pr, .int n t]) Q E s := by
  obtain ⟨vs, hlr, hvn, hvs⟩ := hr
  refine enter_cells (k := 0) (binds := [("row", .ref pr), ("n", .int n t)]) hf G Rm rfl (fun _ _ _ => rfl) (fun L => by simp only [List.mem_cons, List.not_mem_nil, or_false]; rintro y (rfl | rfl) <;> exact .inr ⟨rfl, rfl⟩) (fun L cd A' s' R' hL F _ _ => ?_)
  refine wpAny_execs_cons (wpAny_Return_some (ListComp_ ?_))
  refine call_typ F G (by decide) boot_range (args_cons (ldc F rfl rfl (args_nil ?_)))
  refine rrange1 (n := n) rfl (by omega) fun I s5 q e hI it => ?_
  have G4 := G.ext F.keep
  refine comp_rule q e F.gl F.bl (Src.range (a := 0) (c := 1) (n := n) R'.hh hI) (by simpa using it) (by show _ ≤ 2 ^ 24; omega) rfl
    (fun C m c => ∀ y, y ≠ Str.ofString "one" → c y = bindC (envOfC (dfN 32).name (dfN 32).scope L f cd).kindOf [("row", .ref pr), ("n", .int n t)] (fun _ => none) y)
    (fun y => if y = Str.ofString "one" then none else bindC (envOfC (dfN 32).name (dfN 32).scope L f cd).kindOf [("row", .ref pr), ("n", .int n t)] (fun _ => none) y) ?_
    (Rows s'.heap n (fun i j => g (i + j))) (fun v m c => c (Str.ofString "one") = some v) (fun _ _ _ _ _ _ r _ e => r.mono e) (fun _ _ _ _ => Rows.nil) ?_ ?_ ?_ ?_
  · intro C h e own x c q
    replace q : List.lookup x [(Str.ofString "one", C + 1), (Str.ofString "row", L + 1), (Str.ofString "n", L + 1 + 1)] = some c := q
    rw [List.lookup_cons] at q
    split at q
    · rename_i hb
      cases q
      rw [if_pos (beq_iff_eq.mp hb)]
      exact own _ _ (List.mem_cons_self)
    · rename_i hb
      rw [if_neg (fun z => by rw [z] at hb; simp at hb)]
      exact (F.cell x c (lookup_sub (cs := [(Str.ofString "n", L + 1 + 1), (Str.ofString "row", L + 1)]) (cl := [(Str.ofString "row", L + 1), (Str.ofString "n", L + 1 + 1)]) ⟨rfl, rfl, trivial⟩ x c q)).keeps e
  · rintro C s m c v hb F2 hok hC hC' E'
    refine wpAny_assign_Name (stc F2 rfl (Classical.byContradiction fun q => hC' _ q rfl) (fun y d e hy => ?_) fun s' F' => ⟨_, _, F', fun y hy => by simp [up, hy, hok y hy], by simp⟩)
    replace e : List.lookup y [(Str.ofString "one", C + 1), (Str.ofString "row", L + 1), (Str.ofString "n", L + 1 + 1)] = some d := e
    rw [List.lookup_cons] at e
    split at e
    · rename_i hb; exact absurd (beq_iff_eq.mp hb) hy
    · obtain ⟨o, ho, _⟩ := F.cell y d (lookup_sub (cs := [(Str.ofString "n", L + 1 + 1), (Str.ofString "row", L + 1)]) (cl := [(Str.ofString "row", L + 1), (Str.ofString "n", L + 1 + 1)]) ⟨rfl, rfl, trivial⟩ y d e)
      exact hC' d (by rw [ho]; exact fun z => nomatch z)
  · intro C y hy; exact if_neg hy
  · rintro C D k ys s6 v m c hk ⟨t5, rfl⟩ hJ hlD _ hD F6 hok hbd E'
    have ek : (0 : Int) + (k : Int) * 1 = k := by omega
    rw [ek] at hbd
    have ha : c (Str.ofString "row") = some (.ref pr) := (hok _ (by decide)).trans rfl
    have hn : c (Str.ofString "n") = some (.int n t) := (hok _ (by decide)).trans rfl
    refine ListComp_ (call_typ F6 G4 (by decide) boot_range (args_cons (ldc F6 rfl hn (args_nil ?_))))
    refine rrange1 (n := n) rfl (by omega) fun I2 s7 q e hI2 it2 => ?_
    have hrow := IsList.sq hlr (F.sq.trans F6.sq)
    refine comp_local q e F6 (Src.range (a := 0) (c := 1) (n := n) R'.hh hI2) (by simpa using it2) (by show _ ≤ 2 ^ 24; omega) (fun D j y h => ∃ t, y = .int (g (k + j)) t) (fun D zs k y h h' r _ _ => r) ?_ ?_ (hcl := ⟨rfl, rfl, trivial⟩)
    · rintro C2 D2 j s8 v2 m2 o hj ⟨t6, rfl⟩ hD2 hDn2 F8 hv2 E2
      have ej : (0 : Int) + (j : Int) * 1 = j := by omega
      rw [ej] at hv2
      obtain ⟨u, hu⟩ := hvs (k + j) (by omega)
      refine Subscript_ (ldc F8 rfl ha (wpAny_BinOp (ldc F8 rfl hbd (ld F8 hv2 (radd_ F8 fun t7 s9 F9 => rlistAt F9 (IsList.sq hrow F8.sq) (by omega) (by omega) (?_ : vs[((k : Int) + (j : Int)).toNat]? = some _) ⟨_, F9, u, rfl⟩)))))
      rw [show ((k : Int) + (j : Int)).toNat = k + j by omega]; exact hu
    · rintro a zs s9 q e hDn hl hlen hT
      have F9 := F6.ext q e
      refine ⟨_, _, F9, hok, ?_⟩
      refine hJ.snoc (Stab.of_ext e).sq hDn (let ⟨o, ho, _⟩ := hlD; by rw [ho]; exact fun e => nomatch e) ⟨zs, hl, hlen, fun j hj => ?_⟩ (F6.fresh hDn)
      obtain ⟨u, hu⟩ := hT j zs[j] (List.getElem?_eq_getElem (by omega))
      exact ⟨u, by rw [List.getElem?_eq_getElem (by omega), hu]⟩
  · rintro D ys s6 q e hD hlD hlen ⟨rs, rfl, hl2, nd, _, hrow, hfr⟩
    have F6 := F.ext q e
    refine h D rs _ F6.sm F6.keep hlD ⟨hl2, fun i hi => ?_⟩
    have : i < rs.length := by omega
    exact ⟨rs[i], List.getElem?_eq_getElem this, hrow i _ (List.getElem?_eq_getElem this)⟩
end
end Mine

namespace Mine

def wStep (n : Nat) (lv fl h : Nat → Int) : Nat → Int := fun i => h i * lv i + (if 0 < i then h (i - 1) else 0) + (if i + 1 < n then h (i + 1) * fl i else 0)
def wSeq (n : Nat) (lv fl : Nat → Int) : Nat → Nat → Int
  | 0 => fun i => if i = 0 then 1 else 0
  | k + 1 => wStep n lv fl (wSeq n lv fl k)
/-- the ints told so far -/
def Tells (us : List Value) (k : Nat) (g : Nat → Int) : Prop := us.length = k ∧ ∀ j, j < k → ∃ t, us[j]? = some (.int (g j) t)
theorem Tells.snoc {us : List Value} {k : Nat} {g : Nat → Int} {t : Tok} (r : Tells us k g) : Tells (us ++ [.int (g k) t]) (k + 1) g := by
  refine ⟨by simp [r.1], fun j hj => ?_⟩
  by_cases hjk : j = k
  · subst hjk; exact ⟨t, by rw [List.getElem?_append_right (by rw [r.1]; exact Nat.le_refl _), r.1]; simp⟩
  · obtain ⟨u, hu⟩ := r.2 j (by omega)
    exact ⟨u, by rw [List.getElem?_append_left (by rw [r.1]; omega)]; exact hu⟩

theorem PlainL.bt {l a : Addr} {h h' : Heap} {xs : Array Value} (x : PlainL h a xs) (b : But l h h') (hn : a ≠ l) : PlainL h' a xs :=
  let ⟨o, n, ho, r⟩ := x; ⟨o, n, b _ _ hn ho, r⟩

section
variable {prog : Program} {w : World} {A : Around} {E : Value → Shared → Prop} {s₀ s : Shared} {hb : Heap} {env : Env} {m cm mg mb : Str → Option Value} {f : Addr}

theorem ne_of_none {h : Heap} {a b : Addr} {xs : Array Value} (ha : h.IsList a xs) (hb : h.get? b = none) : b ≠ a := by
  rintro rfl
  obtain ⟨o, ho, _⟩ := ha
  rw [hb] at ho; cases ho

theorem ways_c {Q : Value → Shared → Prop} {pl pf : Addr} {n K : Nat} {lv fl : Nat → Int} {t : Tok} (hf : IsFn s.heap f 31) (G : Gl mg mb s.heap) (Rm : Room 1 A)
    (hl : RowIs s.heap pl n lv) (hfl : RowIs s.heap pf (n - 1) fl) (hn0 : 0 < n) (hn : n < 2 ^ 20) (hK : K < 2 ^ 20) (hlv : ∀ i, i < n → (lv i).natAbs < 2 ^ 60) (hfv : ∀ i, i + 1 < n → (fl i).natAbs < 2 ^ 60)
    (h : ∀ a s', Sm s s' → Ext s.heap s'.heap → RowIs s'.heap a K (fun k => wSeq n lv fl k 0) → s.heap.get? a = none → Q (.ref a) s') : wpAny (model prog w) A (call (.ref f) [.ref pl, .ref pf, .int K t]) Q E s := by
  obtain ⟨ls, hls, hln, hlx⟩ := hl
  obtain ⟨fs, hfs, hfn, hfx⟩ := hfl
  refine enter_plain (k := 0) (binds := [("levels", .ref pl), ("falls", .ref pf), ("many", .int K t)]) hf G Rm rfl (fun _ _ _ => rfl) (locs rfl) (fun L cd A' s' R' F => ?_)
  refine wpAny_execs_cons ?_
  refine asg2 R'.hh ?_ (he := rfl) (hs := rfl) (hw := by kernel_rfl!)
  refine rlist ?_
  refine args_nil ⟨by decide, fun D s1 q e hlD hfD => ?_⟩
  have hD0 := F.fresh hfD
  have F := (F.ext q e).base
  refine wpAny_BinOp (rlist (args_cons (rint F fun t1 s2 F2 => args_nil ⟨by show 1 ≤ sizeLine; decide, fun a1 s3 q e hl1 hf1 => ?_⟩)))
  have F3 := (F2.ext q e)
  have hlD3 := F3.stb _ _ hlD (Solid.seq rfl)
  have F3 := F3.base
  refine wpAny_BinOp (rlist (args_cons (rint F3 fun t2 s4 F4 => args_nil ⟨by show 1 ≤ sizeLine; decide, fun a2 s5 q e hl2 hf2 => ?_⟩)))
  have F5 := (F4.ext q e)
  have hlD5 := F5.stb _ _ hlD3 (Solid.seq rfl)
  have hl15 := F5.stb _ _ hl1 (Solid.seq rfl)
  have F5 := F5.base
  refine wpAny_BinOp (call_blt F5 G (by decide) boot_len (args_cons (ld F5 rfl (args_nil ?_))))
  refine rlen F5 (IsList.sq hls F5.sq) (by omega) fun t3 s6 F6 => rint F6 fun t4 s7 F7 => rsub_ F7 fun t5 s8 F8 => ?_
  refine rmull F8 (F8.stb _ _ hl2 (Solid.seq rfl)) (by omega) (by omega) fun a3 s9 F9 st9 hl9 hf9 => ?_
  have hl19 : s9.heap.IsList a1 [.int 1 t1].toArray := ⟨_, F9.stb _ _ hl15 (Solid.seq rfl), rfl, _, rfl⟩
  refine raddl F9 hl19 hl9 (by show _ ≤ 2 ^ 24; simp; omega) fun H s10 F10 st10 hl10 hf10 => ?_
  have hlD10 := F10.stb _ _ hlD5 (Solid.seq rfl)
  have hHD : H ≠ D := ne_of_none ⟨_, st10 |> fun _ => F9.stb _ _ hlD5 (Solid.seq rfl), rfl, _, rfl⟩ hf10
  have hH0 := F9.fresh hf10
  intro s11 q e
  have F := (F10.ext q e)
  have F11 := F.base
  refine st F11 fun s12 F12 => st F12 fun s13 F13 => ?_
  have hD13 : PlainL s13.heap D ([] : List Value).toArray := ⟨_, _, F13.stb _ _ (e _ _ hlD10) (Solid.seq rfl), rfl, rfl, rfl⟩
  have hH13 : RowIs s13.heap H n (wSeq n lv fl 0) := by
    refine ⟨_, IsList.sq hl10 ((Stab.of_ext e).trans F13.stb).sq, by simp; omega, fun j hj => ?_⟩
    rcases j with _ | j
    · exact ⟨t1, rfl⟩
    · refine ⟨t2, ?_⟩
      rw [List.getElem?_append_right (by simp), List.getElem?_replicate, if_pos (by simp; omega)]
      rfl
  have F := F13.base
  refine wpAny_execs_cons (wpAny_For (call_typ F G (by decide) boot_range (args_cons (ld F rfl (args_nil ?_)))))
  refine rrange1 (n := K) rfl (by omega) fun I s14 q e hI it => ?_
  have hI0 := F.fresh hI
  have F14 := F.ext q e
  refine for_range R'.hh F14 it hI0 s13.heap hI e (fun k m h => m "levels" = some (.ref pl) ∧ m "falls" = some (.ref pf) ∧ m "found" = some (.ref D) ∧ (∃ us, PlainL h D (List.toArray us) ∧ Tells us k fun k => wSeq n lv fl k 0) ∧
      ∃ H, m "here" = some (.ref H) ∧ H ≠ D ∧ RowIs h H n (wSeq n lv fl k))
    (fun k m h h' ⟨i1, i2, i3, ⟨us, i4, i5⟩, H, i6, i7, i8⟩ sq => ⟨i1, i2, i3, ⟨us, PlainL.sq i4 sq, i5⟩, H, i6, i7, i8.sq sq⟩)
    ⟨rfl, rfl, rfl, ⟨[], PlainL.sq hD13 (Stab.of_ext e).sq, rfl, fun j hj => absurd hj (Nat.not_lt_zero j)⟩, H, rfl, hHD, hH13.sq (Stab.of_ext e).sq⟩ ?_ ?_
  · rintro k m s15 t6 hk _ hInv F
    refine hide fun K E1 hK => ?_
    obtain ⟨i1, i2, i3, ⟨us, i4, i5⟩, H, i6, i7, hs, i8, i9, i10⟩ := hInv
    obtain ⟨u0, hu0⟩ := i10 0 hn0
    refine wpAny_execs_cons (rappend F i3 hD0 i4 (Subscript_ (ld F i6 (rint F fun t7 s16 F16 => rlistAt F16 i8 (by decide) (by decide) hu0 ⟨us, _, _, _, F16, PlainL.sq i4 F16.stb.sq, ?_, fun s17 F17 but hp17 => ?_⟩))))
    · show _ < 2 ^ 24; have := i5.1; omega
    have i8 := but.lst (IsList.sq i8 F16.stb.sq) i7
    have kk := F16.stb.it.trans (but.it (PlainL.sq i4 F16.stb.sq).isList)
    refine wpAny_execs_cons (wpAny_Assign_Name (rlist (args_nil ⟨by decide, fun B s18 q e hlB hfB => ?_⟩)))
    have hB0 := F17.fresh hfB
    have hBD : B ≠ D := ne_of_none hp17.isList hfB
    have hBH : B ≠ H := ne_of_none i8 hfB
    have kk := kk.trans (Stab.of_ext e).it
    have hp18 := PlainL.sq hp17 (Stab.of_ext e).sq
    have i8 := IsList.sq i8 (Stab.of_ext e).sq
    refine st (F17.ext q e).base fun s19 F19 => ?_
    have kk := kk.trans F19.stb.it
    have hp19 := PlainL.sq hp18 F19.stb.sq
    have i8 := IsList.sq i8 F19.stb.sq
    have hlB19 : PlainL s19.heap B ([] : List Value).toArray := ⟨_, _, F19.stb _ _ hlB (Solid.seq rfl), rfl, rfl, rfl⟩
    have F19 := F19.base
    refine wpAny_execs_cons (wpAny_For (call_typ F19 G (by decide) boot_enumerate (args_cons (ld F19 i1 (args_nil ?_)))))
    refine renum (IsList.sq hls F19.sq) fun en itr s20 q e hen hit hne he0 hi0 => ?_
    have F20 := F19.ext q e
    refine for_enum R'.hh F20 he0 hi0 hls hne (F19.fresh hen) (F19.fresh hit) s19.heap hen hit e
      (fun j m h => m "levels" = some (.ref pl) ∧ m "falls" = some (.ref pf) ∧ m "found" = some (.ref D) ∧ m "here" = some (.ref H) ∧ m "after" = some (.ref B) ∧
        (∃ us, PlainL h D (List.toArray us) ∧ Tells us (k + 1) fun k => wSeq n lv fl k 0) ∧ h.IsList H hs.toArray ∧ ∃ zs, PlainL h B (List.toArray zs) ∧ Tells zs j (wSeq n lv fl (k + 1)))
      (fun k m h h' ⟨i1, i2, i3, i4, i5, ⟨us, i6, i7⟩, i8, zs, i9, i10⟩ sq => ⟨i1, i2, i3, i4, i5, ⟨us, PlainL.sq i6 sq, i7⟩, IsList.sq i8 sq, zs, PlainL.sq i9 sq, i10⟩)
      ⟨i1, i2, i3, i6, rfl, ⟨_, PlainL.sq hp19 (Stab.of_ext e).sq, i5.snoc⟩, IsList.sq i8 (Stab.of_ext e).sq, [], PlainL.sq hlB19 (Stab.of_ext e).sq, rfl, fun j hj => absurd hj (Nat.not_lt_zero j)⟩ ?_ ?_
    · rintro j v m s21 t8 hv _ hInv F
      refine hide fun K E1 hK => ?_
      obtain ⟨i1, i2, i3, i6, i11, ⟨us, i4, i5⟩, i8, zs, i12, i13⟩ := hInv
      have sq21 := F.sq
      have hjn : j < n := by
        have := (Array.getElem?_eq_some_iff.mp hv).1
        simp at this; omega
      obtain ⟨tv, hlvj⟩ := hlx j hjn
      have hvv : v = .int (lv j) tv := by
        rw [List.getElem?_toArray, hlvj] at hv
        exact (Option.some.inj hv).symm
      subst hvv
      obtain ⟨u1, hu1⟩ := i10 j hjn
      refine wpAny_execs_cons (wpAny_Assign_Name (wpAny_BinOp (Subscript_ (ld F i6 (ld F rfl (rlistAt F i8 (by omega) (by omega) (by rw [Int.toNat_natCast]; exact hu1) ?_))))))
      have := hlv j hjn
      refine ld F rfl (rmul_ F (.of_right (bitsN (Nat.lt_trans this (by decide)))) fun t9 s22 F => st F fun s23 F => ?_)
      have stt := F.stb
      refine wpAny_execs_cons (mid F (fun m' s' => (m' "levels" = some (.ref pl) ∧ m' "falls" = some (.ref pf) ∧ m' "found" = some (.ref D) ∧ m' "here" = some (.ref H) ∧ m' "after" = some (.ref B) ∧ ∃ t, m' "at" = some (.int j t)) ∧
        (∃ t, m' "total" = some (.int (wSeq n lv fl k j * lv j + (if 0 < j then wSeq n lv fl k (j - 1) else 0)) t)) ∧ Stab s21.heap s'.heap) ?_ ?_)
      · refine hide fun K E1 hK => ?_
        refine wpAny_If (wpAny_isTrue_Compare1 (ld F rfl (rint F fun t10 s24 F => PyProof.Rows.gt_int (wpAny_truthy_bool ?_))))
        by_cases hj0 : 0 < j
        · obtain ⟨u2, hu2⟩ := i10 (j - 1) (by omega)
          refine iteP (by simp; omega) (wpAny_execs_cons (wpAny_Assign_Name (wpAny_BinOp (ld F rfl ?_))))
          refine Subscript_ (ld F i6 (wpAny_BinOp (ld F rfl (rint F fun t11 s25 F => rsub_ F fun t12 s26 F => ?_))))
          refine rlistAt F i8 (by omega) (by omega) (by rw [show ((j : Int) - 1).toNat = j - 1 by omega]; exact hu2) (radd_ F fun t13 s27 F => st F fun s28 F => ?_)
          exact wpAny_execs_nil (hK _ _ ⟨rfl, _, _, F, ⟨i1, i2, i3, i6, i11, _, rfl⟩, ⟨_, by rw [if_pos hj0]; rfl⟩, F.stb⟩)
        · refine iteN (by simp; omega) (wpAny_execs_nil (hK _ _ ⟨rfl, _, _, F, ⟨i1, i2, i3, i6, i11, _, rfl⟩, ⟨_, by rw [if_neg hj0, Int.add_zero]; rfl⟩, F.stb⟩))
      rintro hb2 m2 s30 F0 ⟨⟨j1, j2, j3, j4, j5, tj, j6⟩, ⟨tt, j7⟩, st30⟩
      have F := F0.base.rebase st30
      clear F0
      refine wpAny_execs_cons (mid F (fun m' s' => (m' "levels" = some (.ref pl) ∧ m' "falls" = some (.ref pf) ∧ m' "found" = some (.ref D) ∧ m' "here" = some (.ref H) ∧ m' "after" = some (.ref B)) ∧
        (∃ t, m' "total" = some (.int (wSeq n lv fl (k + 1) j) t)) ∧ Stab s21.heap s'.heap) ?_ ?_)
      · refine hide fun K E1 hK => ?_
        refine wpAny_If (wpAny_isTrue_Compare1 (wpAny_BinOp (ld F j6 (rint F fun t10 s24 F => radd_ F fun t14 s25 F => ?_))))
        refine call_blt F G (by decide) boot_len (args_cons (ld F j1 (args_nil (rlen F (IsList.sq hls sq21) (by omega) fun t15 s26 F => PyProof.Rows.lt_int (wpAny_truthy_bool ?_)))))
        by_cases hj1 : j + 1 < n
        · obtain ⟨u3, hu3⟩ := i10 (j + 1) hj1
          obtain ⟨u4, hu4⟩ := hfx j (by omega)
          have := hfv j hj1
          refine iteP (by simp; omega) (wpAny_execs_cons (wpAny_Assign_Name (wpAny_BinOp (ld F j7 ?_))))
          refine wpAny_BinOp (Subscript_ (ld F j4 (wpAny_BinOp (ld F j6 (rint F fun t11 s27 F => radd_ F fun t12 s28 F => ?_)))))
          refine rlistAt F i8 (by omega) (by omega) (by rw [show ((j : Int) + 1).toNat = j + 1 by omega]; exact hu3) ?_
          refine Subscript_ (ld F j2 (ld F j6 (rlistAt F (IsList.sq hfs sq21) (by omega) (by omega) (by rw [Int.toNat_natCast]; exact hu4) ?_)))
          refine rmul_ F (.of_right (bitsN (Nat.lt_trans this (by decide)))) fun t16 s29 F => radd_ F fun t17 s30 F => st F fun s31 F => ?_
          refine wpAny_execs_nil (hK _ _ ⟨rfl, _, _, F, ⟨j1, j2, j3, j4, j5⟩, ⟨t17, ?_⟩, F.stb⟩)
          show some _ = some _
          rw [wSeq, wStep, if_pos hj1]
        · refine iteN (by simp; omega) (wpAny_execs_nil (hK _ _ ⟨rfl, _, _, F, ⟨j1, j2, j3, j4, j5⟩, ⟨tt, ?_⟩, F.stb⟩))
          rw [j7, wSeq, wStep, if_neg hj1, Int.add_zero]
      rintro hb3 m3 s31 F0 ⟨⟨j1, j2, j3, j4, j5⟩, ⟨tt, j7⟩, st31⟩
      have F := F0.base.rebase st31
      refine wpAny_execs_cons (rappend F j5 hB0 (PlainL.sq i12 st31.sq) (ld F j7 ⟨zs, _, _, _, F, PlainL.sq i12 st31.sq, ?_, fun s32 F32 but hp32 => ?_⟩))
      · show _ < 2 ^ 24; have := i13.1; omega
      have hlB := (PlainL.sq i12 st31.sq).isList
      refine wpAny_execs_nil (hK _ _ ⟨_, _, F32, st31.it.trans (but.it hlB), j1, j2, j3, j4, j5, ⟨us, PlainL.bt (PlainL.sq i4 st31.sq) but (Ne.symm hBD), i5⟩, but.lst (IsList.sq i8 st31.sq) (Ne.symm hBH), _, hp32, i13.snoc⟩)
    · rintro m s21 hit2 ⟨i1, i2, i3, i6, i11, ⟨us, i4, i5⟩, i8, zs, i12, i13⟩ F
      have hsz : ls.toArray.size = n := by simp [hln]
      rw [hsz] at i13
      refine wpAny_execs_cons (wpAny_Assign_Name (ld F i11 (st F fun s22 F22 => ?_)))
      exact wpAny_execs_nil (hK _ _ ⟨_, _, F22, (kk.trans hit2).trans F22.stb.it, i1, i2, i3, ⟨us, PlainL.sq i4 F22.stb.sq, i5⟩, B, rfl, hBD, zs, IsList.sq i12.isList F22.stb.sq, i13⟩)
  · rintro m s15 _ ⟨i1, i2, i3, ⟨us, i4, i5⟩, H, i6, i7, i8⟩ F
    exact wpAny_execs_cons (wpAny_Return_some (ld F i3 (h D _ F.sm F.keep ⟨us, i4.isList, i5⟩ hD0)))
end
end Mine

namespace Mine

def tbl (lv fl : Nat → Int) (h : Int) : Nat → Nat → Int := fun i j => if j = i then lv i - h else if j + 1 = i then fl j else if j = i + 1 then 1 else 0
/-- one list may turn, all else stands -/
def Kp (B : Addr) (h h' : Heap) : Prop := SeqsBut B h h' ∧ Iters h h'
theorem Kp.of_stab {B : Addr} {h h' : Heap} (x : Stab h h') : Kp B h h' := ⟨x.sq.but, x.it⟩
theorem Kp.of_but {B : Addr} {h h' : Heap} {xs : Array Value} (x : But B h h') (hl : h.IsList B xs) : Kp B h h' := ⟨fun b o _ _ n e _ => x b o n e, x.it hl⟩
theorem Kp.trans {B : Addr} {h h' h'' : Heap} (x : Kp B h h') (y : Kp B h' h'') : Kp B h h'' := ⟨fun b o xs n z e d => y.1 b o xs n z (x.1 b o xs n z e d) d, x.2.trans y.2⟩
theorem PlainL.kp {B a : Addr} {h h' : Heap} {xs : Array Value} (x : PlainL h a xs) (k : Kp B h h') (hn : a ≠ B) : PlainL h' a xs :=
  let ⟨o, n, ho, hc, hd, hs⟩ := x; ⟨o, n, k.1 _ _ _ _ hn ho hs, hc, hd, hs⟩

section
variable {prog : Program} {w : World} {A : Around} {E : Value → Shared → Prop} {s₀ s : Shared} {hb : Heap} {env : Env} {m cm mg mb : Str → Option Value} {f : Addr}

theorem rsetRow {l : Addr} {n k : Nat} {kI x : Int} {g : Nat → Int} {t u : Tok} {Q : Unit → Shared → Prop} (F : Fm s₀ hb env m cm s) (hr : RowIs s.heap l n g) (hn : s₀.heap.get? l = none) (hk : k < n) (hkI : kI = k) (hn' : n < 2 ^ 60)
    (h : ∀ s', Fm s₀ s'.heap env m cm s' → Kp l s.heap s'.heap → RowIs s'.heap l n (fun j => if j = k then x else g j) → Q () s') :
    wpAny (model prog w) A (setItem (.ref l) (.int kI t) (.int x u)) Q E s := by
  subst hkI
  obtain ⟨vs, hl, hvn, hv⟩ := hr
  refine rset F hl hn (by omega) (by omega) (by omega) fun s' F' but hl' => h s' F' (.of_but but hl) ⟨_, hl', by simpa using hvn, fun j hj => ?_⟩
  rw [Int.toNat_natCast]
  by_cases e : j = k
  · subst e; exact ⟨u, by rw [List.getElem?_set_self (by omega)]; simp⟩
  · obtain ⟨t', q⟩ := hv j hj
    exact ⟨t', by rw [List.getElem?_set_ne (Ne.symm e)]; simpa [e] using q⟩

theorem table_c {Q : Value → Shared → Prop} {pl pf : Addr} {n : Nat} {lv fl : Nat → Int} {hh : Int} {t : Tok} (hf : IsFn s.heap f 33) (G : Gl mg mb s.heap) (Rm : Room 1 A)
    (hl : RowIs s.heap pl n lv) (hfl : RowIs s.heap pf (n - 1) fl) (hn : n < 2 ^ 20)
    (h : ∀ a rs s', Sm s s' → Ext s.heap s'.heap → s'.heap.IsList a (List.toArray (List.map Value.ref rs)) → Tb s'.heap rs n n (tbl lv fl hh) → Q (.ref a) s') : wpAny (model prog w) A (call (.ref f) [.ref pl, .ref pf, .int hh t]) Q E s := by
  obtain ⟨ls, hls, hln, hlx⟩ := hl
  obtain ⟨fs, hfs, hfn, hfx⟩ := hfl
  refine enter_plain (k := 0) (binds := [("levels", .ref pl), ("falls", .ref pf), ("h", .int hh t)]) hf G Rm rfl (fun _ _ _ => rfl) (locs rfl) (fun L cd A' s' R' F => ?_)
  refine wpAny_execs_cons (wpAny_Assign_Name (rlist (args_nil ⟨by decide, fun D s1 q e hlD hfD => ?_⟩)))
  have hD0 := F.fresh hfD
  refine st (F.ext q e).base fun s2 F => ?_
  have hD2 : PlainL s2.heap D ([] : List Value).toArray := ⟨_, _, F.stb _ _ hlD (Solid.seq rfl), rfl, rfl, rfl⟩
  have F := F.base
  refine wpAny_execs_cons (wpAny_For (call_typ F G (by decide) boot_enumerate (args_cons (ld F rfl (args_nil ?_)))))
  refine renum (IsList.sq hls F.sq) fun en itr s3 q e hen hit hne he0 hi0 => ?_
  have F3 := F.ext q e
  refine for_enum R'.hh F3 he0 hi0 hls hne (F.fresh hen) (F.fresh hit) s2.heap hen hit e
    (fun j m h => m "levels" = some (.ref pl) ∧ m "falls" = some (.ref pf) ∧ m "h" = some (.int hh t) ∧ m "found" = some (.ref D) ∧
      ∃ rs, PlainL h D (List.toArray (List.map Value.ref rs)) ∧ rs.length = j ∧ D ∉ rs ∧ ∀ i, i < j → ∃ a, rs[i]? = some a ∧ RowIs h a n (tbl lv fl hh i))
    (fun k m h h' ⟨i1, i2, i3, i4, rs, i5, i6, i7, i8⟩ sq => ⟨i1, i2, i3, i4, rs, PlainL.sq i5 sq, i6, i7, fun i hi => let ⟨a, x, y⟩ := i8 i hi; ⟨a, x, y.sq sq⟩⟩)
    ⟨rfl, rfl, rfl, rfl, [], PlainL.sq hD2 (Stab.of_ext e).sq, rfl, by simp, fun j hj => absurd hj (Nat.not_lt_zero j)⟩ ?_ ?_
  · rintro j v m s4 t1 hv _ hInv F
    refine hide fun K E1 hK => ?_
    obtain ⟨i1, i2, i3, i4, rs, i5, i6, i7, i8⟩ := hInv
    have sq4 := F.sq
    have hjn : j < n := by
      have := (Array.getElem?_eq_some_iff.mp hv).1
      simp at this; omega
    obtain ⟨tv, hlvj⟩ := hlx j hjn
    have hvv : v = .int (lv j) tv := by
      rw [List.getElem?_toArray, hlvj] at hv
      exact (Option.some.inj hv).symm
    subst hvv
    refine wpAny_execs_cons (wpAny_Assign_Name (wpAny_BinOp (rlist (args_cons (rint F fun t2 s5 F5 => args_nil ⟨by show 1 ≤ sizeLine; decide, fun a2 s6 q e hl2 hf2 => ?_⟩)))))
    have F6 := (F5.ext q e)
    have st6 := F6.stb
    have F6 := F6.base
    refine call_blt F6 G (by decide) boot_len (args_cons (ld F6 i1 (args_nil ?_)))
    refine rlen F6 (IsList.sq hls F6.sq) (by omega) fun t3 s7 F7 => ?_
    refine rmull F7 (F7.stb _ _ hl2 (Solid.seq rfl)) (by omega) (by omega) fun B s8 F8 st8 hl8 hf8 => ?_
    have hB0 := F7.fresh hf8
    have kp8 := st6.trans F8.stb
    have hBD : B ≠ D := ne_of_none (PlainL.sq i5 (st6.trans F7.stb).sq).isList hf8
    have hBr : B ∉ rs := fun hm => by
      obtain ⟨i, hi, q⟩ := List.getElem_of_mem hm
      obtain ⟨a, x, y⟩ := i8 i (by omega)
      rw [List.getElem?_eq_getElem hi, q] at x; cases x
      exact (y.sq (st6.trans F7.stb).sq).some hf8
    refine st F8.base fun s9 F9 => ?_
    have row9 : RowIs s9.heap B n (fun _ => 0) := ⟨_, IsList.sq hl8 F9.stb.sq, by simp; omega, fun i hi => ⟨t2, by rw [List.getElem?_replicate, if_pos (by omega)]⟩⟩
    have kp9 : Kp B s4.heap s9.heap := .of_stab (kp8.trans F9.stb)
    have F9 := F9.base
    refine wpAny_execs_cons (wpAny_Assign_Subscript (wpAny_BinOp (ld F9 rfl (ld F9 i3 (rsub_ F9 fun t4 s10 F10 => ld F10 rfl (ld F10 rfl ?_))))))
    refine rsetRow F10 (row9.sq F10.stb.sq) hB0 hjn rfl (by omega) fun s11 F11 kp row11 => ?_
    have kp11 := (kp9.trans (.of_stab F10.stb)).trans kp
    refine wpAny_execs_cons (mid F11 (fun m' s' => (m' "levels" = some (.ref pl) ∧ m' "falls" = some (.ref pf) ∧ m' "h" = some (.int hh t) ∧ m' "found" = some (.ref D) ∧ m' "line" = some (.ref B) ∧ ∃ t, m' "at" = some (.int j t)) ∧
      RowIs s'.heap B n (fun i => if i = j then lv j - hh else if i + 1 = j then fl i else 0) ∧ Kp B s4.heap s'.heap) ?_ ?_)
    · refine hide fun K E1 hK => ?_
      refine wpAny_If (wpAny_isTrue_Compare1 (ld F11 rfl (rint F11 fun t10 s12 F12 => PyProof.Rows.gt_int (wpAny_truthy_bool ?_))))
      by_cases hj0 : 0 < j
      · obtain ⟨u2, hu2⟩ := hfx (j - 1) (by omega)
        refine iteP (by simp; omega) (wpAny_execs_cons (wpAny_Assign_Subscript ?_))
        refine Subscript_ (ld F12 i2 (wpAny_BinOp (ld F12 rfl (rint F12 fun t11 s13 F13 => rsub_ F13 fun t12 s14 F14 => ?_))))
        refine rlistAt F14 (IsList.sq hfs F11.sq) (by omega) (by omega) (by rw [show ((j : Int) - 1).toNat = j - 1 by omega]; exact hu2) ?_
        refine ld F14 rfl (wpAny_BinOp (ld F14 rfl (rint F14 fun t13 s15 F15 => rsub_ F15 fun t14 s16 F16 => ?_)))
        refine rsetRow F16 (row11.sq F16.stb.sq) hB0 (k := j - 1) (by omega) (by omega) (by omega) fun s17 F17 kp row17 => ?_
        refine wpAny_execs_nil (hK _ _ ⟨rfl, _, _, F17, ⟨i1, i2, i3, i4, rfl, _, rfl⟩, row17.congr fun i hi => ?_, (kp11.trans (.of_stab F16.stb)).trans kp⟩)
        by_cases e1 : i = j
        · rw [if_neg (by omega), if_pos e1, if_pos e1]
        · by_cases e2 : i + 1 = j
          · rw [if_pos (by omega), if_neg e1, if_pos e2, show j - 1 = i by omega]
          · rw [if_neg (by omega), if_neg e1, if_neg e1, if_neg e2]
      · refine iteN (by simp; omega) (wpAny_execs_nil (hK _ _ ⟨rfl, _, _, F12, ⟨i1, i2, i3, i4, rfl, _, rfl⟩, (row11.sq F12.stb.sq).congr fun i hi => ?_, kp11.trans (.of_stab F12.stb)⟩))
        by_cases e1 : i = j
        · rw [if_pos e1, if_pos e1]
        · rw [if_neg e1, if_neg e1, if_neg (by omega)]
    rintro hb2 m2 s18 F18 ⟨⟨j1, j2, j3, j4, j5, tj, j6⟩, row18, kp18⟩
    have F18 := F18.base
    refine wpAny_execs_cons (mid F18 (fun m' s' => (m' "levels" = some (.ref pl) ∧ m' "falls" = some (.ref pf) ∧ m' "h" = some (.int hh t) ∧ m' "found" = some (.ref D) ∧ m' "line" = some (.ref B)) ∧
      RowIs s'.heap B n (tbl lv fl hh j) ∧ Kp B s4.heap s'.heap) ?_ ?_)
    · refine hide fun K E1 hK => ?_
      refine wpAny_If (wpAny_isTrue_Compare1 (wpAny_BinOp (ld F18 j6 (rint F18 fun t10 s19 F19 => radd_ F19 fun t14 s20 F20 => ?_))))
      refine call_blt F20 G (by decide) boot_len (args_cons (ld F20 j1 (args_nil (rlen F20 (IsList.sq hls F18.sq) (by omega) fun t15 s21 F21 => PyProof.Rows.lt_int (wpAny_truthy_bool ?_)))))
      by_cases hj1 : j + 1 < n
      · refine iteP (by simp; omega) (wpAny_execs_cons (wpAny_Assign_Subscript (rint F21 fun t16 s22 F22 => ?_)))
        refine ld F22 j5 (wpAny_BinOp (ld F22 j6 (rint F22 fun t17 s23 F23 => radd_ F23 fun t18 s24 F24 => ?_)))
        refine rsetRow F24 (row18.sq F24.stb.sq) hB0 (k := j + 1) hj1 (by omega) (by omega) fun s25 F25 kp row25 => ?_
        refine wpAny_execs_nil (hK _ _ ⟨rfl, _, _, F25, ⟨j1, j2, j3, j4, j5⟩, row25.congr fun i hi => ?_, (kp18.trans (.of_stab F24.stb)).trans kp⟩)
        unfold tbl
        by_cases e1 : i = j + 1
        · rw [if_pos e1, if_neg (by omega), if_neg (by omega), if_pos e1]
        · rw [if_neg e1, if_neg e1]
      · refine iteN (by simp; omega) (wpAny_execs_nil (hK _ _ ⟨rfl, _, _, F21, ⟨j1, j2, j3, j4, j5⟩, (row18.sq F21.stb.sq).congr fun i hi => ?_, kp18.trans (.of_stab F21.stb)⟩))
        unfold tbl
        rw [if_neg (c := i = j + 1) (by omega)]
    rintro hb3 m3 s26 F26 ⟨⟨j1, j2, j3, j4, j5⟩, row26, kp26⟩
    have hp26 := PlainL.kp i5 kp26 (Ne.symm hBD)
    refine wpAny_execs_cons (rappend F26 j4 hD0 hp26 (ld F26 j5 ⟨_, _, _, _, F26, hp26, ?_, fun s27 F27 but hp27 => ?_⟩))
    · show _ < 2 ^ 24; simp; omega
    refine wpAny_execs_nil (hK _ _ ⟨_, _, F27, kp26.2.trans (but.it hp26.isList), j1, j2, j3, j4, rs ++ [B], by simpa using hp27, by simp [i6], ?_, fun i hi => ?_⟩)
    · intro hm
      rcases List.mem_append.mp hm with hm | hm
      · exact i7 hm
      · exact hBD (List.mem_singleton.mp hm).symm
    · by_cases hij : i = j
      · subst hij
        exact ⟨B, by rw [List.getElem?_append_right (by omega), i6]; simp, row26.but but hBD⟩
      · obtain ⟨a, x, y⟩ := i8 i (by omega)
        have hm := List.mem_of_getElem? x
        exact ⟨a, by rw [List.getElem?_append_left (by omega)]; exact x, (y.sqBut (fun z => hBr (by rw [← z]; exact hm)) kp26.1).but but (fun z => i7 (by rw [← z]; exact hm))⟩
  · rintro m s4 _ ⟨i1, i2, i3, i4, rs, i5, i6, i7, i8⟩ F
    have hsz : ls.toArray.size = n := by simp [hln]
    rw [hsz] at i6 i8
    exact wpAny_execs_cons (wpAny_Return_some (ld F i4 (h D rs _ F.sm F.keep i5.isList ⟨i6, i8⟩)))
end
end Mine

namespace Mine
section
variable {prog : Program} {w : World} {A : Around} {E : Value → Shared → Prop} {s₀ s : Shared} {hb : Heap} {env : Env} {m cm mg mb : Str → Option Value} {f : Addr}

theorem cells_ap {cs : List (Str × Addr)} (hp : cs.Pairwise fun x y => x.2 ≠ y.2) {x : Str} {c : Addr} (hc : cs.lookup x = some c) : ∀ y d, cs.lookup y = some d → y ≠ x → d ≠ c :=
  fun y d e n q => n (PySem.name_of_addr hp (PySem.mem_of_lookup e) (q ▸ PySem.mem_of_lookup hc))

theorem rappendc {o : Str} {p1 apos pos epos : Pos} {elt : Expr} {l c : Addr} {Q : Flow → Shared → Prop} (F : Fm s₀ hb env m cm s) (hc : env.cells.lookup o = some c) (hm : cm o = some (.ref l)) (hn : s₀.heap.get? l = none)
    {its : Array Value} (hp : PlainL s.heap l its)
    (h : wpAny (model prog w) A (eval elt env) (fun y s₁ => ∃ (vs : List Value) (m' cm' : Str → Option Value) (hb' : Heap), Fm s₀ hb' env m' cm' s₁ ∧ PlainL s₁.heap l vs.toArray ∧ vs.length < sizeLine ∧
      ∀ s', Fm s₀ s'.heap env m' cm' s' → But l s₁.heap s'.heap → PlainL s'.heap l (vs ++ [y]).toArray → Q .next s') E s)
    (hl : env.kindOf o = some .cell := by rfl) (hd : (o == ("__debug__" : Str)) = false := by decide)
    (hbase : attributeBase (.Name o p1) "append" env (eval (.Name o p1) env) = eval (.Name o p1) env := by rfl)
    (hfew : ((backTo pos (starEach [elt] env)).all (fun x => !x.1) && (backToKw pos (keywordEach [] env)).all (fun x => x.1.isSome)
      && decide (([elt] : List Expr).length + ([] : List Keyword).length + (if ([] : List Keyword).isEmpty then 0 else 1) < 30)) = true := by rfl)
    (hline : (apos.endLine == pos.line) = true := by rfl)
    (htrees : backTo pos (starEach [elt] env) = [(false, eval elt env)] := by rfl)
    (hi : interactive env = false := by rfl) (hs : swapsWith (.Call (.Attribute (.Name o p1) "append" apos) [elt] [] pos) none epos.line env = pure false := by rfl) :
    wpAny (model prog w) A (exec (.Expr (.Call (.Attribute (.Name o p1) "append" apos) [elt] [] pos) epos) env) Q E s := by
  refine wpAny_Expr (wpAny_Call_append hbase hfew hline htrees (ldc F hc hm ⟨l, its, rfl, hp, wpAny_mono h (fun y s₁ q => ?_) fun _ _ x => x⟩ hl hd)) hi hs
  obtain ⟨vs, m', cm', hb', F', hp', hsz, hq⟩ := q
  refine list_append_plainL hp' (fun h' hl' hs' => ?_) (by simp; omega)
  have but : But l s₁.heap h' := fun b o n e => (hs'.2 b n).trans e
  exact hq _ (F'.mutL (s' := { s₁ with heap := h' }) hp'.isList hn ⟨h', s₁.toks, rfl⟩ but) but (by simpa using hl')

/-- the last of a list -/
theorem rlast {value slice : Expr} {p : Addr} {l : List Value} {x : Value} {u : Tok} {Q : Value → Shared → Prop} (F : Fm s₀ hb env m cm s) (hl : hb.IsList p l.toArray) (h0 : 0 < l.length)
    (hx : l[l.length - 1]? = some x) (h : Q x s)
    (hs : subscripted slice false (.ref p) (.int (-1) u) = operate [.ref p, .int (-1) u] (getItem (.ref p) (.int (-1) u)) := by with_unfolding_all rfl) :
    wpAny (model prog w) A (subscriptTail value slice (.ref p) (.int (-1) u)) Q E s :=
  have hL := IsList.sq hl F.stb.sq
  tail_any hL.typeIs slot_list_getitem.lookup (wpAny_getItem_list_neg hL (by decide) (by simp; omega) (by decide) (by simp; rw [show ((-1 : Int) + (l.length : Int)).toNat = l.length - 1 by omega]; simpa using hx) h) hs

/-- three targets stored in their order -/
theorem asgTriple {t1 t2 t3 e1 e2 e3 : Expr} {tp vp pos : Pos} {k k' : Nat} {Q : Flow → Shared → Prop} (hh : A.handled = none)
    (h : wpAny (model prog w) A (eval e1 env) (fun v1 s₁ => wpAny (model prog w) A (eval e2 env) (fun v2 s₂ => wpAny (model prog w) A (eval e3 env) (fun v3 s₃ => ∀ s₄, Sm s₃ s₄ → Ext s₃.heap s₄.heap →
      wpAny (model prog w) A (assign t1 env v1) (fun _ s₅ => wpAny (model prog w) A (assign t2 env v2) (fun _ s₆ => wpAny (model prog w) A (assign t3 env v3) (fun _ => Q .next) E s₆) E s₅) E s₄) E s₂) E s₁) E s)
    (he : starEach [e1, e2, e3] env = [(false, eval e1 env), (false, eval e2 env), (false, eval e3 env)] := by rfl)
    (ha : assignEach [t1, t2, t3] env = [(false, assign t1 env), (false, assign t2 env), (false, assign t3 env)] := by rfl)
    (hs : swapsWithSole [.Tuple [t1, t2, t3] k tp] (.Tuple [e1, e2, e3] k' vp) pos.line env = pure false := by rfl)
    (hw : swappedStores [.Tuple [t1, t2, t3] k tp] (.Tuple [e1, e2, e3] k' vp) env = pure none := by rfl) :
    wpAny (model prog w) A (exec (.Assign [.Tuple [t1, t2, t3] k tp] (.Tuple [e1, e2, e3] k' vp) pos) env) Q E s := by
  refine Assign_Tuple ?_ hs hw
  refine wpAny_Tuple_spliced ?_
  rw [he]
  refine Calls.spliced_cons (wpAny_mono h (fun v1 s₁ h₁ => Calls.spliced_cons (wpAny_mono h₁ (fun v2 s₂ h₂ => Calls.spliced_cons (wpAny_mono h₂ (fun v3 s₃ h₃ => Calls.spliced_nil ⟨(by show 3 ≤ sizeLine; decide), ?_⟩) fun _ _ x => x)) fun _ _ x => x)) fun _ _ x => x)
  refine assign_Tuple_tuple (items := #[v1, v2, v3]) hh ⟨_, Heap.get?_push_size _ rfl, rfl, _, rfl⟩ (by rw [ha]; rfl) (by rw [ha]; rfl) fun h' he' => ?_
  have hx : Ext s₃.heap h' := fun b o e => he' b o (by simp only [Heap.size_push]; exact Nat.ne_of_lt (Nat.lt_succ_of_lt (Heap.lt_size e))) (Heap.get?_push_of_some _ e)
  rw [ha]
  show wpAny _ _ (assignInOrder [assign t1 env, assign t2 env, assign t3 env] [v1, v2, v3]) _ _ _
  refine wpAny_assignInOrder_more (wpAny_mono (h₃ _ ⟨h', s₃.toks, rfl⟩ hx) (fun _ s₄ h₄ => ?_) fun _ _ x => x)
  refine wpAny_assignInOrder_more (wpAny_mono h₄ (fun _ s₅ h₅ => ?_) fun _ _ x => x)
  exact wpAny_assignInOrder_more (wpAny_mono h₅ (fun _ _ q => wpAny_assignInOrder_none q) fun _ _ x => x)

theorem for_list {R : Result → Shared → Prop} {x : Str} {px : Pos} {body : List Stmt} {I ax : Addr} {items : Array Value} (hh : A.handled = none) (F : Fm s₀ hb env m cm s)
    (it : s.heap.IsListIter I ax 0) (hnew : s₀.heap.get? I = none) (hB : Heap) (hBI : hB.get? I = none) (hB0 : Ext hB s.heap)
    (Inv : Nat → (Str → Option Value) → Heap → Prop) (mono : ∀ k m h h', Inv k m h → Seqs h h' → Inv k m h') (hax : ∀ k m h, Inv k m h → h.IsList ax items) (init : Inv 0 m s.heap)
    (turn : ∀ k v m s₁, items[k]? = some v → Iters hB s₁.heap → Inv k m s₁.heap → Fm s₀ s₁.heap env (up m x v) cm s₁ → wpAny (model prog w) A (execs body env) (fun f s₂ => match f with
      | .next | .cont => ∃ hb' m', Fm s₀ hb' env m' cm s₂ ∧ Iters s₁.heap s₂.heap ∧ Inv (k + 1) m' s₂.heap
      | .brk => R (.ok .next) s₂
      | .ret v => R (.ok (.ret v)) s₂) (notedBy (model prog w) A env fun e s' => R (.error e) s') s₁)
    (done : ∀ m s₁, Iters hB s₁.heap → Inv items.size m s₁.heap → Fm s₀ s₁.heap env m cm s₁ → R (.ok .next) s₁)
    (hl : env.kindOf x = some .local := by rfl) :
    codeAny (model prog w) A (.forLoop (.Name x px) (.ref I) body [] env) R s := by
  have hne : ax ≠ I := by
    rintro rfl
    obtain ⟨o, ho, hc, _⟩ := hax _ _ _ init
    obtain ⟨o', ho', hc', _⟩ := it
    rw [ho] at ho'; cases ho'; rw [hc] at hc'; exact absurd hc' (by decide)
  have W := Walks.list (prog := prog) (w := w) hh I ax hne items
  refine codeAny_forLoop (fun q s' => ∃ k m hb', Fm s₀ hb' env m cm s' ∧ Inv k m s'.heap ∧ s'.heap.IsListIter I ax k ∧ k ≤ items.size ∧ q = items.size + 1 - k ∧ Iters hB s'.heap) ?_ (items.size + 1)
    ⟨0, m, hb, F, init, it, Nat.zero_le _, rfl, fun b o _ _ e => hB0 b o e⟩
  rintro q s' ⟨k, m, hb', F, hI, it, hk, rfl, hBs⟩
  obtain ⟨oi, hio, hic, hid⟩ := id it
  have fm : ∀ {h'} {tk : Nat}, (∀ b o, b ∉ [I] → s'.heap.get? b = some o → h'.get? b = some o) → Fm s₀ h' env m cm { s' with heap := h', toks := tk } ∧ Seqs s'.heap h' ∧ Iters hB h' := fun {h' tk} hk' => by
    have hbut : But I s'.heap h' := fun b o hb e => hk' b o (by simpa using hb) e
    refine ⟨(F.base.rebase (h := hE) (fun b o e => by rw [none_at] at e; cases e)).mut (l := I) hio (Solid.fields hid) hnew (none_at _) ⟨h', tk, rfl⟩ hbut |>.base, seqs_of_but hbut hio hid, fun b o t d e => hbut b o (fun q => by rw [q, hBI] at e; cases e) (hBs b o t d e)⟩
  by_cases hlt : k < items.size
  · refine W.item k _ _ _ hlt ⟨it, hax _ _ _ hI⟩ fun v h₁ tk₁ hP it₁ hk₁ => ?_
    obtain ⟨F₁, sq, hB₁⟩ := fm (tk := tk₁) hk₁
    refine wpAny_assign_Name (st F₁ (fun s₂ F₂ => ?_) hl)
    have st2 := F₂.stb
    refine wpAny_mono (turn k v m s₂ hP (hB₁.trans st2.it) (mono _ _ _ _ hI (sq.trans st2.sq)) F₂.base) (fun f s₃ h₃ => ?_) fun _ _ e => e
    have go : (∃ hb' m', Fm s₀ hb' env m' cm s₃ ∧ Iters s₂.heap s₃.heap ∧ Inv (k + 1) m' s₃.heap) → _ := fun ⟨hb', m', F₃, ki, hI₃⟩ =>
      (⟨items.size + 1 - (k + 1), by omega, k + 1, m', hb', F₃, hI₃, let ⟨o, ho, hc, hd⟩ := it₁.1; ⟨o, ki _ _ (Solid.fields hd) (by intro _ _ e; rw [hd] at e; cases e) (st2 _ _ ho (Solid.fields hd)), hc, hd⟩, hlt, rfl, (hB₁.trans st2.it).trans ki⟩ :
        ∃ m_1, m_1 < items.size + 1 - k ∧ ∃ k m hb', Fm s₀ hb' env m cm s₃ ∧ Inv k m s₃.heap ∧ s₃.heap.IsListIter I ax k ∧ k ≤ items.size ∧ m_1 = items.size + 1 - k ∧ Iters hB s₃.heap)
    cases f with
    | next => exact go h₃
    | cont => exact go h₃
    | brk => exact h₃
    | ret v => exact h₃
  · have hkn : k = items.size := by omega
    subst hkn
    refine W.done _ _ _ ⟨it, hax _ _ _ hI⟩ fun h₁ tk₁ hk₁ => wpAny_execs_nil ?_
    obtain ⟨F₁, sq, hB₁⟩ := fm (tk := tk₁) hk₁
    exact done m _ hB₁ (mono _ _ _ _ hI sq) F₁

/-- (x, 1) -/
theorem rrat {e : Expr} {k kk : Nat} {pos p1 : Pos} {Q : Value → Shared → Prop}
    (h : wpAny (model prog w) A (eval e env) (fun v s₁ => ∃ x t hb m cm, v = .int x t ∧ Fm s₀ hb env m cm s₁ ∧ ∀ a s', Fm s₀ hb env m cm s' → Ext s₁.heap s'.heap → Rat s'.heap (.ref a) x → Q (.ref a) s') E s)
    (he : starEach [e, .Constant (.int 1) k p1] env = (false, eval e env) :: starEach [.Constant (.int 1) k p1] env := by rfl) :
    wpAny (model prog w) A (eval (.Tuple [e, .Constant (.int 1) k p1] kk pos) env) Q E s := by
  refine rtuple (args_cons (wpAny_mono h (fun v s₁ q => ?_) fun _ _ x => x) he)
  obtain ⟨x, t, hb, m, cm, rfl, F, q⟩ := q
  refine args_cons (wpAny_Constant_int (args_nil ⟨by show 2 ≤ sizeLine; decide, fun a s' q1 e hT _ => q a s' (F.ext (Sm.trans ⟨s₁.heap, s₁.toks + 1, rfl⟩ q1) e) e ⟨a, t, _, rfl, hT⟩⟩))

/-- two lists of ints compared -/
theorem rne_rows {a b : Addr} {n : Nat} {g g' : Nat → Int} {Q : Value → Shared → Prop} (ha : RowIs s.heap a n g) (hb' : RowIs s.heap b n g') (e : ∀ k, k < n → g k = g' k) (hu : A.units + 64 < cLine) (h : Q (.bool false) s) :
    wpAny (model prog w) A (compareOp .NotEq (.ref a) (.ref b)) Q E s := by
  obtain ⟨vs, h1, h2⟩ := ha.ints
  obtain ⟨us, h3, h4⟩ := hb'.ints
  have : (List.range n).map g' = (List.range n).map g := List.map_congr_left fun k hk => (e k (List.mem_range.mp hk)).symm
  rw [this] at h4
  exact rne_ints h1 h3 h2 h4 hu h
theorem Ser.reads {h : Heap} {v : Value} {xs : List Int} (r : Ser h v xs) : ∃ as, Reads h v (.list (xs.map fun x => .tuple [.int x, .int 1])) as := by
  obtain ⟨a, vs, rfl, ⟨o, ho, hc, n, hd⟩, hlen, hv⟩ := r
  have key : ∀ (vs : List Value) (xs : List Int), vs.length = xs.length → (∀ i v, vs[i]? = some v → Rat h v (xs.getD i 0)) → ∃ as, ReadsAll h vs (xs.map fun x => .tuple [.int x, .int 1]) as := by
    intro vs
    induction vs with
    | nil => intro xs hl _; rw [List.length_eq_zero_iff.mp hl.symm]; exact ⟨_, .nil⟩
    | cons v vs ih =>
      intro xs hl hv
      cases xs with
      | nil => cases hl
      | cons x xs =>
        obtain ⟨as, h1⟩ := (hv 0 v rfl).reads
        obtain ⟨bs, h2⟩ := ih xs (by simpa using hl) fun i u q => by simpa using hv (i + 1) u (by simpa using q)
        exact ⟨_, .cons h1 h2⟩
  obtain ⟨as, ha⟩ := key vs xs hlen hv
  exact ⟨_, reads_list_at ho hc (by simpa using hd) ha⟩
theorem ser_shaped (xs : List Int) : SeqAt.shaped (.list (xs.map fun x => .tuple [.int x, .int 1])) = true := by
  have h1 : ∀ xs : List Int, PyData.canLayAll0 (xs.map fun x => .tuple [.int x, .int 1]) = true := by
    intro xs; induction xs with
    | nil => rfl
    | cons x r ih => simp [PyData.canLayAll0, PyData.canLay0, ih]
  have h2 : ∀ xs : List Int, PyData.depthAll (xs.map fun x => .tuple [.int x, .int 1]) ≤ 1 := by
    intro xs; induction xs with
    | nil => simp [PyData.depthAll]
    | cons x r ih => simp [PyData.depthAll, PyData.depth]; omega
  have := h2 xs
  simp [SeqAt.shaped, PyData.canLay0, PyData.depth, h1]
  omega
theorem ser_eqv (xs : List Int) : PyData.eqv (.list (xs.map fun x => .tuple [.int x, .int 1])) (.list (xs.map fun x => .tuple [.int x, .int 1])) = true := by
  have : ∀ xs : List Int, PyData.eqvAll (xs.map fun x => PyData.tuple [.int x, .int 1]) (xs.map fun x => .tuple [.int x, .int 1]) = true := by
    intro xs; induction xs with
    | nil => simp [PyData.eqvAll]
    | cons x r ih => simp [PyData.eqvAll, PyData.eqv, ih]
  simp [PyData.eqv, this]
theorem rne_ser {v v' : Value} {xs : List Int} {Q : Value → Shared → Prop} (ha : Ser s.heap v xs) (hb' : Ser s.heap v' xs) (hu : A.units + 64 < cLine) (h : Q (.bool false) s) :
    wpAny (model prog w) A (compareOp .NotEq v v') Q E s := by
  obtain ⟨_, r1⟩ := ha.reads
  obtain ⟨_, r2⟩ := hb'.reads
  exact ne_dataH r1 r2 (ser_shaped _) (ser_shaped _) hu (by rw [ser_eqv]; exact h)
theorem req_ser {v v' : Value} {xs : List Int} {Q : Value → Shared → Prop} (ha : Ser s.heap v xs) (hb' : Ser s.heap v' xs) (hu : A.units + 64 < cLine) (h : Q (.bool true) s) :
    wpAny (model prog w) A (compareOp .Eq v v') Q E s := by
  obtain ⟨_, r1⟩ := ha.reads
  obtain ⟨_, r2⟩ := hb'.reads
  exact eq_dataH r1 r2 (ser_shaped _) (ser_shaped _) hu (by rw [ser_eqv]; exact h)
end
end Mine

namespace Mine

/-- the lists of the law -/
structure TD (h : Heap) (n : Nat) (lv fl W due : Nat → Int) (pl pf pr pd : Addr) : Prop where
  lv : RowIs h pl n lv
  fl : RowIs h pf (n - 1) fl
  row : RowIs h pr (2 * n) W
  due : RowIs h pd n due
theorem TD.sq {h h' : Heap} {n : Nat} {lv fl W due : Nat → Int} {pl pf pr pd : Addr} (x : TD h n lv fl W due pl pf pr pd) (e : Seqs h h') : TD h' n lv fl W due pl pf pr pd :=
  ⟨x.lv.sq e, x.fl.sq e, x.row.sq e, x.due.sq e⟩

abbrev WW (n : Nat) (lv fl : Nat → Int) : Nat → Int := fun k => wSeq n lv fl k 0
abbrev WU (n : Nat) (lv fl : Nat → Int) (hh : Int) : Nat → Int := fun k => wSeq n (fun i => lv i + hh) fl k 0
abbrev UP (n : Nat) (lv fl : Nat → Int) : Nat → Int := fun k => wSeq (n - 1) (fun i => lv (i + 1)) (fun i => fl (i + 1)) k 0
abbrev gapP (n : Nat) (lv fl : Nat → Int) (hh : Int) : Nat → Int := fun k => WW n lv fl (k + 1) - hh * WW n lv fl k
abbrev xsP (n : Nat) (lv fl : Nat → Int) : List Int := (List.range (2 * n)).map (WW n lv fl)
abbrev pwP (n : Nat) (hh : Int) : List Int := (List.range (2 * n)).map (fun k => hh ^ k)
abbrev ysP (n : Nat) (hh : Int) : List Int := 0 :: (pwP n hh).take (2 * n - 1)

structure Good (n : Nat) (lv fl : Nat → Int) (hh : Int) (due : Nat → Int) : Prop where
  g1 : ∀ k, k < n → detP (k + 1) (fun i j => WW n lv fl (i + j)) = due k
  g2 : ∀ k, k < n → detP (k + 1) (fun i j => gapP n lv fl hh (i + j)) = due k * detP (k + 1) (tbl lv fl hh)
  g3 : smulP (compSeq (xsP n lv fl) (ysP n hh) (2 * n) (2 * n)) (pwP n hh) = (List.range (2 * n)).map (WU n lv fl hh)
  g4 : ∀ k, k < n → detP (k + 1) (fun i j => WU n lv fl hh (i + j)) = due k
  g5 : invSeq (xsP n lv fl) (2 * n) = 1 :: (0 - lv 0) :: (List.range (2 * n - 2)).map (fun k => 0 - fl 0 * UP n lv fl k)
  w0 : WW n lv fl 0 = 1
  b1 : ∀ k, k < 2 * n → (WW n lv fl k).natAbs < 2 ^ 20
  b2 : ∀ k, k < 2 * n - 1 → (gapP n lv fl hh k).natAbs < 2 ^ 20
  b3 : ∀ i j, i < n → j < n → (tbl lv fl hh i j).natAbs < 2 ^ 20
  b4 : ∀ k, k < 2 * n → (WU n lv fl hh k).natAbs < 2 ^ 20
  b5 : ∀ k, k < 2 * n → ∀ i, i < 2 * n → (conv (compSeq (xsP n lv fl) (ysP n hh) (2 * n) k) (ysP n hh) i (i + 1)).natAbs < 2 ^ 64
  b6 : ∀ i, i < 2 * n → (conv (compSeq (xsP n lv fl) (ysP n hh) (2 * n) (2 * n)) (pwP n hh) i (i + 1)).natAbs < 2 ^ 64
  b7 : ∀ k, k < 2 * n → (invTot (xsP n lv fl) (invSeq (xsP n lv fl) k) k k).natAbs < 2 ^ 64
  bd : ∀ k, k < n → (due k).natAbs < 2 ^ 60
  bl : ∀ i, i < n → (lv i).natAbs ≤ 2
  bf : ∀ i, i + 1 < n → (fl i).natAbs ≤ 2
  bh : hh.natAbs ≤ 2

section
variable {prog : Program} {w : World} {A : Around} {E : Value → Shared → Prop} {s₀ s : Shared} {hb : Heap} {env : Env} {m cm mg mb : Str → Option Value} {f : Addr}

theorem minors_of {e : Expr} {p1 pos : Pos} {n : Nat} {M : Nat → Nat → Int} {Q : Value → Shared → Prop} (F : Fm s₀ hb env m cm s) (G : Gl mg mb s₀.heap) (Rm : Room 4 A) (hn : n ≤ 4) (hB : ∀ i j, i < n → j < n → (M i j).natAbs < 2 ^ 20)
    (h : wpAny (model prog w) A (eval e env) (fun v s₁ => ∃ a rs, v = .ref a ∧ Fm s₀ hb env m cm s₁ ∧ s₁.heap.IsList a (List.toArray (List.map Value.ref rs)) ∧ Tb s₁.heap rs n n M) E s)
    (hq : ∀ a s', Fm s₀ hb env m cm s' → RowIs s'.heap a n (fun k => detP (k + 1) M) → Q (.ref a) s')
    (hl : env.kindOf "leading_minors" = some .globalImplicit := by rfl) (he : starEach [e] env = (false, eval e env) :: starEach [] env := by rfl) :
    wpAny (model prog w) A (eval (.Call (.Name "leading_minors" p1) [e] [] pos) env) Q E s := by
  refine call_def 6 F G (fun g hg => args_cons (wpAny_mono h (fun v s₁ q => ?_) fun _ _ x => x) he) rfl (by decide) hl (by decide) he
  obtain ⟨a, rs, rfl, F1, hla, tb⟩ := q
  refine args_nil ⟨F1.keep, ?_⟩
  have hb4 : bb 20 n ≤ 4000 := by
    have := bb_mono 20 hn
    have e : bb 20 4 = 335 := by decide
    omega
  refine minors_c (b := 20) (hg _ F1.keep) (G.ext F1.keep) Rm hla tb (by omega) hb4 (by decide) hB (fun v s2 q e hv => ?_)
  obtain ⟨c, rfl, hr, _⟩ := hv
  exact hq c s2 (F1.ext q e) hr

theorem rowOf {h : Heap} {a : Addr} {n : Nat} {g : Nat → Int} {ys : List Value} (hl : h.IsList a ys.toArray) (hn : ys.length = n) (hT : ∀ (i : Nat) (y : Value), ys[i]? = some y → ∃ t, y = Value.int (g i) t) : RowIs h a n g :=
  ⟨ys, hl, hn, fun j hj => let ⟨t, e⟩ := hT j ys[j] (List.getElem?_eq_getElem (by omega)); ⟨t, by rw [List.getElem?_eq_getElem (by omega), e]⟩⟩
theorem ratsOf {h : Heap} {a : Addr} {xs : List Int} {ys : List Value} (hl : h.IsList a ys.toArray) (hn : ys.length = xs.length) (hT : ∀ (i : Nat) (y : Value), ys[i]? = some y → Rat h y (xs.getD i 0)) : Ser h (.ref a) xs :=
  ⟨a, ys, rfl, hl, hn, hT⟩
theorem getD_map_range {n i : Nat} {g : Nat → Int} (hi : i < n) : ((List.range n).map g).getD i 0 = g i := by
  rw [List.getD_eq_getElem?_getD, List.getElem?_map, List.getElem?_range hi]; rfl

theorem Rats.take {h : Heap} {vs : List Value} {xs : List Int} (r : Rats h vs xs) (k : Nat) : Rats h (vs.take k) (xs.take k) := by
  refine ⟨by simp [r.1], fun i v q => ?_⟩
  rw [List.getElem?_take] at q
  split at q
  · rename_i hik
    have := r.2 i v q
    rw [List.getD_eq_getElem?_getD] at this ⊢
    rw [List.getElem?_take, if_pos hik]; exact this
  · cases q
theorem Rats.cons {h : Heap} {v : Value} {x : Int} {vs : List Value} {xs : List Int} (q : Rat h v x) (r : Rats h vs xs) : Rats h ([v] ++ vs) (x :: xs) := by
  refine ⟨by simp [r.1], fun i u e => ?_⟩
  cases i with
  | zero => simp at e; subst e; exact q
  | succ i => simp at e; simpa using r.2 i u e

theorem pw_small {n : Nat} {hh : Int} (hb : hh.natAbs ≤ 2) (hn : n ≤ 4) (j : Nat) : ((pwP n hh).getD j 0).natAbs ≤ 256 := by
  by_cases hj : j < 2 * n
  · rw [getD_map_range hj, Int.natAbs_pow]
    exact Nat.le_trans (Nat.pow_le_pow_left hb j) (Nat.pow_le_pow_right (by decide) (by omega : j ≤ 8))
  · rw [List.getD_eq_getElem?_getD, List.getElem?_eq_none (by simp; omega)]; decide
theorem ys_small {n : Nat} {hh : Int} (hb : hh.natAbs ≤ 2) (hn : n ≤ 4) (j : Nat) : ((ysP n hh).getD j 0).natAbs ≤ 256 := by
  cases j with
  | zero => show Int.natAbs 0 ≤ 256; decide
  | succ j =>
    show (((pwP n hh).take (2 * n - 1)).getD j 0).natAbs ≤ 256
    have := pw_small hb hn j
    rw [List.getD_eq_getElem?_getD] at this ⊢
    rw [List.getElem?_take]
    split
    · exact this
    · decide
theorem row_drop1 {h : Heap} {b : Addr} {n : Nat} {g : Nat → Int} {vs : List Value} (hn : vs.length = n) (hx : ∀ j, j < n → ∃ t, vs[j]? = some (Value.int (g j) t)) (hl : h.IsList b (vs.drop 1).toArray) : RowIs h b (n - 1) (fun i => g (i + 1)) :=
  ⟨_, hl, by simp [hn], fun j hj => let ⟨t, e⟩ := hx (j + 1) (by omega); ⟨t, by rw [List.getElem?_drop, Nat.add_comm]; exact e⟩⟩
end
end Mine

namespace Mine
section
variable {prog : Program} {w : World} {A : Around} {E : Value → Shared → Prop} {s₀ s : Shared} {hb : Heap} {env : Env} {m cm mg mb : Str → Option Value} {f : Addr}
theorem law_tail3 {Q : Value → Shared → Prop} {L fa : Addr} {cd : Value} {n : Nat} {lv fl due : Nat → Int} {hh : Int} {tn th : Tok} {pl pf pr pd ps po : Addr}
    (G : Gl mg mb s₀.heap) (Rm : Room 7 A) (F : Fm s₀ s.heap (envOfC (dfN 34).name (dfN 34).scope L fa cd) m cm s)
    (mn : m "n" = some (.int n tn)) (ml : m "levels" = some (.ref pl)) (cf : cm "falls" = some (.ref pf)) (ch : cm "h" = some (.int hh th)) (ms : m "series" = some (.ref ps)) (mo : m "onward" = some (.ref po)) (cdu : cm "due" = some (.ref pd))
    (T : TD s.heap n lv fl (WW n lv fl) due pl pf pr pd) (hser : Ser s.heap (.ref ps) (xsP n lv fl)) (hon : Ser s.heap (.ref po) ((List.range (2 * n)).map (WU n lv fl hh))) (hn3 : 3 ≤ n) (hn4 : n ≤ 4) (g : Good n lv fl hh due)
    (h : ∀ s', Sm s₀ s' → Ext s₀.heap s'.heap → Q (.bool true) s') :
    wpAny (model prog w) A (execs ((dfN 34).body.drop 12) (envOfC (dfN 34).name (dfN 34).scope L fa cd)) (fun f s' => Q (match f with | .ret v => v | _ => .none) s') E s := by
  have hun : A.units + 64 < cLine := by have := Rm.un; omega
  have hh2 := g.bh
  have e2 : (2 : Int) * (n : Int) = ((2 * n : Nat) : Int) := by omega
  obtain ⟨lvs, hll, hln, hlx⟩ := T.lv
  obtain ⟨fvs, hfl, hfn, hfx⟩ := T.fl
  have hls : lvs.toArray.size = n := by simpa using hln
  -- onward against the raised row
  refine wpAny_execs_cons (wpAny_If (wpAny_isTrue_Compare1 ?_))
  refine ld F mo ?_
  refine ListComp_ ?_
  refine call_def 31 F G fun g3 hg3 => args_cons ?_
  refine ListComp_ ?_
  refine ld F ml (riter hll fun I s1 q e hI it => ?_)
  refine comp_local q e F (Src.list Rm.hh hI hll) it (by show _ ≤ 2 ^ 24; omega) (fun D k y h => ∃ t, y = .int (lv k + hh) t) (fun D zs k y h h' r hl sb => r) ?_ ?_ (hcl := ⟨rfl, trivial⟩)
  · rintro C D k s2 v m2 o hk hP hD hDn F2 hv E'
    refine hide fun K E1 hK => ?_
    obtain ⟨u, hu⟩ := hlx k (by omega)
    have hvr : v = .int (lv k) u := by rw [List.getElem?_toArray, hu] at hP; exact (Option.some.inj hP).symm
    subst hvr
    exact wpAny_BinOp (ld F2 hv (ldc F2 rfl ch (radd_ F2 fun t s3 F3 => hK _ _ ⟨_, F3, _, rfl⟩)))
  intro pa ays s2 q e hpa hal han haT
  have ra := rowOf hal (han.trans hls) haT
  have F2 := F.ext q e
  have F2b := F2.base
  refine args_cons (ldc F2b rfl cf (args_cons (wpAny_BinOp (rint F2b fun t s3 F3 => ld F3 mn (rmul_ F3 (.of_left (by decide)) fun t s4 F4 => args_nil ⟨F4.keep, ?_⟩)))))
  rw [e2]
  refine ways_c (K := 2 * n) (hg3 _ F4.keep) (G.ext F4.keep) (Rm.le (by decide)) (ra.sq F4.stb.sq) (T.fl.sq (F2.stb.trans F4.stb).sq) (by omega) (by omega) (by omega) (fun i hi => by have := g.bl i hi; omega) (fun i hi => Nat.lt_of_le_of_lt (g.bf i hi) (by decide)) (fun a5 s5 q e hr5 _ => ?_)
  have F5 := F4.ext q e
  obtain ⟨rvs, hrl, hrn, hrx⟩ := id hr5
  have hrs : rvs.toArray.size = 2 * n := by simpa using hrn
  refine riter hrl fun I s6 q e hI it => ?_
  have F5b := F5.base
  refine comp_local q e F5b (Src.list Rm.hh hI hrl) it (by show _ ≤ 2 ^ 24; omega) (fun D k y h => Rat h y (WU n lv fl hh k)) (fun D zs k y h h' r hl sb => r.sqBut hl sb) ?_ ?_ (hcl := trivial)
  · rintro C D k s7 v m7 o hk hP hD hDn F7 hv E'
    refine hide fun K E1 hK => ?_
    obtain ⟨u, hu⟩ := hrx k (by omega)
    have hvr : v = .int (WU n lv fl hh k) u := by rw [List.getElem?_toArray, hu] at hP; exact (Option.some.inj hP).symm
    subst hvr
    exact rrat (s₀ := s5) (ld F7 hv ⟨_, _, _, _, _, rfl, F7, fun a s3 F3 _ r => hK _ _ ⟨_, F3, r⟩⟩)
  intro pb bys s7 q e hpb hbl hbn hbT
  have F7 := F5b.ext q e
  have hsb : Ser s7.heap (.ref pb) ((List.range (2 * n)).map (WU n lv fl hh)) := ratsOf hbl (by rw [hbn]; simp [hrn]) fun i y hy => by
    have hi : i < 2 * n := by have := (List.getElem?_eq_some_iff.mp hy).1; omega
    rw [getD_map_range hi]; exact hbT i y hy
  have st7 := F2.stb.trans (F5.stb.trans F7.stb)
  have hon7 := hon.sq st7.sq
  refine rne_ser hon7 hsb hun (wpAny_truthy_bool (iteN (by decide) (wpAny_execs_nil ?_)))
  have T7 := T.sq st7.sq
  have hser7 := hser.sq st7.sq
  have F7 := F7.base
  clear hrx hrl hr5 hbT hsb hbl ra
  -- the determinants of onward
  refine wpAny_execs_cons (wpAny_If (wpAny_isTrue_Compare1 ?_))
  refine minors_of (n := n) (M := fun i j => WU n lv fl hh (i + j)) F7 G (Rm.le (by decide)) hn4 (fun i j hi hj => g.b4 _ (by omega)) ?_ ?_
  · refine call_def 32 F7 G fun g1 hg1 => args_cons ?_
    refine ListComp_ ?_
    obtain ⟨po', ovs, hpe, hol, hor⟩ := id hon7
    cases hpe
    have hos : ovs.toArray.size = 2 * n := by have := hor.1; simpa using this
    refine ld F7 mo (riter hol fun I s8 q e hI it => ?_)
    refine comp_local q e F7 (Src.list Rm.hh hI hol) it (by show _ ≤ 2 ^ 24; omega) (fun D k y h => ∃ t, y = .int (WU n lv fl hh k) t) (fun D zs k y h h' r hl sb => r) ?_ ?_ (hcl := trivial)
    · rintro C D k s9 v m9 o hk hP hD hDn F9 hv E'
      refine hide fun K E1 hK => ?_
      have hr := hor.2 k v (by rw [List.getElem?_toArray] at hP; exact hP)
      rw [getD_map_range (by omega)] at hr
      obtain ⟨a, t, u, rfl, ht⟩ := hr.sq F9.sq
      exact tupAt F9.base hv ht rfl rfl fun s' F' => hK _ _ ⟨_, ⟨F'.fk, F'.gl, F'.bl, F'.ns, F'.cell, F'.sm, F'.keep, F9.stb.trans F'.stb, F'.new⟩, _, rfl⟩
    intro pc cys s9 q e hpc hcl' hcn hcT
    have F9 := F7.ext q e
    have rc := rowOf hcl' (hcn.trans hos) hcT
    refine args_cons (ld F9 mn (args_nil ⟨F9.keep, ?_⟩))
    refine square_c (hg1 _ F9.keep) (G.ext F9.keep) (Rm.le (by decide)) rc (by omega) (by omega) (by omega) fun a rs s1 q e hl tb => ⟨a, rs, rfl, F9.ext q e, hl, tb⟩
  intro a1 s8 F8 r8
  have T8 := T7.sq F8.stb.sq
  refine ldc F8 rfl cdu (rne_rows r8 T8.due g.g4 hun (wpAny_truthy_bool (iteN (by decide) (wpAny_execs_nil ?_))))
  have hser8 := hser7.sq F8.stb.sq
  have F8 := F8.base
  obtain ⟨lvs, hll, hln, hlx⟩ := T8.lv
  obtain ⟨fvs, hfl, hfn, hfx⟩ := T8.fl
  -- upper
  refine wpAny_execs_cons (wpAny_Assign_Name ?_)
  refine call_def 31 F8 G fun g4 hg4 => args_cons ?_
  refine rslice (ld F8 ml (wpAny_evalPart_some (rint F8 fun t s9 F9 => wpAny_evalPart_none ?_)))
  refine ⟨pl, lvs, some ((1 : Nat) : Int), none, rfl, IsList.sq hll F9.stb.sq, by show _ ≤ 2 ^ 24; omega, .int _ _, .none, fun a9 s10 q e hl10 hf10 => ?_⟩
  rw [slicePick_from'] at hl10
  have F10 := F9.ext q e
  have rl10 := row_drop1 hln hlx hl10
  have F10b := F10.base
  refine args_cons ?_
  refine rslice (ldc F10b rfl cf (wpAny_evalPart_some (rint F10b fun t s11 F11 => wpAny_evalPart_none ?_)))
  refine ⟨pf, fvs, some ((1 : Nat) : Int), none, rfl, IsList.sq hfl (F10.stb.trans F11.stb).sq, by show _ ≤ 2 ^ 24; omega, .int _ _, .none, fun a11 s12 q e hl12 hf12 => ?_⟩
  rw [slicePick_from'] at hl12
  have F12 := F11.ext q e
  have rf12 := row_drop1 hfn hfx hl12
  have rl12 := rl10.sq F12.stb.sq
  have F12b := F12.base
  have st12 := F10.stb.trans F12.stb
  refine args_cons (wpAny_BinOp (wpAny_BinOp (rint F12b fun t s13 F13 => ld F13 mn (rmul_ F13 (.of_left (by decide)) fun t s14 F14 => rint F14 fun t s15 F15 => rsub_ F15 fun t s16 F16 => args_nil ⟨F16.keep, ?_⟩))))
  rw [show (2 : Int) * (n : Int) - 2 = ((2 * n - 2 : Nat) : Int) by omega]
  refine ways_c (K := 2 * n - 2) (n := n - 1) (hg4 _ F16.keep) (G.ext F16.keep) (Rm.le (by decide)) (rl12.sq F16.stb.sq) (rf12.sq F16.stb.sq) (by omega) (by omega) (by omega) (fun i hi => Nat.lt_of_le_of_lt (g.bl (i + 1) (by omega)) (by decide)) (fun i hi => Nat.lt_of_le_of_lt (g.bf (i + 1) (by omega)) (by decide)) (fun a17 s17 q e hr17 _ => ?_)
  have F17 := F16.ext q e
  have F17b := F17.base
  refine st F17b fun s18 F18 => ?_
  have st18 := (st12.trans F17.stb).trans F18.stb
  have hr18 : RowIs s18.heap a17 (2 * n - 2) (UP n lv fl) := hr17.sq F18.stb.sq
  have hser18 := hser8.sq st18.sq
  have hll18 := IsList.sq hll st18.sq
  have hfl18 := IsList.sq hfl st18.sq
  have F18 := F18.base
  clear hr17 rl12 rf12 rl10
  -- the inverse
  refine wpAny_execs_cons (wpAny_Return_some (wpAny_Compare1 ?_))
  refine call_def 26 F18 G fun g5 hg5 => args_cons (ld F18 (x := "series") ms (args_nil ⟨F18.keep, ?_⟩))
  have hxl : (xsP n lv fl).length = 2 * n := by simp [xsP]
  refine sinverse_c (hg5 _ F18.keep) (G.ext F18.keep) (Rm.le (by decide)) hser18 ((getD_map_range (by omega)).trans g.w0) (by omega) (by omega) (fun k hk i j => .of_left ?_) (fun k hk => g.b7 k (by omega)) (fun v s19 q e hv => ?_)
  · by_cases hi : i < 2 * n
    · have := g.b1 i hi
      rw [getD_map_range hi]
      exact bitsN (Nat.lt_trans this (by decide))
    · rw [List.getD_eq_getElem?_getD, List.getElem?_eq_none (by omega)]; decide
  rw [hxl, g.g5] at hv
  have F19 := F18.ext q e
  have F19b := F19.base
  refine wpAny_BinOp (rlist (args_cons (rrat (rint F19b fun t s20 F20 => ⟨_, _, _, _, _, rfl, F20, fun a20 s21 F21 _ r21 => args_cons ?_⟩))))
  have F21b := F21.base
  refine rrat (s₀ := s₀) (wpAny_BinOp (rint F21b fun t s22 F22 => Subscript_ (ld F22 (x := "levels") ml (rint F22 fun t s23 F23 => ?_))))
  have st23 := F19.stb.trans (F21.stb.trans F23.stb)
  obtain ⟨u0, hu0⟩ := hlx 0 (by omega)
  refine rlistAt F23.base (IsList.sq hll18 st23.sq) (by decide) (by decide) hu0 (rsub_ F23.base fun t s24 F24 => ⟨_, _, _, _, _, rfl, F24, fun a24 s25 F25 _ r25 => ?_⟩)
  have r25' := r21.sq (F23.stb.trans F25.stb).sq
  refine args_nil ⟨by show 2 ≤ sizeLine; decide, fun a26 s26 q e hl26 hf26 => ?_⟩
  have F26 := F25.ext q e
  have sq26 := (Stab.of_ext e).sq
  have st26 := st23.trans F26.stb
  have hr26 := hr18.sq st26.sq
  have r24 := r25.sq sq26
  have r20 := r25'.sq sq26
  have hfl26 := IsList.sq hfl18 st26.sq
  have st2526 := F26.stb
  have F26 := F26.base
  have hl26' : s26.heap.IsList a26 [.ref a20, .ref a24].toArray := ⟨_, hl26, rfl, _, rfl⟩
  refine ListComp_ ?_
  obtain ⟨uvs, hul, hun', hux⟩ := hr26
  have hus : uvs.toArray.size = 2 * n - 2 := by simpa using hun'
  refine ld F26 rfl (riter hul fun I s27 q e hI it => ?_)
  refine comp_local q e F26 (Src.list Rm.hh hI hul) it (by show _ ≤ 2 ^ 24; omega) (fun D k y h => Rat h y (0 - fl 0 * UP n lv fl k)) (fun D zs k y h h' r hl sb => r.sqBut hl sb) ?_ ?_ (hcl := ⟨rfl, trivial⟩)
  · rintro C D k s28 v m28 o hk hP hD hDn F28 hv E'
    refine hide fun K E1 hK => ?_
    obtain ⟨u, hu⟩ := hux k (by omega)
    have hvr : v = .int (UP n lv fl k) u := by rw [List.getElem?_toArray, hu] at hP; exact (Option.some.inj hP).symm
    subst hvr
    refine rrat (s₀ := s26) (wpAny_BinOp (rint F28 fun t s29 F29 => wpAny_BinOp (Subscript_ (ldc F29 rfl cf (rint F29 fun t s30 F30 => ?_)))))
    obtain ⟨u0, hu0⟩ := hfx 0 (by omega)
    refine rlistAt F30 (IsList.sq hfl26 F28.sq) (by decide) (by decide) hu0 (ld F30 hv ?_)
    have := g.bf 0 (by omega)
    exact rmul_ F30 (.of_left (bitsN (Nat.lt_of_le_of_lt this (by decide)))) fun t s31 F31 => rsub_ F31 fun t s32 F32 => ⟨_, _, _, _, _, rfl, F32, fun a s33 F33 _ r => hK _ _ ⟨_, F33, r⟩⟩
  intro pz zys s28 q e hpz hzl hzn hzT
  have F28 := F26.ext q e
  have hl28 := IsList.sq hl26' F28.stb.sq
  refine raddl F28 hl28 hzl (by show _ ≤ 2 ^ 24; simp; omega) fun a29 s29 F29 st29 hl29 hf29 => ?_
  have hz : Rats s29.heap zys ((List.range (2 * n - 2)).map (fun k => 0 - fl 0 * UP n lv fl k)) := ⟨by rw [hzn]; simp [hun'], fun i y hy => by
    have hi : i < 2 * n - 2 := by have := (List.getElem?_eq_some_iff.mp hy).1; omega
    rw [getD_map_range hi]; exact (hzT i y hy).sq st29.sq⟩
  have hfin : Ser s29.heap (.ref a29) (1 :: (0 - lv 0) :: (List.range (2 * n - 2)).map (fun k => 0 - fl 0 * UP n lv fl k)) :=
    ⟨a29, _, rfl, hl29, Rats.cons (r20.sq F29.stb.sq) (Rats.cons (r24.sq F29.stb.sq) hz)⟩
  exact req_ser (hv.sq (((F21.stb.trans F23.stb).trans st2526).trans F29.stb).sq) hfin hun (h _ F29.sm F29.keep)
end
end Mine

namespace Mine
section
variable {prog : Program} {w : World} {A : Around} {E : Value → Shared → Prop} {s₀ s : Shared} {hb : Heap} {env : Env} {m cm mg mb : Str → Option Value} {f : Addr}
theorem law_tail2 {Q : Value → Shared → Prop} {L fa : Addr} {cd : Value} {n : Nat} {lv fl due : Nat → Int} {hh : Int} {tn th : Tok} {pl pf pr pd : Addr}
    (G : Gl mg mb s₀.heap) (Rm : Room 7 A) (F : Fm s₀ s.heap (envOfC (dfN 34).name (dfN 34).scope L fa cd) m cm s)
    (mn : m "n" = some (.int n tn)) (ml : m "levels" = some (.ref pl)) (cf : cm "falls" = some (.ref pf)) (ch : cm "h" = some (.int hh th)) (cr : cm "row" = some (.ref pr)) (cdu : cm "due" = some (.ref pd))
    (T : TD s.heap n lv fl (WW n lv fl) due pl pf pr pd) (hn3 : 3 ≤ n) (hn4 : n ≤ 4) (g : Good n lv fl hh due)
    (h : ∀ s', Sm s₀ s' → Ext s₀.heap s'.heap → Q (.bool true) s') :
    wpAny (model prog w) A (execs ((dfN 34).body.drop 10) (envOfC (dfN 34).name (dfN 34).scope L fa cd)) (fun f s' => Q (match f with | .ret v => v | _ => .none) s') E s := by
  have hun : A.units + 64 < cLine := by have := Rm.un; omega
  have hh64 := g.bh
  refine wpAny_execs_cons ?_
  refine asg2 Rm.hh ?_
  refine ListComp_ ?_
  obtain ⟨rvs, hrl, hrn, hrx⟩ := T.row
  refine ldc F rfl cr (riter hrl fun I s1 q e hI it => ?_)
  refine comp_local q e F (Src.list Rm.hh hI hrl) it (by show _ ≤ 2 ^ 24; simp; omega) (fun D k y h => Rat h y (WW n lv fl k)) (fun D zs k y h h' r hl sb => r.sqBut hl sb) ?_ ?_ (hcl := trivial)
  · rintro C D k s2 v m2 o hk hP hD hDn F2 hv E'
    refine hide fun K E1 hK => ?_
    have hk' : k < 2 * n := by simpa [hrn] using hk
    obtain ⟨u, hu⟩ := hrx k hk'
    have hvr : v = .int (WW n lv fl k) u := by
      rw [List.getElem?_toArray, hu] at hP; exact (Option.some.inj hP).symm
    subst hvr
    exact rrat (ld F2 hv ⟨_, _, _, _, _, rfl, F2, fun a s3 F3 _ r => hK _ _ ⟨_, F3, r⟩⟩)
  intro ps sys s2 q e hps hsl hsn hsT
  have F2 := F.ext q e
  have hser : Ser s2.heap (.ref ps) (xsP n lv fl) := ratsOf hsl (by rw [hsn]; simp [hrn]) fun i y hy => by
    have hi : i < 2 * n := by have := (List.getElem?_eq_some_iff.mp hy).1; rw [hsn] at this; simpa [hrn] using this
    rw [getD_map_range hi]; exact hsT i y hy
  have T2 := T.sq F2.stb.sq
  have F2 := F2.base
  refine ListComp_ ?_
  refine call_typ F2 G (by decide) boot_range (args_cons (wpAny_BinOp (rint F2 fun t s3 F3 => ld F3 mn (rmul_ F3 (.of_left (by decide)) fun t s4 F4 => args_nil ?_))))
  refine rrange1 (n := 2 * n) (by omega) (by omega) fun I s5 q e hI it => ?_
  have sq4 := F4.stb.sq
  refine comp_local q e F4 (Src.range (a := 0) (c := 1) (n := 2 * n) Rm.hh hI) (by simpa using it) (by show _ ≤ 2 ^ 24; omega) (fun D k y h => Rat h y (hh ^ k)) (fun D zs k y h h' r hl sb => r.sqBut hl sb) ?_ ?_ (hcl := ⟨rfl, trivial⟩)
  · rintro C D k s6 v m6 o hk ⟨t6, rfl⟩ hD hDn F6 hv E'
    refine hide fun K E1 hK => ?_
    have ek : (0 : Int) + (k : Int) * 1 = k := by omega
    rw [ek] at hv
    refine rrat (s₀ := s4) (wpAny_BinOp (ldc F6 rfl ch (ld F6 hv ?_)))
    have hb64 : Builtin.Int.intBits hh ≤ 64 := bitsN (Nat.lt_of_le_of_lt hh64 (by decide))
    refine rpow F6 (by omega) ?_ fun t s7 F7 => ⟨_, _, _, _, _, rfl, F7, fun a s8 F8 _ r => hK _ _ ⟨_, F8, by simpa using r⟩⟩
    have : (Builtin.Int.intBits hh : Int) * (k : Int) ≤ 64 * 8 := Int.mul_le_mul (by omega) (by omega) (by omega) (by omega)
    exact Int.le_trans this (by decide)
  intro pw wys s6 q e hpw hwl hwn hwT
  have F6 := F4.ext q e
  have hpwr : Ser s6.heap (.ref pw) (pwP n hh) := ratsOf hwl (by rw [hwn]; simp) fun i y hy => by
    have hi : i < 2 * n := by have := (List.getElem?_eq_some_iff.mp hy).1; rw [hwn] at this; exact this
    rw [getD_map_range hi]; exact hwT i y hy
  have T6 := T2.sq F6.stb.sq
  have hser := hser.sq F6.stb.sq
  have F6 := F6.base
  intro s7 q e
  have F7 := F6.ext q e
  refine st F7 fun s8 F8 => st F8 fun s9 F9 => ?_
  have T9 := T6.sq F9.stb.sq
  have hser := hser.sq F9.stb.sq
  have hpwr := hpwr.sq F9.stb.sq
  have F9 := F9.base
  -- onward
  refine wpAny_execs_cons (wpAny_Assign_Name ?_)
  refine call_def 25 F9 G fun g1 hg1 => args_cons ?_
  refine call_def 28 F9 G fun g2 hg2 => args_cons (ld F9 rfl (args_cons ?_))
  refine wpAny_BinOp (rlist (args_cons (rrat (rint F9 fun t s10 F10 => ⟨_, _, _, _, _, rfl, F10, fun a s11 F11 _ r11 => ?_⟩))))
  refine args_nil ⟨by show 1 ≤ sizeLine; decide, fun a2 s12 q e hl12 hf12 => ?_⟩
  have F12 := F11.ext q e
  have r12 := r11.sq (Stab.of_ext e).sq
  obtain ⟨pwa, wvs, hpe, hwvl, hwvr⟩ := id hpwr
  cases hpe
  have F12b := F12.base
  refine rslice (ld F12b rfl (wpAny_evalPart_none (wpAny_evalPart_some (UnaryOp_ (rint F12b fun t s13 F13 => rneg F13 fun t s14 F14 => ?_)))))
  refine ⟨pw, wvs, none, some (-1), rfl, IsList.sq hwvl (F12.stb.trans F14.stb).sq, by show _ ≤ 2 ^ 24; have := hwvr.1; simp at this; omega, .none, .int _ _, fun a3 s15 q e hl15 hf15 => ?_⟩
  have hpick : slicePick wvs.toArray none (some (-1)) none = (wvs.take (wvs.length - 1)).toArray := by
    have := slicePick_butLast wvs.toArray 1 (by decide)
    simpa using this
  rw [hpick] at hl15
  have F15 := F14.ext q e
  have hl12' : s15.heap.IsList a2 [.ref a].toArray := ⟨_, F15.stb _ _ hl12 (Solid.seq rfl), rfl, _, rfl⟩
  have hwl1 : wvs.length = 2 * n := by have := hwvr.1; simpa using this
  refine raddl F15 hl12' hl15 (by show _ ≤ 2 ^ 24; simp; omega) fun a4 s16 F16 st16 hl16 hf16 => ?_
  have hys : Ser s16.heap (.ref a4) (ysP n hh) := by
    refine ⟨a4, _, rfl, hl16, ?_⟩
    have h1 := Rats.cons (r12.sq F16.stb.sq) ((Rats.take hwvr (wvs.length - 1)).sq (F12.stb.trans F16.stb).sq)
    rw [hwl1] at h1 ⊢
    exact h1
  have hser16 := hser.sq (F12.stb.trans F16.stb).sq
  have hyn : (ysP n hh).length = 2 * n := by simp [ysP]; omega
  have hh2 := g.bh
  refine args_nil ⟨F16.keep, ?_⟩
  refine scompose_c (n := 2 * n) (hg2 _ F16.keep) (G.ext F16.keep) (Rm.le (by decide)) hser16 hys (by simp [xsP]) hyn (by omega) (by omega) rfl (fun k _ i j => .of_right (bitsN (Nat.lt_of_le_of_lt (ys_small (n := n) hh2 hn4 j) (by decide)))) g.b5 (fun v s17 q e hv => ?_)
  have F17 := F16.ext q e
  have hpw17 := hpwr.sq (F12.stb.trans F17.stb).sq
  refine args_cons (ld F17 rfl (args_nil ⟨F17.keep, ?_⟩))
  have hcl : (compSeq (xsP n lv fl) (ysP n hh) (2 * n) (2 * n)).length = 2 * n := compSeq_length _ _ _ hyn _
  refine smul_c (hg1 _ F17.keep) (G.ext F17.keep) (Rm.le (by decide)) hv hpw17 (by omega) (by simp; omega) (fun i j => .of_right (bitsN (Nat.lt_of_le_of_lt (pw_small (n := n) hh2 hn4 j) (by decide)))) (fun i hi _ => g.b6 i (by omega)) (fun v2 s18 q e hv2 => ?_)
  obtain ⟨po, ovs, rfl, hol, hor, _⟩ := hv2
  have F18 := F17.ext q e
  have F18b := F18.base
  refine st F18b fun s19 F19 => ?_
  have T19 := T9.sq ((F12.stb.trans F18.stb).trans F19.stb).sq
  have hser19 := hser.sq ((F12.stb.trans F18.stb).trans F19.stb).sq
  have hon : Ser s19.heap (.ref po) ((List.range (2 * n)).map (WU n lv fl hh)) := by
    have : Ser s18.heap (.ref po) (smulP (compSeq (xsP n lv fl) (ysP n hh) (2 * n) (2 * n)) (pwP n hh)) := ⟨po, ovs, rfl, hol, hor⟩
    rw [g.g3] at this
    exact this.sq F19.stb.sq
  exact law_tail3 (ps := ps) (po := po) G Rm F19.base mn ml cf ch rfl rfl cdu T19 hser19 hon hn3 hn4 g h

end
end Mine

namespace Mine
section
variable {prog : Program} {w : World} {A : Around} {E : Value → Shared → Prop} {s₀ s : Shared} {hb : Heap} {env : Env} {m cm mg mb : Str → Option Value} {f : Addr}
theorem law_tail {Q : Value → Shared → Prop} {L fa : Addr} {cd : Value} {n : Nat} {lv fl due : Nat → Int} {hh : Int} {tn th : Tok} {pl pf pr pd : Addr}
    (G : Gl mg mb s₀.heap) (Rm : Room 7 A) (F : Fm s₀ s.heap (envOfC (dfN 34).name (dfN 34).scope L fa cd) m cm s)
    (hcn : ∀ x c, (x, c) ∈ cellsFrom (L + 1) (dfN 34).scope.names [] → s₀.heap.get? c = none) (hap : (cellsFrom (L + 1) (dfN 34).scope.names []).Pairwise fun x y => x.2 ≠ y.2)
    (mn : m "n" = some (.int n tn)) (ml : m "levels" = some (.ref pl)) (cf : cm "falls" = some (.ref pf)) (ch : cm "h" = some (.int hh th)) (cr : cm "row" = some (.ref pr)) (cdu : cm "due" = some (.ref pd))
    (T : TD s.heap n lv fl (WW n lv fl) due pl pf pr pd) (hn3 : 3 ≤ n) (hn4 : n ≤ 4) (g : Good n lv fl hh due)
    (h : ∀ s', Sm s₀ s' → Ext s₀.heap s'.heap → Q (.bool true) s') :
    wpAny (model prog w) A (execs ((dfN 34).body.drop 7) (envOfC (dfN 34).name (dfN 34).scope L fa cd)) (fun f s' => Q (match f with | .ret v => v | _ => .none) s') E s := by
  have hun : A.units + 64 < cLine := by have := Rm.un; omega
  -- the first determinants
  refine wpAny_execs_cons (wpAny_If (wpAny_isTrue_Compare1 ?_))
  refine minors_of (n := n) (M := fun i j => WW n lv fl (i + j)) F G (Rm.le (by decide)) hn4 (fun i j hi hj => g.b1 _ (by omega)) ?_ ?_
  · refine call_def 32 F G fun g1 hg1 => args_cons (ldc F rfl cr (args_cons (ld F mn (args_nil ⟨F.keep, ?_⟩))))
    refine square_c (hg1 _ F.keep) (G.ext F.keep) (Rm.le (by decide)) (T.row.sq F.stb.sq) (by omega) (by omega) (by omega) fun a rs s1 q e hl tb => ⟨a, rs, rfl, F.ext q e, hl, tb⟩
  intro a1 s1 F1 r1
  refine ldc F1 rfl cdu (rne_rows r1 (T.due.sq F1.stb.sq) g.g1 hun (wpAny_truthy_bool (iteN (by decide) (wpAny_execs_nil ?_))))
  -- gaps, sides
  refine wpAny_execs_cons ?_
  refine asgPair Rm.hh ?_
  refine ListComp_ ?_
  refine call_typ F1 G (by decide) boot_range (args_cons (wpAny_BinOp (wpAny_BinOp (rint F1 fun t s2 F2 => ld F2 mn (rmul_ F2 (.of_left (by decide)) fun t s3 F3 => rint F3 fun t s4 F4 => rsub_ F4 fun t s5 F5 => args_nil ?_)))))
  refine rrange1 (n := 2 * n - 1) (by omega) (by omega) fun I s6 q e hI it => ?_
  have sq5 := F5.stb.sq
  obtain ⟨rvs, hrl, hrn, hrx⟩ := T.row
  refine comp_local q e F5 (Src.range (a := 0) (c := 1) (n := 2 * n - 1) Rm.hh hI) (by simpa using it) (by show _ ≤ 2 ^ 24; omega) (fun D k y h => ∃ t, y = .int (gapP n lv fl hh k) t) (fun D zs k y h h' r _ _ => r) ?_ ?_ (hcl := ⟨rfl, rfl, trivial⟩)
  · rintro C D k s7 v m7 o hk ⟨t7, rfl⟩ hD hDn F7 hv E'
    refine hide fun K E1 hK => ?_
    have ek : (0 : Int) + (k : Int) * 1 = k := by omega
    rw [ek] at hv
    have rl := IsList.sq hrl (sq5.trans F7.sq)
    obtain ⟨u1, hu1⟩ := hrx (k + 1) (by omega)
    obtain ⟨u2, hu2⟩ := hrx k (by omega)
    refine wpAny_BinOp (Subscript_ (ldc F7 rfl cr (wpAny_BinOp (ld F7 hv (rint F7 fun t s8 F8 => radd_ F8 fun t s9 F9 => ?_)))))
    refine rlistAt F9 rl (by omega) (by omega) (by rw [show ((k : Int) + 1).toNat = k + 1 by omega]; exact hu1) ?_
    refine wpAny_BinOp (ldc F9 rfl ch (Subscript_ (ldc F9 rfl cr (ld F9 hv (rlistAt F9 rl (by omega) (by omega) (by rw [Int.toNat_natCast]; exact hu2) ?_)))))
    have := g.bh
    exact rmul_ F9 (.of_left (bitsN (Nat.lt_of_le_of_lt this (by decide)))) fun t s10 F10 => rsub_ F10 fun t s11 F11 => hK _ _ ⟨_, F11, _, rfl⟩
  intro ga gys s7 q e hga hgl hgn hgT
  have rg := rowOf hgl hgn hgT
  have F7 := F5.ext q e
  have T7 := T.sq F7.stb.sq
  have F7 := F7.base
  refine minors_of (n := n) (M := tbl lv fl hh) F7 G (Rm.le (by decide)) hn4 g.b3 ?_ ?_
  · refine call_def 33 F7 G fun g1 hg1 => args_cons (ld F7 ml (args_cons (ldc F7 rfl cf (args_cons (ldc F7 rfl ch (args_nil ⟨F7.keep, ?_⟩))))))
    refine table_c (hg1 _ F7.keep) (G.ext F7.keep) (Rm.le (by decide)) T7.lv T7.fl (by omega) fun a rs s1 q e hl tb => ⟨a, rs, rfl, F7.ext q e, hl, tb⟩
  intro sa s8 F8 rs8
  have T8 := T7.sq F8.stb.sq
  have rg8 := rg.sq F8.stb.sq
  have F8 := F8.base
  intro s9 q e
  have F9 := F8.ext q e
  refine wpAny_assign_Name (st F9 fun s10 F10 => ?_)
  refine wpAny_assign_Name (stc (c := L + 1 + 1 + 1 + 1 + 1) F10 rfl (hcn "sides" _ (PySem.mem_of_lookup rfl)) (cells_ap hap rfl) fun s11 F11 => ?_)
  have T11 := T8.sq F11.stb.sq
  have rg11 := rg8.sq F11.stb.sq
  have rs11 := rs8.sq F11.stb.sq
  have F11 := F11.base
  clear T8 rg8 rs8 T7
  -- their determinants
  refine wpAny_execs_cons (wpAny_If (wpAny_isTrue_Compare1 ?_))
  refine minors_of (n := n) (M := fun i j => gapP n lv fl hh (i + j)) F11 G (Rm.le (by decide)) hn4 (fun i j hi hj => g.b2 _ (by omega)) ?_ ?_
  · refine call_def 32 F11 G fun g1 hg1 => args_cons (ld F11 rfl (args_cons (ld F11 mn (args_nil ⟨F11.keep, ?_⟩))))
    refine square_c (hg1 _ F11.keep) (G.ext F11.keep) (Rm.le (by decide)) rg11 (by omega) (by omega) (by omega) fun a rs s1 q e hl tb => ⟨a, rs, rfl, F11.ext q e, hl, tb⟩
  intro a1 s12 F12 r12
  have T12 := T11.sq F12.stb.sq
  have rs12 := rs11.sq F12.stb.sq
  have F12 := F12.base
  refine ListComp_ ?_
  refine call_typ F12 G (by decide) boot_range (args_cons (ld F12 mn (args_nil ?_)))
  refine rrange1 (n := n) rfl (by omega) fun I s13 q e hI it => ?_
  obtain ⟨dvs, hdl, hdn, hdx⟩ := T12.due
  obtain ⟨svs, hsl, hsn, hsx⟩ := rs12
  refine comp_local q e F12 (Src.range (a := 0) (c := 1) (n := n) Rm.hh hI) (by simpa using it) (by show _ ≤ 2 ^ 24; omega) (fun D k y h => ∃ t, y = .int (due k * detP (k + 1) (tbl lv fl hh)) t) (fun D zs k y h h' r _ _ => r) ?_ ?_ (hcl := ⟨rfl, rfl, trivial⟩)
  · rintro C D k s14 v m7 o hk ⟨t7, rfl⟩ hD hDn F14 hv E'
    refine hide fun K E1 hK => ?_
    have ek : (0 : Int) + (k : Int) * 1 = k := by omega
    rw [ek] at hv
    obtain ⟨u1, hu1⟩ := hdx k (by omega)
    obtain ⟨u2, hu2⟩ := hsx k (by omega)
    refine wpAny_BinOp (Subscript_ (ldc F14 rfl cdu (ld F14 hv ?_)))
    refine rlistAt F14 (IsList.sq hdl F14.sq) (by omega) (by omega) (by rw [Int.toNat_natCast]; exact hu1) ?_
    refine Subscript_ (ldc F14 rfl rfl (ld F14 hv (rlistAt F14 (IsList.sq hsl F14.sq) (by omega) (by omega) (by rw [Int.toNat_natCast]; exact hu2) ?_)))
    have := g.bd k (by omega)
    exact rmul_ F14 (.of_left (bitsN (Nat.lt_trans this (by decide)))) fun t s10 F10 => hK _ _ ⟨_, F10, _, rfl⟩
  intro pa pys s14 q e hpa hpl hpn hpT
  have F14 := F12.ext q e
  refine rne_rows (r12.sq (Stab.of_ext e).sq) (rowOf hpl hpn hpT) g.g2 hun (wpAny_truthy_bool (iteN (by decide) (wpAny_execs_nil ?_)))
  have T14 := T12.sq F14.stb.sq
  have F14 := F14.base
  exact law_tail2 G Rm F14 mn ml cf ch cr cdu T14 hn3 hn4 g h
end
end Mine

namespace Mine
/-- the pool after k draws -/
structure Pool (h : Heap) (p q : Addr) (N : Nat) (g : Nat → Int) (k : Nat) : Prop where
  ne : q ≠ p
  row : RowIs h q N g
  lst : ∃ t, h.IsList p [.ref q, .int (k : Int) t].toArray
theorem Pool.sq {h h' : Heap} {p q : Addr} {N k : Nat} {g : Nat → Int} (x : Pool h p q N g k) (e : Seqs h h') : Pool h' p q N g k := ⟨x.ne, x.row.sq e, let ⟨t, y⟩ := x.lst; ⟨t, IsList.sq y e⟩⟩
theorem Pool.but {h h' : Heap} {p q l : Addr} {N k : Nat} {g : Nat → Int} (x : Pool h p q N g k) (e : But l h h') (n1 : p ≠ l) (n2 : q ≠ l) : Pool h' p q N g k :=
  ⟨x.ne, let ⟨vs, hl, y⟩ := x.row; ⟨vs, e.lst hl n2, y⟩, let ⟨t, y⟩ := x.lst; ⟨t, e.lst y n1⟩⟩
theorem RowIs.kp {h h' : Heap} {B a : Addr} {n : Nat} {g : Nat → Int} (x : RowIs h a n g) (e : Kp B h h') (n1 : a ≠ B) : RowIs h' a n g := by
  obtain ⟨vs, ⟨o, ho, hc, k, hd⟩, y⟩ := x
  exact ⟨vs, ⟨o, e.1 _ _ _ _ n1 ho hd, hc, k, hd⟩, y⟩

/-- k small ints -/
def Few (us : List Value) (k : Nat) : Prop := us.length = k ∧ ∀ j, j < k → ∃ x t, us[j]? = some (.int x t) ∧ x.natAbs ≤ 2
theorem Few.snoc {us : List Value} {k : Nat} {x : Int} {t : Tok} (r : Few us k) (hx : x.natAbs ≤ 2) : Few (us ++ [.int x t]) (k + 1) := by
  refine ⟨by simp [r.1], fun j hj => ?_⟩
  by_cases hjk : j = k
  · subst hjk; exact ⟨x, t, by rw [List.getElem?_append_right (by rw [r.1]; exact Nat.le_refl _), r.1]; simp, hx⟩
  · obtain ⟨y, u, e, hy⟩ := r.2 j (by omega)
    exact ⟨y, u, by rw [List.getElem?_append_left (by rw [r.1]; omega)]; exact e, hy⟩
def intAt (us : List Value) (j : Nat) : Int := match us[j]? with | some (.int x _) => x | _ => 0
theorem Few.row {h : Heap} {a : Addr} {us : List Value} {k : Nat} (r : Few us k) (hl : h.IsList a us.toArray) : RowIs h a k (intAt us) ∧ ∀ j, j < k → (intAt us j).natAbs ≤ 2 := by
  refine ⟨⟨us, hl, r.1, fun j hj => ?_⟩, fun j hj => ?_⟩
  · obtain ⟨x, t, e, hx⟩ := r.2 j hj
    exact ⟨t, by rw [e]; simp [intAt, e]⟩
  · obtain ⟨x, t, e, hx⟩ := r.2 j hj
    simp [intAt, e, hx]
def prodP (fl : Nat → Int) : Nat → Int
  | 0 => 1
  | k + 1 => prodP fl k * fl k
def dueP (fl : Nat → Int) : Nat → Int
  | 0 => 1
  | k + 1 => dueP fl k * prodP fl (k + 1)

section
variable {prog : Program} {w : World} {A : Around} {E : Value → Shared → Prop} {s₀ s : Shared} {hb : Heap} {env : Env} {m cm mg mb : Str → Option Value} {f : Addr}

theorem rdraw {p1 p2 p3 pos : Pos} {p q : Addr} {N k many kk : Nat} {g : Nat → Int} {Q : Value → Shared → Prop} (F : Fm s₀ hb env m cm s) (G : Gl mg mb s₀.heap) (Rm : Room 1 A)
    (hm : m "pool" = some (.ref p)) (hp0 : s₀.heap.get? p = none) (hp : Pool s.heap p q N g k) (hN : N < 2 ^ 20) (hk : k < 2 ^ 20) (hm0 : 0 < many)
    (h : ∀ (x : Int) t1 s', Fm s₀ s'.heap env m cm s' → Kp p s.heap s'.heap → Pool s'.heap p q N g (k + 1) → 0 ≤ x → x < (many : Int) → Q (.int x t1) s')
    (hl : env.kindOf "_law_draw" = some .globalImplicit := by rfl) (hl2 : env.kindOf "pool" = some .local := by rfl)
    (he : starEach [.Name "pool" p2, .Constant (.int (many : Int)) kk p3] env = (false, eval (.Name "pool" p2) env) :: starEach [.Constant (.int (many : Int)) kk p3] env := by rfl) :
    wpAny (model prog w) A (eval (.Call (.Name "_law_draw" p1) [.Name "pool" p2, .Constant (.int (many : Int)) kk p3] [] pos) env) Q E s := by
  have Fb := F.base
  refine call_def 30 Fb G (fun g1 hg1 => args_cons (ld Fb hm (args_cons (rint Fb fun t s1 F1 => args_nil ⟨F1.keep, ?_⟩)) hl2)) rfl (by decide) hl (by decide) he
  have hp1 := hp.sq F1.stb.sq
  obtain ⟨t0, hp1l⟩ := hp1.lst
  refine draw_c (hg1 _ F1.keep) (G.ext F1.keep) Rm hp1l hp1.ne hp1.row hN hk hm0 fun x t1 s2 q but hl2 h0 h1 => ?_
  obtain ⟨t2, hl2⟩ := hl2
  obtain ⟨vs, hlq, y⟩ := hp1.row
  exact h x t1 s2 (F1.base.mutL hp1l hp0 q but) ((Kp.of_stab F1.stb).trans (Kp.of_but but hp1l)) ⟨hp1.ne, ⟨vs, but.lst hlq hp1.ne, y⟩, t2, hl2⟩ h0 h1

/-- from the shift onward -/
theorem law_h {Q : Value → Shared → Prop} {L fa : Addr} {cd : Value} {n N k : Nat} {lv fl g : Nat → Int} {tn : Tok} {pl pf p q : Addr}
    (G : Gl mg mb s₀.heap) (Rm : Room 7 A) (F : Fm s₀ s.heap (envOfC (dfN 34).name (dfN 34).scope L fa cd) m cm s)
    (hcn : ∀ x c, (x, c) ∈ cellsFrom (L + 1) (dfN 34).scope.names [] → s₀.heap.get? c = none) (hap : (cellsFrom (L + 1) (dfN 34).scope.names []).Pairwise fun x y => x.2 ≠ y.2)
    (mp : m "pool" = some (.ref p)) (mn : m "n" = some (.int n tn)) (ml : m "levels" = some (.ref pl)) (cf : cm "falls" = some (.ref pf))
    (hp0 : s₀.heap.get? p = none) (hp : Pool s.heap p q N g k) (hN : N < 2 ^ 20) (hk : k < 2 ^ 20) (npl : pl ≠ p) (npf : pf ≠ p)
    (rl : RowIs s.heap pl n lv) (rf : RowIs s.heap pf (n - 1) fl) (hn3 : 3 ≤ n) (hn4 : n ≤ 4) (bl : ∀ i, i < n → (lv i).natAbs ≤ 2) (bf : ∀ i, i + 1 < n → (fl i).natAbs ≤ 2)
    (good : ∀ hh : Int, hh.natAbs ≤ 2 → Good n lv fl hh (dueP fl))
    (h : ∀ s', Sm s₀ s' → Ext s₀.heap s'.heap → Q (.bool true) s') :
    wpAny (model prog w) A (execs ((dfN 34).body.drop 4) (envOfC (dfN 34).name (dfN 34).scope L fa cd)) (fun f s' => Q (match f with | .ret v => v | _ => .none) s') E s := by
  have hun : A.units + 64 < cLine := by have := Rm.un; omega
  have e2 : (2 : Int) * (n : Int) = ((2 * n : Nat) : Int) := by omega
  -- h
  refine wpAny_execs_cons (wpAny_Assign_Name (Subscript_ (rtuple (args_cons (UnaryOp_ (rint F fun t1 s1 F => rneg F fun u1 s1 F => ?_))))))
  refine args_cons (UnaryOp_ (rint F fun t2 s1 F => rneg F fun u2 s1 F => ?_))
  refine args_cons (rint F fun u3 s1 F => ?_)
  refine args_cons (rint F fun u4 s1 F1 => ?_)
  refine args_nil ⟨by show 4 ≤ sizeLine; decide, fun a s2 q2 e hT _ => ?_⟩
  have F2 := F1.ext q2 e
  have rl2 := rl.sq F2.stb.sq
  have rf2 := rf.sq F2.stb.sq
  have hp2 := hp.sq F2.stb.sq
  refine rdraw F2.base G (Rm.le (by decide)) mp hp0 hp2 hN hk (by decide) fun x t3 s3 F3 kp hp3 x0 x4 => ?_
  have rl3 := rl2.kp kp npl
  have rf3 := rf2.kp kp npf
  have hT3 : IsTup s3.heap a #[.int (-2) u1, .int (-1) u2, .int 1 u3, .int 2 u4] := by
    obtain ⟨o, ho, hc, n', hd⟩ := hT
    refine ⟨o, kp.1 _ _ _ _ ?_ ho hd, hc, n', hd⟩
    rintro rfl
    obtain ⟨t', o', ho', hc', _⟩ := hp2.lst
    rw [ho] at ho'; cases ho'; rw [hc] at hc'; exact absurd hc' (by decide)
  obtain ⟨j, rfl⟩ := Int.eq_ofNat_of_zero_le x0
  have hj4 : j < 4 := Int.ofNat_lt.mp x4
  have hsi : seqIndex? (j : Int) 4 = some j := by
    have h1 : ¬ ((j : Int) < 0) := by omega
    have h3 : (j : Int) < 4 := by omega
    simp [seqIndex?, h1, h3]
  obtain ⟨hh, th, hx, hh2⟩ : ∃ (hh : Int) (th : Tok), ([.int (-2) u1, .int (-1) u2, .int 1 u3, .int 2 u4] : List Value)[j]? = some (.int hh th) ∧ hh.natAbs ≤ 2 := by
    rcases j with _ | _ | _ | _ | j
    · exact ⟨_, _, rfl, by decide⟩
    · exact ⟨_, _, rfl, by decide⟩
    · exact ⟨_, _, rfl, by decide⟩
    · exact ⟨_, _, rfl, by decide⟩
    · omega
  have g := good hh hh2
  refine rtupAt F3 hT3 hsi hx ?_ (by omega) (by omega)
  refine stc (c := L + 1 + 1) F3 rfl (hcn "h" _ (PySem.mem_of_lookup rfl)) (cells_ap hap rfl) fun s4 F4 => ?_
  have rl4 := rl3.sq F4.stb.sq
  have rf4 := rf3.sq F4.stb.sq
  have F4 := F4.base
  clear rl rl2 rl3 rf rf2 rf3 hT hT3 hp3 hp2 hp
  -- row, due, product
  refine wpAny_execs_cons ?_
  refine asgTriple Rm.hh ?_
  refine call_def 31 F4 G fun g4 hg4 => args_cons (ld F4 (x := "levels") ml (args_cons (ldc F4 rfl cf (args_cons (wpAny_BinOp (rint F4 fun t s5 F5 => ld F5 (x := "n") mn (rmul_ F5 (.of_left (by decide)) fun t s6 F6 => args_nil ⟨F6.keep, ?_⟩)))))))
  rw [e2]
  refine ways_c (K := 2 * n) (hg4 _ F6.keep) (G.ext F6.keep) (Rm.le (by decide)) (rl4.sq F6.stb.sq) (rf4.sq F6.stb.sq) (by omega) (by omega) (by omega) (fun i hi => Nat.lt_of_le_of_lt (bl i hi) (by decide)) (fun i hi => Nat.lt_of_le_of_lt (bf i hi) (by decide)) (fun pr s7 q e rr hf7 => ?_)
  have F7 := F6.ext q e
  have rl7 := rl4.sq F7.stb.sq
  have rf7 := rf4.sq F7.stb.sq
  have F7 := F7.base
  refine rlist (args_cons (rint F7 fun td s8 F8 => args_nil ⟨by show 1 ≤ sizeLine; decide, fun pd s9 q e hl9 hf9 => ?_⟩))
  have hd0 := F8.fresh hf9
  have F9 := F8.ext q e
  have rr9 := rr.sq F9.stb.sq
  have rl9 := rl7.sq F9.stb.sq
  have rf9 := rf7.sq F9.stb.sq
  have ne_ : ∀ {b : Addr} {n' : Nat} {g' : Nat → Int}, RowIs s8.heap b n' g' → b ≠ pd := fun r => by
    obtain ⟨vs, hl, _⟩ := r
    exact Ne.symm (ne_of_none hl hf9)
  have n1 := ne_ (rl7.sq F8.stb.sq)
  have n2 := ne_ (rf7.sq F8.stb.sq)
  have n3 := ne_ (rr.sq F8.stb.sq)
  have F9 := F9.base
  refine rint F9 fun tp s10 F10 => ?_
  intro s11 q e
  have F11 := F10.ext q e
  refine wpAny_assign_Name (stc (c := L + 1 + 1 + 1) F11 rfl (hcn "row" _ (PySem.mem_of_lookup rfl)) (cells_ap hap rfl) fun s12 F12 => ?_)
  refine wpAny_assign_Name (stc (c := L + 1 + 1 + 1 + 1) F12 rfl (hcn "due" _ (PySem.mem_of_lookup rfl)) (cells_ap hap rfl) fun s13 F13 => ?_)
  refine wpAny_assign_Name (st F13 fun s14 F14 => ?_)
  have rr14 := rr9.sq F14.stb.sq
  have rl14 := rl9.sq F14.stb.sq
  have rf14 := rf9.sq F14.stb.sq
  have hl14 : PlainL s14.heap pd [.int 1 td].toArray := ⟨_, _, F14.stb _ _ hl9 (Solid.seq rfl), rfl, rfl, rfl⟩
  have F14 := F14.base
  clear rl4 rl7 rl9 rf4 rf7 rf9 rr rr9 hl9
  -- due
  obtain ⟨fvs, hfl, hfn, hfx⟩ := id rf14
  have hfs : fvs.toArray.size = n - 1 := by simpa using hfn
  refine wpAny_execs_cons (wpAny_For (ldc F14 rfl (x := "falls") cf (riter hfl fun I s15 q e hI it => ?_)))
  have sq15 := (Stab.of_ext e).sq
  refine for_list Rm.hh (F14.ext q e) it.1 (F14.fresh hI) s14.heap hI e
    (fun k m h => m "n" = some (.int n tn) ∧ m "levels" = some (.ref pl) ∧ (∃ t, m "product" = some (.int (prodP fl k) t)) ∧ (∃ us, PlainL h pd (List.toArray us) ∧ Tells us (k + 1) (dueP fl)) ∧
      RowIs h pl n lv ∧ RowIs h pf (n - 1) fl ∧ h.IsList pf fvs.toArray ∧ RowIs h pr (2 * n) (WW n lv fl))
    (fun k m h h' ⟨i1, i2, i3, ⟨us, i4, i5⟩, i6, i7, i8, i9⟩ sq => ⟨i1, i2, i3, ⟨us, PlainL.sq i4 sq, i5⟩, i6.sq sq, i7.sq sq, IsList.sq i8 sq, i9.sq sq⟩)
    (fun k m h ⟨i1, i2, i3, i4, i6, i7, i8, i9⟩ => i8)
    ⟨mn, ml, ⟨_, rfl⟩, ⟨_, PlainL.sq hl14 sq15, rfl, fun j hj => by
      have : j = 0 := by omega
      subst this; exact ⟨_, rfl⟩⟩, rl14.sq sq15, rf14.sq sq15, IsList.sq hfl sq15, rr14.sq sq15⟩ ?_ ?_
  · rintro k v m s16 hv _ hInv F
    refine hide fun K E1 hK => ?_
    obtain ⟨i1, i2, ⟨tq, i3⟩, ⟨us, i4, i5⟩, i6, i7, i8, i9⟩ := hInv
    have hkn : k < n - 1 := by
      have := (Array.getElem?_eq_some_iff.mp hv).1
      omega
    obtain ⟨u, hu⟩ := hfx k hkn
    have hvr : v = .int (fl k) u := by rw [List.getElem?_toArray, hu] at hv; exact (Option.some.inj hv).symm
    subst hvr
    have hb1 := bf k (by omega)
    have hb2 := g.bd k (by omega)
    refine wpAny_execs_cons (wpAny_Assign_Name (wpAny_BinOp (ld F i3 (ld F rfl (rmul_ F (.of_right (bitsN (Nat.lt_of_le_of_lt hb1 (by decide)))) fun t17 s17 F17 => st F17 fun s18 F18 => ?_)))))
    have st18 := F18.stb
    have i4 := PlainL.sq i4 st18.sq
    have F18 := F18.base
    obtain ⟨ul, hul⟩ := i5.2 k (by omega)
    refine wpAny_execs_cons (rappendc F18 rfl (l := pd) rfl hd0 i4 (wpAny_BinOp (Subscript_ (ldc F18 rfl rfl (UnaryOp_ (rint F18 fun t19 s19 F19 => rneg F19 fun t20 s20 F20 => ?_))))))
    refine rlast F20 i4.isList (by rw [i5.1]; omega) (by rw [i5.1]; exact hul) (ld F20 rfl (rmul_ F20 (.of_left (bitsN (Nat.lt_trans hb2 (by decide)))) fun t21 s21 F21 => ⟨us, _, _, _, F21, PlainL.sq i4 F21.stb.sq, ?_, fun s22 F22 but hp22 => ?_⟩))
    · show _ < 2 ^ 24; rw [i5.1]; omega
    have sqq := st18.trans F21.stb
    refine wpAny_execs_nil (hK _ _ ⟨_, _, F22, sqq.it.trans (but.it (PlainL.sq i4 F21.stb.sq).isList), i1, i2, ⟨_, rfl⟩, ⟨_, hp22, i5.snoc⟩, ?_, ?_, but.lst (IsList.sq i8 sqq.sq) n2, ?_⟩)
    · obtain ⟨vs, hl, y⟩ := i6.sq sqq.sq; exact ⟨vs, but.lst hl n1, y⟩
    · obtain ⟨vs, hl, y⟩ := i7.sq sqq.sq; exact ⟨vs, but.lst hl n2, y⟩
    · obtain ⟨vs, hl, y⟩ := i9.sq sqq.sq; exact ⟨vs, but.lst hl n3, y⟩
  · rintro m s16 _ ⟨i1, i2, ⟨tq, i3⟩, ⟨us, i4, i5⟩, i6, i7, i8, i9⟩ F
    rw [hfs, show n - 1 + 1 = n by omega] at i5
    exact law_tail G Rm F hcn hap i1 i2 cf rfl rfl rfl ⟨i6, i7, i9, ⟨us, i4.isList, i5.1, i5.2⟩⟩ hn3 hn4 g h
end
end Mine

namespace Mine
section
variable {prog : Program} {w : World} {A : Around} {E : Value → Shared → Prop} {s₀ s : Shared} {hb : Heap} {env : Env} {m cm mg mb : Str → Option Value} {f : Addr}

theorem enter_code {vals : List Value} {i k : Nat} {R : Result → Shared → Prop} (hf : IsFn s.heap f i) (G : Gl mg mb s.heap) (Rm : Room (k + 1) A)
    {name : Str} {params : Arguments} {body : List Stmt} {scope : Scope} {pos : Pos} (hd : dfN i = ⟨name, params, body, scope, pos⟩)
    {binds : List (Str × Value)} (hbind : ∀ pm cd doc, bindArgs (Calls.docDef name params body scope pm cd doc) ⟨vals, []⟩ = pure binds)
    (hkind : ∀ L, ∀ x ∈ binds, scope.names.lookup x.1 = some .local ∨ (scope.names.lookup x.1 = some .cell ∧ ((cellsFrom (L + 1) scope.names []).lookup x.1).isSome = true))
    (h : ∀ L cd A' s', Room k A' → s.heap.objs.size = L → Fm s s.heap (envOfC name scope L f cd) (bindL (envOfC name scope L f cd).kindOf binds fun _ => none) (bindC (envOfC name scope L f cd).kindOf binds fun _ => none) s' →
      (cellsFrom (L + 1) scope.names []).Pairwise (fun x y => x.2 ≠ y.2) → (∀ n c, (n, c) ∈ cellsFrom (L + 1) scope.names [] → s.heap.get? c = none) →
      wpAny (model prog w) A' (execs body (envOfC name scope L f cd)) (fun f s' => R (.ok (.ret (match f with | .ret v => v | _ => .none))) s') (fun _ _ => False) s')
    (hco : scope.isCoroutine = false := by rfl) (hgen : scope.isGenerator = false := by rfl) (hk : scope.kind = .function := by rfl) :
    codeAny (model prog w) A (.call (.ref f) ⟨vals, []⟩) R s := by
  obtain ⟨o, pm, cd, doc, ho, hda, hcd⟩ := hf
  rw [hd] at hda hcd
  refine call_cells_ret (by have := Rm.dp; omega) ho hda G.lim hcd (hbind _ _ _) (hkind _) (fun h₁ tk F X => ?_) hco hgen hk
  exact h _ _ _ _ (Rm.deeper _) rfl ⟨hk, rfl, rfl, F.ns, X.cell, ⟨_, _, rfl⟩, F.keep, .of_ext F.keep, Heap.get?_none_of_le F.above⟩ X.apart (fun n c hm => Heap.get?_none_of_le (Nat.le_of_lt (X.above n c hm)))

theorem boot_int : bootBuiltins "int" = some (.type "int") := by decide +kernel

theorem law_c {R : Result → Shared → Prop} {ps : Addr} {N : Nat} {g : Nat → Int} (hf : IsFn s.heap f 34) (G : Gl mg mb s.heap) (Rm : Room 8 A)
    (hs : RowIs s.heap ps N g) (hN : N < 2 ^ 20)
    (good : ∀ (n : Nat) (lv fl : Nat → Int) (hh : Int), 3 ≤ n → n ≤ 4 → (∀ i, i < n → (lv i).natAbs ≤ 2) → (∀ i, i + 1 < n → (fl i).natAbs ≤ 2) → hh.natAbs ≤ 2 → Good n lv fl hh (dueP fl))
    (h : ∀ s', Sm s s' → Ext s.heap s'.heap → R (.ok (.ret (.bool true))) s') : codeAny (model prog w) A (.call (.ref f) ⟨[.ref ps], []⟩) R s := by
  obtain ⟨vs, hls, hvn, hvx⟩ := hs
  refine enter_code (k := 7) (binds := [("script", .ref ps)]) hf G Rm rfl (fun _ _ _ => rfl) (fun L => by simp only [List.mem_cons, List.not_mem_nil, or_false]; rintro y rfl; exact .inl rfl) (fun L cd A' s1 R' hL F hap hcn => ?_)
  -- the pool
  refine wpAny_execs_cons (wpAny_Assign_Name (rlist (args_cons (ListComp_ ?_))))
  refine rslice (ld F rfl (wpAny_evalPart_none (wpAny_evalPart_some (rint F fun t s2 F2 => ?_))))
  refine ⟨ps, vs, none, some ((9 : Nat) : Int), rfl, IsList.sq hls F2.sq, by show _ ≤ 2 ^ 24; omega, .none, .int _ _, fun a3 s3 q3 e3 hl3 hf3 => ?_⟩
  rw [slicePick_upto'] at hl3
  have F3 := (F2.ext q3 e3).base
  refine riter hl3 fun I s4 q e hI it => ?_
  have hsz : (vs.toArray.toList.take 9).toArray.size = min 9 N := by simp [hvn]
  refine comp_local q e F3 (Src.list R'.hh hI hl3) it (by show _ ≤ 2 ^ 24; omega) (fun D k y h => ∃ t, y = .int (g k) t) (fun D zs k y h h' r hl sb => r) ?_ ?_ (hcl := trivial)
  · rintro C D k s5 v m5 o hk hP hD hDn F5 hv E'
    obtain ⟨u, hu⟩ := hvx k (by omega)
    have hvr : v = .int (g k) u := by
      rw [List.getElem?_toArray, List.getElem?_take, if_pos (by omega)] at hP
      simp at hP
      rw [hu] at hP; exact (Option.some.inj hP).symm
    subst hvr
    exact call_typ F5 (G.ext F3.keep) (by decide) boot_int (args_cons (ld F5 hv (args_nil (call_int_int ⟨_, F5, _, rfl⟩))))
  intro q0 qys s5 q e hq0 hql hqn hqT
  have rq := rowOf hql (hqn.trans hsz) hqT
  have F5 := (F3.ext q e).base
  refine args_cons (rint F5 fun t s6 F6 => args_nil ⟨by show 2 ≤ sizeLine; decide, fun p s7 q e hl7 hf7 => ?_⟩)
  have hp0 := F6.fresh hf7
  have F7 := F6.ext q e
  have hqp : q0 ≠ p := Ne.symm (ne_of_none (IsList.sq hql F6.stb.sq) hf7)
  have hp7 : Pool s7.heap p q0 (min 9 N) g 0 := ⟨hqp, rq.sq F7.stb.sq, _, _, hl7, rfl, _, rfl⟩
  have F7 := F7.base
  refine st F7 fun s8 F8 => ?_
  have hp8 := hp7.sq F8.stb.sq
  have F8 := F8.base
  clear hp7 rq hqT hql F7 F6 F5 F3 F2
  have hN9 : min 9 N < 2 ^ 20 := by omega
  -- n
  refine wpAny_execs_cons (wpAny_Assign_Name (wpAny_BinOp (rint F8 fun t s9 F9 => ?_)))
  refine rdraw (p := p) F9 G (R'.le (by decide)) rfl hp0 (hp8.sq F9.stb.sq) hN9 (by decide) (by decide) fun x t1 s10 F10 kp hp10 x0 x2 => ?_
  obtain ⟨j, rfl⟩ := Int.eq_ofNat_of_zero_le x0
  have hj2 : j < 2 := Int.ofNat_lt.mp x2
  obtain ⟨n, hn⟩ : ∃ n : Nat, n = 3 + j := ⟨_, rfl⟩
  refine radd_ F10 fun tn s11 F11 => ?_
  rw [show (3 : Int) + (j : Int) = (n : Int) by omega]
  refine st F11 fun s12 F12 => ?_
  have hp12 := hp10.sq F12.stb.sq
  have F12 := F12.base
  clear hp10 hp8
  -- levels, falls
  refine wpAny_execs_cons ?_
  refine asgPair R'.hh ?_
  refine rlist (args_cons (wpAny_BinOp ?_))
  refine rdraw (p := p) F12 G (R'.le (by decide)) rfl hp0 hp12 hN9 (by decide) (by decide) fun x t2 s13 F13 kp hp13 y0 y5 => ?_
  refine rint F13 fun t s14 F14 => rsub_ F14 fun t14 s15 F15 => ?_
  have hp15 := hp13.sq F15.stb.sq
  refine args_nil ⟨by show 1 ≤ sizeLine; decide, fun pl s16 q e hl16 hf16 => ?_⟩
  have hl0 := F15.fresh hf16
  have F16 := F15.ext q e
  have hp16 := hp15.sq (Stab.of_ext e).sq
  have npl : pl ≠ p := by
    obtain ⟨t, hl⟩ := hp15.lst
    exact ne_of_none hl hf16
  have nql : pl ≠ q0 := by
    obtain ⟨vs, hl, _⟩ := hp15.row
    exact ne_of_none hl hf16
  have F16 := F16.base
  refine rlist (args_nil ⟨by decide, fun pf s17 q e hl17 hf17 => ?_⟩)
  have hf0 := F16.fresh hf17
  have F17 := F16.ext q e
  have hp17 := hp16.sq (Stab.of_ext e).sq
  have hl17' := F17.stb _ _ hl16 (Solid.seq rfl)
  have npf : pf ≠ p := by
    obtain ⟨t, hl⟩ := hp16.lst
    exact ne_of_none hl hf17
  have nqf : pf ≠ q0 := by
    obtain ⟨vs, hl, _⟩ := hp16.row
    exact ne_of_none hl hf17
  have nfl : pf ≠ pl := by
    rintro rfl
    rw [hf17] at hl16; cases hl16
  have F17 := F17.base
  intro s18 q e
  have F18 := F17.ext q e
  refine wpAny_assign_Name (st F18 fun s19 F19 => ?_)
  refine wpAny_assign_Name (stc (c := L + 1) F19 rfl (hcn "falls" _ (PySem.mem_of_lookup rfl)) (cells_ap hap rfl) fun s20 F20 => ?_)
  have hp20 := hp17.sq F20.stb.sq
  have pl20 : PlainL s20.heap pl [.int (x - 2) t14].toArray := ⟨_, _, F20.stb _ _ hl17' (Solid.seq rfl), rfl, rfl, rfl⟩
  have pf20 : PlainL s20.heap pf ([] : List Value).toArray := ⟨_, _, F20.stb _ _ hl17 (Solid.seq rfl), rfl, rfl, rfl⟩
  have F20 := F20.base
  have few20 : Few [.int (x - 2) t14] 1 := ⟨rfl, fun j hj => by
    have : j = 0 := by omega
    subst this
    have h5 : x < 5 := y5
    exact ⟨_, _, rfl, by omega⟩⟩
  clear hp17 hp16 hp15 hp13 hp12
  -- the turns
  refine wpAny_execs_cons (wpAny_For (call_typ F20 G (by decide) boot_range (args_cons (rint F20 fun t s21 F21 => args_cons (ld F21 (x := "n") rfl (args_nil ?_))))))
  refine rrange2 (n := n - 1) (by omega) (by decide) (by omega) fun I s22 q e hI it => ?_
  have F22 := F21.ext q e
  have sq22 := F22.stb.sq
  refine for_range R'.hh F22 it (F21.fresh hI) s21.heap hI e
    (fun k m h => m "n" = some (.int n tn) ∧ m "levels" = some (.ref pl) ∧ m "pool" = some (.ref p) ∧ (∃ us, PlainL h pl (List.toArray us) ∧ Few us (k + 1)) ∧ (∃ us, PlainL h pf (List.toArray us) ∧ Few us k) ∧ Pool h p q0 (min 9 N) g (2 + 2 * k))
    (fun k m h h' ⟨i1, i2, i3, ⟨us, i4, i5⟩, ⟨us', i6, i7⟩, i8⟩ sq => ⟨i1, i2, i3, ⟨us, PlainL.sq i4 sq, i5⟩, ⟨us', PlainL.sq i6 sq, i7⟩, i8.sq sq⟩)
    ⟨rfl, rfl, rfl, ⟨_, PlainL.sq pl20 sq22, few20⟩, ⟨_, PlainL.sq pf20 sq22, rfl, fun j hj => absurd hj (Nat.not_lt_zero j)⟩, hp20.sq sq22⟩ ?_ ?_
  · rintro k m s23 t23 hk _ hInv F
    refine hide fun K E1 hK => ?_
    obtain ⟨i1, i2, i3, ⟨us, i4, i5⟩, ⟨us', i6, i7⟩, i8⟩ := hInv
    have F := F
    refine wpAny_execs_cons (rappendc F rfl (l := pf) rfl hf0 i6 (wpAny_BinOp ?_))
    refine rdraw (p := p) F G (R'.le (by decide)) i3 hp0 i8 hN9 (by omega) (by decide) fun x t24 s24 F24 kp hp24 y0 y5 => ?_
    have i6 := PlainL.kp i6 kp npf
    have i4 := PlainL.kp i4 kp npl
    have k24 := kp.2
    have F24 := F24.base
    have x5 : x < 5 := y5
    refine rint F24 fun t s25 F25 => rsub_ F25 fun t25 s26 F26 => ⟨us', _, _, _, F26, PlainL.sq i6 F26.stb.sq, ?_, fun s27 F27 but hp27 => ?_⟩
    · show _ < 2 ^ 24; rw [i7.1]; omega
    have i7 := i7.snoc (x := x - 2) (t := t25) (by omega)
    have k27 := (k24.trans F26.stb.it).trans (but.it (PlainL.sq i6 F26.stb.sq).isList)
    have i4 := PlainL.bt (PlainL.sq i4 F26.stb.sq) but (Ne.symm nfl)
    have i8 := (hp24.sq F26.stb.sq).but but (Ne.symm npf) (Ne.symm nqf)
    refine wpAny_execs_cons (rappend F27 i2 hl0 i4 (wpAny_BinOp ?_))
    refine rdraw (p := p) F27 G (R'.le (by decide)) i3 hp0 i8 hN9 (by omega) (by decide) fun x t24 s34 F34 kp hp34 y0 y5 => ?_
    have hp27 := PlainL.kp hp27 kp npf
    have i4 := PlainL.kp i4 kp npl
    have k34 := k27.trans kp.2
    have F34 := F34.base
    have x5 : x < 5 := y5
    refine rint F34 fun t s35 F35 => rsub_ F35 fun t35 s36 F36 => ⟨us, _, _, _, F36, PlainL.sq i4 F36.stb.sq, ?_, fun s37 F37 but hp37 => ?_⟩
    · show _ < 2 ^ 24; rw [i5.1]; omega
    have i5 := i5.snoc (x := x - 2) (t := t35) (by omega)
    have k37 := (k34.trans F36.stb.it).trans (but.it (PlainL.sq i4 F36.stb.sq).isList)
    have i8 := (hp34.sq F36.stb.sq).but but (Ne.symm npl) (Ne.symm nql)
    exact wpAny_execs_nil (hK _ _ ⟨_, _, F37, k37, i1, i2, i3, ⟨_, hp37, i5⟩, ⟨_, PlainL.bt (PlainL.sq hp27 F36.stb.sq) but nfl, i7⟩, i8⟩)
  · rintro m s23 _ ⟨i1, i2, i3, ⟨us, i4, i5⟩, ⟨us', i6, i7⟩, i8⟩ F
    rw [show n - 1 + 1 = n by omega] at i5
    obtain ⟨rl, bl⟩ := i5.row i4.isList
    obtain ⟨rf, bf⟩ := i7.row i6.isList
    exact law_h (Q := fun v s' => R (.ok (.ret v)) s') G R' F hcn hap i3 i1 i2 rfl hp0 i8 hN9 (by omega) npl npf rl rf (by omega) (by omega) bl (fun i hi => bf i (by omega)) (fun hh hb => good n _ _ hh (by omega) (by omega) bl (fun i hi => bf i (by omega)) hb) h
end
end Mine

namespace Mine
def det3 (M : Nat → Nat → Int) (s : Nat) : Int :=
  M s s * (M (s + 1) (s + 1) * M (s + 2) (s + 2) - M (s + 1) (s + 2) * M (s + 2) (s + 1)) - M s (s + 1) * (M (s + 1) s * M (s + 2) (s + 2) - M (s + 1) (s + 2) * M (s + 2) s)
    + M s (s + 2) * (M (s + 1) s * M (s + 2) (s + 1) - M (s + 1) (s + 1) * M (s + 2) s)
/-- rows a b c, columns x y z -/
def d3 (M : Nat → Nat → Int) (a b c x y z : Nat) : Int :=
  M a x * (M b y * M c z - M b z * M c y) - M a y * (M b x * M c z - M b z * M c x) + M a z * (M b x * M c y - M b y * M c x)
def det4 (M : Nat → Nat → Int) (s : Nat) : Int :=
  M s s * d3 M (s + 1) (s + 2) (s + 3) (s + 1) (s + 2) (s + 3) - M s (s + 1) * d3 M (s + 1) (s + 2) (s + 3) s (s + 2) (s + 3)
    + M s (s + 2) * d3 M (s + 1) (s + 2) (s + 3) s (s + 1) (s + 3) - M s (s + 3) * d3 M (s + 1) (s + 2) (s + 3) s (s + 1) (s + 2)

theorem stepM_at {M : Nat → Nat → Int} {s i j : Nat} {ah q : Int} (hi : s < i) (hj : s < j) (h0 : ah ≠ 0) (h : M i j * M s s - M i s * M s j = ah * q) : stepM M s ah i j = q := by
  unfold stepM
  rw [if_pos hi, if_pos hj, h, Int.mul_fdiv_cancel_left _ h0]

theorem swap_r {M : Nat → Nat → Int} {r s : Nat} (j : Nat) : swapM M r s r j = M s j := by simp [swapM]
theorem swap_s {M : Nat → Nat → Int} {r s : Nat} (j : Nat) : swapM M r s s j = M r j := by
  unfold swapM; by_cases h : s = r <;> simp [h]
theorem swap_o {M : Nat → Nat → Int} {r s i : Nat} (h1 : i ≠ r) (h2 : i ≠ s) (j : Nat) : swapM M r s i j = M i j := by simp [swapM, h1, h2]

theorem L1 {n s : Nat} {M : Nat → Nat → Int} {sg ah : Int} (hn : n = s + 1) : detLoop n 1 s M sg ah = sg * M s s := by
  subst hn
  rw [detLoop, show s + 1 - s = 1 by omega, pivotFrom, pivotFrom]
  by_cases h : M s s ≠ 0
  · rw [if_pos h]
    show detLoop _ 0 _ _ _ _ = _
    rw [detLoop, if_pos rfl, swap_s]
  · rw [if_neg h]
    rw [Decidable.not_not.mp h, Int.mul_zero]

theorem L2 {n s : Nat} {M : Nat → Nat → Int} {sg ah m : Int} (hn : n = s + 2) (h0 : ah ≠ 0) (hm : M s s * M (s + 1) (s + 1) - M s (s + 1) * M (s + 1) s = ah * m) : detLoop n 2 s M sg ah = sg * m := by
  subst hn
  rw [detLoop, show s + 2 - s = 2 by omega, pivotFrom, pivotFrom, pivotFrom]
  by_cases h : M s s ≠ 0
  · rw [if_pos h]
    show detLoop _ 1 _ _ _ _ = _
    rw [L1 rfl, if_pos rfl, stepM_at (q := m) (by omega) (by omega) h0]
    rw [swap_s, swap_s, swap_o (by omega) (by omega), swap_o (by omega) (by omega)]
    grind
  · rw [if_neg h]
    have hz := Decidable.not_not.mp h
    by_cases h1 : M (s + 1) s ≠ 0
    · rw [if_pos h1]
      show detLoop _ 1 _ _ _ _ = _
      rw [L1 rfl, if_neg (by omega), stepM_at (q := -m) (by omega) (by omega) h0]
      · grind
      rw [swap_s, swap_s, swap_r, swap_r]
      grind
    · rw [if_neg h1]
      have hz1 := Decidable.not_not.mp h1
      rw [hz, hz1] at hm
      have : ah * m = 0 := by rw [← hm]; simp
      rcases Int.mul_eq_zero.mp this with h | h
      · exact absurd h h0
      · show (0 : Int) = _
        rw [h, Int.mul_zero]

theorem K3 {n s : Nat} {M : Nat → Nat → Int} {sg ah d : Int} (hn : n = s + 3) (h0 : ah ≠ 0) (hp : M s s ≠ 0)
    (hd : ∀ i j, s < i → i < s + 3 → s < j → j < s + 3 → ah ∣ (M i j * M s s - M i s * M s j)) (h3 : det3 M s = ah * ah * d) : detLoop n 2 (s + 1) (stepM M s ah) sg (M s s) = sg * d := by
  obtain ⟨a, ha⟩ := hd (s + 1) (s + 1) (by omega) (by omega) (by omega) (by omega)
  obtain ⟨b, hb⟩ := hd (s + 1) (s + 2) (by omega) (by omega) (by omega) (by omega)
  obtain ⟨c, hc⟩ := hd (s + 2) (s + 1) (by omega) (by omega) (by omega) (by omega)
  obtain ⟨e, he⟩ := hd (s + 2) (s + 2) (by omega) (by omega) (by omega) (by omega)
  refine L2 (by omega) hp ?_
  rw [stepM_at (by omega) (by omega) h0 ha, stepM_at (j := s + 1 + 1) (by omega) (by omega) h0 hb, stepM_at (i := s + 1 + 1) (by omega) (by omega) h0 hc, stepM_at (i := s + 1 + 1) (j := s + 1 + 1) (by omega) (by omega) h0 he]
  have key : ah * ah * (a * e - b * c) = ah * ah * (M s s * d) := by
    have e1 : ah * ah * (a * e - b * c) = (ah * a) * (ah * e) - (ah * b) * (ah * c) := by grind
    rw [e1, ← ha, ← hb, ← hc, ← he]
    have e2 : ah * ah * (M s s * d) = M s s * det3 M s := by rw [h3]; grind
    rw [e2]
    unfold det3
    grind
  exact Int.eq_of_mul_eq_mul_left (Int.mul_ne_zero h0 h0) key

theorem L3 {n s : Nat} {M : Nat → Nat → Int} {sg ah d : Int} (hn : n = s + 3) (h0 : ah ≠ 0)
    (hd : ∀ a b j, s ≤ a → a < s + 3 → s ≤ b → b < s + 3 → s < j → j < s + 3 → ah ∣ (M a j * M b s - M a s * M b j)) (h3 : det3 M s = ah * ah * d) : detLoop n 3 s M sg ah = sg * d := by
  have hn' := hn
  subst hn
  rw [detLoop, show s + 3 - s = 3 by omega, pivotFrom, pivotFrom, pivotFrom, pivotFrom]
  by_cases h : M s s ≠ 0
  · rw [if_pos h]
    show detLoop _ 2 _ _ _ _ = _
    rw [if_pos rfl]
    have es : swapM M s s = M := by funext i j; by_cases q : i = s <;> simp [swapM, q]
    rw [es]
    exact K3 rfl h0 h (fun i j h1 h2 h3 h4 => hd i s j (by omega) (by omega) (by omega) (by omega) (by omega) (by omega)) h3
  rw [if_neg h]
  by_cases h1 : M (s + 1) s ≠ 0
  · rw [if_pos h1]
    show detLoop _ 2 _ _ _ _ = _
    rw [if_neg (by omega), K3 (d := -d) rfl h0 (by rw [swap_s]; exact h1)]
    · grind
    · intro i j hi1 hi2 hj1 hj2
      by_cases hi : i = s + 1
      · subst hi
        rw [swap_r, swap_r, swap_s, swap_s]
        exact hd _ _ _ (by omega) (by omega) (by omega) (by omega) hj1 hj2
      · rw [swap_o hi (by omega), swap_o hi (by omega), swap_s, swap_s]
        exact hd _ _ _ (by omega) (by omega) (by omega) (by omega) hj1 hj2
    · have : det3 (swapM M (s + 1) s) s = - det3 M s := by
        unfold det3
        simp only [swap_r, swap_s, swap_o (show s + 2 ≠ s + 1 by omega) (show s + 2 ≠ s by omega)]
        grind
      rw [this, h3]; grind
  rw [if_neg h1]
  by_cases h2 : M (s + 1 + 1) s ≠ 0
  · rw [if_pos h2]
    show detLoop _ 2 _ _ _ _ = _
    rw [if_neg (by omega), K3 (d := -d) rfl h0 (by rw [swap_s]; exact h2)]
    · grind
    · intro i j hi1 hi2 hj1 hj2
      by_cases hi : i = s + 1 + 1
      · subst hi
        rw [swap_r, swap_r, swap_s, swap_s]
        exact hd _ _ _ (by omega) (by omega) (by omega) (by omega) hj1 hj2
      · rw [swap_o hi (by omega), swap_o hi (by omega), swap_s, swap_s]
        exact hd _ _ _ (by omega) (by omega) (by omega) (by omega) hj1 hj2
    · have : det3 (swapM M (s + 2) s) s = - det3 M s := by
        unfold det3
        simp only [swap_r, swap_s, swap_o (show s + 1 ≠ s + 2 by omega) (show s + 1 ≠ s by omega)]
        grind
      show det3 (swapM M (s + 2) s) s = _
      rw [this, h3]; grind
  rw [if_neg h2]
  have z0 := Decidable.not_not.mp h
  have z1 := Decidable.not_not.mp h1
  have z2 : M (s + 2) s = 0 := Decidable.not_not.mp h2
  have : ah * ah * d = 0 := by
    rw [← h3]; unfold det3; rw [z0, z1, z2]; grind
  rcases Int.mul_eq_zero.mp this with q | q
  · exact absurd q (Int.mul_ne_zero h0 h0)
  · show (0 : Int) = _
    rw [q, Int.mul_zero]
end Mine

namespace Mine
theorem K4 {n s : Nat} {M : Nat → Nat → Int} {sg : Int} (hn : n = s + 4) (hp : M s s ≠ 0) : detLoop n 3 (s + 1) (stepM M s 1) sg (M s s) = sg * det4 M s := by
  have st : ∀ i j, s < i → s < j → stepM M s 1 i j = M i j * M s s - M i s * M s j := fun i j hi hj => stepM_at hi hj (by decide) (by rw [Int.one_mul])
  refine L3 (by omega) hp (fun a b j ha1 ha2 hb1 hb2 hj1 hj2 => ?_) ?_
  · rw [st a j (by omega) (by omega), st b (s + 1) (by omega) (by omega), st a (s + 1) (by omega) (by omega), st b j (by omega) (by omega)]
    refine ⟨d3 M s a b s j (s + 1), ?_⟩
    unfold d3
    grind
  · unfold det3
    rw [st (s + 1) (s + 1) (by omega) (by omega), st (s + 1) (s + 1 + 1) (by omega) (by omega), st (s + 1) (s + 1 + 2) (by omega) (by omega), st (s + 1 + 1) (s + 1) (by omega) (by omega), st (s + 1 + 1) (s + 1 + 1) (by omega) (by omega),
      st (s + 1 + 1) (s + 1 + 2) (by omega) (by omega), st (s + 1 + 2) (s + 1) (by omega) (by omega), st (s + 1 + 2) (s + 1 + 1) (by omega) (by omega), st (s + 1 + 2) (s + 1 + 2) (by omega) (by omega)]
    unfold det4 d3
    rw [show s + 1 + 1 = s + 2 by omega, show s + 1 + 2 = s + 3 by omega]
    generalize M s s = a00
    generalize M s (s + 1) = a01
    generalize M s (s + 2) = a02
    generalize M s (s + 3) = a03
    generalize M (s + 1) s = a10
    generalize M (s + 1) (s + 1) = a11
    generalize M (s + 1) (s + 2) = a12
    generalize M (s + 1) (s + 3) = a13
    generalize M (s + 2) s = a20
    generalize M (s + 2) (s + 1) = a21
    generalize M (s + 2) (s + 2) = a22
    generalize M (s + 2) (s + 3) = a23
    generalize M (s + 3) s = a30
    generalize M (s + 3) (s + 1) = a31
    generalize M (s + 3) (s + 2) = a32
    generalize M (s + 3) (s + 3) = a33
    grind

theorem det4_swap {M : Nat → Nat → Int} {s r : Nat} (h1 : s < r) (h2 : r < s + 4) : det4 (swapM M r s) s = - det4 M s := by
  obtain rfl | rfl | rfl : r = s + 1 ∨ r = s + 2 ∨ r = s + 3 := by omega
  · unfold det4 d3
    simp only [swap_r, swap_s, swap_o (show s + 2 ≠ s + 1 by omega) (show s + 2 ≠ s by omega), swap_o (show s + 3 ≠ s + 1 by omega) (show s + 3 ≠ s by omega)]
    grind
  · unfold det4 d3
    simp only [swap_r, swap_s, swap_o (show s + 1 ≠ s + 2 by omega) (show s + 1 ≠ s by omega), swap_o (show s + 3 ≠ s + 2 by omega) (show s + 3 ≠ s by omega)]
    grind
  · unfold det4 d3
    simp only [swap_r, swap_s, swap_o (show s + 1 ≠ s + 3 by omega) (show s + 1 ≠ s by omega), swap_o (show s + 2 ≠ s + 3 by omega) (show s + 2 ≠ s by omega)]
    grind

theorem L4 {n s : Nat} {M : Nat → Nat → Int} {sg : Int} (hn : n = s + 4) : detLoop n 4 s M sg 1 = sg * det4 M s := by
  subst hn
  rw [detLoop, show s + 4 - s = 4 by omega]
  cases e : pivotFrom M s s 4 with
  | none =>
    rw [pivotFrom, pivotFrom, pivotFrom, pivotFrom, pivotFrom] at e
    by_cases h : M s s ≠ 0
    · rw [if_pos h] at e; cases e
    rw [if_neg h] at e
    by_cases h1 : M (s + 1) s ≠ 0
    · rw [if_pos h1] at e; cases e
    rw [if_neg h1] at e
    by_cases h2 : M (s + 1 + 1) s ≠ 0
    · rw [if_pos h2] at e; cases e
    rw [if_neg h2] at e
    by_cases h3 : M (s + 1 + 1 + 1) s ≠ 0
    · rw [if_pos h3] at e; cases e
    have z0 := Decidable.not_not.mp h
    have z1 := Decidable.not_not.mp h1
    have z2 : M (s + 2) s = 0 := Decidable.not_not.mp h2
    have z3 : M (s + 3) s = 0 := Decidable.not_not.mp h3
    show (0 : Int) = _
    unfold det4 d3
    rw [z0, z1, z2, z3]
    grind
  | some r =>
    obtain ⟨h1, h2, h3⟩ := pivotFrom_some e
    show detLoop _ 3 _ _ _ _ = _
    rw [K4 rfl (by rw [swap_s]; exact h3)]
    by_cases hr : r = s
    · subst hr
      have es : swapM M r r = M := by funext i j; by_cases q : i = r <;> simp [swapM, q]
      rw [if_pos rfl, es]
    · rw [if_neg hr, det4_swap (by omega) (by omega)]
      grind

theorem detP1 (M : Nat → Nat → Int) : detP 1 M = M 0 0 := by unfold detP; rw [L1 rfl, Int.one_mul]
theorem detP2 (M : Nat → Nat → Int) : detP 2 M = M 0 0 * M 1 1 - M 0 1 * M 1 0 := by unfold detP; rw [L2 (m := M 0 0 * M 1 1 - M 0 1 * M 1 0) rfl (by decide) (by rw [Int.one_mul]), Int.one_mul]
theorem detP3 (M : Nat → Nat → Int) : detP 3 M = det3 M 0 := by
  unfold detP; rw [L3 (d := det3 M 0) rfl (by decide) (fun _ _ _ _ _ _ _ _ _ => Int.one_dvd _) (by rw [Int.one_mul, Int.one_mul]), Int.one_mul]
theorem detP4 (M : Nat → Nat → Int) : detP 4 M = det4 M 0 := by unfold detP; rw [L4 rfl, Int.one_mul]
end Mine

namespace Mine
theorem col4 {M Y : Nat → Nat → Int} {a b c d e g : Int} (h0 : ∀ i, i < 4 → M i 0 = Y i 0) (h1 : ∀ i, i < 4 → M i 1 = Y i 1 + a * Y i 0) (h2 : ∀ i, i < 4 → M i 2 = Y i 2 + b * Y i 0 + c * Y i 1)
    (h3 : ∀ i, i < 4 → M i 3 = Y i 3 + d * Y i 0 + e * Y i 1 + g * Y i 2) : det4 M 0 = det4 Y 0 := by
  unfold det4 d3
  simp only [Nat.zero_add]
  rw [h0 0 (by decide), h0 1 (by decide), h0 2 (by decide), h0 3 (by decide), h1 0 (by decide), h1 1 (by decide), h1 2 (by decide), h1 3 (by decide),
    h2 0 (by decide), h2 1 (by decide), h2 2 (by decide), h2 3 (by decide), h3 0 (by decide), h3 1 (by decide), h3 2 (by decide), h3 3 (by decide)]
  clear h0 h1 h2 h3
  generalize Y 0 0 = a00
  generalize Y 0 1 = a01
  generalize Y 0 2 = a02
  generalize Y 0 3 = a03
  generalize Y 1 0 = a10
  generalize Y 1 1 = a11
  generalize Y 1 2 = a12
  generalize Y 1 3 = a13
  generalize Y 2 0 = a20
  generalize Y 2 1 = a21
  generalize Y 2 2 = a22
  generalize Y 2 3 = a23
  generalize Y 3 0 = a30
  generalize Y 3 1 = a31
  generalize Y 3 2 = a32
  generalize Y 3 3 = a33
  grind
theorem row4 {M Y : Nat → Nat → Int} {a b c d e g : Int} (h0 : ∀ i, i < 4 → M 0 i = Y 0 i) (h1 : ∀ i, i < 4 → M 1 i = Y 1 i + a * Y 0 i) (h2 : ∀ i, i < 4 → M 2 i = Y 2 i + b * Y 0 i + c * Y 1 i)
    (h3 : ∀ i, i < 4 → M 3 i = Y 3 i + d * Y 0 i + e * Y 1 i + g * Y 2 i) : det4 M 0 = det4 Y 0 := by
  have tr : ∀ M : Nat → Nat → Int, det4 M 0 = det4 (fun i j => M j i) 0 := fun M => by unfold det4 d3; grind
  rw [tr M, tr Y]
  exact col4 h0 h1 h2 h3
theorem col3 {M Y : Nat → Nat → Int} {a b c : Int} (h0 : ∀ i, i < 3 → M i 0 = Y i 0) (h1 : ∀ i, i < 3 → M i 1 = Y i 1 + a * Y i 0) (h2 : ∀ i, i < 3 → M i 2 = Y i 2 + b * Y i 0 + c * Y i 1) : det3 M 0 = det3 Y 0 := by
  unfold det3
  simp only [Nat.zero_add]
  rw [h0 0 (by decide), h0 1 (by decide), h0 2 (by decide), h1 0 (by decide), h1 1 (by decide), h1 2 (by decide), h2 0 (by decide), h2 1 (by decide), h2 2 (by decide)]
  clear h0 h1 h2
  grind
theorem row3 {M Y : Nat → Nat → Int} {a b c : Int} (h0 : ∀ i, i < 3 → M 0 i = Y 0 i) (h1 : ∀ i, i < 3 → M 1 i = Y 1 i + a * Y 0 i) (h2 : ∀ i, i < 3 → M 2 i = Y 2 i + b * Y 0 i + c * Y 1 i) : det3 M 0 = det3 Y 0 := by
  have tr : ∀ M : Nat → Nat → Int, det3 M 0 = det3 (fun i j => M j i) 0 := fun M => by unfold det3; grind
  rw [tr M, tr Y]
  exact col3 h0 h1 h2

/-- one below the diagonal -/
structure Tri (x : Nat → Nat → Int) : Prop where
  x00 : x 0 0 = 1
  x01 : x 0 1 = 0
  x02 : x 0 2 = 0
  x03 : x 0 3 = 0
  x11 : x 1 1 = 1
  x12 : x 1 2 = 0
  x13 : x 1 3 = 0
  x22 : x 2 2 = 1
  x23 : x 2 3 = 0
  x33 : x 3 3 = 1

theorem lbl {M B x : Nat → Nat → Int} (T : Tri x) (hM : ∀ i j, i < 4 → j < 4 → M i j =
      (x i 0 * B 0 0 + x i 1 * B 1 0 + x i 2 * B 2 0 + x i 3 * B 3 0) * x j 0 + (x i 0 * B 0 1 + x i 1 * B 1 1 + x i 2 * B 2 1 + x i 3 * B 3 1) * x j 1
      + (x i 0 * B 0 2 + x i 1 * B 1 2 + x i 2 * B 2 2 + x i 3 * B 3 2) * x j 2 + (x i 0 * B 0 3 + x i 1 * B 1 3 + x i 2 * B 2 3 + x i 3 * B 3 3) * x j 3) :
    ∀ k, k < 4 → detP (k + 1) M = detP (k + 1) B := by
  obtain ⟨Y, hY⟩ : ∃ Y : Nat → Nat → Int, Y = fun i m => x i 0 * B 0 m + x i 1 * B 1 m + x i 2 * B 2 m + x i 3 * B 3 m := ⟨_, rfl⟩
  have y0 : ∀ m, Y 0 m = B 0 m := fun m => by rw [hY]; simp only [T.x00, T.x01, T.x02, T.x03]; omega
  have y1 : ∀ m, Y 1 m = B 1 m + x 1 0 * B 0 m := fun m => by rw [hY]; simp only [T.x11, T.x12, T.x13]; omega
  have y2 : ∀ m, Y 2 m = B 2 m + x 2 0 * B 0 m + x 2 1 * B 1 m := fun m => by rw [hY]; simp only [T.x22, T.x23]; omega
  have y3 : ∀ m, Y 3 m = B 3 m + x 3 0 * B 0 m + x 3 1 * B 1 m + x 3 2 * B 2 m := fun m => by rw [hY]; simp only [T.x33]; omega
  have hMY : ∀ i j, i < 4 → j < 4 → M i j = Y i 0 * x j 0 + Y i 1 * x j 1 + Y i 2 * x j 2 + Y i 3 * x j 3 := fun i j hi hj => by rw [hM i j hi hj, hY]
  have m0 : ∀ i, i < 4 → M i 0 = Y i 0 := fun i hi => by rw [hMY i 0 hi (by decide), T.x00, T.x01, T.x02, T.x03]; omega
  have m1 : ∀ i, i < 4 → M i 1 = Y i 1 + x 1 0 * Y i 0 := fun i hi => by rw [hMY i 1 hi (by decide), T.x11, T.x12, T.x13]; grind
  have m2 : ∀ i, i < 4 → M i 2 = Y i 2 + x 2 0 * Y i 0 + x 2 1 * Y i 1 := fun i hi => by rw [hMY i 2 hi (by decide), T.x22, T.x23]; grind
  have m3 : ∀ i, i < 4 → M i 3 = Y i 3 + x 3 0 * Y i 0 + x 3 1 * Y i 1 + x 3 2 * Y i 2 := fun i hi => by rw [hMY i 3 hi (by decide), T.x33]; grind
  intro k hk
  obtain rfl | rfl | rfl | rfl : k = 0 ∨ k = 1 ∨ k = 2 ∨ k = 3 := by omega
  · rw [detP1, detP1, m0 0 (by decide), y0]
  · rw [detP2, detP2, m0 0 (by decide), m0 1 (by decide), m1 0 (by decide), m1 1 (by decide), y0, y1, y0, y1]; grind
  · rw [detP3, detP3, col3 (fun i hi => m0 i (by omega)) (fun i hi => m1 i (by omega)) (fun i hi => m2 i (by omega))]
    exact row3 (fun i _ => y0 i) (fun i _ => y1 i) (fun i _ => y2 i)
  · rw [detP4, detP4, col4 m0 m1 m2 m3]
    exact row4 (fun i _ => y0 i) (fun i _ => y1 i) (fun i _ => y2 i) (fun i _ => y3 i)

/-- the columns scaled -/
theorem scale {A : Nat → Nat → Int} {P D : Nat → Int} (h0 : D 0 = P 0) (hD : ∀ k, D (k + 1) = D k * P (k + 1)) : ∀ k, k < 4 → detP (k + 1) (fun i j => A i j * P j) = D k * detP (k + 1) A := by
  have h1 := hD 0
  have h2 := hD 1
  have h3 := hD 2
  simp only [Nat.zero_add] at h1
  intro k hk
  obtain rfl | rfl | rfl | rfl : k = 0 ∨ k = 1 ∨ k = 2 ∨ k = 3 := by omega
  · rw [detP1, detP1, h0]; grind
  · rw [detP2, detP2, h1, h0]; grind
  · rw [detP3, detP3, h2, h1, h0]; unfold det3; grind
  · rw [detP4, detP4, h3, h2, h1, h0]; unfold det4 d3
    clear h1 h2 h3 h0 hD
    grind
end Mine

namespace Mine
abbrev F2 (n : Nat) (fl : Nat → Int) : Int := if 3 < n then fl 2 else 0
section
variable {n : Nat} {lv fl : Nat → Int}
theorem w_s0 (hn : 3 ≤ n) (k : Nat) : wSeq n lv fl (k + 1) 0 = wSeq n lv fl k 0 * lv 0 + wSeq n lv fl k 1 * fl 0 := by
  show wStep n lv fl _ 0 = _
  unfold wStep; rw [if_neg (by omega), if_pos (by omega)]; simp
theorem w_s1 (hn : 3 ≤ n) (k : Nat) : wSeq n lv fl (k + 1) 1 = wSeq n lv fl k 1 * lv 1 + wSeq n lv fl k 0 + wSeq n lv fl k 2 * fl 1 := by
  show wStep n lv fl _ 1 = _
  unfold wStep; rw [if_pos (by omega), if_pos (by omega)]
theorem w_s2 (hn : 3 ≤ n) (k : Nat) : wSeq n lv fl (k + 1) 2 = wSeq n lv fl k 2 * lv 2 + wSeq n lv fl k 1 + wSeq n lv fl k 3 * F2 n fl := by
  show wStep n lv fl _ 2 = _
  unfold wStep F2; rw [if_pos (by omega)]
  by_cases h : 3 < n
  · rw [if_pos h, if_pos h]
  · rw [if_neg h, if_neg h]; simp
theorem w_s3 (hn : n ≤ 4) (k : Nat) : wSeq n lv fl (k + 1) 3 = wSeq n lv fl k 3 * lv 3 + wSeq n lv fl k 2 := by
  show wStep n lv fl _ 3 = _
  unfold wStep; rw [if_pos (by omega), if_neg (by omega)]; simp

theorem w_tri (h3 : 3 ≤ n) (h4 : n ≤ 4) : Tri (wSeq n lv fl) := by
  have a0 : wSeq n lv fl 0 0 = 1 := rfl
  have a1 : wSeq n lv fl 0 1 = 0 := rfl
  have a2 : wSeq n lv fl 0 2 = 0 := rfl
  have a3 : wSeq n lv fl 0 3 = 0 := rfl
  have b1 : wSeq n lv fl 1 1 = 1 := by rw [w_s1 h3, a0, a1, a2]; omega
  have b2 : wSeq n lv fl 1 2 = 0 := by rw [w_s2 h3, a1, a2, a3]; omega
  have b3 : wSeq n lv fl 1 3 = 0 := by rw [w_s3 h4, a2, a3]; omega
  have c2 : wSeq n lv fl 2 2 = 1 := by rw [w_s2 h3, b1, b2, b3]; omega
  have c3 : wSeq n lv fl 2 3 = 0 := by rw [w_s3 h4, b2, b3]; omega
  have d3 : wSeq n lv fl 3 3 = 1 := by rw [w_s3 h4, c2, c3]; omega
  exact ⟨a0, a1, a2, a3, b1, b2, b3, c2, c3, d3⟩

/-- the weighted product of two rows -/
abbrev sP (n : Nat) (lv fl : Nat → Int) (i j : Nat) : Int :=
  wSeq n lv fl i 0 * wSeq n lv fl j 0 + fl 0 * (wSeq n lv fl i 1 * wSeq n lv fl j 1) + fl 0 * fl 1 * (wSeq n lv fl i 2 * wSeq n lv fl j 2) + fl 0 * fl 1 * F2 n fl * (wSeq n lv fl i 3 * wSeq n lv fl j 3)
theorem s_step (h3 : 3 ≤ n) (h4 : n ≤ 4) (i j : Nat) : sP n lv fl (i + 1) j = sP n lv fl i (j + 1) := by
  unfold sP
  rw [w_s0 h3, w_s1 h3, w_s2 h3, w_s3 h4, w_s0 h3, w_s1 h3, w_s2 h3, w_s3 h4]
  generalize F2 n fl = f2
  grind
theorem w_sum (h3 : 3 ≤ n) (h4 : n ≤ 4) : ∀ j i, WW n lv fl (i + j) = sP n lv fl i j
  | 0, i => by
    have T := w_tri (lv := lv) (fl := fl) h3 h4
    unfold sP WW
    rw [T.x00, T.x01, T.x02, T.x03]
    simp
  | j + 1, i => by
    rw [← s_step h3 h4, ← w_sum h3 h4 j (i + 1), show i + (j + 1) = i + 1 + j by omega]

abbrev pP (n : Nat) (fl : Nat → Int) : Nat → Int
  | 0 => 1
  | 1 => fl 0
  | 2 => fl 0 * fl 1
  | 3 => fl 0 * fl 1 * F2 n fl
  | _ => 0

theorem due_p (k : Nat) (hn : n ≤ 4) (hk : k < n) : ∀ D : Nat → Int, D 0 = pP n fl 0 → (∀ k, D (k + 1) = D k * pP n fl (k + 1)) → D k = dueP fl k := by
  intro D h0 hD
  have h1 := hD 0
  have h2 := hD 1
  have h3 := hD 2
  simp only [Nat.zero_add] at h1
  obtain rfl | rfl | rfl | rfl : k = 0 ∨ k = 1 ∨ k = 2 ∨ k = 3 := by omega
  · rw [h0]; rfl
  · rw [h1, h0]; simp [dueP, prodP, pP]
  · rw [h2, h1, h0]; simp [dueP, prodP, pP]
  · rw [h3, h2, h1, h0]; simp [dueP, prodP, pP, F2, hk]

theorem has_D (P : Nat → Int) : ∃ D : Nat → Int, D 0 = P 0 ∧ ∀ k, D (k + 1) = D k * P (k + 1) :=
  ⟨fun k => Nat.rec (P 0) (fun k d => d * P (k + 1)) k, rfl, fun _ => rfl⟩

def idM : Nat → Nat → Int := fun i j => if i = j then 1 else 0
theorem det_id : ∀ k, k < 4 → detP (k + 1) idM = 1 := by
  intro k hk
  obtain rfl | rfl | rfl | rfl : k = 0 ∨ k = 1 ∨ k = 2 ∨ k = 3 := by omega
  · rw [detP1]; rfl
  · rw [detP2]; rfl
  · rw [detP3]; rfl
  · rw [detP4]; rfl

theorem hankel (h3 : 3 ≤ n) (h4 : n ≤ 4) (k : Nat) (hk : k < n) : detP (k + 1) (fun i j => WW n lv fl (i + j)) = dueP fl k := by
  obtain ⟨D, hD0, hD⟩ := has_D (pP n fl)
  have e := lbl (M := fun i j => WW n lv fl (i + j)) (B := fun i j => idM i j * pP n fl j) (w_tri (lv := lv) (fl := fl) h3 h4) (fun i j _ _ => by
    show WW n lv fl (i + j) = _
    rw [w_sum h3 h4]
    clear hD hD0
    unfold sP
    rw [show pP n fl 0 = 1 from rfl, show pP n fl 1 = fl 0 from rfl, show pP n fl 2 = fl 0 * fl 1 from rfl, show pP n fl 3 = fl 0 * fl 1 * F2 n fl from rfl]
    generalize F2 n fl = f2
    simp [idM]
    grind) k (by omega)
  rw [e, scale hD0 hD k (by omega), det_id k (by omega), due_p k h4 hk D hD0 hD, Int.mul_one]

theorem hankel2 (hh : Int) (h3 : 3 ≤ n) (h4 : n ≤ 4) (k : Nat) (hk : k < n) : detP (k + 1) (fun i j => gapP n lv fl hh (i + j)) = dueP fl k * detP (k + 1) (tbl lv (fun i => if i = 2 then F2 n fl else fl i) hh) := by
  obtain ⟨D, hD0, hD⟩ := has_D (pP n fl)
  have e := lbl (M := fun i j => gapP n lv fl hh (i + j)) (B := fun i j => tbl lv (fun i => if i = 2 then F2 n fl else fl i) hh i j * pP n fl j) (w_tri (lv := lv) (fl := fl) h3 h4) (fun i j _ _ => by
    show WW n lv fl (i + j + 1) - hh * WW n lv fl (i + j) = _
    rw [show i + j + 1 = (i + 1) + j by omega, w_sum h3 h4, w_sum h3 h4]
    clear hD hD0
    unfold sP
    rw [show pP n fl 0 = 1 from rfl, show pP n fl 1 = fl 0 from rfl, show pP n fl 2 = fl 0 * fl 1 from rfl, show pP n fl 3 = fl 0 * fl 1 * F2 n fl from rfl]
    rw [w_s0 h3, w_s1 h3, w_s2 h3, w_s3 h4]
    generalize F2 n fl = f2
    simp [tbl]
    grind) k (by omega)
  rw [e, scale hD0 hD k (by omega), due_p k h4 hk D hD0 hD]
end
end Mine

namespace Mine
theorem wStep_add (n : Nat) (lv fl a b : Nat → Int) (c : Int) (m : Nat) : wStep n lv fl (fun i => a i + c * b i) m = wStep n lv fl a m + c * wStep n lv fl b m := by
  unfold wStep
  split <;> split <;> grind
def iterW (n : Nat) (lv fl : Nat → Int) (v : Nat → Int) : Nat → Nat → Int
  | 0 => v
  | s + 1 => wStep n lv fl (iterW n lv fl v s)
theorem iterW_seq (n : Nat) (lv fl : Nat → Int) : ∀ s, iterW n lv fl (wSeq n lv fl 0) s = wSeq n lv fl s
  | 0 => rfl
  | s + 1 => by rw [iterW, iterW_seq n lv fl s]; rfl
section
variable {n : Nat} {lv fl : Nat → Int} {hh : Int}
abbrev vv (n : Nat) (lv fl : Nat → Int) (hh : Int) (i s : Nat) : Nat → Int := iterW n lv fl (wSeq n (fun i => lv i + hh) fl i) s
theorem vv_step (i : Nat) : ∀ s, vv n lv fl hh (i + 1) s = fun m => vv n lv fl hh i (s + 1) m + hh * vv n lv fl hh i s m
  | 0 => by
    funext m
    show wStep n (fun i => lv i + hh) fl (wSeq n (fun i => lv i + hh) fl i) m = wStep n lv fl (wSeq n (fun i => lv i + hh) fl i) m + hh * wSeq n (fun i => lv i + hh) fl i m
    unfold wStep
    split <;> split <;> grind
  | s + 1 => by
    funext m
    show wStep n lv fl (vv n lv fl hh (i + 1) s) m = _
    rw [vv_step i s, wStep_add]
    rfl
abbrev zz (n : Nat) (lv fl : Nat → Int) (hh : Int) (s i : Nat) : Int := vv n lv fl hh i s 0
theorem zz0 (s : Nat) : zz n lv fl hh s 0 = WW n lv fl s := by
  show iterW n lv fl (wSeq n lv fl 0) s 0 = _
  rw [iterW_seq]
theorem zzS (s i : Nat) : zz n lv fl hh s (i + 1) = zz n lv fl hh (s + 1) i + hh * zz n lv fl hh s i := by
  show vv n lv fl hh (i + 1) s 0 = _
  rw [vv_step]
theorem zzU (i : Nat) : zz n lv fl hh 0 i = WU n lv fl hh i := rfl

theorem pw_at {j : Nat} (hj : j < 2 * n) : (pwP n hh).getD j 0 = hh ^ j := getD_map_range hj
theorem ys_at {j : Nat} (hj : j + 1 < 2 * n) : (ysP n hh).getD (j + 1) 0 = hh ^ j := by
  have := pw_at (hh := hh) (show j < 2 * n by omega)
  rw [← this, List.getD_eq_getElem?_getD, List.getD_eq_getElem?_getD, List.getElem?_cons_succ, List.getElem?_take, if_pos (by omega)]
theorem ys_0 : (ysP n hh).getD 0 0 = 0 := rfl

theorem convY (g : List Int) {i : Nat} (hi : i + 1 < 2 * n) : conv g (ysP n hh) (i + 1) (i + 2) = hh * conv g (ysP n hh) i (i + 1) + g.getD i 0 := by
  have key : ∀ k, k ≤ i → conv g (ysP n hh) (i + 1) k = hh * conv g (ysP n hh) i k := by
    intro k hk
    induction k with
    | zero => simp [conv]
    | succ k ih =>
      rw [conv, conv, ih (by omega), show i + 1 - k = (i - k) + 1 by omega, ys_at (by omega), show i - k = (i - k - 1) + 1 by omega, ys_at (by omega), Int.pow_succ]
      grind
  rw [conv, conv, key i (Nat.le_refl _), conv, show i + 1 - (i + 1) = 0 by omega, show i + 1 - i = 0 + 1 by omega, Nat.sub_self, ys_0, ys_at (by omega)]
  grind
theorem convP (g : List Int) {i : Nat} (hi : i + 1 < 2 * n) : conv g (pwP n hh) (i + 1) (i + 2) = hh * conv g (pwP n hh) i (i + 1) + g.getD (i + 1) 0 := by
  have key : ∀ k, k ≤ i + 1 → conv g (pwP n hh) (i + 1) k = hh * conv g (pwP n hh) i k := by
    intro k hk
    induction k with
    | zero => simp [conv]
    | succ k ih =>
      rw [conv, conv, ih (by omega), show i + 1 - k = (i - k) + 1 by omega, pw_at (by omega), pw_at (by omega), Int.pow_succ]
      grind
  rw [conv, key (i + 1) (Nat.le_refl _), Nat.sub_self, pw_at (by omega)]
  grind

theorem smul_at {g ys : List Int} {i : Nat} (h1 : i < g.length) (h2 : i < ys.length) : (smulP g ys).getD i 0 = conv g ys i (i + 1) := by
  unfold smulP
  rw [getD_map_range (by omega)]
theorem ys_len (hn : 0 < n) : (ysP n hh).length = 2 * n := by simp [ysP]; omega

theorem comp_0 {xs : List Int} (hn : 0 < n) (k : Nat) : (compSeq xs (ysP n hh) (2 * n) (k + 1)).getD 0 0 = xs.getD (2 * n - 1 - k) 0 := by
  have hl := compSeq_length xs (ysP n hh) (2 * n) (ys_len hn) k
  rw [compSeq, compStep, List.getD_eq_getElem?_getD, List.getElem?_set_self (by simp [smulP, hl]; omega), smul_at (by omega) (by rw [ys_len hn]; omega)]
  simp [conv]
theorem comp_S {xs : List Int} (hn : 0 < n) (k : Nat) {i : Nat} (hi : i + 1 < 2 * n) : (compSeq xs (ysP n hh) (2 * n) (k + 1)).getD (i + 1) 0 = conv (compSeq xs (ysP n hh) (2 * n) k) (ysP n hh) (i + 1) (i + 2) := by
  have hl := compSeq_length xs (ysP n hh) (2 * n) (ys_len hn) k
  rw [compSeq, compStep, List.getD_eq_getElem?_getD, List.getElem?_set_ne (by omega), ← List.getD_eq_getElem?_getD, smul_at (by omega) (by rw [ys_len hn]; omega)]
theorem conv_0 (g : List Int) : conv g (ysP n hh) 0 1 = 0 := by simp [conv]

theorem comp_zz (hn : 0 < n) : ∀ k, k ≤ 2 * n → ∀ i, i < k → (compSeq (xsP n lv fl) (ysP n hh) (2 * n) k).getD i 0 = if i = 0 then WW n lv fl (2 * n - k) else zz n lv fl hh (2 * n - k + 1) (i - 1)
  | 0, _, i, hi => absurd hi (Nat.not_lt_zero i)
  | k + 1, hk, i, hi => by
    have ih := comp_zz hn k (by omega)
    have B : ∀ i, i < k → conv (compSeq (xsP n lv fl) (ysP n hh) (2 * n) k) (ysP n hh) (i + 1) (i + 2) = zz n lv fl hh (2 * n - k) i := by
      intro i
      induction i with
      | zero => intro h0; rw [convY _ (by omega), conv_0, ih 0 h0, if_pos rfl, zz0]; simp
      | succ i ihi => intro h0; rw [convY _ (by omega), ihi (by omega), ih (i + 1) h0, if_neg (by omega), zzS, Nat.add_sub_cancel]; grind
    cases i with
    | zero => rw [comp_0 hn, if_pos rfl, getD_map_range (by omega)]; congr 1; omega
    | succ i => rw [comp_S hn _ (by omega), B i (by omega), if_neg (by omega), show 2 * n - (k + 1) + 1 = 2 * n - k by omega, Nat.add_sub_cancel]

theorem last_zz (hn : 0 < n) : ∀ i, i < 2 * n → conv (compSeq (xsP n lv fl) (ysP n hh) (2 * n) (2 * n)) (pwP n hh) i (i + 1) = WU n lv fl hh i := by
  have hc := comp_zz (lv := lv) (fl := fl) (hh := hh) hn (2 * n) (Nat.le_refl _)
  intro i
  rw [← zzU]
  induction i with
  | zero =>
    intro h0
    rw [zz0, conv, conv, hc 0 h0, if_pos rfl, Nat.sub_self, pw_at h0]; simp
  | succ i ih => intro h0; rw [convP _ h0, ih (by omega), hc (i + 1) h0, if_neg (by omega), zzS, Nat.sub_self, Nat.add_sub_cancel]; simp; omega

theorem onward_is (hn : 0 < n) : smulP (compSeq (xsP n lv fl) (ysP n hh) (2 * n) (2 * n)) (pwP n hh) = (List.range (2 * n)).map (WU n lv fl hh) := by
  unfold smulP
  rw [compSeq_length _ _ _ (ys_len hn), show (pwP n hh).length = 2 * n by simp, Nat.min_self]
  exact List.map_congr_left fun i hi => last_zz hn i (List.mem_range.mp hi)

theorem comp_small {C : Nat} (hn : 0 < n) (hb : hh.natAbs ≤ 2) (hC : ∀ k, k < 2 * n → (WW n lv fl k).natAbs ≤ C) : ∀ k, k ≤ 2 * n → (∀ i, i < 2 * n → ((compSeq (xsP n lv fl) (ysP n hh) (2 * n) k).getD i 0).natAbs ≤ C * 3 ^ i) ∧
    ∀ i, i < 2 * n → (conv (compSeq (xsP n lv fl) (ysP n hh) (2 * n) k) (ysP n hh) i (i + 1)).natAbs ≤ C * 3 ^ i := by
  have conv_le : ∀ g : List Int, (∀ i, i < 2 * n → (g.getD i 0).natAbs ≤ C * 3 ^ i) → ∀ i, i < 2 * n → (conv g (ysP n hh) i (i + 1)).natAbs ≤ C * 3 ^ i := by
    intro g hg i
    induction i with
    | zero => intro h0; rw [conv_0]; simp
    | succ i ih =>
      intro h0
      rw [convY _ h0]
      have a := ih (by omega)
      have b := hg i (by omega)
      have c : (hh * conv g (ysP n hh) i (i + 1)).natAbs ≤ 2 * (C * 3 ^ i) := by rw [Int.natAbs_mul]; exact Nat.mul_le_mul hb a
      have e : C * 3 ^ (i + 1) = 2 * (C * 3 ^ i) + C * 3 ^ i := by rw [Nat.pow_succ]; grind
      rw [e]
      exact Nat.le_trans (Int.natAbs_add_le _ _) (Nat.add_le_add c b)
  intro k
  induction k with
  | zero =>
    intro _
    have z : ∀ i, i < 2 * n → ((compSeq (xsP n lv fl) (ysP n hh) (2 * n) 0).getD i 0).natAbs ≤ C * 3 ^ i := fun i hi => by
      rw [compSeq, List.getD_eq_getElem?_getD, List.getElem?_replicate, if_pos hi]; simp
    exact ⟨z, conv_le _ z⟩
  | succ k ih =>
    intro hk
    have z : ∀ i, i < 2 * n → ((compSeq (xsP n lv fl) (ysP n hh) (2 * n) (k + 1)).getD i 0).natAbs ≤ C * 3 ^ i := fun i hi => by
      cases i with
      | zero => rw [comp_0 hn, getD_map_range (by omega)]; simpa using hC _ (by omega)
      | succ i => rw [comp_S hn _ hi]; exact (ih (by omega)).2 _ hi
    exact ⟨z, conv_le _ z⟩
end
end Mine

namespace Mine
def sumTo (f : Nat → Int) : Nat → Int
  | 0 => 0
  | k + 1 => sumTo f k + f k
theorem sumTo_congr {f g : Nat → Int} : ∀ k, (∀ i, i < k → f i = g i) → sumTo f k = sumTo g k
  | 0, _ => rfl
  | k + 1, h => by rw [sumTo, sumTo, sumTo_congr k fun i hi => h i (by omega), h k (by omega)]
theorem sumTo_front (f : Nat → Int) : ∀ k, sumTo f (k + 1) = f 0 + sumTo (fun i => f (i + 1)) k
  | 0 => by simp [sumTo]
  | k + 1 => by rw [sumTo, sumTo_front f k, sumTo]; omega
theorem sumTo_mul (c : Int) (f : Nat → Int) : ∀ k, sumTo (fun i => c * f i) k = c * sumTo f k
  | 0 => by simp [sumTo]
  | k + 1 => by rw [sumTo, sumTo_mul c f k, sumTo, Int.mul_add]
theorem wStep_sum (n : Nat) (lv fl a : Nat → Int) (v : Nat → Nat → Int) (i : Nat) : ∀ k, wStep n lv fl (fun m => sumTo (fun j => a j * v j m) k) i = sumTo (fun j => a j * wStep n lv fl (v j) i) k
  | 0 => by unfold wStep; simp [sumTo]
  | k + 1 => by
    have := wStep_add n lv fl (fun m => sumTo (fun j => a j * v j m) k) (v k) (a k) i
    rw [wStep_sum n lv fl a v i k] at this
    rw [sumTo, ← this]
    rfl
section
variable {n : Nat} {lv fl : Nat → Int}
abbrev uu (n : Nat) (lv fl : Nat → Int) : Nat → Nat → Int := wSeq (n - 1) (fun i => lv (i + 1)) (fun i => fl (i + 1))
theorem first_return : ∀ k i, wSeq n lv fl k (i + 1) = sumTo (fun j => WW n lv fl j * uu n lv fl (k - 1 - j) i) k
  | 0, i => rfl
  | k + 1, i => by
    have ih := first_return k
    have e1 : wSeq n lv fl (k + 1) (i + 1) = wStep (n - 1) (fun i => lv (i + 1)) (fun i => fl (i + 1)) (fun m => wSeq n lv fl k (m + 1)) i + (if i = 0 then WW n lv fl k else 0) := by
      show wStep n lv fl _ (i + 1) = _
      unfold wStep
      have hc : (if i + 1 + 1 < n then wSeq n lv fl k (i + 1 + 1) * fl (i + 1) else 0) = (if i + 1 < n - 1 then wSeq n lv fl k (i + 1 + 1) * fl (i + 1) else 0) := by
        by_cases h : i + 1 + 1 < n
        · rw [if_pos h, if_pos (by omega)]
        · rw [if_neg h, if_neg (by omega)]
      dsimp only
      rw [if_pos (show 0 < i + 1 by omega), Nat.add_sub_cancel, hc]
      by_cases h0 : i = 0
      · subst h0
        rw [if_neg (show ¬ 0 < 0 by omega), if_pos rfl]
        grind
      · rw [if_pos (show 0 < i by omega), if_neg h0, show i - 1 + 1 = i by omega]
        grind
    have e2 : (fun m => wSeq n lv fl k (m + 1)) = fun m => sumTo (fun j => WW n lv fl j * uu n lv fl (k - 1 - j) m) k := funext ih
    rw [e1, e2, wStep_sum, sumTo]
    have e3 : sumTo (fun j => WW n lv fl j * wStep (n - 1) (fun i => lv (i + 1)) (fun i => fl (i + 1)) (uu n lv fl (k - 1 - j)) i) k = sumTo (fun j => WW n lv fl j * uu n lv fl (k + 1 - 1 - j) i) k :=
      sumTo_congr k fun j hj => by
        rw [show k + 1 - 1 - j = (k - 1 - j) + 1 by omega]; rfl
    rw [e3, show k + 1 - 1 - k = 0 by omega]
    congr 1
    show _ = WW n lv fl k * (if i = 0 then 1 else 0)
    split <;> simp
theorem w_rec (hn : 3 ≤ n) (k : Nat) : WW n lv fl (k + 1) = WW n lv fl k * lv 0 + sumTo (fun j => WW n lv fl j * UP n lv fl (k - 1 - j)) k * fl 0 := by
  have : WW n lv fl (k + 1) = WW n lv fl k * lv 0 + wSeq n lv fl k 1 * fl 0 := by
    show wStep n lv fl _ 0 = _
    unfold wStep; rw [if_neg (by omega), if_pos (by omega)]; simp
  rw [this, first_return k 0]
def bb5 (n : Nat) (lv fl : Nat → Int) : Nat → Int
  | 0 => 1
  | 1 => 0 - lv 0
  | m + 2 => 0 - fl 0 * UP n lv fl m
theorem invTot_sum (xs F : List Int) (k : Nat) : ∀ j, invTot xs F k j = (if k = 0 then 1 else 0) - sumTo (fun i => xs.getD (i + 1) 0 * F.getD (k - (i + 1)) 0) j
  | 0 => by simp [invTot, sumTo]
  | j + 1 => by rw [invTot, invTot_sum xs F k j, sumTo]; omega
theorem inv_at (hn : 3 ≤ n) {k : Nat} (hk : k < 2 * n) : invTot (xsP n lv fl) ((List.range k).map (bb5 n lv fl)) k k = bb5 n lv fl k := by
  rw [invTot_sum]
  have e : sumTo (fun i => (xsP n lv fl).getD (i + 1) 0 * ((List.range k).map (bb5 n lv fl)).getD (k - (i + 1)) 0) k = sumTo (fun i => WW n lv fl (i + 1) * bb5 n lv fl (k - (i + 1))) k :=
    sumTo_congr k fun i hi => by rw [getD_map_range (by omega), getD_map_range (by omega)]
  rw [e]
  obtain _ | _ | m := k
  · simp [sumTo, bb5]
  · have h1 : WW n lv fl 1 = lv 0 := by
      rw [w_rec hn 0]
      show (1 : Int) * lv 0 + 0 * fl 0 = _
      omega
    simp [sumTo, bb5, h1]
  · rw [if_neg (by omega), sumTo, sumTo]
    have e2 : sumTo (fun i => WW n lv fl (i + 1) * bb5 n lv fl (m + 2 - (i + 1))) m = sumTo (fun i => (0 - fl 0) * (WW n lv fl (i + 1) * UP n lv fl (m - (i + 1)))) m :=
      sumTo_congr m fun i hi => by
        rw [show m + 2 - (i + 1) = (m - (i + 1)) + 2 by omega]
        show _ * (0 - fl 0 * UP n lv fl (m - (i + 1))) = _
        grind
    have e3 := w_rec (lv := lv) (fl := fl) hn (m + 1)
    rw [sumTo_front] at e3
    have e4 : WW n lv fl 0 = 1 := rfl
    rw [e2, sumTo_mul, show m + 2 - (m + 1) = 1 by omega, show m + 2 - (m + 1 + 1) = 0 by omega]
    show 0 - (_ * _ + WW n lv fl (m + 1) * (0 - lv 0) + WW n lv fl (m + 2) * 1) = 0 - fl 0 * UP n lv fl m
    rw [e3, e4]
    show 0 - ((0 - fl 0) * sumTo (fun i => WW n lv fl (i + 1) * UP n lv fl (m - (i + 1))) m + _ + _) = _
    rw [show m + 1 - 1 - 0 = m by omega, show m + 1 - 1 = m by omega]
    grind
theorem inv_is (hn : 3 ≤ n) : ∀ k, k ≤ 2 * n → invSeq (xsP n lv fl) k = (List.range k).map (bb5 n lv fl)
  | 0, _ => rfl
  | k + 1, hk => by rw [invSeq, inv_is hn k (by omega), inv_at hn hk, List.range_succ, List.map_append]; rfl
theorem inverse_is (hn : 3 ≤ n) : invSeq (xsP n lv fl) (2 * n) = 1 :: (0 - lv 0) :: (List.range (2 * n - 2)).map (fun k => 0 - fl 0 * UP n lv fl k) := by
  rw [inv_is hn _ (Nat.le_refl _)]
  obtain ⟨m, hm⟩ : ∃ m, 2 * n = m + 2 := ⟨2 * n - 2, by omega⟩
  rw [hm, List.range_succ_eq_map, List.range_succ_eq_map, show m + 2 - 2 = m by omega]
  simp [bb5, Function.comp_def]
theorem inv_tot (hn : 3 ≤ n) {k : Nat} (hk : k < 2 * n) : invTot (xsP n lv fl) (invSeq (xsP n lv fl) k) k k = bb5 n lv fl k := by
  rw [inv_is hn k (by omega), inv_at hn hk]

/-- bounds -/
theorem w_le {n B : Nat} {lv fl : Nat → Int} (hl : ∀ i, i < n → (lv i).natAbs ≤ B) (hf : ∀ i, i + 1 < n → (fl i).natAbs ≤ 2) : ∀ k i, i < n → (wSeq n lv fl k i).natAbs ≤ (B + 3) ^ k
  | 0, i, _ => by
    show (if i = 0 then (1 : Int) else 0).natAbs ≤ _
    split <;> simp
  | k + 1, i, hi => by
    have ih := w_le hl hf k
    show (wStep n lv fl _ i).natAbs ≤ _
    unfold wStep
    have a : (wSeq n lv fl k i * lv i).natAbs ≤ (B + 3) ^ k * B := by rw [Int.natAbs_mul]; exact Nat.mul_le_mul (ih i hi) (hl i hi)
    have b : (if 0 < i then wSeq n lv fl k (i - 1) else 0).natAbs ≤ (B + 3) ^ k := by
      split
      · exact ih _ (by omega)
      · simp
    have c : (if i + 1 < n then wSeq n lv fl k (i + 1) * fl i else 0).natAbs ≤ (B + 3) ^ k * 2 := by
      split
      · rename_i h; rw [Int.natAbs_mul]; exact Nat.mul_le_mul (ih _ h) (hf i h)
      · simp
    have e : (B + 3) ^ (k + 1) = (B + 3) ^ k * B + (B + 3) ^ k + (B + 3) ^ k * 2 := by rw [Nat.pow_succ]; grind
    rw [e]
    exact Nat.le_trans (Int.natAbs_add_le _ _) (Nat.add_le_add (Nat.le_trans (Int.natAbs_add_le _ _) (Nat.add_le_add a b)) c)
end
end Mine

namespace Mine
section
variable {n : Nat} {lv fl : Nat → Int} {hh : Int}
theorem tbl_det (h3 : 3 ≤ n) (h4 : n ≤ 4) (k : Nat) (hk : k < n) : detP (k + 1) (tbl lv (fun i => if i = 2 then F2 n fl else fl i) hh) = detP (k + 1) (tbl lv fl hh) := by
  by_cases hn : 3 < n
  · have : (fun i => if i = 2 then F2 n fl else fl i) = fl := by
      funext i
      by_cases hi : i = 2
      · subst hi; simp [F2, hn]
      · rw [if_neg hi]
    rw [this]
  · obtain rfl : n = 3 := by omega
    obtain rfl | rfl | rfl : k = 0 ∨ k = 1 ∨ k = 2 := by omega
    · rw [detP1, detP1]; simp [tbl]
    · rw [detP2, detP2]; simp [tbl]
    · rw [detP3, detP3]; unfold det3; simp [tbl]
theorem pow_bound {k : Nat} {B : Nat} (hB : 0 < B) (h : k ≤ 7) : B ^ k ≤ B ^ 7 := Nat.pow_le_pow_right hB h
theorem prod_le (bf : ∀ i, i + 1 < n → (fl i).natAbs ≤ 2) : ∀ k, k < n → (prodP fl k).natAbs ≤ 2 ^ k
  | 0, _ => by simp [prodP]
  | k + 1, h => by rw [prodP, Int.natAbs_mul, Nat.pow_succ]; exact Nat.mul_le_mul (prod_le bf k (by omega)) (bf k h)
theorem due_le (bf : ∀ i, i + 1 < n → (fl i).natAbs ≤ 2) : ∀ k, k < n → (dueP fl k).natAbs ≤ 2 ^ (k * k)
  | 0, _ => by simp [dueP]
  | k + 1, h => by
    rw [dueP, Int.natAbs_mul]
    refine Nat.le_trans (Nat.mul_le_mul (due_le bf k (by omega)) (prod_le bf (k + 1) h)) ?_
    rw [← Nat.pow_add]
    refine Nat.pow_le_pow_right (by decide) ?_
    have : (k + 1) * (k + 1) = k * k + 2 * k + 1 := by grind
    omega
theorem good_all (n : Nat) (lv fl : Nat → Int) (hh : Int) (h3 : 3 ≤ n) (h4 : n ≤ 4) (bl : ∀ i, i < n → (lv i).natAbs ≤ 2) (bf : ∀ i, i + 1 < n → (fl i).natAbs ≤ 2) (bh : hh.natAbs ≤ 2) : Good n lv fl hh (dueP fl) := by
  have W1 : ∀ k, k < 2 * n → (WW n lv fl k).natAbs ≤ 78125 := fun k hk =>
    Nat.le_trans (w_le bl bf k 0 (by omega)) (pow_bound (B := 5) (by decide) (by omega))
  have U1 : ∀ k, k < 2 * n → (WU n lv fl hh k).natAbs ≤ 823543 := fun k hk =>
    Nat.le_trans (w_le (B := 4) (fun i hi => by have := bl i hi; omega) bf k 0 (by omega)) (pow_bound (B := 7) (by decide) (by omega))
  have P1 : ∀ k, k < 2 * n → (UP n lv fl k).natAbs ≤ 78125 := fun k hk =>
    Nat.le_trans (w_le (B := 2) (fun i hi => bl (i + 1) (by omega)) (fun i hi => bf (i + 1) (by omega)) k 0 (by omega)) (pow_bound (B := 5) (by decide) (by omega))
  have hn0 : 0 < n := by omega
  refine ⟨fun k hk => hankel h3 h4 k hk, fun k hk => by rw [hankel2 hh h3 h4 k hk, tbl_det h3 h4 k hk], onward_is hn0, fun k hk => hankel (lv := fun i => lv i + hh) h3 h4 k hk, inverse_is h3, rfl, ?_, ?_, ?_, ?_, ?_, ?_, ?_, ?_, bl, bf, bh⟩
  · intro k hk; have := W1 k hk; omega
  · intro k hk
    have a := W1 (k + 1) (by omega)
    have b := W1 k (by omega)
    have c : (hh * WW n lv fl k).natAbs ≤ 2 * 78125 := by rw [Int.natAbs_mul]; exact Nat.mul_le_mul bh b
    show (WW n lv fl (k + 1) - hh * WW n lv fl k).natAbs < _
    omega
  · intro i j hi hj
    unfold tbl
    split
    · have := bl i hi; omega
    · split
      · have := bf j (by omega); omega
      · split <;> decide
  · intro k hk; have := U1 k hk; omega
  · intro k hk i hi
    have := (comp_small hn0 bh W1 k (by omega)).2 i hi
    have e : 3 ^ i ≤ 3 ^ 7 := pow_bound (by decide) (by omega)
    have : 78125 * 3 ^ i ≤ 78125 * 3 ^ 7 := Nat.mul_le_mul_left _ e
    omega
  · intro i hi
    rw [last_zz hn0 i hi]
    have := U1 i hi
    omega
  · intro k hk
    rw [inv_tot h3 hk]
    obtain _ | _ | m := k
    · show Int.natAbs 1 < 2 ^ 64; decide
    · have := bl 0 (by omega)
      show (0 - lv 0).natAbs < _
      omega
    · have a := P1 m (by omega)
      have b := bf 0 (by omega)
      have c : (fl 0 * UP n lv fl m).natAbs ≤ 2 * 78125 := by rw [Int.natAbs_mul]; exact Nat.mul_le_mul b a
      show (0 - fl 0 * UP n lv fl m).natAbs < _
      omega
  · intro k hk
    have := due_le bf k hk
    have e : 2 ^ (k * k) ≤ 2 ^ 9 := Nat.pow_le_pow_right (by decide) (by
      have : k * k ≤ 3 * 3 := Nat.mul_le_mul (by omega) (by omega)
      exact this)
    omega
end
end Mine

namespace Mine
theorem ints_row {vs : List Value} {ns : List Int} (h : IntsAre vs ns) : vs.length = ns.length ∧ ∀ j, j < ns.length → ∃ t, vs[j]? = some (.int (ns.getD j 0) t) := by
  induction h with
  | nil => exact ⟨rfl, fun j hj => absurd hj (Nat.not_lt_zero j)⟩
  | cons n t _ ih =>
    refine ⟨by simp [ih.1], fun j hj => ?_⟩
    cases j with
    | zero => exact ⟨t, rfl⟩
    | succ j => simpa using ih.2 j (by simpa using hj)
theorem room_caller : Room 8 callerA := ⟨rfl, by decide, by decide⟩
theorem good_end {c : ClaimW} {cl : Str → Option Addr} {mean : ExcName → Option Value} {args : List WData} {s s' : Shared} (q : Sm s s') (e : Ext s.heap s'.heap) (hg : s.gens = #[])
    (hr : ∀ cls : ExcName, c.raises args cls = false) (hp : c.post args (WData.bool true) args = true) : GoodWG c cl mean args s (.ok (.ret (.bool true))) s' := by
  obtain ⟨h, t, rfl⟩ := q
  refine GoodW.toG ⟨.inl ⟨_, .bool true, [], rfl, hr, ?_, hp, fun _ => ⟨.nil, fun _ hm => by cases hm⟩⟩, e, rfl, hg⟩
  exact ReadsW.bool _
theorem gl_of {p : Program} {loose : List Str} {mean : ExcName → Option Value} {mg mb : Str → Option Value} {h : Heap} (T : Top p loose mean mg mb h)
    (hf : ∀ i ∈ fnIx, dfN i ∈ recsOf p)
    (hfree : ∀ x ∈ (["range", "len", "abs", "list", "min", "max", "enumerate", "int"] : List Str), x ∉ startupNames ∧ x ∉ loose ∧ x ∉ (recsOf p).map (·.name) ∧ x ∉ (litsOf p).map (·.1) ∧ x ∉ (clssOf p loose).map (·.name))
    (r0 : ∃ v, mg "R0" = some v ∧ Rat h v 0) (r1 : ∃ v, mg "R1" = some v ∧ Rat h v 1) : Gl mg mb h where
  g := T.g
  b := T.b
  lim := T.nolimit
  bi := T.builtins
  free := fun x hx => let ⟨a, b, c, d, e⟩ := hfree x hx; T.free x a b c d e
  fn := fun i hi => let ⟨a, o, pm, code, doc, h1, h2, h3, h4⟩ := T.fn _ (hf i hi); ⟨a, h1, o, pm, code, doc, h2, h3, h4⟩
  r0 := r0
  r1 := r1
theorem view_at {p : Program} {i : Nat} (h : (recsOf p).find? (fun e => e.name == (dfN i).name) = some (dfN i)) : dfN i ∈ recsOf p := List.mem_of_find?_eq_some h
theorem law_fn {p : Program} {loose : List Str} {mean : ExcName → Option Value} {mg mb : Str → Option Value} {h : Heap} {fa : Addr} (T : Top p loose mean mg mb h)
    (hf : dfN 34 ∈ recsOf p) (e : mg (dfN 34).name = some (.ref fa)) : IsFn h fa 34 := by
  obtain ⟨a, o', pm', code', doc', h1, h2, h3, h4⟩ := T.fn _ hf
  rw [e] at h1
  cases h1
  exact ⟨o', pm', code', doc', h2, h3, h4⟩

/-! what the head is asked to hand on: R0 and R1 -/
def gOf (h : Heap) : Frag := match h.get? mainGlobals with | some o => [(mainGlobals, o)] | none => []
def isRat (h : Heap) (a : Addr) (x : Int) : Bool := match h.get? a with
  | some o => (match o.cls, o.data with
    | .type n, .seq xs _ => n == "tuple" && (match xs.toList with | [.int y _, .int z _] => y == x && z == 1 | _ => false)
    | _, _ => false)
  | none => false
def ratAt (h : Heap) (nm : Str) (x : Int) : Bool := match nsIn (gOf h) mainGlobals nm with
  | some (some (.ref a)) => isRat h a x
  | _ => false
def rObs (s : Shared) : Bool := ratAt s.heap "R0" 0 && ratAt s.heap "R1" 1
def RatSaid (h : Heap) (nm : Str) (x : Int) : Prop := ∃ (K : Frag) (a : Addr), K.In h ∧ nsIn K mainGlobals nm = some (some (.ref a)) ∧ Rat h (.ref a) x
theorem gOf_in (h : Heap) : (gOf h).In h := by
  unfold gOf
  intro a o e
  split at e
  · rename_i o' ho
    rw [List.lookup_cons] at e
    split at e
    · rename_i q
      cases e
      rw [beq_iff_eq.mp q]; exact ho
    · cases e
  · cases e
theorem isRat_of {h : Heap} {a : Addr} {x : Int} (e : isRat h a x = true) : Rat h (.ref a) x := by
  unfold isRat at e
  split at e
  · rename_i o ho
    split at e
    · rename_i n xs k hc hd
      rw [Bool.and_eq_true] at e
      obtain ⟨e1, e2⟩ := e
      split at e2
      · rename_i y t z u hx
        rw [Bool.and_eq_true] at e2
        have hy := beq_iff_eq.mp e2.1
        have hz := beq_iff_eq.mp e2.2
        subst hy hz
        have hn := beq_iff_eq.mp e1
        subst hn
        refine ⟨a, t, u, rfl, o, ho, hc, k, ?_⟩
        rw [hd]
        congr 1
        exact Array.toList_inj.mp hx
      · cases e2
    · cases e
  · cases e
theorem ratSaid_of {h : Heap} {nm : Str} {x : Int} (e : ratAt h nm x = true) : RatSaid h nm x := by
  unfold ratAt at e
  split at e
  · rename_i a q
    exact ⟨gOf h, a, gOf_in h, q, isRat_of e⟩
  · cases e
theorem RatSaid.keeps {h h' : Heap} {nm : Str} {x : Int} (r : RatSaid h nm x) (k : Ext h h') : RatSaid h' nm x :=
  let ⟨K, a, X, q, y⟩ := r; ⟨K, a, X.keeps k, q, y.stab (.of_ext k)⟩
def rHook : Hook := ⟨Bool, rObs, fun _ => true, fun _ h => RatSaid h "R0" 0 ∧ RatSaid h "R1" 1,
  fun _ _ e => let ⟨a, b⟩ := Bool.and_eq_true_iff.mp e; ⟨ratSaid_of a, ratSaid_of b⟩, fun _ _ _ r k => ⟨r.1.keeps k, r.2.keeps k⟩⟩
end Mine

theorem PySem.Challenge.cw_xm0077_01_holds : PySem.Challenge.rw_xm0077_01.Holds := by
  w_on
  o_law
  o_head Mine.rHook
  case hw => w_witness2
  intro w s₀ s₁ mg mb G Y fa o pm cd doc dV kV ho hd hcd hD hmg hg args vals as hpre hlay hrd hwl hlo
  have Y : Mine.RatSaid s₁.heap "R0" 0 ∧ Mine.RatSaid s₁.heap "R1" 1 := Y
  refine Ground.open G ?_
  intro T B D TE TW
  wrow_args hpre hlay hrd hwl hlo
  rename_i ns _ _ _ _ _ _ l vs _ hL _ _ _ hI _ hc _
  refine enter_call ?_
  have r0 : ∃ v, mg "R0" = some v ∧ Mine.Rat s₁.heap v 0 := let ⟨K, a, X, q, y⟩ := Y.1; ⟨.ref a, mg_of X T.g q, y⟩
  have r1 : ∃ v, mg "R1" = some v ∧ Mine.Rat s₁.heap v 1 := let ⟨K, a, X, q, y⟩ := Y.2; ⟨.ref a, mg_of X T.g q, y⟩
  have GL := Mine.gl_of T (by
    intro i hi
    simp only [Mine.fnIx, List.mem_cons, List.not_mem_nil, or_false] at hi
    rcases hi with rfl | rfl | rfl | rfl | rfl | rfl | rfl | rfl | rfl | rfl | rfl | rfl | rfl | rfl | rfl | rfl | rfl | rfl | rfl | rfl | rfl | rfl | rfl <;>
    exact Mine.view_at rfl) (by decide +kernel) r0 r1
  have hlaw : Mine.IsFn s₁.heap fa 34 := Mine.law_fn T (Mine.view_at rfl) hmg
  have hi := Mine.ints_row hI
  refine Mine.law_c hlaw GL Mine.room_caller ⟨vs, hL, hi.1, hi.2⟩ (by omega) Mine.good_all fun s' q e => ?_
  exact Mine.good_end q e hg (fun _ => rfl) (postW_of (by wrow_shape) (by wtm_val) (by str_meet; first | done | w_fin))
