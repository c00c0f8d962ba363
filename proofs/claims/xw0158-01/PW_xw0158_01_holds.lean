import PyProof.Rows.All
import Wide.All
import OpenK.AllK
import Wide.FinOn
import PySem.Challenge.RW_xw0158_01
open PySem PySem.W PyProof.Rows PySem.Calls PySem.Spec
set_option Elab.async false
set_option maxRecDepth 100000
set_option maxHeartbeats 8000000
namespace Mine
theorem told_of (H : Hook) {P : Prop} (_ : True) (h : H = H ∧ P) : P := h.2
section
local macro_rules | `(tactic| o_head $h) => `(tactic| refine told_of $h ?hw ?hc)
local macro_rules | `(tactic| w_witness2) => `(tactic| trivial)
open_top hk for PySem.Challenge.rw_xw0158_01
end
variable {w : World} {mean : ExcName → Option Value} {mg mb : Mp}
theorem fill : PySem.Challenge.rw_xw0158_01 = PySem.Challenge.rw_xw0158_01 ∧ hk.heap_39 = hk.heap_39 := by
  k_fill
  exact ⟨rfl, rfl⟩
abbrev lst (vs : List Value) (n : Nat) : Obj := { cls := .type "list", data := .seq vs.toArray n }
abbrev tup (vs : List Value) : Obj := { cls := .type "tuple", data := .seq vs.toArray 0 }
abbrev Led := List (Addr × Obj)
abbrev Mp := Str → Option Value
abbrev TT (q : Program) (mean : ExcName → Option Value) (mg mb : Mp) (h : Heap) : Prop := Top q (looseW q [Str.ofString "Adt"]) mean mg mb h

/-- what is written of a def: its name, its scope, where it and its code lie -/
structure Fn where
  cn : Str
  cs : Scope
  a : Addr
  ccd : Value
  hk : cs.kind = .function
/-- what a call of it stands on -/
structure Dy (w : World) (mean : ExcName → Option Value) (mg mb : Mp) where
  q : Program
  qi : importsNone q = true
  prog : Program
  dp : Nat
  un : Nat
  gd : Option (List Code)
  L : Addr
  outer : List Env
  A₀ : Around
  base : Heap
  h₀ : Heap
  B : Below A₀ base outer h₀
  X : (hk.heap_39 w.params).In h₀
  T : TT q mean mg mb h₀
structure Cx (w : World) (mean : ExcName → Option Value) (mg mb : Mp) where
  fn : Fn
  cl : List (Str × Addr)
  D : Dy w mean mg mb

section
variable {w : World} {mean : ExcName → Option Value} {mg mb : Mp}
abbrev Cx.L (C : Cx w mean mg mb) : Addr := C.D.L
abbrev Cx.h₀ (C : Cx w mean mg mb) : Heap := C.D.h₀
abbrev Cx.prog (C : Cx w mean mg mb) : Program := C.D.prog
abbrev Cx.env (C : Cx w mean mg mb) : Env := envX C.fn.cn C.fn.cs C.D.L C.fn.a C.fn.ccd C.cl
abbrev Cx.A (C : Cx w mean mg mb) : Around := ktrTop C.D.dp C.D.un C.D.gd C.fn.cn C.fn.cs C.D.L C.fn.a C.fn.ccd C.cl C.D.outer
structure Cx.room (C : Cx w mean mg mb) (n : Nat) : Prop where
  d : C.D.dp + n < recursionLimit
  u : C.D.un + 8 * n < cLine
theorem Cx.room.le {C : Cx w mean mg mb} {n k : Nat} (r : C.room n) (h : k ≤ n) : C.room k := ⟨Nat.lt_of_le_of_lt (Nat.add_le_add_left h _) r.d, Nat.lt_of_le_of_lt (Nat.add_le_add_left (Nat.mul_le_mul_left _ h) _) r.u⟩

/-- the state's frame and ledger -/
structure At (C : Cx w mean mg mb) (m : Mp) (news : Led) (h : Heap) : Prop where
  F : Fr C.h₀ C.L h m
  N : News C.h₀ C.L h news
def Tree (C : Cx w mean mg mb) (m : Mp) (news : Led) {α : Type} (t : Sem α) (R : α → Led → Prop) : Prop :=
  ∀ (s : Shared) (Q : α → Shared → Prop) (E : Value → Shared → Prop), At C m news s.heap → (∀ a n h tk, R a n → At C m n h → Q a { s with heap := h, toks := tk }) → wpAny (model C.prog w) C.A t Q E s
/-- a tree's value hangs on a token at most; no trace -/
structure Po (C : Cx w mean mg mb) (m : Mp) (news : Led) (t : Sem Value) (f : Tok → Value) : Prop where
  go : Tree C m news t (fun v n => (∃ t, v = f t) ∧ n = news)
structure Pe (C : Cx w mean mg mb) (env : Env) (m : Mp) (news : Led) (e : Expr) (f : Tok → Value) : Prop where
  go : Tree C m news (eval e env) (fun v n => (∃ t, v = f t) ∧ n = news)
structure Pt (C : Cx w mean mg mb) (env : Env) (m : Mp) (news : Led) (e : Expr) (b : Bool) : Prop where
  go : Tree C m news (isTrue e env (eval e env)) (fun v n => v = b ∧ n = news)
structure Pl (C : Cx w mean mg mb) (env : Env) (m : Mp) (news : Led) (es : List Expr) (F : (Nat → Tok) → List Value) : Prop where
  go : ∀ pos, Tree C m news (spliced (backTo pos (starEach es env))) (fun vs n => (∃ τ, vs = F τ) ∧ n = news)
/-- with a trace -/
structure Ev (C : Cx w mean mg mb) (env : Env) (m : Mp) (news : Led) (e : Expr) (R : Value → Led → Prop) : Prop where
  go : Tree C m news (eval e env) R
structure Et (C : Cx w mean mg mb) (env : Env) (m : Mp) (news : Led) (e : Expr) (R : Bool → Led → Prop) : Prop where
  go : Tree C m news (isTrue e env (eval e env)) R
structure El (C : Cx w mean mg mb) (env : Env) (m : Mp) (news : Led) (es : List Expr) (R : List Value → Led → Prop) : Prop where
  go : ∀ pos, Tree C m news (spliced (backTo pos (starEach es env))) R
/-- a block, begun in m and news, falls through where K tells, or gives back what R tells -/
structure Run (C : Cx w mean mg mb) (m : Mp) (news : Led) (ss : List Stmt) (K : Mp → Led → Prop) (R : Value → Led → Prop) : Prop where
  go : ∀ (s : Shared) (Q : Flow → Shared → Prop) (E : Value → Shared → Prop), At C m news s.heap →
    (∀ m' n h tk, K m' n → At C m' n h → Q .next { s with heap := h, toks := tk }) →
    (∀ v m' n h tk, R v n → At C m' n h → Q (.ret v) { s with heap := h, toks := tk }) → wpAny (model C.prog w) C.A (execs ss C.env) Q E s
/-- a call of the def at f upon vs, in the ledger news, comes to what R tells -/
structure Tell (w : World) (mean : ExcName → Option Value) (mg mb : Mp) (need : Nat) (f : Addr) (vs : List Value) (news : Led) (R : Value → Led → Prop) : Prop where
  go : ∀ (C : Cx w mean mg mb) (m : Mp), C.room need → Tree C m news (call (.ref f) vs) R
def ents (b : List (Str × Value)) : Mp := fun y => b.reverse.lookup y
def put (m : Mp) (x : Str) (v : Value) : Mp := fun y => if y = x then some v else m y
theorem At.sub {C : Cx w mean mg mb} {m : Mp} {news news' : Led} {h : Heap} (a : At C m news h) (hs : ∀ p ∈ news', p ∈ news) : At C m news' h := ⟨a.F, fun p hp => a.N p (hs p hp)⟩
theorem At.back {C : Cx w mean mg mb} {m : Mp} {news : Led} {p : Addr × Obj} {h : Heap} (a : At C m (p :: news) h) : At C m (news ++ [p]) h := a.sub fun q hq => by
  rcases List.mem_append.mp hq with hq | hq
  · exact .tail _ hq
  · rw [List.mem_singleton.mp hq]; exact .head _
theorem At.below {C : Cx w mean mg mb} {m : Mp} {news : Led} {h : Heap} (a : At C m news h) : ∀ p ∈ news, p.1 < h.objs.size := fun p hp => Heap.lt_size (a.N p hp).1
end
section
variable {C : Cx w mean mg mb} {m : Mp} {news : Led} {env : Env}

theorem Pe.use {e : Expr} {f : Tok → Value} (p : Pe C env m news e f) {s : Shared} {Q : Value → Shared → Prop} {E : Value → Shared → Prop} (a : At C m news s.heap) (k : ∀ h tk t, At C m news h → Q (f t) { s with heap := h, toks := tk }) :
    wpAny (model C.prog w) C.A (eval e env) Q E s := p.go _ _ _ a fun _ _ h tk r a' => by obtain ⟨⟨t, rfl⟩, rfl⟩ := r; exact k h tk t a'
theorem Po.use {t : Sem Value} {f : Tok → Value} (p : Po C m news t f) {s : Shared} {Q : Value → Shared → Prop} {E : Value → Shared → Prop} (a : At C m news s.heap) (k : ∀ h tk t, At C m news h → Q (f t) { s with heap := h, toks := tk }) :
    wpAny (model C.prog w) C.A t Q E s := p.go _ _ _ a fun _ _ h tk r a' => by obtain ⟨⟨t, rfl⟩, rfl⟩ := r; exact k h tk t a'
theorem Pt.use {e : Expr} {b : Bool} (p : Pt C env m news e b) {s : Shared} {Q : Bool → Shared → Prop} {E : Value → Shared → Prop} (a : At C m news s.heap) (k : ∀ h tk, At C m news h → Q b { s with heap := h, toks := tk }) :
    wpAny (model C.prog w) C.A (isTrue e env (eval e env)) Q E s := p.go _ _ _ a fun _ _ h tk r a' => by obtain ⟨rfl, rfl⟩ := r; exact k h tk a'
theorem Pl.use {es : List Expr} {F : (Nat → Tok) → List Value} (p : Pl C env m news es F) {pos : Pos} {s : Shared} {Q : List Value → Shared → Prop} {E : Value → Shared → Prop} (a : At C m news s.heap) (k : ∀ h tk τ, At C m news h → Q (F τ) { s with heap := h, toks := tk }) :
    wpAny (model C.prog w) C.A (spliced (backTo pos (starEach es env))) Q E s := p.go _ _ _ _ a fun _ _ h tk r a' => by obtain ⟨⟨t, rfl⟩, rfl⟩ := r; exact k h tk t a'
theorem Pe.of {e : Expr} {f : Tok → Value} (p : ∀ (s : Shared) (Q : Value → Shared → Prop) (E : Value → Shared → Prop), At C m news s.heap → (∀ h tk t, At C m news h → Q (f t) { s with heap := h, toks := tk }) → wpAny (model C.prog w) C.A (eval e env) Q E s) : Pe C env m news e f :=
  ⟨fun s Q E a k => p s Q E a fun h tk t a' => k _ _ h tk ⟨⟨t, rfl⟩, rfl⟩ a'⟩
theorem Po.of {t : Sem Value} {f : Tok → Value} (p : ∀ (s : Shared) (Q : Value → Shared → Prop) (E : Value → Shared → Prop), At C m news s.heap → (∀ h tk t, At C m news h → Q (f t) { s with heap := h, toks := tk }) → wpAny (model C.prog w) C.A t Q E s) : Po C m news t f :=
  ⟨fun s Q E a k => p s Q E a fun h tk t a' => k _ _ h tk ⟨⟨t, rfl⟩, rfl⟩ a'⟩
theorem Pt.mk' {e : Expr} {b : Bool} (p : ∀ (s : Shared) (Q : Bool → Shared → Prop) (E : Value → Shared → Prop), At C m news s.heap → (∀ h tk, At C m news h → Q b { s with heap := h, toks := tk }) → wpAny (model C.prog w) C.A (isTrue e env (eval e env)) Q E s) : Pt C env m news e b :=
  ⟨fun s Q E a k => p s Q E a fun h tk a' => k _ _ h tk ⟨rfl, rfl⟩ a'⟩

/-! expressions without a trace -/
def locOk (env : Env) (x : Str) : Bool := env.scope.kind == .function && env.kindOf x == some .local && !(x == ("__debug__" : Str))
def gloOk (env : Env) (x : Str) : Bool := env.scope.kind == .function && env.kindOf x == some .globalImplicit && !(x == ("__debug__" : Str))
theorem locOk_of {env : Env} {x : Str} (h : locOk env x = true) : env.scope.kind = .function ∧ env.kindOf x = some .local ∧ (x == ("__debug__" : Str)) = false := by
  unfold locOk at h
  simp only [Bool.and_eq_true, beq_iff_eq, Bool.not_eq_true'] at h
  exact ⟨h.1.1, h.1.2, h.2⟩
theorem gloOk_of {env : Env} {x : Str} (h : gloOk env x = true) : env.scope.kind = .function ∧ env.kindOf x = some .globalImplicit ∧ (x == ("__debug__" : Str)) = false := by
  unfold gloOk at h
  simp only [Bool.and_eq_true, beq_iff_eq, Bool.not_eq_true'] at h
  exact ⟨h.1.1, h.1.2, h.2⟩
theorem Pe.loc {x : Str} {pos : Pos} {v : Value} (hv : m x = some v) (ok : locOk C.env x = true) : Pe C C.env m news (.Name x pos) (fun _ => v) :=
  .of fun _ _ _ a k => by
    obtain ⟨b, c, d⟩ := locOk_of ok
    exact wpAny_Name (wpAny_loadName_local b c a.F.ns hv (k _ _ 0 a)) d
theorem Pe.glo {x : Str} {pos : Pos} {v : Value} (hv : nsIn (hk.heap_39 w.params) mainGlobals x = some (some v)) (ok : gloOk env x = true) (hg : env.globals = mainGlobals := by rfl) : Pe C env m news (.Name x pos) (fun _ => v) :=
  .of fun _ _ _ a k => by
    obtain ⟨b, c, d⟩ := gloOk_of ok
    exact Name_function_global b c (loadGlobal_global (env := env) (by rw [hg]; exact C.D.T.g.keeps a.F.keep) (mg_of C.D.X C.D.T.g hv) (k _ _ 0 a)) d
theorem Pe.blt {x : Str} {pos : Pos} {v : Value} (hm : nsIn (hk.heap_39 w.params) mainGlobals x = some none) (hv : bootBuiltins x = some v) (hn : x ≠ "__name__") (ok : gloOk env x = true) (hg : env.globals = mainGlobals := by rfl) (hb : env.builtins = builtinsNs := by rfl) : Pe C env m news (.Name x pos) (fun _ => v) :=
  .of fun _ _ _ a k => by
    obtain ⟨b, c, d⟩ := gloOk_of ok
    exact Name_function_global b c (loadGlobal_builtin (env := env) (by rw [hg]; exact C.D.T.g.keeps a.F.keep) (mg_none_of C.D.X C.D.T.g hm) (by rw [hb]; exact C.D.T.b.keeps a.F.keep) ((C.D.T.builtins x hn).trans hv) (k _ _ 0 a)) d
def celOk (env : Env) (x : Str) : Bool := env.scope.kind == .function && env.kindOf x == some .cell && !(x == ("__debug__" : Str))
/-- a name that a cell holds -/
theorem Pe.cel {x : Str} {pos : Pos} {c : Addr} {o : Obj} {v : Value} (hm : (c, o) ∈ news) (hd : o.data = .cell (some v)) (hc : env.cells.lookup x = some c) (ok : celOk env x = true) : Pe C env m news (.Name x pos) (fun _ => v) :=
  .of fun _ _ _ a k => by
    unfold celOk at ok
    simp only [Bool.and_eq_true, beq_iff_eq, Bool.not_eq_true'] at ok
    exact wpAny_Name (wpAny_loadName_cell ok.1.1 ok.1.2 hc ⟨o, (a.N _ hm).1, hd⟩ (k _ _ 0 a)) ok.2
/-- a block's own name -/
theorem Pe.own {x : Str} {pos : Pos} {B : Addr} {oB : Obj} {m₂ : Mp} {v : Value} (hm : (B, oB) ∈ news) (hB : LCg.NsObj oB m₂) (hx : m₂ x = some v) (hl : env.locals = B) (ok : locOk env x = true) : Pe C env m news (.Name x pos) (fun _ => v) :=
  .of fun _ _ _ a k => by
    obtain ⟨b, c, d⟩ := locOk_of ok
    exact wpAny_Name (wpAny_loadName_local b c (hl ▸ hB.ns (a.N _ hm).1) hx (k _ _ 0 a)) d
theorem Pe.int {i : Int} {j : Nat} {pos : Pos} : Pe C env m news (.Constant (.int i) j pos) (fun t => .int i t) := .of fun _ _ _ a k => wpAny_Constant_int (k _ _ _ a)
theorem Pe.str {x : Str} {j : Nat} {pos : Pos} : Pe C env m news (.Constant (.str x) j pos) (fun t => .str x t) := .of fun _ _ _ a k => wpAny_Constant_str (k _ _ _ a)
theorem Pe.bool {b : Bool} {j : Nat} {pos : Pos} : Pe C env m news (.Constant (.bool b) j pos) (fun _ => .bool b) := .of fun _ _ _ a k => Constant_bool (k _ _ 0 a)
theorem Pe.none {j : Nat} {pos : Pos} : Pe C env m news (.Constant .none j pos) (fun _ => .none) := .of fun _ _ _ a k => Constant_none (k _ _ 0 a)
/-- an item of a tuple at a written place -/
theorem Pe.sub {e : Expr} {i : Int} {j : Nat} {ep pos : Pos} {a : Addr} {vs : List Value} {k : Nat} {v : Value} (p : Pe C env m news e (fun _ => .ref a)) (hm : (a, tup vs) ∈ news) (hx : vs[k]? = some v)
    (hi : i = (k : Int) := by rfl) (hk : k < 100 := by decide) : Pe C env m news (.Subscript e (.Constant (.int i) j ep) pos) (fun _ => v) :=
  .of fun _ _ _ at_ q => by
    subst hi
    refine Subscript_ (p.use at_ fun h tk _ a' => wpAny_Constant_int (item_tupleT (j := k) (News.isTup a'.N hm) (by omega) (by omega) ?_ hx (q _ _ 0 a')))
    obtain ⟨hl, -⟩ := List.getElem?_eq_some_iff.mp hx
    unfold seqIndex?
    simp
    omega
/-- an item of a list at a written place -/
theorem Pe.subL {e : Expr} {i : Int} {j : Nat} {ep pos : Pos} {a : Addr} {vs : List Value} {n k : Nat} {v : Value} (p : Pe C env m news e (fun _ => .ref a)) (hm : (a, lst vs n) ∈ news) (hx : vs[k]? = some v)
    (hi : i = (k : Int) := by rfl) (hk : k < 100 := by decide) : Pe C env m news (.Subscript e (.Constant (.int i) j ep) pos) (fun _ => v) :=
  .of fun _ _ _ at_ q => by
    subst hi
    have L : ∀ {h : Heap}, At C m news h → h.IsList a vs.toArray := fun a' => ⟨_, (a'.N _ hm).1, rfl, _, rfl⟩
    exact Subscript_ (p.use at_ fun h tk _ a' => wpAny_Constant_int (tail_any (L a').typeIs slot_list_getitem.lookup (wpAny_getItem_list (L a') (by omega) (by omega) (by simpa using hx) (q _ _ 0 a')) (by with_unfolding_all rfl)))
theorem Po.eqS {x y : Str} {t u : Tok} : Po C m news (compareOp .Eq (.str x t) (.str y u)) (fun _ => .bool (x == y)) := .of fun _ _ _ a k => PyProof.Rows.eq_str (k _ _ 0 a)
theorem Po.neS {x y : Str} {t u : Tok} : Po C m news (compareOp .NotEq (.str x t) (.str y u)) (fun _ => .bool (x != y)) := .of fun _ _ _ a k => PyProof.Rows.ne_str (k _ _ 0 a)
theorem Po.ltI {x y : Int} {t u : Tok} : Po C m news (compareOp .Lt (.int x t) (.int y u)) (fun _ => .bool (decide (x < y))) := .of fun _ _ _ a k => PyProof.Rows.lt_int (k _ _ 0 a)
theorem Po.gtI {x y : Int} {t u : Tok} : Po C m news (compareOp .Gt (.int x t) (.int y u)) (fun _ => .bool (decide (y < x))) := .of fun _ _ _ a k => PyProof.Rows.gt_int (k _ _ 0 a)
theorem Po.eqI {x y : Int} {t u : Tok} : Po C m news (compareOp .Eq (.int x t) (.int y u)) (fun _ => .bool (x == y)) := .of fun _ _ _ a k => PyProof.Rows.eq_int (k _ _ 0 a)
theorem Po.neI {x y : Int} {t u : Tok} : Po C m news (compareOp .NotEq (.int x t) (.int y u)) (fun _ => .bool (x != y)) := .of fun _ _ _ a k => PyProof.Rows.ne_int (k _ _ 0 a)
theorem Po.addI {x y : Int} {t u : Tok} : Po C m news (binaryOp .Add (.int x t) (.int y u)) (fun t => .int (x + y) t) := .of fun _ _ _ a k => PyProof.Rows.add_int (k _ _ _ a)
theorem Po.subI {x y : Int} {t u : Tok} : Po C m news (binaryOp .Sub (.int x t) (.int y u)) (fun t => .int (x - y) t) := .of fun _ _ _ a k => PyProof.Rows.sub_int (k _ _ _ a)
theorem Pe.cmp {l r : Expr} {op : CmpOp} {pos : Pos} {f g h : Tok → Value} (p : Pe C env m news l f) (q : Pe C env m news r g) (o : ∀ t u, Po C m news (compareOp op (f t) (g u)) h)
    (hm : behindInMarks op r = false := by with_unfolding_all rfl) : Pe C env m news (.Compare l [op] [r] pos) h :=
  .of fun _ _ _ a k => wpAny_Compare1 (p.use a fun _ _ _ a => q.use a fun _ _ _ a => (o _ _).use a fun _ _ _ a => k _ _ _ a) hm
theorem Pe.bin {l r : Expr} {op : Operator} {pos : Pos} {f g h : Tok → Value} (p : Pe C env m news l f) (q : Pe C env m news r g) (o : ∀ t u, Po C m news (binaryOp op (f t) (g u)) h) : Pe C env m news (.BinOp l op r pos) h :=
  .of fun _ _ _ a k => wpAny_BinOp (p.use a fun _ _ _ a => q.use a fun _ _ _ a => (o _ _).use a fun _ _ _ a => k _ _ _ a)
theorem Pe.not {e : Expr} {pos : Pos} {b : Bool} (p : Pe C env m news e (fun _ => .bool b)) : Pe C env m news (.UnaryOp .Not e pos) (fun _ => .bool (!b)) :=
  .of fun _ _ _ a k => UnaryOp_ (p.use a fun _ _ _ a => not_of (wpAny_truthy_bool (k _ _ 0 a)))

/-! tests without a trace -/
theorem Pt.cmp {l r : Expr} {op : CmpOp} {pos : Pos} {f g : Tok → Value} {b : Bool} (p : Pe C env m news l f) (q : Pe C env m news r g) (o : ∀ t u, Po C m news (compareOp op (f t) (g u)) (fun _ => .bool b))
    (hm : behindInMarks op r = false := by with_unfolding_all rfl) : Pt C env m news (.Compare l [op] [r] pos) b :=
  .mk' fun _ _ _ a k => wpAny_isTrue_Compare1 (p.use a fun _ _ _ a => q.use a fun _ _ _ a => (o _ _).use a fun _ _ _ a => wpAny_truthy_bool (k _ _ a)) hm
/-- e == 'a written text' -/
theorem Pt.eqS {l : Expr} {y x : Str} {t : Tok} {j : Nat} {pos ep : Pos} {b : Bool} (p : Pe C env m news l (fun _ => .str x t)) (hb : (x == y) = b) : Pt C env m news (.Compare l [.Eq] [.Constant (.str y) j ep] pos) b :=
  Pt.cmp p Pe.str fun _ _ => hb ▸ Po.eqS
theorem Pt.not {e : Expr} {pos : Pos} {b : Bool} (p : Pt C env m news e b) : Pt C env m news (.UnaryOp .Not e pos) (!b) := .mk' fun _ _ _ a k => isTrue_not (p.use a fun _ _ a => k _ _ a)
theorem Pt.orN {pos : Pos} : Pt C env m news (.BoolOp .Or [] pos) false := .mk' fun _ _ _ a k => isTrue_or_nil (k _ _ a)
theorem Pt.orT {e : Expr} {es : List Expr} {pos : Pos} (p : Pt C env m news e true) : Pt C env m news (.BoolOp .Or (e :: es) pos) true := .mk' fun _ _ _ a k => isTrue_or (p.use a fun _ _ a => k _ _ a)
theorem Pt.orF {e : Expr} {es : List Expr} {pos : Pos} {b : Bool} (p : Pt C env m news e false) (q : Pt C env m news (.BoolOp .Or es pos) b) : Pt C env m news (.BoolOp .Or (e :: es) pos) b :=
  .mk' fun _ _ _ a k => isTrue_or (p.use a fun _ _ a => q.use a fun _ _ a => k _ _ a)
theorem Pt.andN {pos : Pos} : Pt C env m news (.BoolOp .And [] pos) true := .mk' fun _ _ _ a k => isTrue_and_nil (k _ _ a)
theorem Pt.andF {e : Expr} {es : List Expr} {pos : Pos} (p : Pt C env m news e false) : Pt C env m news (.BoolOp .And (e :: es) pos) false := .mk' fun _ _ _ a k => isTrue_and (p.use a fun _ _ a => k _ _ a)
theorem Pt.andT {e : Expr} {es : List Expr} {pos : Pos} {b : Bool} (p : Pt C env m news e true) (q : Pt C env m news (.BoolOp .And es pos) b) : Pt C env m news (.BoolOp .And (e :: es) pos) b :=
  .mk' fun _ _ _ a k => isTrue_and (p.use a fun _ _ a => q.use a fun _ _ a => k _ _ a)
/-- a name that holds a truth -/
theorem Pt.val {e : Expr} {b : Bool} (p : Pe C env m news e (fun _ => .bool b)) (he : isTrue e env (eval e env) = (do let v ← eval e env; standAt e.pos; holding [v] (truthy v)) := by rfl) : Pt C env m news e b :=
  .mk' fun _ _ _ a k => isTrue_plain (p.use a fun _ _ _ a => wpAny_truthy_bool (k _ _ a)) he

/-! rows of expressions -/
theorem Pl.nil : Pl C env m news [] (fun _ => []) := ⟨fun _ _ _ _ a k => args_nil (k _ _ _ _ ⟨⟨fun _ => 0, rfl⟩, rfl⟩ a)⟩
theorem Pl.cons {e : Expr} {es : List Expr} {f : Tok → Value} {G : (Nat → Tok) → List Value} (p : Pe C env m news e f) (q : Pl C env m news es G)
    (he : starEach (e :: es) env = (false, eval e env) :: starEach es env := by rfl) : Pl C env m news (e :: es) (fun τ => f (τ 0) :: G fun i => τ (i + 1)) :=
  ⟨fun _ _ _ _ a k => args_cons (p.use a fun _ _ t a => q.use a fun _ _ τ a => k _ _ _ _ ⟨⟨fun | 0 => t | i + 1 => τ i, rfl⟩, rfl⟩ a) he⟩
theorem El.pl {es : List Expr} {G : (Nat → Tok) → List Value} {R : List Value → Led → Prop} (p : Pl C env m news es G) (k : ∀ τ, R (G τ) news) : El C env m news es R :=
  ⟨fun _ _ _ _ a q => p.use a fun _ _ τ a => q _ _ _ _ (k τ) a⟩
theorem El.nil {R : List Value → Led → Prop} (k : R [] news) : El C env m news [] R := ⟨fun _ _ _ _ a q => args_nil (q _ _ _ _ k a)⟩
theorem El.cons {e : Expr} {es : List Expr} {R : List Value → Led → Prop} (p : Ev C env m news e fun v n => El C env m n es fun vs n => R (v :: vs) n)
    (he : starEach (e :: es) env = (false, eval e env) :: starEach es env := by rfl) : El C env m news (e :: es) R :=
  ⟨fun _ _ _ _ a q => args_cons (p.go _ _ _ a fun _ _ _ _ r a => r.go _ _ _ _ a fun _ _ _ _ r a => q _ _ _ _ r a) he⟩

/-! with a trace -/
theorem Ev.pe {e : Expr} {f : Tok → Value} {R : Value → Led → Prop} (p : Pe C env m news e f) (k : ∀ t, R (f t) news) : Ev C env m news e R :=
  ⟨fun _ _ _ a q => p.use a fun _ _ t a => q _ _ _ _ (k t) a⟩
theorem Ev.mono {e : Expr} {R R' : Value → Led → Prop} (p : Ev C env m news e R) (k : ∀ a n, R a n → R' a n) : Ev C env m news e R' :=
  ⟨fun _ _ _ a q => p.go _ _ _ a fun _ _ _ _ r a => q _ _ _ _ (k _ _ r) a⟩
theorem Ev.drop {e : Expr} {R : Value → Led → Prop} (p : Ev C env m news e fun v n => ∃ n', (∀ p ∈ n', p ∈ n) ∧ R v n') : Ev C env m news e R :=
  ⟨fun _ _ _ a q => p.go _ _ _ a fun _ _ _ _ r a => by obtain ⟨n', s, r⟩ := r; exact q _ _ _ _ r (a.sub s)⟩
theorem Ev.sub {e : Expr} {R : Value → Led → Prop} {news' : Led} (p : Ev C env m news' e R) (h : ∀ p ∈ news', p ∈ news) : Ev C env m news e R :=
  ⟨fun _ _ _ a q => p.go _ _ _ (a.sub h) q⟩
theorem Ev.tupleX {es : List Expr} {j : Nat} {pos : Pos} {R : Value → Led → Prop} (p : El C env m news es fun vs n => Nat.ble vs.length 100 = true ∧ ∀ a, (∀ p ∈ n, p.1 < a) → R (.ref a) (n ++ [(a, tup vs)])) :
    Ev C env m news (.Tuple es j pos) R :=
  ⟨fun _ _ _ a q => Tuple_ (p.go _ _ _ _ a fun _ _ _ _ r a => newTuple_N a.F a.N (fun _ F' N' => q _ _ _ _ (r.2 _ a.below) (At.back ⟨F', N'⟩)) (Nat.le_trans (Nat.le_of_ble_eq_true r.1) (by decide)))⟩
theorem Ev.tuple {es : List Expr} {j : Nat} {pos : Pos} {G : (Nat → Tok) → List Value} {R : Value → Led → Prop} (p : Pl C env m news es G) (k : ∀ τ a, (∀ p ∈ news, p.1 < a) → R (.ref a) (news ++ [(a, tup (G τ))]))
    (hl : ∀ τ, Nat.ble (G τ).length 100 = true) : Ev C env m news (.Tuple es j pos) R := Ev.tupleX (El.pl p fun τ => ⟨hl τ, k τ⟩)
theorem Ev.list {es : List Expr} {pos : Pos} {G : (Nat → Tok) → List Value} {R : Value → Led → Prop} (p : Pl C env m news es G) (k : ∀ τ a, (∀ p ∈ news, p.1 < a) → R (.ref a) ((a, lst (G τ) 0) :: news))
    (hl : ∀ τ, Nat.ble (G τ).length 100 = true) : Ev C env m news (.List es pos) R :=
  ⟨fun _ _ _ a q => List_ (p.use a fun _ _ τ a => newList_N a.F a.N (fun _ F' N' => q _ _ _ _ (k τ _ a.below) ⟨F', N'⟩) (Nat.le_trans (Nat.le_of_ble_eq_true (hl τ)) (by decide)))⟩
theorem Ev.ite {t b o : Expr} {pos : Pos} {c : Bool} {R : Value → Led → Prop} (p : Pt C env m news t c) (h1 : c = true → Ev C env m news b R) (h2 : c = false → Ev C env m news o R) : Ev C env m news (.IfExp t b o pos) R :=
  ⟨fun _ _ _ a q => IfExp_ (p.use a fun _ _ a => by cases c with
    | true => exact (h1 rfl).go _ _ _ a q
    | false => exact (h2 rfl).go _ _ _ a q)⟩
theorem Ev.iteT {t b o : Expr} {pos : Pos} {R : Value → Led → Prop} (p : Pt C env m news t true) (h : Ev C env m news b R) : Ev C env m news (.IfExp t b o pos) R := Ev.ite p (fun _ => h) (fun e => nomatch e)
theorem Ev.iteF {t b o : Expr} {pos : Pos} {R : Value → Led → Prop} (p : Pt C env m news t false) (h : Ev C env m news o R) : Ev C env m news (.IfExp t b o pos) R := Ev.ite p (fun e => nomatch e) (fun _ => h)
/-- a call of a def that an expression without a trace gives -/
theorem Ev.callX {fe : Expr} {f : Addr} {e : Expr} {es : List Expr} {pos : Pos} {R : Value → Led → Prop} {need : Nat} (pf : Pe C env m news fe (fun _ => .ref f)) (hk : keepIn (hk.heap_39 w.params) (.ref f) = true)
    (p : El C env m news (e :: es) fun vs n => Tell w mean mg mb need f vs n R) (r : C.room need)
    (he : starEach (e :: es) env = (false, eval e env) :: starEach es env := by rfl) (hp : (starEach es env).any (·.1) = false := by rfl)
    (hc : eval (.Call fe (e :: es) [] pos) env = (do callWith pos (← eval fe env) [] (backTo pos (starEach (e :: es) env)) (backToKw pos (keywordEach [] env))) := by rfl) :
    Ev C env m news (.Call fe (e :: es) [] pos) R :=
  ⟨fun _ _ _ a q => by
    refine Call_ (pf.use a fun _ _ _ a => ?_) hc
    refine callWith_K C.D.X hk (p.go _ _ _ _ a fun _ _ _ _ r' a => ⟨C.D.X.keeps a.F.keep, ?_⟩) he ?_
    · rw [List.nil_append]
      exact r'.go C _ r _ _ _ a q
    · have : (backTo pos (starEach es env)).any (·.1) = (starEach es env).any (·.1) := by
        unfold backTo
        simp only [List.any_map]
        rfl
      rw [this, hp]⟩
/-- its arguments without a trace, by the def's own name -/
theorem Ev.call {x : Str} {f : Addr} {e : Expr} {es : List Expr} {np pos : Pos} {G : (Nat → Tok) → List Value} {R : Value → Led → Prop} {need : Nat} (hf : nsIn (hk.heap_39 w.params) mainGlobals x = some (some (.ref f))) (hk : keepIn (hk.heap_39 w.params) (.ref f) = true) (ok : gloOk env x = true)
    (p : Pl C env m news (e :: es) G) (r : C.room need) (T : ∀ τ, Tell w mean mg mb need f (G τ) news R)
    (hg : env.globals = mainGlobals := by rfl) (he : starEach (e :: es) env = (false, eval e env) :: starEach es env := by rfl) (hp : (starEach es env).any (·.1) = false := by rfl)
    (hc : eval (.Call (.Name x np) (e :: es) [] pos) env = (do callWith pos (← eval (.Name x np) env) [] (backTo pos (starEach (e :: es) env)) (backToKw pos (keywordEach [] env))) := by rfl) :
    Ev C env m news (.Call (.Name x np) (e :: es) [] pos) R := Ev.callX (Pe.glo hf ok hg) hk (El.pl p T) r he hp hc
/-- tuple(a list) -/
theorem Ev.tupleOf {e : Expr} {np pos : Pos} {R : Value → Led → Prop} (p : Ev C env m news e fun v n => ∃ l vs k, v = .ref l ∧ (l, lst vs k) ∈ n ∧ Nat.ble vs.length 100 = true ∧ ∀ a, (∀ p ∈ n, p.1 < a) → R (.ref a) (n ++ [(a, tup vs)]))
    (hm : nsIn (hk.heap_39 w.params) mainGlobals (Str.ofString "tuple") = some none) (ok : gloOk env (Str.ofString "tuple") = true) (hg : env.globals = mainGlobals := by rfl) (hb : env.builtins = builtinsNs := by rfl)
    (he : starEach [e] env = (false, eval e env) :: starEach [] env := by rfl)
    (hc : eval (.Call (.Name (Str.ofString "tuple") np) [e] [] pos) env = (do callWith pos (← eval (.Name (Str.ofString "tuple") np) env) [] (backTo pos (starEach [e] env)) (backToKw pos (keywordEach [] env))) := by rfl) :
    Ev C env m news (.Call (.Name (Str.ofString "tuple") np) [e] [] pos) R :=
  ⟨fun _ _ _ a q => by
    refine Call_ ((Pe.blt hm boot_tuple (by decide) ok hg hb).use a fun _ _ _ a => ?_) hc
    refine Pv.callWith_type1 (args_cons (p.go _ _ _ a fun _ _ _ _ r a => args_nil ?_) he) he rfl
    obtain ⟨l, vs, k, rfl, hm, hl, r⟩ := r
    have hs : vs.toArray.size ≤ sizeLine := by rw [List.size_toArray]; exact Nat.le_trans (Nat.le_of_ble_eq_true hl) (by decide)
    refine call_tuple_list ⟨_, (a.N _ hm).1, rfl, _, rfl⟩ (fun h' hk => ?_) hs
    have a' : At C m _ h' := ⟨a.F.keeps hk, fun p hp => ⟨hk _ _ (a.N p hp).1, (a.N p hp).2⟩⟩
    exact q _ _ _ _ (r _ a'.below) (At.back ⟨a'.F.push _, a'.N.push a'.F _⟩)⟩

/-! blocks -/
variable {K : Mp → Led → Prop} {R : Value → Led → Prop}
theorem Run.sub {ss : List Stmt} {news' : Led} (p : Run C m news' ss K R) (h : ∀ p ∈ news', p ∈ news) : Run C m news ss K R := ⟨fun _ _ _ a k q => p.go _ _ _ (a.sub h) k q⟩
theorem Run.nil (h : K m news) : Run C m news [] K R := ⟨fun _ _ _ a k _ => wpAny_execs_nil (k _ _ _ _ h a)⟩
theorem execs_seq {M : Model} {A : Around} {E : Value → Shared → Prop} {s : Shared} {Q : Flow → Shared → Prop} {st : Stmt} {rest : List Stmt}
    (h : wpAny M A (execs [st] env) (fun f s' => match f with | .next => wpAny M A (execs rest env) Q E s' | f => Q f s') E s) : wpAny M A (execs (st :: rest) env) Q E s := fun Γ p hΓ => by
  have h₁ := h Γ p hΓ
  rw [execs_cons, Sem.wp_bind'] at h₁
  rw [execs_cons, Sem.wp_bind']
  refine Sem.wp_mono M Γ _ (fun f p' s' h' => ?_) (fun _ _ _ h' => h') _ _ h₁
  cases f with
  | next => exact h' Γ p' hΓ
  | brk => exact h'
  | cont => exact h'
  | ret v => exact h'
/-- a statement by what holds behind it -/
theorem Run.seq {st : Stmt} {rest : List Stmt} (K' : Mp → Led → Prop) (h : Run C m news [st] K' R) (k : ∀ m' n', K' m' n' → Run C m' n' rest K R) : Run C m news (st :: rest) K R :=
  ⟨fun _ _ _ a k' q => execs_seq (h.go _ _ _ a (fun _ _ _ _ r a => (k _ _ r).go _ _ _ a k' q) q)⟩
theorem Run.ret {e : Expr} {pos : Pos} {rest : List Stmt} (h : Ev C C.env m news e R) : Run C m news (.Return (some e) pos :: rest) K R :=
  ⟨fun _ _ _ a _ q => wpAny_execs_cons (wpAny_Return_some (h.go _ _ _ a fun _ _ _ _ r a => q _ _ _ _ _ r a))⟩
theorem Run.asg {x : Str} {xp pos : Pos} {e : Expr} {rest : List Stmt} (h : Ev C C.env m news e (fun v n => Run C (put m x v) n rest K R)) (ok : locOk C.env x = true)
    (hs : swapsWith e (some (.Name x xp)) pos.line C.env = pure false := by rfl) : Run C m news (.Assign [.Name x xp] e pos :: rest) K R :=
  ⟨fun _ _ _ a k q => by
    obtain ⟨-, b, -⟩ := locOk_of ok
    exact wpAny_execs_cons (wpAny_Assign_Name (h.go _ _ _ a fun _ _ _ _ r a => storeX_L a.F a.N (fun _ F N => r.go _ _ _ ⟨F, N⟩ k q) C.fn.hk b) hs)⟩
theorem Run.ifE {t : Expr} {body orelse rest : List Stmt} {pos : Pos} {b : Bool} (p : Pt C C.env m news t b) (h1 : b = true → Run C m news body (fun m' n' => Run C m' n' rest K R) R) (h2 : b = false → Run C m news orelse (fun m' n' => Run C m' n' rest K R) R) :
    Run C m news (.If t body orelse pos :: rest) K R :=
  ⟨fun _ _ _ a k q => by
    refine wpAny_execs_cons (wpAny_If (p.use a fun _ _ a => ?_))
    cases b with
    | true => exact (h1 rfl).go _ _ _ a (fun _ _ _ _ r a => r.go _ _ _ a k q) q
    | false => exact (h2 rfl).go _ _ _ a (fun _ _ _ _ r a => r.go _ _ _ a k q) q⟩
theorem Run.if {t : Expr} {body rest : List Stmt} {pos : Pos} {b : Bool} (p : Pt C C.env m news t b) (h1 : b = true → Run C m news body (fun m' n' => Run C m' n' rest K R) R) (h2 : b = false → Run C m news rest K R) :
    Run C m news (.If t body [] pos :: rest) K R := Run.ifE p h1 fun e => .nil (h2 e)
theorem Run.ifT {t : Expr} {body orelse rest : List Stmt} {pos : Pos} (p : Pt C C.env m news t true) (h : Run C m news body (fun m' n' => Run C m' n' rest K R) R) : Run C m news (.If t body orelse pos :: rest) K R := Run.ifE p (fun _ => h) (fun e => nomatch e)
theorem Run.ifF {t : Expr} {body rest : List Stmt} {pos : Pos} (p : Pt C C.env m news t false) (h : Run C m news rest K R) : Run C m news (.If t body [] pos :: rest) K R := Run.ifE p (fun e => nomatch e) (fun _ => .nil h)
theorem Run.ifF' {t : Expr} {body orelse rest : List Stmt} {pos : Pos} (p : Pt C C.env m news t false) (h : Run C m news orelse (fun m' n' => Run C m' n' rest K R) R) : Run C m news (.If t body orelse pos :: rest) K R := Run.ifE p (fun e => nomatch e) (fun _ => h)
end

/-! a def of the top's -/
theorem Tell.def {need : Nat} {f : Addr} {vs : List Value} {R : Value → Led → Prop} {news : Led} {name qual : Str} {params : Arguments} {body : List Stmt} {scope : Scope} {dV kV doc pm cdv ct oc : Value} {an od : Option Addr} {osl : Array (Option Value)} {binds : List (Str × Value)}
    (ho : (hk.heap_39 w.params).lookup f = some ⟨oc, od, .func (fnOf name qual params body scope dV kV doc pm an cdv ct), osl⟩) (hcd : codeIn (hk.heap_39 w.params) cdv qual = true)
    (hbind : bindArgs (fnOf name qual params body scope dV kV doc pm an cdv ct) ⟨vs, []⟩ = pure binds) (hloc : (binds.all fun x => decide (scope.names.lookup x.1 = some .local)) = true)
    (hk : scope.kind = .function) (hco : scope.isCoroutine = false) (hgen : scope.isGenerator = false) (hcell : ∀ x ∈ scope.names, x.2 ≠ .cell)
    (h : ∀ D : Dy w mean mg mb, (Cx.mk ⟨qual, scope, f, cdv, hk⟩ [] D).room need → Run ⟨⟨qual, scope, f, cdv, hk⟩, [], D⟩ (ents binds) news body (fun _ n => R .none n) R) : Tell w mean mg mb (need + 1) f vs news R := by
  constructor
  intro C m r s Q E a q
  refine wpAny_call (code_def C.D.B a.F C.D.X a.N C.D.T rfl rfl C.fn.hk ho hcd (Nat.lt_of_le_of_lt (Nat.le_add_right _ _) r.d) (BindsTo.of_eq hbind) (locs hloc) (fun g L' h₁ FG F' N' B' X' T' => ?_) hco hgen hk hcell)
  refine (h ⟨C.D.q, C.D.qi, C.D.prog, C.D.dp + 1, C.D.un + 3, C.D.gd, L', C.env :: C.D.outer, C.A, C.D.base, g, B', X', T'⟩ ⟨by have := r.d; show C.D.dp + 1 + need < _; omega, by have := r.u; show C.D.un + 3 + 8 * need < _; omega⟩).go _ _ _ ⟨F', N'⟩ ?_ ?_
  · intro m' news' h tk hr a'
    exact leaveK_ a'.F a'.N fun F3 N3 => q _ _ _ _ hr ⟨F3, N3⟩
  · intro v m' news' h tk hr a'
    exact leaveK_ a'.F a'.N fun F3 N3 => q _ _ _ _ hr ⟨F3, N3⟩
/-- a def of the top's some of whose names are held in cells -/
theorem Tell.defC {need : Nat} {f : Addr} {vs : List Value} {R : Value → Led → Prop} {news : Led} {name qual : Str} {params : Arguments} {body : List Stmt} {scope : Scope} {dV kV doc pm cdv ct oc : Value} {an od : Option Addr} {osl : Array (Option Value)} {binds : List (Str × Value)}
    (cl : Addr → List (Str × Addr)) (m₀ cm : Mp)
    (ho : (hk.heap_39 w.params).lookup f = some ⟨oc, od, .func (fnOf name qual params body scope dV kV doc pm an cdv ct), osl⟩) (hcd : codeIn (hk.heap_39 w.params) cdv qual = true)
    (hbind : bindArgs (fnOf name qual params body scope dV kV doc pm an cdv ct) ⟨vs, []⟩ = pure binds) (hkind : (binds.all fun y => scope.names.lookup y.1 == some .local || scope.names.lookup y.1 == some .cell) = true)
    (hnd : ((cellsFrom 0 scope.names []).map (·.1)).Nodup) (hk : scope.kind = .function) (hco : scope.isCoroutine = false) (hgen : scope.isGenerator = false)
    (hcl : ∀ L, cellsFrom (L + 1) scope.names [] = cl L) (hm₀ : ∀ L, bindL (envOfC qual scope L f cdv).kindOf binds (fun _ => none) = m₀) (hcm : ∀ L, bindC (envOfC qual scope L f cdv).kindOf binds (fun _ => none) = cm)
    (h : ∀ (D : Dy w mean mg mb) (cells : Led), (Cx.mk ⟨qual, scope, f, cdv, hk⟩ (cl D.L) D).room need → CellsAre cm (cl D.L) cells → (∀ p ∈ news, ∀ q ∈ cells, p.1 < q.1) →
      Run ⟨⟨qual, scope, f, cdv, hk⟩, cl D.L, D⟩ m₀ (news ++ cells) body (fun _ n => R .none n) R) : Tell w mean mg mb (need + 1) f vs news R := by
  constructor
  intro C m r s Q E a q
  refine wpAny_call (code_defC C.D.B a.F C.D.X a.N C.D.T rfl rfl C.fn.hk ho hcd (Nat.lt_of_le_of_lt (Nat.le_add_right _ _) r.d) (BindsTo.of_eq hbind) hkind hnd (fun g L' h₁ tk cells FG F' N' Y B' X' T' below => ?_) hco hgen hk)
  rw [hm₀] at F'
  rw [hcm, hcl] at Y
  have e : envOfC qual scope L' f cdv = envX qual scope L' f cdv (cl L') := by rw [← hcl]; rfl
  rw [e]
  have up : ∀ {l : List (Str × Addr)} {cells : Led}, (∀ y ∈ l, L' < y.2) → CellsAre cm l cells → ∀ q ∈ cells, L' < q.1 := by
    intro l
    induction l with
    | nil => intro _ _ Y q hq; cases Y; exact nomatch hq
    | cons y r ih =>
      intro cells hl Y q hq
      cases Y with
      | cons hd Y =>
        rcases List.mem_cons.mp hq with rfl | hq
        · exact hl _ (.head _)
        · exact ih (fun z hz => hl z (.tail _ hz)) Y q hq
  have above : ∀ (l : List (Str × NameKind)) (n : Nat) (acc : List (Str × Addr)), L' < n → (∀ y ∈ acc, L' < y.2) → ∀ y ∈ cellsFrom n l acc, L' < y.2 := by
    intro l
    induction l with
    | nil => intro n acc _ h; exact h
    | cons y r ih =>
      intro n acc hn h
      unfold cellsFrom
      split
      · refine ih (n + 1) _ (Nat.lt_succ_of_lt hn) fun z hz => ?_
        rcases List.mem_cons.mp hz with rfl | hz
        · exact hn
        · exact h z hz
      · exact ih n acc hn h
  have hup := up (fun y hy => above scope.names (L' + 1) [] (Nat.lt_succ_self _) (fun _ h => nomatch h) y (by rw [hcl]; exact hy)) Y
  have N'' : News g L' h₁ (news ++ cells) := fun p hp => N' p ((List.mem_append.mp hp).elim (fun h => List.mem_append_right _ h) fun h => List.mem_append_left _ h)
  refine (h ⟨C.D.q, C.D.qi, C.D.prog, C.D.dp + 1, C.D.un + 3, C.D.gd, L', C.env :: C.D.outer, C.A, C.D.base, g, B', X', T'⟩ cells ⟨by have := r.d; show C.D.dp + 1 + need < _; omega, by have := r.u; show C.D.un + 3 + 8 * need < _; omega⟩ Y
    (fun p hp q hq => Nat.lt_trans (below p hp) (hup q hq))).go _ _ _ ⟨F', N''⟩ ?_ ?_
  · intro m' news' h tk hr a'
    exact leaveK_ a'.F a'.N fun F3 N3 => q _ _ _ _ hr ⟨F3, N3⟩
  · intro v m' news' h tk hr a'
    exact leaveK_ a'.F a'.N fun F3 N3 => q _ _ _ _ hr ⟨F3, N3⟩
theorem mem_l {G H : Led} : ∀ p ∈ G, p ∈ G ++ H := fun _ h => List.mem_append_left _ h
theorem mem_e {G : Led} {p : Addr × Obj} : p ∈ G ++ [p] := List.mem_append_right _ (.head _)
/-- the ledger n is G and what was made behind it -/
def Ext (G n : Led) : Prop := ∃ tl, n = G ++ tl ∧ ∀ p ∈ G, ∀ q ∈ tl, p.1 < q.1
theorem Ext.refl {G : Led} : Ext G G := ⟨[], (List.append_nil G).symm, fun _ _ _ h => nomatch h⟩
theorem Ext.step {G n : Led} {a : Addr} {o : Obj} (e : Ext G n) (h : ∀ p ∈ n, p.1 < a) : Ext G (n ++ [(a, o)]) := by
  obtain ⟨tl, rfl, g⟩ := e
  refine ⟨tl ++ [(a, o)], List.append_assoc .., fun p hp q hq => ?_⟩
  rcases List.mem_append.mp hq with hq | hq
  · exact g p hp q hq
  · rw [List.mem_singleton.mp hq]; exact h p (mem_l _ hp)
theorem Ext.one {G : Led} {a : Addr} {o : Obj} (h : ∀ p ∈ G, p.1 < a) : Ext G (G ++ [(a, o)]) := Ext.refl.step h
theorem Ext.trans {G n k : Led} (e : Ext G n) (f : Ext n k) : Ext G k := by
  obtain ⟨tl, rfl, g⟩ := e
  obtain ⟨tl', rfl, g'⟩ := f
  refine ⟨tl ++ tl', List.append_assoc .., fun p hp q hq => ?_⟩
  rcases List.mem_append.mp hq with hq | hq
  · exact g p hp q hq
  · exact g' p (mem_l _ hp) q hq
theorem Ext.mem {G n : Led} (e : Ext G n) : ∀ p ∈ G, p ∈ n := by
  obtain ⟨tl, rfl, -⟩ := e
  exact mem_l
/-- G, a part of the ledger H, has become g as H has become n: by what was made -/
def Mv (G H g n : Led) : Prop := ∃ tl, g = G ++ tl ∧ n = H ++ tl ∧ ∀ p ∈ H, ∀ q ∈ tl, p.1 < q.1
theorem Mv.refl {G H : Led} : Mv G H G H := ⟨[], (List.append_nil G).symm, (List.append_nil H).symm, fun _ _ _ h => nomatch h⟩
theorem Mv.trans {G H g n g' n' : Led} (e : Mv G H g n) (f : Mv g n g' n') : Mv G H g' n' := by
  obtain ⟨tl, rfl, rfl, o⟩ := e
  obtain ⟨tl', rfl, rfl, o'⟩ := f
  refine ⟨tl ++ tl', List.append_assoc .., List.append_assoc .., fun p hp q hq => ?_⟩
  rcases List.mem_append.mp hq with hq | hq
  · exact o p hp q hq
  · exact o' p (mem_l _ hp) q hq
theorem Mv.more {G H g n : Led} (e : Mv G H g n) (tl : Led) (h : ∀ p ∈ n, ∀ q ∈ tl, p.1 < q.1) : Mv G H (g ++ tl) (n ++ tl) := e.trans ⟨tl, rfl, rfl, h⟩
theorem Mv.step {G H g n : Led} {a : Addr} {o : Obj} (e : Mv G H g n) (h : ∀ p ∈ n, p.1 < a) : Mv G H (g ++ [(a, o)]) (n ++ [(a, o)]) := e.more _ fun p hp q hq => by rw [List.mem_singleton.mp hq]; exact h p hp
theorem Mv.ext {G H g n : Led} (e : Mv G H g n) : Ext H n := by obtain ⟨tl, rfl, rfl, o⟩ := e; exact ⟨tl, rfl, o⟩
theorem Mv.g {G H g n : Led} (e : Mv G H g n) : ∀ p ∈ G, p ∈ g := by obtain ⟨tl, rfl, rfl, o⟩ := e; exact mem_l
theorem Mv.n {G H g n : Led} (e : Mv G H g n) : ∀ p ∈ H, p ∈ n := e.ext.mem
theorem Mv.sub {G H g n : Led} (e : Mv G H g n) (h : ∀ p ∈ G, p ∈ H) : ∀ p ∈ g, p ∈ n := by
  obtain ⟨tl, rfl, rfl, o⟩ := e
  intro p hp
  rcases List.mem_append.mp hp with hp | hp
  · exact mem_l _ (h p hp)
  · exact List.mem_append_right _ hp
theorem Mv.of {H n : Led} (e : Ext H n) (G : Led) : ∃ g, Mv G H g n := by obtain ⟨tl, rfl, o⟩ := e; exact ⟨_, tl, rfl, rfl, o⟩
theorem Mv.cons {G H g n : Led} {p : Addr × Obj} (e : Mv G (p :: H) g n) : ∃ n', n = p :: n' ∧ Mv G H g n' ∧ ∀ q ∈ n', q ∉ H → p.1 < q.1 := by
  obtain ⟨tl, rfl, rfl, o⟩ := e
  refine ⟨H ++ tl, rfl, ⟨tl, rfl, rfl, fun q hq r hr => o q (.tail _ hq) r hr⟩, fun q hq hn => ?_⟩
  rcases List.mem_append.mp hq with hq | hq
  · exact absurd hq hn
  · exact o p (.head _) q hq
theorem off1 {D : Addr} : ∀ {l : Led}, LCg.Off1 D l → ∀ p ∈ l, p.1 ≠ D
  | [], _, _, hp => nomatch hp
  | _ :: _, o, p, hp => by
    rcases List.mem_cons.mp hp with rfl | hp
    · exact o.1
    · exact off1 o.2 p hp
theorem comp_end {h₀ h h' : Heap} {L B D : Addr} {o : Obj} {n : Led} (N : News h₀ L h ((D, o) :: n)) (hs : Heap.SameBut B h h') (hBD : B ≠ D) (offB : ∀ p ∈ n, p.1 ≠ B) : News h₀ L h' ((D, o) :: n) := fun p hp => by
  refine ⟨hs.extBut _ _ ?_ (N p hp).1, (N p hp).2⟩
  rcases List.mem_cons.mp hp with rfl | hp
  · exact Ne.symm hBD
  · exact offB p hp
section
variable {C : Cx w mean mg mb} {m : Mp} {news : Led}
/-- after a turn: the block's own three stand, the rest of the ledger is n' -/
def Keep (I B D : Addr) (oI oB oD : Obj) (n' n : Led) : Prop := (∀ p ∈ (I, oI) :: (B, oB) :: (D, oD) :: n', p ∈ n) ∧ LCg.Off3 I B D n'
theorem Keep.mv {I B D : Addr} {oI oB oD : Obj} {G g n k : Led} (e : Mv G ((I, oI) :: (B, oB) :: (D, oD) :: n) g k) (o : LCg.Off3 I B D n) : ∃ n', Keep I B D oI oB oD n' k ∧ Mv G n g n' := by
  obtain ⟨tl, rfl, rfl, g⟩ := e
  refine ⟨n ++ tl, ⟨fun p hp => hp, LCg.Off3.of fun p hp => ?_⟩, tl, rfl, rfl, fun p hp q hq => g p (.tail _ (.tail _ (.tail _ hp))) q hq⟩
  rcases List.mem_append.mp hp with hp | hp
  · exact o.mem p hp
  · exact ⟨Nat.ne_of_gt (g _ (.head _) p hp), Nat.ne_of_gt (g _ (.tail _ (.head _)) p hp), Nat.ne_of_gt (g _ (.tail _ (.tail _ (.head _))) p hp)⟩

/-- one turn of a comprehension -/
def Turn (C : Cx w mean mg mb) (m : Mp) (elt : Expr) (x : Str) (scope : Scope) (cl : List (Str × Addr)) (v : Value) (ys : List Value) (n : Led) (J : List Value → Led → Prop) : Prop :=
  ∀ I oI B oB D m₂, LCg.NsObj oB m₂ → m₂ x = some v → LCg.Off3 I B D n → Ev C (compEnvC scope cl B C.env) m ((I, oI) :: (B, oB) :: (D, lst ys ys.length) :: n) elt fun y n₁ => ∃ n', Keep I B D oI oB (lst ys ys.length) n' n₁ ∧ J (ys ++ [y]) n'

theorem rest_of {elt : Expr} {x : Str} {scope : Scope} {cl : List (Str × Addr)} {s : Shared} {S : Led → Prop} {P : Nat → Value → Prop} {Fin : List Value → Led → Prop} (J : Nat → List Value → Led → Prop) (len : Nat)
    (turn : ∀ i v ys n, i < len → P i v → J i ys n → Turn C m elt x scope cl v ys n fun ys n => S n ∧ J (i + 1) ys n) (fin : ∀ ys n, J len ys n → Fin ys n) :
    ∀ k i ys n, i + k = len → J i ys n → LCg.CompRest C.prog w C.A C.h₀ C.L m C.env elt x scope cl s S P Fin k i ys n
  | 0, _, _, _, e, h => LCg.CompRest.zero (fin _ _ (by rw [← e]; exact h))
  | k + 1, i, ys, n, e, h => LCg.CompRest.succ fun v I oI B oB D m₂ h' tk E' hP hB hx F N off ne => by
    refine (turn i v ys n (by omega) hP h I oI B oB D m₂ hB hx off).go _ _ _ ⟨F, N⟩ fun y n₁ h'' tk' r a => ?_
    obtain ⟨n', hK, hS, hJ⟩ := r
    exact LCg.CompEnd.intro a.F a.N n' hK.1 hK.2 hS (rest_of J len turn fin k (i + 1) (ys ++ [y]) n' (by omega) hJ)

/-- one turn of a comprehension with a test -/
def TurnT (C : Cx w mean mg mb) (m : Mp) (ct elt : Expr) (x : Str) (scope : Scope) (cl : List (Str × Addr)) (v : Value) (ys : List Value) (n : Led) (J : List Value → Led → Prop) : Prop :=
  ∀ I oI B oB D m₂, LCg.NsObj oB m₂ → m₂ x = some v → LCg.Off3 I B D n → Et C (compEnvC scope cl B C.env) m ((I, oI) :: (B, oB) :: (D, lst ys ys.length) :: n) ct fun b n₁ =>
    (b = true → Ev C (compEnvC scope cl B C.env) m n₁ elt fun y n₂ => ∃ n', Keep I B D oI oB (lst ys ys.length) n' n₂ ∧ J (ys ++ [y]) n') ∧ (b = false → ∃ n', Keep I B D oI oB (lst ys ys.length) n' n₁ ∧ J ys n')
theorem restT_of {ct elt : Expr} {x : Str} {scope : Scope} {cl : List (Str × Addr)} {s : Shared} {S : Led → Prop} {P : Nat → Value → Prop} {Fin : List Value → Led → Prop} (J : Nat → List Value → Led → Prop) (len : Nat)
    (turn : ∀ i v ys n, i < len → P i v → J i ys n → TurnT C m ct elt x scope cl v ys n fun ys n => S n ∧ J (i + 1) ys n) (fin : ∀ ys n, J len ys n → Fin ys n) :
    ∀ k i ys n, i + k = len → J i ys n → LCt.CompRestT C.prog w C.A C.h₀ C.L m C.env ct elt x scope cl s S P Fin k i ys n
  | 0, _, _, _, e, h => LCt.CompRestT.zero (fin _ _ (by rw [← e]; exact h))
  | k + 1, i, ys, n, e, h => LCt.CompRestT.succ fun v I oI B oB D m₂ h' tk E' hP hB hx F N off ne => by
    refine (turn i v ys n (by omega) hP h I oI B oB D m₂ hB hx off).go _ _ _ ⟨F, N⟩ fun b n₁ h'' tk' r a => ?_
    cases b with
    | true =>
      rw [if_pos rfl]
      refine (r.1 rfl).go _ _ _ a fun y n₁ h'' tk' r a => ?_
      obtain ⟨n', hK, hS, hJ⟩ := r
      exact LCg.CompEnd.intro a.F a.N n' hK.1 hK.2 hS (restT_of J len turn fin k (i + 1) (ys ++ [y]) n' (by omega) hJ)
    | false =>
      rw [if_neg Bool.false_ne_true]
      obtain ⟨n', hK, hS, hJ⟩ := r.2 rfl
      exact LCg.CompEnd.intro a.F a.N n' hK.1 hK.2 hS (restT_of J len turn fin k (i + 1) ys n' (by omega) hJ)

/-- what a comprehension or a loop walks over -/
def Source (C : Cx w mean mg mb) (n : Led) (xv : Value) (len : Nat) (P : Nat → Value → Prop) (S : Led → Prop) : Prop :=
  ∀ (m : Mp) (s : Shared) (Q : Value → Shared → Prop) (E : Value → Shared → Prop), At C m n s.heap →
    (∀ (I : Addr) (fp : List Addr) (St : Nat → Heap → Prop) (h' : Heap), Walks C.prog w C.A I fp [I] len P St → (∀ i h, St i h → ∃ o, h.get? I = some o) →
      (∀ i h h' o nw, St i h → h.get? I = some o → h'.get? I = some o → (∀ b o, C.h₀.get? b = some o → h'.get? b = some o) → News C.h₀ C.L h' nw → S nw → St i h') → St 0 h' → (∀ b ∈ fp, b < h'.objs.size) →
      At C m n h' → C.L ≠ I → C.h₀.get? I = none → (∀ p ∈ n, p.1 ≠ I) → Q (.ref I) { s with heap := h' }) → wpAny (model C.prog w) C.A (pyIter xv) Q E s
theorem At.up {C : Cx w mean mg mb} {m : Mp} {n : Led} {h h' : Heap} (a : At C m n h) (k : ∀ b o, h.get? b = some o → h'.get? b = some o) : At C m n h' := ⟨a.F.keeps k, a.N.grown k⟩
theorem Source.tuple {ax : Addr} {vs : List Value} (hm : (ax, tup vs) ∈ news) : Source C news (.ref ax) vs.toArray.size (fun i v => vs.toArray[i]? = some v) (fun n => (ax, tup vs) ∈ n) := fun m s Q E a q => by
  have hT : s.heap.IsTuple ax vs.toArray := ⟨_, (a.N _ hm).1, rfl, _, rfl⟩
  have hlt : ax < s.heap.objs.size := Heap.lt_size (a.N _ hm).1
  refine wpAny_pyIter_tuple hT (q _ [s.heap.objs.size, ax] _ _ (Walks.tuple rfl s.heap.objs.size ax (Nat.ne_of_lt hlt) vs.toArray) (fun i h st => by obtain ⟨o, e, _⟩ := st.1; exact ⟨o, e⟩) (fun i h h' o nw st e e' _ N S => ⟨by obtain ⟨o', q, r⟩ := st.1; rw [e] at q; cases q; exact ⟨o, e', r⟩, ⟨_, (N _ S).1, rfl, _, rfl⟩⟩)
    ⟨⟨_, Heap.get?_push_size _ rfl, rfl, rfl⟩, hT.push _⟩ (fun b hb => ?_) (a.up fun b o e => Heap.get?_push_of_some _ e) (Nat.ne_of_lt a.F.ns.lt) (next_is_new a.F) (fun p hp => Nat.ne_of_lt (Heap.lt_size (a.N p hp).1)))
  rw [Heap.size_push]
  rcases List.mem_cons.mp hb with rfl | hb
  · exact Nat.lt_succ_self _
  · rw [List.mem_singleton.mp hb]; exact Nat.lt_succ_of_lt hlt
theorem Source.list {ax : Addr} {vs : List Value} {k : Nat} (hm : (ax, lst vs k) ∈ news) : Source C news (.ref ax) vs.toArray.size (fun i v => vs.toArray[i]? = some v) (fun n => (ax, lst vs k) ∈ n) := fun m s Q E a q => by
  have hT : s.heap.IsList ax vs.toArray := ⟨_, (a.N _ hm).1, rfl, _, rfl⟩
  have hlt : ax < s.heap.objs.size := Heap.lt_size (a.N _ hm).1
  refine wpAny_pyIter_list hT (q _ [s.heap.objs.size, ax] _ _ (Walks.list rfl s.heap.objs.size ax (Nat.ne_of_lt hlt) vs.toArray) (fun i h st => by obtain ⟨o, e, _⟩ := st.1; exact ⟨o, e⟩) (fun i h h' o nw st e e' _ N S => ⟨by obtain ⟨o', q, r⟩ := st.1; rw [e] at q; cases q; exact ⟨o, e', r⟩, ⟨_, (N _ S).1, rfl, _, rfl⟩⟩)
    ⟨⟨_, Heap.get?_push_size _ rfl, rfl, rfl⟩, hT.push _⟩ (fun b hb => ?_) (a.up fun b o e => Heap.get?_push_of_some _ e) (Nat.ne_of_lt a.F.ns.lt) (next_is_new a.F) (fun p hp => Nat.ne_of_lt (Heap.lt_size (a.N p hp).1)))
  rw [Heap.size_push]
  rcases List.mem_cons.mp hb with rfl | hb
  · exact Nat.lt_succ_self _
  · rw [List.mem_singleton.mp hb]; exact Nat.lt_succ_of_lt hlt

/-- a list comprehension, by what holds between the turns -/
theorem Ev.compS {elt iter : Expr} {x : Str} {px pos : Pos} {scope : Scope} {cl : List (Str × Addr)} {R : Value → Led → Prop}
    (hclos : closureFor scope C.env = pure cl) (hcell : ∀ y ∈ scope.names, y.2 ≠ .cell) (hkind : scope.kind = .function) (hnames : ∀ y ∈ scope.names, y.2 = .local → scope.names.lookup y.1 = some .local) (hx : scope.names.lookup x = some .local)
    (h : Ev C C.env m news iter fun v n => ∃ len P S, ∃ J : Nat → List Value → Led → Prop, Source C n v len P S ∧ S n ∧ Nat.ble len 100 = true ∧ J 0 [] n ∧
      (∀ i v ys n, i < len → P i v → S n → J i ys n → Turn C m elt x scope cl v ys n fun ys n => S n ∧ J (i + 1) ys n) ∧ (∀ ys n D, S n → J len ys n → (∀ p ∈ n, p.1 ≠ D) → R (.ref D) ((D, lst ys ys.length) :: n)))
    (hs : ∀ x, foldedSetIterable iter C.env x = pure x := by intro _; rfl) : Ev C C.env m news (.ListComp elt [⟨.Name x px, iter, [], 0⟩] scope pos) R := by
  constructor
  intro s Q E a q
  rw [eval_ListComp]
  refine wpAny_comprehension_free (use := Option.none) rfl hs hclos hkind hnames (h.go _ _ _ a fun xv n h₁ tk₁ r a₁ => ?_)
  obtain ⟨len, P, S, J, src, hS, hl, hJ, turn, fin⟩ := r
  refine src m { s with heap := h₁, toks := tk₁ } _ _ a₁ fun I fp St h' W hIo hSt hst hfp a₂ hIL hI₀ off => ?_
  refine LCg.block_U (S := S) W (Nat.le_trans (Nat.le_of_ble_eq_true hl) (by decide)) hIo hSt hcell hkind hx hst hfp a₂.F a₂.N hIL hI₀ off hS
    (rest_of (Fin := fun ys n => S n ∧ J len ys n) (fun i ys n => S n ∧ J i ys n) len (fun i v ys n hi hP hJ => ?_) (fun ys n hJ => hJ) _ 0 [] n (Nat.zero_add _) ⟨hS, hJ⟩) ?_
  · intro I oI B oB D m₂ hB hx' off
    refine (turn i v ys n hi hP hJ.1 hJ.2 I oI B oB D m₂ hB hx' off).mono fun y n₁ r => ?_
    obtain ⟨n', hK, hS, hJ'⟩ := r
    exact ⟨n', hK, hS, hS, hJ'⟩
  · intro D B h' tk m' ys n' F' N' o1 hn hB₀ hD₀ hBL hDL hBD offB fin'
    exact ⟨m', hn, fun h'' hs'' => q _ _ _ _ (fin ys n' D fin'.1 fin'.2 (off1 o1)) ⟨F'.change hs'' hBL hB₀, comp_end N' hs'' hBD offB⟩⟩
theorem Ev.compST {ct elt iter : Expr} {x : Str} {px pos : Pos} {scope : Scope} {cl : List (Str × Addr)} {R : Value → Led → Prop}
    (hclos : closureFor scope C.env = pure cl) (hcell : ∀ y ∈ scope.names, y.2 ≠ .cell) (hkind : scope.kind = .function) (hnames : ∀ y ∈ scope.names, y.2 = .local → scope.names.lookup y.1 = some .local) (hx : scope.names.lookup x = some .local)
    (h : Ev C C.env m news iter fun v n => ∃ len P S, ∃ J : Nat → List Value → Led → Prop, Source C n v len P S ∧ S n ∧ Nat.ble len 100 = true ∧ J 0 [] n ∧
      (∀ i v ys n, i < len → P i v → S n → J i ys n → TurnT C m ct elt x scope cl v ys n fun ys n => S n ∧ J (i + 1) ys n) ∧ (∀ ys n D, S n → J len ys n → (∀ p ∈ n, p.1 ≠ D) → R (.ref D) ((D, lst ys ys.length) :: n)))
    (hs : ∀ x, foldedSetIterable iter C.env x = pure x := by intro _; rfl) : Ev C C.env m news (.ListComp elt [⟨.Name x px, iter, [ct], 0⟩] scope pos) R := by
  constructor
  intro s Q E a q
  rw [eval_ListComp]
  refine wpAny_comprehension_free (use := Option.none) rfl hs hclos hkind hnames (h.go _ _ _ a fun xv n h₁ tk₁ r a₁ => ?_)
  obtain ⟨len, P, S, J, src, hS, hl, hJ, turn, fin⟩ := r
  refine src m { s with heap := h₁, toks := tk₁ } _ _ a₁ fun I fp St h' W hIo hSt hst hfp a₂ hIL hI₀ off => ?_
  refine LCt.block_T (S := S) W (Nat.le_trans (Nat.le_of_ble_eq_true hl) (by decide)) hIo hSt hcell hkind hx hst hfp a₂.F a₂.N hIL hI₀ off hS
    (restT_of (Fin := fun ys n => S n ∧ J len ys n) (fun i ys n => S n ∧ J i ys n) len (fun i v ys n hi hP hJ => ?_) (fun ys n hJ => hJ) _ 0 [] n (Nat.zero_add _) ⟨hS, hJ⟩) ?_
  · intro I oI B oB D m₂ hB hx' off
    refine ⟨fun _ _ _ a q => (turn i v ys n hi hP hJ.1 hJ.2 I oI B oB D m₂ hB hx' off).go _ _ _ a fun b n₁ _ _ r a => q b n₁ _ _ ⟨fun hb => (r.1 hb).mono fun y n₂ r => ?_, fun hb => ?_⟩ a⟩
    · obtain ⟨n', hK, hS, hJ'⟩ := r
      exact ⟨n', hK, hS, hS, hJ'⟩
    · obtain ⟨n', hK, hS, hJ'⟩ := r.2 hb
      exact ⟨n', hK, hS, hS, hJ'⟩
  · intro D B h' tk m' ys n' F' N' o1 hn hB₀ hD₀ hBL hDL hBD offB fin'
    exact ⟨m', hn, fun h'' hs'' => q _ _ _ _ (fin ys n' D fin'.1 fin'.2 (off1 o1)) ⟨F'.change hs'' hBL hB₀, comp_end N' hs'' hBD offB⟩⟩
/-- the remaining items of a row -/
theorem drop_at {vs : List Value} {i : Nat} {v : Value} (h : vs.toArray[i]? = some v) : vs.drop i = v :: vs.drop (i + 1) := by
  have hv : vs[i]? = some v := by simpa using h
  obtain ⟨hi, e⟩ := List.getElem?_eq_some_iff.mp hv
  rw [List.drop_eq_getElem_cons hi, e]
theorem drop_all {vs : List Value} : vs.drop vs.toArray.size = [] := by rw [List.size_toArray]; exact List.drop_length
/-- over a tuple: by what remains of it -/
theorem Ev.comp {elt iter : Expr} {x : Str} {px pos : Pos} {scope : Scope} {cl : List (Str × Addr)} {R : Value → Led → Prop}
    (hclos : closureFor scope C.env = pure cl) (hcell : ∀ y ∈ scope.names, y.2 ≠ .cell) (hkind : scope.kind = .function) (hnames : ∀ y ∈ scope.names, y.2 = .local → scope.names.lookup y.1 = some .local) (hx : scope.names.lookup x = some .local)
    (h : Ev C C.env m news iter fun v n => ∃ a vs, ∃ J : List Value → List Value → Led → Prop, v = .ref a ∧ (a, tup vs) ∈ n ∧ Nat.ble vs.length 100 = true ∧ J vs [] n ∧
      (∀ v vs' ys n, (a, tup vs) ∈ n → J (v :: vs') ys n → Turn C m elt x scope cl v ys n fun ys n => (a, tup vs) ∈ n ∧ J vs' ys n) ∧
      (∀ ys n D, (a, tup vs) ∈ n → J [] ys n → (∀ p ∈ n, p.1 ≠ D) → R (.ref D) ((D, lst ys ys.length) :: n)))
    (hs : ∀ x, foldedSetIterable iter C.env x = pure x := by intro _; rfl) : Ev C C.env m news (.ListComp elt [⟨.Name x px, iter, [], 0⟩] scope pos) R :=
  Ev.compS hclos hcell hkind hnames hx (h.mono fun v n r => by
    obtain ⟨a, vs, J, rfl, hm, hl, hJ, turn, fin⟩ := r
    exact ⟨_, _, _, fun i => J (vs.drop i), .tuple hm, hm, by rw [List.size_toArray]; exact hl, hJ, fun i v ys n _ hP hS hJ => turn v _ ys n hS (by rw [← drop_at hP]; exact hJ), fun ys n D hS hJ => fin ys n D hS (by rw [← drop_all (vs := vs)]; exact hJ)⟩) hs
theorem Ev.compL {elt iter : Expr} {x : Str} {px pos : Pos} {scope : Scope} {cl : List (Str × Addr)} {R : Value → Led → Prop}
    (hclos : closureFor scope C.env = pure cl) (hcell : ∀ y ∈ scope.names, y.2 ≠ .cell) (hkind : scope.kind = .function) (hnames : ∀ y ∈ scope.names, y.2 = .local → scope.names.lookup y.1 = some .local) (hx : scope.names.lookup x = some .local)
    (h : Ev C C.env m news iter fun v n => ∃ a vs k, ∃ J : List Value → List Value → Led → Prop, v = .ref a ∧ (a, lst vs k) ∈ n ∧ Nat.ble vs.length 100 = true ∧ J vs [] n ∧
      (∀ v vs' ys n, (a, lst vs k) ∈ n → J (v :: vs') ys n → Turn C m elt x scope cl v ys n fun ys n => (a, lst vs k) ∈ n ∧ J vs' ys n) ∧
      (∀ ys n D, (a, lst vs k) ∈ n → J [] ys n → (∀ p ∈ n, p.1 ≠ D) → R (.ref D) ((D, lst ys ys.length) :: n)))
    (hs : ∀ x, foldedSetIterable iter C.env x = pure x := by intro _; rfl) : Ev C C.env m news (.ListComp elt [⟨.Name x px, iter, [], 0⟩] scope pos) R :=
  Ev.compS hclos hcell hkind hnames hx (h.mono fun v n r => by
    obtain ⟨a, vs, k, J, rfl, hm, hl, hJ, turn, fin⟩ := r
    exact ⟨_, _, _, fun i => J (vs.drop i), .list hm, hm, by rw [List.size_toArray]; exact hl, hJ, fun i v ys n _ hP hS hJ => turn v _ ys n hS (by rw [← drop_at hP]; exact hJ), fun ys n D hS hJ => fin ys n D hS (by rw [← drop_all (vs := vs)]; exact hJ)⟩) hs
theorem Ev.compT {ct elt iter : Expr} {x : Str} {px pos : Pos} {scope : Scope} {cl : List (Str × Addr)} {R : Value → Led → Prop}
    (hclos : closureFor scope C.env = pure cl) (hcell : ∀ y ∈ scope.names, y.2 ≠ .cell) (hkind : scope.kind = .function) (hnames : ∀ y ∈ scope.names, y.2 = .local → scope.names.lookup y.1 = some .local) (hx : scope.names.lookup x = some .local)
    (h : Ev C C.env m news iter fun v n => ∃ a vs, ∃ J : List Value → List Value → Led → Prop, v = .ref a ∧ (a, tup vs) ∈ n ∧ Nat.ble vs.length 100 = true ∧ J vs [] n ∧
      (∀ v vs' ys n, (a, tup vs) ∈ n → J (v :: vs') ys n → TurnT C m ct elt x scope cl v ys n fun ys n => (a, tup vs) ∈ n ∧ J vs' ys n) ∧
      (∀ ys n D, (a, tup vs) ∈ n → J [] ys n → (∀ p ∈ n, p.1 ≠ D) → R (.ref D) ((D, lst ys ys.length) :: n)))
    (hs : ∀ x, foldedSetIterable iter C.env x = pure x := by intro _; rfl) : Ev C C.env m news (.ListComp elt [⟨.Name x px, iter, [ct], 0⟩] scope pos) R :=
  Ev.compST hclos hcell hkind hnames hx (h.mono fun v n r => by
    obtain ⟨a, vs, J, rfl, hm, hl, hJ, turn, fin⟩ := r
    exact ⟨_, _, _, fun i => J (vs.drop i), .tuple hm, hm, by rw [List.size_toArray]; exact hl, hJ, fun i v ys n _ hP hS hJ => turn v _ ys n hS (by rw [← drop_at hP]; exact hJ), fun ys n D hS hJ => fin ys n D hS (by rw [← drop_all (vs := vs)]; exact hJ)⟩) hs
end
mutual
inductive Ty where
  | int | bool | never
  | par (n : Str)
  | ref (m : Bool) (t : Ty)
  | box (t : Ty)
  | arr (t : Ty)
  | tup (ts : Tys)
  | S (t : Ty)
  | N
inductive Tys where
  | nil
  | cons (t : Ty) (ts : Tys)
end
mutual
def Ty.sz : Ty → Nat
  | .int | .bool | .never | .par _ | .N => 1
  | .ref _ t | .box t | .arr t | .S t => t.sz + 1
  | .tup ts => ts.sz + 1
def Tys.sz : Tys → Nat
  | .nil => 0
  | .cons t ts => t.sz + ts.sz
end
mutual
def Ty.cop (β : Str → Bool) : Ty → Bool
  | .int | .bool | .never => true
  | .par n => β n
  | .ref m _ => !m
  | .box _ | .N => false
  | .arr t | .S t => t.cop β
  | .tup ts => ts.cop β
def Tys.cop (β : Str → Bool) : Tys → Bool
  | .nil => true
  | .cons t ts => t.cop β && ts.cop β
end
def Ty.kids : Ty → Tys
  | .int | .bool | .never | .par _ | .N => .nil
  | .ref _ t | .box t | .arr t | .S t => .cons t .nil
  | .tup ts => ts
mutual
/-- the ledger bears the type at the value -/
inductive TyIn (G : Led) : Value → Ty → Prop
  | int {a : Addr} {t : Tok} {x : Value} : (a, Mine.tup [.str "int" t, x]) ∈ G → TyIn G (.ref a) .int
  | bool {a : Addr} {t : Tok} : (a, Mine.tup [.str "bool" t]) ∈ G → TyIn G (.ref a) .bool
  | never {a : Addr} {t : Tok} : (a, Mine.tup [.str "never" t]) ∈ G → TyIn G (.ref a) .never
  | par {a : Addr} {t u : Tok} {n : Str} : (a, Mine.tup [.str "param" t, .str n u]) ∈ G → TyIn G (.ref a) (.par n)
  | ref {a : Addr} {t : Tok} {r v : Value} {m : Bool} {d : Ty} : (a, Mine.tup [.str "ref" t, r, .bool m, v]) ∈ G → TyIn G v d → TyIn G (.ref a) (.ref m d)
  | box {a : Addr} {t : Tok} {v : Value} {d : Ty} : (a, Mine.tup [.str "box" t, v]) ∈ G → TyIn G v d → TyIn G (.ref a) (.box d)
  | arr {a : Addr} {t : Tok} {v x : Value} {d : Ty} : (a, Mine.tup [.str "array" t, v, x]) ∈ G → TyIn G v d → TyIn G (.ref a) (.arr d)
  | tup {a b : Addr} {t : Tok} {vs : List Value} {ds : Tys} : (a, Mine.tup [.str "tuple" t, .ref b]) ∈ G → (b, Mine.tup vs) ∈ G → TysIn G vs ds → TyIn G (.ref a) (.tup ds)
  | S {a b c : Addr} {t u : Tok} {r v : Value} {d : Ty} : (a, Mine.tup [.str "adt" t, .str "S" u, .ref c, .ref b]) ∈ G → (c, Mine.tup [r]) ∈ G → (b, Mine.tup [v]) ∈ G → TyIn G v d → TyIn G (.ref a) (.S d)
  | N {a b c : Addr} {t u : Tok} : (a, Mine.tup [.str "adt" t, .str "N" u, .ref c, .ref b]) ∈ G → (c, Mine.tup []) ∈ G → (b, Mine.tup []) ∈ G → TyIn G (.ref a) .N
inductive TysIn (G : Led) : List Value → Tys → Prop
  | nil : TysIn G [] .nil
  | cons {v : Value} {vs : List Value} {d : Ty} {ds : Tys} : TyIn G v d → TysIn G vs ds → TysIn G (v :: vs) (.cons d ds)
end
mutual
theorem TyIn.mono {G G' : Led} (s : ∀ p ∈ G, p ∈ G') : ∀ {v : Value} {d : Ty}, TyIn G v d → TyIn G' v d
  | _, _, .int h => .int (s _ h)
  | _, _, .bool h => .bool (s _ h)
  | _, _, .never h => .never (s _ h)
  | _, _, .par h => .par (s _ h)
  | _, _, .ref h x => .ref (s _ h) (x.mono s)
  | _, _, .box h x => .box (s _ h) (x.mono s)
  | _, _, .arr h x => .arr (s _ h) (x.mono s)
  | _, _, .tup h g x => .tup (s _ h) (s _ g) (x.mono s)
  | _, _, .S h g i x => .S (s _ h) (s _ g) (s _ i) (x.mono s)
  | _, _, .N h g i => .N (s _ h) (s _ g) (s _ i)
theorem TysIn.mono {G G' : Led} (s : ∀ p ∈ G, p ∈ G') : ∀ {vs : List Value} {ds : Tys}, TysIn G vs ds → TysIn G' vs ds
  | _, _, .nil => .nil
  | _, _, .cons x y => .cons (x.mono s) (y.mono s)
end
local macro_rules | `(tactic| walk_at "mem") => `(tactic| first | with_reducible assumption | assumption | (refine (by assumption : ∀ p ∈ _, p ∈ _) _ ?_; with_reducible assumption) | exact mem_e | (refine mem_l _ ?_; walk_at "mem") | (refine List.mem_append_right _ ?_; walk_at "mem") | exact List.Mem.head _ | (refine List.Mem.tail _ ?_; walk_at "mem"))
local macro_rules | `(tactic| walk_at "pe") => `(tactic| first
  | exact Pe.str | exact Pe.int | exact Pe.none | exact Pe.bool
  | (refine' Pe.loc ?v ?o; (case v => exact rfl); (case o => exact rfl))
  | (refine' Pe.sub ?p ?m ?x; (case p => walk_at "pe"); (case m => walk_at "mem"); (case x => exact rfl))
  | (refine' Pe.subL ?p ?m ?x; (case p => walk_at "pe"); (case m => walk_at "mem"); (case x => exact rfl))
  | (refine' Pe.glo ?v ?o; (case v => k_is); (case o => exact rfl))
  | fail "pe: no rule")
local macro_rules | `(tactic| walk_at "pt") => `(tactic| first
  | (refine' Pt.eqS ?p ?x; (case p => walk_at "pe"); (case x => exact rfl))
  | exact Pt.orN | exact Pt.andN
  | (refine' Pt.orF ?p ?q; (case p => walk_at "pt"); (case q => walk_at "pt"))
  | (refine' Pt.orT ?p; (case p => walk_at "pt"))
  | (refine' Pt.andF ?p; (case p => walk_at "pt"))
  | (refine' Pt.andT ?p ?q; (case p => walk_at "pt"); (case q => walk_at "pt"))
  | fail "pt: no rule")
local macro_rules | `(tactic| walk_at "pl") => `(tactic| first | exact Pl.nil | (refine' Pl.cons ?p ?q; (case p => walk_at "pe"); (case q => walk_at "pl")))
local macro_rules | `(tactic| walk_at "run") => `(tactic| first
  | (refine' Run.asg (Ev.pe ?p fun _ => ?_) ?o; (case p => walk_at "pe"); (case o => exact rfl))
  | (refine' Run.ifF ?p ?_; (case p => walk_at "pt"))
  | (refine' Run.ifT ?p ?_; (case p => walk_at "pt"))
  | (refine' Run.ret (Ev.pe ?p fun _ => ?_); (case p => walk_at "pe"))
  | (refine' Run.ret (Ev.tuple ?p (fun _ _ _ => ?_) ?l); (case p => walk_at "pl"); (case l => exact fun _ => rfl))
  | (refine' Run.ret (Ev.iteF ?p ?_); (case p => walk_at "pt"))
  | (refine' Run.ret (Ev.iteT ?p ?_); (case p => walk_at "pt"))
  | (refine' Ev.pe ?p fun _ => ?_; (case p => walk_at "pe"))
  | (refine' Ev.tuple ?p (fun _ _ _ => ?_) ?l; (case p => walk_at "pl"); (case l => exact fun _ => rfl))
  | fail "run: no rule")
theorem parts_ok {v : Value} {d : Ty} {G H : Led} {R : Value → Led → Prop} (h : TyIn G v d) (hs : ∀ p ∈ G, p ∈ H) (k : ∀ b vs n, Ext H n → (b, tup vs) ∈ n → TysIn G vs d.kids → R (.ref b) n) : Tell w mean mg mb 1 28 [v] H R := by
  refine Tell.def (need := 0) (binds := [(Str.ofString "told", v)]) (by k_is) (by k_is) rfl rfl rfl rfl rfl (by decide) (fun D r => ?_)
  cases h
  all_goals repeat walk_at "run"
  all_goals first
    | exact k _ _ _ (.one (by assumption)) mem_e .nil
    | exact k _ _ _ (.one (by assumption)) mem_e (.cons (by assumption) .nil)
    | exact k _ _ _ .refl (hs _ (by assumption)) (by assumption)
    | exact k _ _ _ .refl (hs _ (by assumption)) (.cons (by assumption) .nil)
    | exact k _ _ _ .refl (hs _ (by assumption)) .nil
theorem rebuilt_ok {v : Value} {d : Ty} {l : Addr} {vs : List Value} {j : Nat} {G H : Led} {R : Value → Led → Prop} (h : TyIn G v d) (hs : ∀ p ∈ G, p ∈ H) (hl : (l, lst vs j) ∈ H) (hn : Nat.ble vs.length 100 = true) (hv : TysIn G vs d.kids)
    (k : ∀ b g n, Mv G H g n → TyIn g (.ref b) d → R (.ref b) n) : Tell w mean mg mb 1 35 [v, .ref l] H R := by
  refine Tell.def (need := 0) (binds := [(Str.ofString "told", v), (Str.ofString "parts", .ref l)]) (by k_is) (by k_is) rfl rfl rfl rfl rfl (by decide) (fun D r => ?_)
  cases h
  case ref =>
    cases hv with | cons h1 h2 => ?_
    cases h2
    repeat walk_at "run"
    exact k _ _ _ (.step .refl (by assumption)) (.ref mem_e (h1.mono mem_l))
  case box =>
    cases hv with | cons h1 h2 => ?_
    cases h2
    repeat walk_at "run"
    exact k _ _ _ (.step .refl (by assumption)) (.box mem_e (h1.mono mem_l))
  case arr =>
    cases hv with | cons h1 h2 => ?_
    cases h2
    repeat walk_at "run"
    exact k _ _ _ (.step .refl (by assumption)) (.arr mem_e (h1.mono mem_l))
  case tup =>
    repeat walk_at "run"
    refine Run.ret (Ev.tupleX (El.cons (Ev.pe Pe.str fun _ => El.cons (Ev.tupleOf (Ev.pe (Pe.loc rfl rfl) fun _ => ⟨_, _, _, rfl, hl, hn, fun a ha => El.nil ⟨rfl, fun b hb => ?_⟩⟩) (by k_is) rfl))))
    exact k _ _ _ (.step (.step .refl ha) hb) (.tup mem_e (mem_l _ mem_e) (hv.mono fun _ h => mem_l _ (mem_l _ h)))
  case S =>
    cases hv with | cons h1 h2 => ?_
    cases h2
    repeat walk_at "run"
    refine Ev.tupleX (El.cons (Ev.pe Pe.str fun _ => El.cons (Ev.pe (by walk_at "pe") fun _ => El.cons (Ev.pe (by walk_at "pe") fun _ => El.cons (Ev.tupleOf (Ev.pe (Pe.loc rfl rfl) fun _ => ⟨_, _, _, rfl, hl, hn, fun a ha => El.nil ⟨rfl, fun b hb => ?_⟩⟩) (by k_is) rfl)))))
    exact k _ _ _ (.step (.step .refl ha) hb) (.S mem_e (mem_l _ (mem_l _ (by assumption))) (mem_l _ mem_e) (h1.mono fun _ h => mem_l _ (mem_l _ h)))
  case N =>
    cases hv
    repeat walk_at "run"
    refine Ev.tupleX (El.cons (Ev.pe Pe.str fun _ => El.cons (Ev.pe (by walk_at "pe") fun _ => El.cons (Ev.pe (by walk_at "pe") fun _ => El.cons (Ev.tupleOf (Ev.pe (Pe.loc rfl rfl) fun _ => ⟨_, _, _, rfl, hl, hn, fun a ha => El.nil ⟨rfl, fun b hb => ?_⟩⟩) (by k_is) rfl)))))
    exact k _ _ _ (.step (.step .refl ha) hb) (.N mem_e (mem_l _ (mem_l _ (by assumption))) (mem_l _ mem_e))
  all_goals repeat walk_at "run"
  all_goals exact k _ _ _ .refl (by first | exact .int (by assumption) | exact .bool (by assumption) | exact .never (by assumption) | exact .par (by assumption))
mutual
theorem Ty.sz_pos : ∀ d : Ty, 1 ≤ d.sz
  | .int | .bool | .never | .par _ | .N => Nat.le_refl _
  | .ref _ _ | .box _ | .arr _ | .S _ | .tup _ => Nat.le_add_left ..
end
theorem Ty.kids_sz : ∀ d : Ty, d.kids.sz < d.sz
  | .int | .bool | .never | .par _ | .N => Nat.lt_succ_self 0
  | .ref _ t | .box t | .arr t | .S t => Nat.lt_succ_self (t.sz + 0)
  | .tup ts => Nat.lt_succ_self ts.sz
theorem TysIn.length {G : Led} : ∀ {vs : List Value} {ds : Tys}, TysIn G vs ds → vs.length ≤ ds.sz
  | _, _, .nil => Nat.le_refl _
  | _, _, .cons (d := d) x y => by
    have := y.length
    have := d.sz_pos
    show _ + 1 ≤ d.sz + _
    omega
theorem noreg_ok {v : Value} {G : Led} {R : Value → Led → Prop} (k : R .none G) : Tell w mean mg mb 1 47 [v] G R :=
  Tell.def (need := 0) (binds := [(Str.ofString "region", v)]) (by k_is) (by k_is) rfl rfl rfl rfl rfl (by decide) (fun D r => Run.ret (Ev.pe Pe.none fun _ => k))
theorem wr_ok (N : Nat) (hN : N ≤ 100) : ∀ d : Ty, d.sz ≤ N → ∀ {v : Value} {G H : Led} {R : Value → Led → Prop}, TyIn G v d → (∀ p ∈ G, p ∈ H) → (∀ b g n, Mv G H g n → TyIn g (.ref b) d → R (.ref b) n) →
    Tell w mean mg mb (N + 1) 40 [v, .ref 47] H R := by
  induction N with
  | zero => intro d h; exact absurd (Nat.le_trans d.sz_pos h) (by decide)
  | succ N IH =>
    intro d hd v G H R hv hs k
    refine Tell.defC (need := N + 1) (binds := [(Str.ofString "told", v), (Str.ofString "change", .ref 47)]) (fun L => [(Str.ofString "change", L + 1)]) (put (fun _ => none) (Str.ofString "told") v) (put (fun _ => none) (Str.ofString "change") (.ref 47))
      (by k_is) (by k_is) rfl rfl (by decide +kernel) rfl rfl rfl (fun _ => rfl) (fun _ => rfl) (fun _ => rfl) (fun D cells r Y below => ?_)
    obtain ⟨o, rfl, ho⟩ := Y.one
    replace ho : o.data = .cell (some (.ref 47)) := ho
    refine Run.seq (fun m' n' => ∃ g v', m' (Str.ofString "told") = some v' ∧ Mv G H g n' ∧ TyIn g v' d ∧ (D.L + 1, o) ∈ n') ?_ (fun m' n' h => ?_)
    · have M0 : Mv G H (G ++ [(D.L + 1, o)]) (H ++ [(D.L + 1, o)]) := .more .refl _ below
      have hv' := hv
      cases hv
      case ref hm hx =>
        refine Run.ifT (by walk_at "pt") (Run.asg (Ev.tupleX (El.cons (Ev.pe Pe.str fun _ => El.cons (Ev.callX (Pe.cel mem_e ho rfl rfl) (by k_is) (El.pl (Pl.cons (by walk_at "pe") Pl.nil) fun _ => noreg_ok
          (El.cons (Ev.pe (by walk_at "pe") fun _ => El.cons (Ev.pe (by walk_at "pe") fun _ => El.nil ⟨rfl, fun b hb => Run.nil (Run.nil ⟨_, _, rfl, M0.step hb, .ref mem_e (hx.mono fun _ h => mem_l _ (mem_l _ h)), mem_l _ mem_e⟩)⟩)))) (r.le (Nat.le_add_left ..)))))) rfl)
      case S hm h2 h3 hx =>
        refine Run.ifF' (by walk_at "pt") (Run.ifT (by walk_at "pt") (Run.asg (Ev.tupleX (El.cons (Ev.pe Pe.str fun _ => El.cons (Ev.pe (by walk_at "pe") fun _ => El.cons (Ev.tupleOf ?_ (by k_is) rfl))))) rfl))
        refine Ev.comp (cl := [(Str.ofString "change", D.L + 1)]) rfl (by decide) rfl (by decide) rfl (Ev.pe (by walk_at "pe") fun _ => ⟨_, [_], fun vs ys n => n = H ++ [(D.L + 1, o)] ∧ ys ++ vs.map (fun _ => Value.none) = [Value.none], rfl, mem_l _ (hs _ (by assumption)), rfl, ⟨rfl, rfl⟩, ?_, ?_⟩)
        · rintro v₁ vs' ys n hS ⟨rfl, he⟩ I oI B oB D' m₂ hB hx off
          refine Ev.callX (Pe.cel (.tail _ (.tail _ (.tail _ mem_e))) ho rfl rfl) (by k_is) (El.pl (Pl.cons (Pe.own (.tail _ (.head _)) hB hx rfl rfl) Pl.nil) fun _ => noreg_ok ?_) (r.le (Nat.le_add_left ..))
          exact ⟨_, ⟨fun _ h => h, off⟩, hS, rfl, by rw [List.append_assoc]; exact he⟩
        · rintro ys n D' hS ⟨rfl, he⟩ off
          rw [List.map_nil, List.append_nil] at he
          subst he
          refine ⟨_, _, _, rfl, .head _, rfl, fun a ha => El.cons (Ev.pe (Pe.sub (Pe.loc rfl rfl) (mem_l _ (.tail _ (mem_l _ (hs _ hm)))) rfl) fun _ => El.nil ⟨rfl, fun b hb => Run.sub (Run.nil (Run.nil (Run.nil ⟨_, _, rfl, (M0.step (a := a) fun p hp => ha p (.tail _ hp)).step (a := b) fun p hp => hb p (.tail _ hp), .S mem_e (mem_l _ mem_e) (mem_l _ (mem_l _ (mem_l _ h3))) (hx.mono fun _ h => mem_l _ (mem_l _ (mem_l _ h))), mem_l _ (mem_l _ mem_e)⟩))) fun _ h => .tail _ h⟩)⟩
      case N hm h2 h3 =>
        refine Run.ifF' (by walk_at "pt") (Run.ifT (by walk_at "pt") (Run.asg (Ev.tupleX (El.cons (Ev.pe Pe.str fun _ => El.cons (Ev.pe (by walk_at "pe") fun _ => El.cons (Ev.tupleOf ?_ (by k_is) rfl))))) rfl))
        refine Ev.comp (cl := [(Str.ofString "change", D.L + 1)]) rfl (by decide) rfl (by decide) rfl (Ev.pe (by walk_at "pe") fun _ => ⟨_, [], fun vs ys n => n = H ++ [(D.L + 1, o)] ∧ ys ++ vs.map (fun _ => Value.none) = [], rfl, mem_l _ (hs _ (by assumption)), rfl, ⟨rfl, rfl⟩, ?_, ?_⟩)
        · rintro v₁ vs' ys n hS ⟨rfl, he⟩ I oI B oB D' m₂ hB hx off
          refine Ev.callX (Pe.cel (.tail _ (.tail _ (.tail _ mem_e))) ho rfl rfl) (by k_is) (El.pl (Pl.cons (Pe.own (.tail _ (.head _)) hB hx rfl rfl) Pl.nil) fun _ => noreg_ok ?_) (r.le (Nat.le_add_left ..))
          exact ⟨_, ⟨fun _ h => h, off⟩, hS, rfl, by rw [List.append_assoc]; exact he⟩
        · rintro ys n D' hS ⟨rfl, he⟩ off
          rw [List.map_nil, List.append_nil] at he
          subst he
          refine ⟨_, _, _, rfl, .head _, rfl, fun a ha => El.cons (Ev.pe (Pe.sub (Pe.loc rfl rfl) (mem_l _ (.tail _ (mem_l _ (hs _ hm)))) rfl) fun _ => El.nil ⟨rfl, fun b hb => Run.sub (Run.nil (Run.nil (Run.nil ⟨_, _, rfl, (M0.step (a := a) fun p hp => ha p (.tail _ hp)).step (a := b) fun p hp => hb p (.tail _ hp), .N mem_e (mem_l _ mem_e) (mem_l _ (mem_l _ (mem_l _ h3))), mem_l _ (mem_l _ mem_e)⟩))) fun _ h => .tail _ h⟩)⟩
      all_goals exact Run.ifF' (by walk_at "pt") (Run.ifF (by walk_at "pt") (Run.nil (Run.nil ⟨_, _, rfl, M0, hv'.mono mem_l, mem_e⟩)))
    · obtain ⟨g, v', hm, hM, hT, hc⟩ := h
      have hgn := hM.sub hs
      refine Run.ret (Ev.drop (Ev.callX (Pe.glo (by k_is) rfl) (by k_is) (El.cons (Ev.pe (Pe.loc hm rfl) fun _ => El.cons ?_)) (r.le (Nat.le_add_left ..))))
      refine Ev.comp (cl := [(Str.ofString "change", D.L + 1)]) rfl (by decide) rfl (by decide) rfl (Ev.call (by k_is) (by k_is) rfl (Pl.cons (Pe.loc hm rfl) Pl.nil) (r.le (Nat.le_add_left ..)) fun _ => parts_ok hT hgn fun b vs n e hb hvs => ?_)
      obtain ⟨g₂, M₂⟩ := Mv.of e g
      have hl : Nat.ble vs.length 100 = true := Nat.ble_eq_true_of_le (by have := hvs.length; have := d.kids_sz; omega)
      refine ⟨b, vs, fun vs ys n => ∃ g ds, Mv G H g n ∧ TysIn g vs ds ∧ ds.sz ≤ N ∧ (∀ zs g', (∀ p ∈ g, p ∈ g') → TysIn g' zs ds → TysIn g' (ys ++ zs) d.kids) ∧ (D.L + 1, o) ∈ n ∧ TyIn g v' d, rfl, hb, hl,
        ⟨g₂, d.kids, hM.trans M₂, hvs.mono M₂.g, by have := d.kids_sz; omega, fun zs g' _ h => h, e.mem _ hc, hT.mono M₂.g⟩, ?_, ?_⟩
      · rintro v₁ vs' ys n hS ⟨g, ds, hM, hvs, hsz, hcl, hc, hT⟩
        cases hvs with | cons h1 h2 => ?_
        rename_i d₁ ds'
        intro I oI B oB D' m₂ hB hx off
        have h2sz : ds'.sz ≤ N := Nat.le_trans (Nat.le_add_left ..) hsz
        refine Ev.call (by k_is) (by k_is) rfl (Pl.cons (Pe.own (.tail _ (.head _)) hB hx rfl rfl) (Pl.cons (Pe.cel (.tail _ (.tail _ (.tail _ hc))) ho rfl rfl) Pl.nil)) r
          fun _ => IH (by omega) d₁ (Nat.le_trans (Nat.le_add_right ..) hsz) h1 (fun p hp => .tail _ (.tail _ (.tail _ (hM.sub hs p hp)))) fun y g' n₁ M' hT' => ?_
        obtain ⟨n', hK, M''⟩ := Keep.mv M' off
        refine ⟨n', hK, M''.n _ hS, g', ds', hM.trans M'', h2.mono M'.g, h2sz, fun zs g'' hs' hz => ?_, M''.n _ hc, hT.mono M'.g⟩
        rw [List.append_assoc]
        exact hcl _ _ (fun p hp => hs' p (M'.g p hp)) (.cons (hT'.mono hs') hz)
      · rintro ys n D' hS ⟨g, ds, hM, hvs, hsz, hcl, hc, hT⟩ off
        cases hvs
        have hys := hcl [] g (fun _ h => h) .nil
        rw [List.append_nil] at hys
        refine El.nil (rebuilt_ok hT (fun p hp => .tail _ (hM.sub hs p hp)) (.head _) (Nat.ble_eq_true_of_le (by have := hys.length; have := d.kids_sz; omega)) hys fun b g' n₂ M₃ hT₃ => ?_)
        obtain ⟨n₃, rfl, M₄, -⟩ := M₃.cons
        exact ⟨n₃, fun _ h => .tail _ h, k b g' n₃ (hM.trans M₄) hT₃⟩
theorem pairs_to {w : World} {p p' : Program} {es : List DictEntry} {kvs : List (Str × Value)} (h : Pairs (strKind p w) es kvs) : Pairs (strKind p' w) es kvs := by
  induction h with
  | nil => exact .nil
  | cons h1 h2 _ ih => exact .cons h1 h2 ih
theorem isDict_to {w : World} {p p' : Program} {o : Obj} {kvs : List (Str × Value)} (h : o.IsDictOf (strKind p w) kvs) : o.IsDictOf (strKind p' w) kvs :=
  let ⟨es, ep, h1, h2, h3, h4, h5⟩ := h; ⟨es, ep, h1, h2, fun e he => let ⟨k, a, b⟩ := h3 e he; ⟨k, a, b⟩, pairs_to h4, h5⟩
/-- the object is a dict of texts: its pairs in order -/
def Dct (w : World) (o : Obj) (kvs : List (Str × Value)) : Prop := o.IsDictOf (strKind PySem.Challenge.pw_xw0158_01 w) kvs
section
variable {C : Cx w mean mg mb} {m : Mp} {news : Led} {env : Env} {K : Mp → Led → Prop} {R : Value → Led → Prop}
theorem Dct.dictOf {o : Obj} {kvs : List (Str × Value)} (d : Dct w o kvs) {h : Heap} {a : Addr} (x : At C m news h) (hm : (a, o) ∈ news) : h.DictOf (strKind C.prog w) a kvs := Heap.dictOf_iff.mpr ⟨o, (x.N _ hm).1, isDict_to d⟩
theorem At.notModules {h : Heap} {p : Addr × Obj} (x : At C m news h) (hm : p ∈ news) : (p.1 == sysModules) = false := by
  refine beq_eq_false_iff_ne.mpr fun e => ?_
  have h1 := (x.N p hm).2.2
  obtain ⟨_, ⟨o, _, _, ho, _⟩, _⟩ := (C.D.T.seer C.D.qi).mods
  rw [e] at h1
  rw [ho] at h1
  cases h1
theorem Po.inD {d : Addr} {o : Obj} {kvs : List (Str × Value)} {x : Str} {t : Tok} (hm : (d, o) ∈ news) (hd : Dct w o kvs) : Po C m news (compareOp .In (.str x t) (.ref d)) (fun _ => .bool (valueAt kvs x).isSome) :=
  .of fun _ _ _ a k => wpAny_in_of (strKind_is C.prog w x t) (a.notModules hm) (hd.dictOf a hm).mapOf (k _ _ 0 a)
/-- d['a text'] where it stands -/
theorem Pe.subD {e i : Expr} {pos : Pos} {d : Addr} {o : Obj} {kvs : List (Str × Value)} {x : Str} {f : Tok → Tok} {v : Value} (p : Pe C env m news e (fun _ => .ref d)) (q : Pe C env m news i (fun t => .str x (f t))) (hm : (d, o) ∈ news) (hd : Dct w o kvs) (hv : valueAt kvs x = some v)
    (hs : ∀ u, subscripted i false (.ref d) (.str x u) = operate [.ref d, .str x u] (getItem (.ref d) (.str x u)) := by intro _; with_unfolding_all rfl) : Pe C env m news (.Subscript e i pos) (fun _ => v) :=
  .of fun _ _ _ a k => Subscript_ (p.use a fun _ _ _ a => q.use a fun _ _ t a => tail_any (hd.dictOf a hm).mapOf.typeIs slot_dict_getitem.lookup (wpAny_getItem_of (strKind_is C.prog w x _) (hd.dictOf a hm).mapOf hv (k _ _ 0 a)) (hs _))
/-- d[..] = v -/
theorem Run.setD {e i ve : Expr} {sp pos : Pos} {rest : List Stmt} {d : Addr} {o : Obj} {kvs : List (Str × Value)} {x : Str} {f : Tok → Tok} {v : Value} {g : Obj → Led} (q : Pe C C.env m news ve (fun _ => v)) (p : Pe C C.env m news e (fun _ => .ref d)) (r : Pe C C.env m news i (fun t => .str x (f t))) (U : UpdF d o news g) (hd : Dct w o kvs)
    (hn : Nat.ble kvs.length 100 = true) (h : ∀ o', Dct w o' (stored kvs x v) → Run C m (g o') rest K R) (hs : swapsWith ve (some (.Subscript e i sp)) pos.line C.env = pure false := by rfl) : Run C m news (.Assign [.Subscript e i sp] ve pos :: rest) K R :=
  ⟨fun _ _ _ a k z => by
    refine wpAny_execs_cons (wpAny_Assign_Subscript (q.use a fun _ _ _ a => p.use a fun _ _ _ a => r.use a fun _ _ t a => ?_) hs)
    obtain ⟨pre, post, rfl, hg, b1, b2⟩ := U.split
    have hm : (d, o) ∈ pre ++ (d, o) :: post := List.mem_append_right _ (.head _)
    refine wpAny_setItem_pairs (strKind_is C.prog w x _) (hd.dictOf a hm) (fun h' hd' hs' => ?_) (Nat.le_trans (Nat.le_of_ble_eq_true hn) (by decide))
    obtain ⟨o', ho', hd'⟩ := Heap.dictOf_iff.mp hd'
    have z0 := a.N _ hm
    exact (h o' (isDict_to hd')).go _ _ _ ⟨a.F.change hs' z0.2.1 z0.2.2, hg o' ▸ News.setAt a.N b1 b2 hs' ho'⟩ k z⟩
theorem Ev.dict0 {pos : Pos} (k : ∀ a o, Dct w o [] → (∀ p ∈ news, p.1 < a) → R (.ref a) ((a, o) :: news)) : Ev C env m news (.Dict [] [] pos) R :=
  ⟨fun _ _ _ a q => newDict_K a.F a.N C.D.T.nolimit fun _ _ _ F' N' l1 _ hd _ _ _ => q _ _ _ _ (k _ _ (isDict_to hd) l1) ⟨F', N'⟩⟩
/-- d.get(key, other) -/
theorem Ev.dget {e ke de : Expr} {ap pos : Pos} {d : Addr} {o : Obj} {kvs : List (Str × Value)} {x : Str} {f : Tok → Tok} (p : Pe C env m news e (fun _ => .ref d)) (hm : (d, o) ∈ news) (hd : Dct w o kvs) (q : Pe C env m news ke (fun t => .str x (f t)))
    (h : Ev C env m news de fun dv n => (d, o) ∈ n ∧ R ((valueAt kvs x).getD dv) n) (pl : Sem Bool)
    (he : eval (.Call (.Attribute e (Str.ofString "get") ap) [ke, de] [] pos) env = (do
      let ov ← eval e env
      standAt ap.atName
      let (f, first) ← holding [ov] (getMethod ov (Str.ofString "get") pl)
      callWith pos f first (backTo pos (starEach [ke, de] env)) []))
    (hb : backTo pos (starEach [ke, de] env) = [(false, eval ke env), (false, eval de env)] := by rfl) : Ev C env m news (.Call (.Attribute e (Str.ofString "get") ap) [ke, de] [] pos) R := by
  constructor
  intro s Q E a k
  refine MethodCall_ (pl := pl) (p.use a fun _ _ _ a => ?_) he
  refine getMethod_builtin (hd.dictOf a hm).mapOf.typeIs PySem.F.plainAttrs_dict PySem.F.slot_dict_get PySem.F.type_dict_get (hd.dictOf a hm).mapOf.noDict ?_
  rw [hb]
  refine wpAny_dict_get2 (knd := strKind C.prog w) (a.notModules hm) (q.use a fun _ _ t a => h.go _ _ _ a fun dv n _ _ r a => ?_)
  exact ⟨x, _, strKind_is C.prog w x _, (hd.dictOf a r.1).mapOf, k _ _ _ _ r.2 a⟩
end
/-- names bound in order -/
def putZip : List Str → List Value → Mp → Mp
  | x :: xs, v :: vs, m => putZip xs vs (put m x v)
  | _, _, m => m
section
variable {C : Cx w mean mg mb} {m : Mp} {news : Led} {K : Mp → Led → Prop} {R : Value → Led → Prop}
/-- a value bound to a target -/
structure As (C : Cx w mean mg mb) (m : Mp) (news : Led) (t : Expr) (v : Value) (K : Mp → Led → Prop) : Prop where
  go : ∀ (s : Shared) (Q : Unit → Shared → Prop) (E : Value → Shared → Prop), At C m news s.heap → (∀ m' n h tk, K m' n → At C m' n h → Q () { s with heap := h, toks := tk }) → wpAny (model C.prog w) C.A (assign t C.env v) Q E s
structure AsL (C : Cx w mean mg mb) (m : Mp) (news : Led) (ts : List Expr) (vs : List Value) (K : Mp → Led → Prop) : Prop where
  go : ∀ (s : Shared) (Q : Unit → Shared → Prop) (E : Value → Shared → Prop), At C m news s.heap → (∀ m' n h tk, K m' n → At C m' n h → Q () { s with heap := h, toks := tk }) → wpAny (model C.prog w) C.A (assignInOrder ((assignEach ts C.env).map (·.2)) vs) Q E s
theorem store_go {x : Str} {v : Value} {s : Shared} {Q : Unit → Shared → Prop} {E : Value → Shared → Prop} (ok : locOk C.env x = true) (a : At C m news s.heap) (k : ∀ h tk, At C (put m x v) news h → Q () { s with heap := h, toks := tk }) : wpAny (model C.prog w) C.A (storeName C.env x v) Q E s := by
  obtain ⟨-, b, -⟩ := locOk_of ok
  exact storeX_L a.F a.N (fun _ F N => k _ _ ⟨F, N⟩) C.fn.hk b
theorem As.name {x : Str} {p : Pos} {v : Value} (k : K (put m x v) news) (ok : locOk C.env x = true) : As C m news (.Name x p) v K :=
  ⟨fun _ _ _ a q => assign_Name (store_go ok a fun _ _ a => q _ _ _ _ k a)⟩
theorem AsL.nil (k : K m news) : AsL C m news [] [] K := ⟨fun _ _ _ a q => assignInOrder_nil (q _ _ _ _ k a)⟩
theorem AsL.cons {t : Expr} {ts : List Expr} {v : Value} {vs : List Value} (h : As C m news t v fun m' n => AsL C m' n ts vs K) (he : assignEach (t :: ts) C.env = (false, assign t C.env) :: assignEach ts C.env := by rfl) : AsL C m news (t :: ts) (v :: vs) K :=
  ⟨fun _ _ _ a q => by
    rw [he]
    exact assignInOrder_cons (h.go _ _ _ a fun _ _ _ _ r a => r.go _ _ _ a q)⟩
theorem As.tuple {ts : List Expr} {k : Nat} {p : Pos} {b : Addr} {vs : List Value} (hm : (b, tup vs) ∈ news) (h : AsL C m news ts vs K) (hn : (assignEach ts C.env).length = vs.length := by rfl) (hs : (assignEach ts C.env).findIdx? (·.1) = none := by rfl) : As C m news (.Tuple ts k p) (.ref b) K :=
  ⟨fun _ _ _ a q => unpackN_ a.F a.N ⟨_, (a.N _ hm).1, rfl, _, rfl⟩ (by with_unfolding_all rfl) (by rw [hn]; simp) hs fun h' F' N' => h.go _ _ _ ⟨F', N'⟩ q⟩
/-- a target of several: the value is no written tuple -/
theorem Run.unpack {ts : List Expr} {k : Nat} {tp pos : Pos} {e : Expr} {rest : List Stmt} (h : Ev C C.env m news e fun v n => As C m n (.Tuple ts k tp) v fun m' n' => Run C m' n' rest K R)
    (hs : swapsWithSole [.Tuple ts k tp] e pos.line C.env = pure false := by rfl) (hw : swappedStores [.Tuple ts k tp] e C.env = pure none := by rfl) : Run C m news (.Assign [.Tuple ts k tp] e pos :: rest) K R :=
  ⟨fun _ _ _ a k q => wpAny_execs_cons (Assign_Tuple (h.go _ _ _ a fun _ _ _ _ r a => r.go _ _ _ a fun _ _ _ _ r a => r.go _ _ _ a k q) hs hw)⟩
theorem puts_go : ∀ (xs : List Str) (vs : List Value) {m : Mp} {s : Shared} {Q : Unit → Shared → Prop} {E : Value → Shared → Prop}, xs.length = vs.length → (xs.all fun x => locOk C.env x) = true → At C m news s.heap → (∀ h tk, At C (putZip xs vs m) news h → Q () { s with heap := h, toks := tk }) →
    wpAny (model C.prog w) C.A (assignInOrder (xs.map fun n => bindName C.env n) vs) Q E s
  | [], [], _, _, _, _, _, _, a, q => assignInOrder_nil (q _ _ a)
  | x :: xs, v :: vs, _, _, _, _, hl, ok, a, q => by
    simp only [List.all_cons, Bool.and_eq_true] at ok
    exact assignInOrder_cons (bindName_ (store_go ok.1 a fun _ _ a => puts_go xs vs (Nat.succ.inj hl) ok.2 a q))
  | [], _ :: _, _, _, _, _, hl, _, _, _ => nomatch hl
  | _ :: _, [], _, _, _, _, hl, _, _, _ => nomatch hl
/-- names bound to a written tuple's items: the last first -/
theorem Run.swap {ts : List Expr} {k : Nat} {tp pos : Pos} {e : Expr} {rest : List Stmt} {names : List Str} (h : Ev C C.env m news e fun v n => ∃ b vs, v = .ref b ∧ (b, tup vs) ∈ n ∧ names.length = vs.length ∧ Run C (putZip names.reverse vs.reverse m) n rest K R)
    (hw : swappedStores [.Tuple ts k tp] e C.env = pure (some names) := by rfl) (ok : (names.reverse.all fun x => locOk C.env x) = true := by rfl) (hs : swapsWithSole [.Tuple ts k tp] e pos.line C.env = pure false := by rfl) : Run C m news (.Assign [.Tuple ts k tp] e pos :: rest) K R :=
  ⟨fun _ _ _ a k q => wpAny_execs_cons (Assign_Tuple_swapped (h.go _ _ _ a fun _ _ _ _ r a => by
    obtain ⟨b, vs, rfl, hm, hl, r⟩ := r
    refine unpackItemsN_ (items := vs.toArray) a.F a.N ⟨_, (a.N _ hm).1, rfl, _, rfl⟩ (by with_unfolding_all rfl) (by rw [hl]; simp) fun h' F' N' => ?_
    exact puts_go _ _ (by rw [List.length_reverse]; simpa using hl) ok ⟨F', N'⟩ fun _ _ a => r.go _ _ _ a k q) hs hw)⟩

/-- a loop over a list, by what holds between the turns -/
theorem Run.forL {t iter : Expr} {body rest : List Stmt} {pos : Pos}
    (h : Ev C C.env m news iter fun v n => ∃ a vs k, ∃ J : List Value → Mp → Led → Prop, v = .ref a ∧ (a, lst vs k) ∈ n ∧ J vs m n ∧
      (∀ v vs' m n I oI, (a, lst vs k) ∈ n → J (v :: vs') m n → (∀ p ∈ n, p.1 ≠ I) → As C m ((I, oI) :: n) t v fun m n => Run C m n body (fun m' n₁ => ∃ n', (∀ p ∈ (I, oI) :: n', p ∈ n₁) ∧ (∀ p ∈ n', p.1 ≠ I) ∧ (a, lst vs k) ∈ n' ∧ J vs' m' n') R) ∧
      (∀ m n, (a, lst vs k) ∈ n → J [] m n → Run C m n rest K R))
    (hs : ∀ x, foldedSetIterable iter C.env x = pure x := by intro _; rfl) : Run C m news (.For t iter body [] pos :: rest) K R := by
  refine ⟨fun s Q E a kk q => wpAny_execs_cons (wpAny_noRaise (For_turns a.F (h.go _ _ _ a fun v n h₁ tk₁ r a₁ => ?_) hs PassesOwn.never))⟩
  obtain ⟨ax, vs, k, J, rfl, hm, hJ, turn, fin⟩ := r
  refine iter_listTurns (by with_unfolding_all rfl) a₁.F a₁.N hm rfl rfl fun I hI => ?_
  have go : ∀ (vs' : List Value) (m : Mp) (n : Led), (ax, lst vs k) ∈ n → (∀ p ∈ n, p.1 ≠ I) → J vs' m n →
      ItemsRest C.prog w C.A (fun _ _ => False) C.h₀ C.env t body (fun f s₁ => match f with | .next => wpAny (model C.prog w) C.A (execs rest C.env) Q E s₁ | f => Q f s₁) { s with heap := h₁, toks := tk₁ } [(I, "list_iterator")] [(ax, lst vs k)] (vs'.map .val) m n := by
    intro vs'
    induction vs' with
    | nil => exact fun m n hm hI hJ => ItemsRest.zero fun h tk F N => (fin m n hm hJ).go _ _ _ ⟨F, N⟩ kk q
    | cons v vs' ih =>
      refine fun m n hm hI hJ => ItemsRest.val fun h tk F oI ho N => ?_
      refine (turn v vs' m n I oI hm hJ hI).go _ _ _ ⟨F, N⟩ fun m₁ n₁ h₂ tk₂ r a₂ => r.go _ _ _ a₂ (fun m' n₂ h₃ tk₃ r a₃ => ?_) fun v m' n₂ h₃ tk₃ r a₃ => q _ _ _ _ _ r a₃
      obtain ⟨n', hs, ho', hm', hJ'⟩ := r
      exact ⟨h₃, tk₃, m', n', rfl, a₃.F, fun p hp => a₃.N p (hs p hp), fun p hp q hq => by rw [List.mem_singleton.mp hq]; exact ho' p hp, ⟨hm', trivial⟩, ih m' n' hm' ho' hJ'⟩
  exact go vs m n hm (fun p hp => Nat.ne_of_lt (hI p hp)) hJ
/-- a loop by a count that falls -/
theorem Run.while {t : Expr} {body rest : List Stmt} {pos : Pos} {N₀ : Nat} (J : Nat → Mp → Led → Prop) (h0 : J N₀ m news)
    (turn : ∀ n m₁ news₁, J n m₁ news₁ → ∃ b, Pt C C.env m₁ news₁ t b ∧ (b = true → Run C m₁ news₁ body (fun m' n' => ∃ k, k < n ∧ J k m' n') R) ∧ (b = false → Run C m₁ news₁ rest K R)) : Run C m news (.While t body [] pos :: rest) K R := by
  refine ⟨fun s Q E a kk q => wpAny_execs_cons (wpAny_noRaise (wpAny_While (codeAny_whileLoop (fun n s' => ∃ h₁ tk₁ m₁ news₁, s' = { s with heap := h₁, toks := tk₁ } ∧ At C m₁ news₁ h₁ ∧ J n m₁ news₁) ?_ N₀ ⟨s.heap, s.toks, m, news, rfl, a, h0⟩)))⟩
  rintro n s' ⟨h₁, tk₁, m₁, news₁, rfl, a₁, J₁⟩
  obtain ⟨b, p, h1, h2⟩ := turn n m₁ news₁ J₁
  refine p.use a₁ fun h₂ tk₂ a₂ => ?_
  cases b with
  | false => exact wpAny_execs_nil ((h2 rfl).go _ _ _ a₂ kk q)
  | true =>
    refine (h1 rfl).go _ _ _ a₂ (fun m' n' h tk r a' => ?_) (fun v m' n' h tk r a' => q _ _ _ _ _ r a')
    obtain ⟨k, hk, r⟩ := r
    exact ⟨k, hk, h, tk, m', n', rfl, a', r⟩
end
/-- x is an object of the class at c, with these fields -/
def Rec (G : Led) (c x : Addr) (fs : List (Str × Value)) : Prop := ∃ dx es n sl, (x, (⟨.ref c, some dx, .plain, sl⟩ : Obj)) ∈ G ∧ (dx, dictOf es n) ∈ G ∧ ∀ f ∈ fs, getL f.1 es = some (some f.2)
theorem Rec.mono {G G' : Led} {c x : Addr} {fs : List (Str × Value)} (r : Rec G c x fs) (h : ∀ p ∈ G, p ∈ G') : Rec G' c x fs := let ⟨dx, es, n, sl, a, b, k⟩ := r; ⟨dx, es, n, sl, h _ a, h _ b, k⟩
/-- two values, met in this ledger, are equal or not; d levels deep -/
def Eqv (G : Led) : Nat → Value → Value → Bool → Prop := fun d y x b => ∀ (A : Around) (s : Shared), (∀ p ∈ G, s.heap.get? p.1 = some p.2) → A.units + d < cLine → SeqAt.EqAt A s y x b
section
variable {G : Led} {d : Nat}
theorem Eqv.str {x y : Str} {t u : Tok} : Eqv G d (.str x t) (.str y u) (x == y) := fun _ _ _ _ => SeqAt.EqAt.str_str _ _ _ _
theorem Eqv.int {x y : Int} {t u : Tok} : Eqv G d (.int x t) (.int y u) (x == y) := fun _ _ _ _ => SeqAt.EqAt.int_int _ _ _ _
theorem Eqv.bool {x y : Bool} : Eqv G d (.bool x) (.bool y) (x == y) := fun _ _ _ _ => SeqAt.EqAt.bool_bool _ _
theorem Eqv.same {v : Value} : Eqv G d v v true := fun _ _ _ _ => SeqAt.EqAt.same v
/-- rows alike, item by item -/
inductive Eqs (G : Led) (d : Nat) : List Value → List Value → Prop
  | nil : Eqs G d [] []
  | cons {x y : Value} {xs ys : List Value} : Eqv G d x y true → Eqs G d xs ys → Eqs G d (x :: xs) (y :: ys)
theorem Eqs.len {xs ys : List Value} (e : Eqs G d xs ys) : xs.length = ys.length := by induction e with | nil => rfl | cons _ _ ih => exact congrArg (· + 1) ih
theorem Eqs.get {xs ys : List Value} (e : Eqs G d xs ys) : ∀ j (h1 : j < xs.length) (h2 : j < ys.length), Eqv G d xs[j] ys[j] true := by
  induction e with
  | nil => exact fun _ h => absurd h (Nat.not_lt_zero _)
  | cons h _ ih =>
    intro j h1 h2
    cases j with
    | zero => exact h
    | succ j => exact ih j (Nat.lt_of_succ_lt_succ h1) (Nat.lt_of_succ_lt_succ h2)
theorem all_true (n : Nat) : ((List.range n).all fun _ => true) = true := List.all_eq_true.mpr fun _ _ => rfl
theorem Eqv.tups {a b : Addr} {xs ys : List Value} (ha : (a, tup xs) ∈ G) (hb : (b, tup ys) ∈ G) (e : Eqs G d xs ys) : Eqv G (d + 1) (.ref a) (.ref b) true := fun A s h u => by
  by_cases hab : a = b
  · subst hab; exact SeqAt.EqAt.same _
  refine SeqAt.EqAt.of_refs hab ?_
  have := SeqAt.RcAt.tuples (A := A) (s := s) (items := xs.toArray) (items2 := ys.toArray) (e := fun _ => true) ⟨_, h _ ha, rfl, _, rfl⟩ ⟨_, h _ hb, rfl, _, rfl⟩ (by omega)
    (fun j h1 h2 => e.get j (by simpa using h1) (by simpa using h2) A.in1 s h (by show A.units + 1 + d < _; omega))
  rw [all_true, show xs.toArray.size = ys.toArray.size from by simpa using e.len] at this
  simpa using this
theorem Eqv.lsts {a b : Addr} {xs ys : List Value} {j k : Nat} (ha : (a, lst xs j) ∈ G) (hb : (b, lst ys k) ∈ G) (e : Eqs G d xs ys) : Eqv G (d + 1) (.ref a) (.ref b) true := fun A s h u => by
  by_cases hab : a = b
  · subst hab; exact SeqAt.EqAt.same _
  refine SeqAt.EqAt.of_refs hab ?_
  have := SeqAt.RcAt.lists (A := A) (s := s) (items := xs.toArray) (items2 := ys.toArray) (e := fun _ => true) ⟨_, h _ ha, rfl, _, rfl⟩ ⟨_, h _ hb, rfl, _, rfl⟩ (by simpa using e.len) (by omega)
    (fun j h1 h2 => e.get j (by simpa using h1) (by simpa using h2) A.in1 s h (by show A.units + 1 + d < _; omega))
  rw [all_true] at this
  exact this
end
section
variable {C : Cx w mean mg mb} {m : Mp} {news : Led} {env : Env} {K : Mp → Led → Prop} {R : Value → Led → Prop}
theorem At.got {h : Heap} (a : At C m news h) : ∀ p ∈ news, h.get? p.1 = some p.2 := fun p hp => (a.N p hp).1
theorem Po.eqL {a b : Addr} {xs ys : List Value} {j k d : Nat} (ha : (a, lst xs j) ∈ news) (hb : (b, lst ys k) ∈ news) (e : Eqs news d xs ys) (r : C.room 1) (hd : d < 7 := by decide) : Po C m news (compareOp .Eq (.ref a) (.ref b)) (fun _ => .bool true) :=
  .of fun _ _ _ at_ q => by
    have u : C.A.units = C.D.un := rfl
    have := r.u
    refine SeqAt.eq_listAt (items := xs.toArray) (items2 := ys.toArray) (e := fun _ => true) ⟨_, (at_.N _ ha).1, rfl, _, rfl⟩ ⟨_, (at_.N _ hb).1, rfl, _, rfl⟩ (by simpa using e.len) (by omega)
      (fun j h1 h2 => e.get j (by simpa using h1) (by simpa using h2) _ _ at_.got (by show C.D.un + 1 + d < _; omega)) ?_
    rw [all_true]
    exact q _ _ 0 at_
theorem Po.eqL' {a b : Addr} {xs ys : List Value} {j k : Nat} (ha : (a, lst xs j) ∈ news) (hb : (b, lst ys k) ∈ news) (e : (xs.length != ys.length) = true) (r : C.room 1) : Po C m news (compareOp .Eq (.ref a) (.ref b)) (fun _ => .bool false) :=
  .of fun _ _ _ at_ q => by
    have u : C.A.units = C.D.un := rfl
    have := r.u
    exact SeqAt.eq_list_lengthsAt (items := xs.toArray) (items2 := ys.toArray) ⟨_, (at_.N _ ha).1, rfl, _, rfl⟩ ⟨_, (at_.N _ hb).1, rfl, _, rfl⟩ (by simpa using e) (by omega) (q _ _ 0 at_)
theorem Po.neL {a b : Addr} {xs ys : List Value} {j k d : Nat} (ha : (a, lst xs j) ∈ news) (hb : (b, lst ys k) ∈ news) (e : Eqs news d xs ys) (r : C.room 1) (hd : d < 7 := by decide) : Po C m news (compareOp .NotEq (.ref a) (.ref b)) (fun _ => .bool false) :=
  .of fun _ _ _ at_ q => by
    have u : C.A.units = C.D.un := rfl
    have := r.u
    refine SeqAt.RcNeAt.lists (items := xs.toArray) (items2 := ys.toArray) (e := fun _ => true) ⟨_, (at_.N _ ha).1, rfl, _, rfl⟩ ⟨_, (at_.N _ hb).1, rfl, _, rfl⟩ (by simpa using e.len) (by omega)
      (fun j h1 h2 => e.get j (by simpa using h1) (by simpa using h2) _ _ at_.got (by show C.D.un + 1 + d < _; omega)) _ _ _ _ ?_
    rw [all_true]
    exact q _ _ 0 at_
theorem Po.neL' {a b : Addr} {xs ys : List Value} {j k : Nat} (ha : (a, lst xs j) ∈ news) (hb : (b, lst ys k) ∈ news) (e : (xs.length != ys.length) = true) (r : C.room 1) : Po C m news (compareOp .NotEq (.ref a) (.ref b)) (fun _ => .bool true) :=
  .of fun _ _ _ at_ q => by
    have u : C.A.units = C.D.un := rfl
    have := r.u
    exact SeqAt.RcNeAt.lists_lengths (items := xs.toArray) (items2 := ys.toArray) ⟨_, (at_.N _ ha).1, rfl, _, rfl⟩ ⟨_, (at_.N _ hb).1, rfl, _, rfl⟩ (by simpa using e) (by omega) _ _ _ _ (q _ _ 0 at_)
/-- a text among a tuple's items -/
theorem Po.inT {a : Addr} {vs : List Value} {x : Str} {t : Tok} (f : Value → Bool) (ha : (a, tup vs) ∈ news) (hf : ∀ y ∈ vs, Eqv news 0 y (.str x t) (f y)) (r : C.room 1) : Po C m news (compareOp .In (.str x t) (.ref a)) (fun _ => .bool (vs.any f)) :=
  .of fun _ _ _ at_ q => by
    have := r.u
    refine SeqAt.in_tupleAt (items := vs.toArray) f ⟨_, (at_.N _ ha).1, rfl, _, rfl⟩ (fun y hy => hf y (by simpa using hy) _ _ at_.got (by show C.D.un + 1 + 0 < _; omega)) ?_
    have e : vs.toArray.any f = vs.any f := by simp
    rw [e]
    exact q _ _ 0 at_
theorem Po.notInL {a : Addr} {vs : List Value} {k : Nat} {x : Value} (f : Value → Bool) (ha : (a, lst vs k) ∈ news) (hf : ∀ y ∈ vs, Eqv news 0 y x (f y)) (r : C.room 1) : Po C m news (compareOp .NotIn x (.ref a)) (fun _ => .bool (!vs.any f)) :=
  .of fun _ _ _ at_ q => by
    have := r.u
    refine SeqAt.notIn_listAt (items := vs.toArray) f ⟨_, (at_.N _ ha).1, rfl, _, rfl⟩ (fun y hy => hf y (by simpa using hy) _ _ at_.got (by show C.D.un + 1 + 0 < _; omega)) ?_
    have e : vs.toArray.any f = vs.any f := by simp
    rw [e]
    exact q _ _ 0 at_
def isS (x : Str) : Value → Bool
  | .str y _ => y == x
  | _ => false
def strsV : List Str → (Nat → Tok) → List Value
  | [], _ => []
  | x :: xs, τ => .str x (τ 0) :: strsV xs fun i => τ (i + 1)
theorem strsV_any (x : Str) : ∀ (xs : List Str) (τ : Nat → Tok), (strsV xs τ).any (isS x) = xs.any (· == x)
  | [], _ => rfl
  | y :: ys, τ => by
    show ((y == x) || (strsV ys _).any _) = _
    rw [strsV_any x ys]
    rfl
theorem strsV_eqv (G : Led) (x : Str) (t : Tok) : ∀ (xs : List Str) (τ : Nat → Tok), ∀ y ∈ strsV xs τ, Eqv G 0 y (.str x t) (isS x y)
  | [], _, _, h => nomatch h
  | y :: ys, τ, v, h => by
    rcases List.mem_cons.mp h with rfl | h
    · exact Eqv.str
    · exact strsV_eqv G x t ys _ v h

/-! tests with a trace -/
variable {RB : Bool → Led → Prop}
theorem Et.pt {e : Expr} {b : Bool} (p : Pt C env m news e b) (k : RB b news) : Et C env m news e RB := ⟨fun _ _ _ a q => p.use a fun _ _ a => q _ _ _ _ k a⟩
theorem Pt.et {e : Expr} {b : Bool} (p : Et C env m news e fun b' n => b' = b ∧ ∀ q ∈ news, q ∈ n) : Pt C env m news e b := .mk' fun _ _ _ a q => p.go _ _ _ a fun _ _ _ _ r a => by obtain ⟨rfl, s⟩ := r; exact q _ _ (a.sub s)
theorem Pe.ev {e : Expr} {v : Value} (p : Ev C env m news e fun v' n => v' = v ∧ ∀ q ∈ news, q ∈ n) : Pe C env m news e (fun _ => v) := .of fun _ _ _ a q => p.go _ _ _ a fun _ _ _ _ r a => by obtain ⟨rfl, s⟩ := r; exact q _ _ 0 (a.sub s)
theorem Et.not {e : Expr} {pos : Pos} (p : Et C env m news e fun b n => RB (!b) n) : Et C env m news (.UnaryOp .Not e pos) RB := ⟨fun _ _ _ a q => isTrue_not (p.go _ _ _ a fun _ _ _ _ r a => q _ _ _ _ r a)⟩
theorem Et.orN {pos : Pos} (k : RB false news) : Et C env m news (.BoolOp .Or [] pos) RB := ⟨fun _ _ _ a q => isTrue_or_nil (q _ _ _ _ k a)⟩
theorem Et.or {e : Expr} {es : List Expr} {pos : Pos} (p : Et C env m news e fun b n => (b = true → RB true n) ∧ (b = false → Et C env m n (.BoolOp .Or es pos) RB)) : Et C env m news (.BoolOp .Or (e :: es) pos) RB :=
  ⟨fun _ _ _ a q => isTrue_or (p.go _ _ _ a fun b _ _ _ r a => by
    cases b with
    | true => exact q _ _ _ _ (r.1 rfl) a
    | false => exact (r.2 rfl).go _ _ _ a q)⟩
theorem Et.andN {pos : Pos} (k : RB true news) : Et C env m news (.BoolOp .And [] pos) RB := ⟨fun _ _ _ a q => isTrue_and_nil (q _ _ _ _ k a)⟩
theorem Et.and {e : Expr} {es : List Expr} {pos : Pos} (p : Et C env m news e fun b n => (b = false → RB false n) ∧ (b = true → Et C env m n (.BoolOp .And es pos) RB)) : Et C env m news (.BoolOp .And (e :: es) pos) RB :=
  ⟨fun _ _ _ a q => isTrue_and (p.go _ _ _ a fun b _ _ _ r a => by
    cases b with
    | false => exact q _ _ _ _ (r.1 rfl) a
    | true => exact (r.2 rfl).go _ _ _ a q)⟩
theorem Et.val {e : Expr} (p : Ev C env m news e fun v n => ∃ b, v = .bool b ∧ RB b n) (he : isTrue e env (eval e env) = (do let v ← eval e env; standAt e.pos; holding [v] (truthy v)) := by rfl) : Et C env m news e RB :=
  ⟨fun _ _ _ a q => isTrue_plain (p.go _ _ _ a fun _ _ _ _ r a => by obtain ⟨b, rfl, r⟩ := r; exact wpAny_truthy_bool (q _ _ _ _ r a)) he⟩
theorem Et.cmp {l r : Expr} {op : CmpOp} {pos : Pos} (p : Ev C env m news l fun v n => Ev C env m n r fun u n' => ∃ b, Po C m n' (compareOp op v u) (fun _ => .bool b) ∧ RB b n')
    (hm : behindInMarks op r = false := by with_unfolding_all rfl) : Et C env m news (.Compare l [op] [r] pos) RB :=
  ⟨fun _ _ _ a q => wpAny_isTrue_Compare1 (p.go _ _ _ a fun _ _ _ _ r a => r.go _ _ _ a fun _ _ _ _ r a => by obtain ⟨b, o, r⟩ := r; exact o.use a fun _ _ _ a => wpAny_truthy_bool (q _ _ _ _ r a)) hm⟩
theorem Ev.cmp {l r : Expr} {op : CmpOp} {pos : Pos} (p : Ev C env m news l fun v n => Ev C env m n r fun u n' => ∃ b, Po C m n' (compareOp op v u) (fun _ => .bool b) ∧ R (.bool b) n')
    (hm : behindInMarks op r = false := by with_unfolding_all rfl) : Ev C env m news (.Compare l [op] [r] pos) R :=
  ⟨fun _ _ _ a q => wpAny_Compare1 (p.go _ _ _ a fun _ _ _ _ r a => r.go _ _ _ a fun _ _ _ _ r a => by obtain ⟨b, o, r⟩ := r; exact o.use a fun _ _ _ a => q _ _ _ _ r a) hm⟩
/-- a text among written texts -/
theorem Pt.inS {l : Expr} {es : List Expr} {j : Nat} {tp pos : Pos} {x : Str} {t : Tok} {xs : List Str} {b : Bool} (p : Pe C env m news l (fun _ => .str x t)) (q : Pl C env m news es (strsV xs)) (hb : xs.any (· == x) = b) (r : C.room 1) (hl : ∀ τ, Nat.ble (strsV xs τ).length 100 = true)
    (hm : behindInMarks .In (.Tuple es j tp) = false := by with_unfolding_all rfl) : Pt C env m news (.Compare l [.In] [.Tuple es j tp] pos) b :=
  Pt.et (Et.cmp (Ev.pe p fun _ => Ev.tuple q (fun τ a _ => ⟨b, by
    have := Po.inT (C := C) (m := m) (news := news ++ [(a, tup (strsV xs τ))]) (x := x) (t := t) (isS x) mem_e (strsV_eqv _ x t xs τ) r
    rw [strsV_any, hb] at this
    exact this, rfl, mem_l⟩) hl) hm)
theorem Run.ifEt {t : Expr} {body orelse rest : List Stmt} {pos : Pos} (p : Et C C.env m news t fun b n => (b = true → Run C m n body (fun m' n' => Run C m' n' rest K R) R) ∧ (b = false → Run C m n orelse (fun m' n' => Run C m' n' rest K R) R)) :
    Run C m news (.If t body orelse pos :: rest) K R :=
  ⟨fun _ _ _ a k q => by
    refine wpAny_execs_cons (wpAny_If (p.go _ _ _ a fun b _ _ _ r a => ?_))
    cases b with
    | true => exact (r.1 rfl).go _ _ _ a (fun _ _ _ _ r a => r.go _ _ _ a k q) q
    | false => exact (r.2 rfl).go _ _ _ a (fun _ _ _ _ r a => r.go _ _ _ a k q) q⟩
theorem Run.ifEt' {t : Expr} {body rest : List Stmt} {pos : Pos} (p : Et C C.env m news t fun b n => (b = true → Run C m n body (fun m' n' => Run C m' n' rest K R) R) ∧ (b = false → Run C m n rest K R)) : Run C m news (.If t body [] pos :: rest) K R :=
  Run.ifEt ⟨fun _ _ _ a q => p.go _ _ _ a fun b n _ _ r a => q b n _ _ ⟨r.1, fun h => .nil (r.2 h)⟩ a⟩

/-! attributes and lengths -/
theorem Pe.attr {e : Expr} {attr : Str} {pos : Pos} {c x : Addr} {fs : List (Str × Value)} {v : Value} {av : Option Value} (p : Pe C env m news e (fun _ => .ref x)) (hr : Rec news c x fs) (hf : (attr, v) ∈ fs) (hg : plainGet (hk.heap_39 w.params) c attr = true) (hh : hasDictIn (hk.heap_39 w.params) c = true)
    (ha : findIn (hk.heap_39 w.params) (.ref c) attr = some av) (hn : noGet (hk.heap_39 w.params) av = true) (hv : handedIn v = true)
    (he : eval (.Attribute e attr pos) env = (do
      let o ← eval e env
      standAt pos.atName
      let r ← holding [o] (getAttr o attr true)
      letTemporaryGo e o r
      pure r) := by with_unfolding_all rfl) : Pe C env m news (.Attribute e attr pos) (fun _ => v) :=
  .of fun _ _ _ a q => by
    obtain ⟨dx, es, n, sl, h1, h2, k⟩ := hr
    exact Attribute_any_ (p.use a fun _ _ _ a => get_own a.F C.D.X (InstAt.of_news a.N h1 h2) hg hh ha hn (k _ hf) hv (q _ _ 0 a)) he
theorem Pe.call1 {x : Str} {id : String} {np pos : Pos} {e : Expr} {f g : Tok → Value} (p : Pe C env m news e f) (hx : bootBuiltins x = some (.builtin id)) (hm : nsIn (hk.heap_39 w.params) mainGlobals x = some Option.none) (ok : gloOk env x = true)
    (h : ∀ t, Po C m news (call (.builtin id) [f t]) g) (hn : x ≠ "__name__" := by decide) (hg : env.globals = mainGlobals := by rfl) (hb : env.builtins = builtinsNs := by rfl) (he : starEach [e] env = (false, eval e env) :: starEach [] env := by rfl)
    (hc : eval (.Call (.Name x np) [e] [] pos) env = (do callWith pos (← eval (.Name x np) env) [] (backTo pos (starEach [e] env)) (backToKw pos (keywordEach [] env))) := by rfl) : Pe C env m news (.Call (.Name x np) [e] [] pos) g :=
  .of fun _ _ _ a q => by
    refine Call_ ((Pe.blt hm hx hn ok hg hb).use a fun _ _ _ a => ?_) hc
    exact callWith_builtin1 (args_cons (p.use a fun _ _ t a => args_nil ((h t).use a fun _ _ _ a => q _ _ _ a)) he) he rfl
theorem Po.lenT {a : Addr} {vs : List Value} (ha : (a, tup vs) ∈ news) (hl : Nat.ble vs.length 100 = true) : Po C m news (call (.builtin "len") [.ref a]) (fun t => .int vs.length t) :=
  .of fun _ _ _ at_ q => PyProof.Rows.len_tuple (items := vs.toArray) ⟨_, (at_.N _ ha).1, rfl, _, rfl⟩ (by have := Nat.le_of_ble_eq_true hl; rw [List.size_toArray]; omega) (by rw [List.size_toArray]; exact q _ _ _ at_)
theorem Po.lenL {a : Addr} {vs : List Value} {k : Nat} (ha : (a, lst vs k) ∈ news) (hl : Nat.ble vs.length 100 = true) : Po C m news (call (.builtin "len") [.ref a]) (fun t => .int vs.length t) :=
  .of fun _ _ _ at_ q => Calls.call_len_list (items := vs.toArray) ⟨_, (at_.N _ ha).1, rfl, _, rfl⟩ (by have := Nat.le_of_ble_eq_true hl; rw [List.size_toArray]; omega) (by rw [List.size_toArray]; exact q _ _ _ at_)
end
section
variable {C : Cx w mean mg mb} {m : Mp} {news : Led} {env : Env}
theorem Pt.neS {l r : Expr} {pos : Pos} {x y : Str} {f g : Tok → Tok} {b : Bool} (p : Pe C env m news l (fun t => .str x (f t))) (q : Pe C env m news r (fun t => .str y (g t))) (hb : (x != y) = b) (hm : behindInMarks .NotEq r = false := by with_unfolding_all rfl) : Pt C env m news (.Compare l [.NotEq] [r] pos) b := Pt.cmp p q (fun _ _ => hb ▸ Po.neS) hm
theorem Po.neIb {x y : Int} {t u : Tok} {b : Bool} (hb : (x != y) = b) : Po C m news (compareOp .NotEq (.int x t) (.int y u)) (fun _ => .bool b) := hb ▸ Po.neI
theorem Pl.strsN : Pl C env m news [] (strsV []) := Pl.nil
theorem Pl.strsC {x : Str} {xs : List Str} {j : Nat} {ep : Pos} {es : List Expr} (q : Pl C env m news es (strsV xs)) (he : starEach (.Constant (.str x) j ep :: es) env = (false, eval (.Constant (.str x) j ep) env) :: starEach es env := by rfl) : Pl C env m news (.Constant (.str x) j ep :: es) (strsV (x :: xs)) := Pl.cons Pe.str q he
theorem Pe.lenT {e : Expr} {np pos : Pos} {a : Addr} {vs : List Value} (p : Pe C env m news e (fun _ => .ref a)) (ha : (a, tup vs) ∈ news) (hl : Nat.ble vs.length 100 = true) (hm : nsIn (hk.heap_39 w.params) mainGlobals (Str.ofString "len") = some Option.none) (ok : gloOk env (Str.ofString "len") = true)
    (hg : env.globals = mainGlobals := by rfl) (hb : env.builtins = builtinsNs := by rfl) (he : starEach [e] env = (false, eval e env) :: starEach [] env := by rfl)
    (hc : eval (.Call (.Name (Str.ofString "len") np) [e] [] pos) env = (do callWith pos (← eval (.Name (Str.ofString "len") np) env) [] (backTo pos (starEach [e] env)) (backToKw pos (keywordEach [] env))) := by rfl) : Pe C env m news (.Call (.Name (Str.ofString "len") np) [e] [] pos) (fun t => .int vs.length t) :=
  Pe.call1 p bootS_len hm ok (fun _ => Po.lenT ha hl) (by decide) hg hb he hc
end
local macro_rules | `(tactic| walk_at "pt") => `(tactic| (refine' Pt.neS ?p ?q ?x; (case p => walk_at "pe"); (case q => walk_at "pe"); (case x => exact rfl)))
section
variable {prog : Program} {A : Around} {E : Value → Shared → Prop} {s : Shared}
open Builtin.SmallTypes in
theorem nextT_item {it t : Addr} {i : Nat} {items : Array Value} {x : Value} {Q : Value → Shared → Prop} (hit : s.heap.IsTupleIter it t i) (ht : s.heap.IsTuple t items) (hx : items[i]? = some x)
    (hQ : ∀ h', h'.IsTupleIter it t (i + 1) → Heap.SameBut it s.heap h' → Q x { s with heap := h' }) : wpAny (model prog w) A (nextOf (.ref it)) Q E s := by
  obtain ⟨o, ho, hc, hd⟩ := id hit
  obtain ⟨ol, hol, _, nl, hdl⟩ := ht
  unfold nextOf
  refine wpAny_bind (wpAny_callSpecial?_slot (name := Str.ofString "__next__") hit.typeIs F.slot_tuple_iterator_next (wpAny_call_entry F.slot_tuple_iterator_next hit.typeIs F.entry_tuple_iterator_next ?_ (F.args_tuple_iterator_next_1 _)))
  refine wpAny_bind (m := field (.ref it) 0) (wpAny_field ho hd (x := .ref t) rfl ?_)
  show wpAny _ _ (if (Value.ref t == Value.none) = true then _ else _) _ _ s
  rw [if_neg (show ¬ ((Value.ref t == Value.none) = true) from Bool.false_ne_true)]
  refine wpAny_bind (m := field (.ref it) 1) (wpAny_field ho hd (x := .int i 0) rfl ?_)
  refine wpAny_bind (m := seqItems? (.ref t)) (wpAny_seqItems hol hdl ?_)
  simp only [Int.toNat_natCast, hx]
  refine wpAny_bind (wpAny_setField ho hd (by simp) (wpAny_pure ⟨x, rfl, wpAny_pure (hQ _ ?_ (Heap.SameBut.update ..))⟩))
  exact ⟨_, Heap.get?_update_self _ ho (Obj.isFreed_of_fields (Obj.data_mapFields hd _)), (Obj.cls_mapFields ..).trans hc, by rw [Obj.data_mapFields hd]; simp [rawInt]⟩
open Builtin.SmallTypes in
theorem nextT_end {it t : Addr} {i : Nat} {items : Array Value} {Q : Value → Shared → Prop} (hh : A.handled = none) (hit : s.heap.IsTupleIter it t i) (ht : s.heap.IsTuple t items) (hx : items[i]? = none)
    (hE : ∀ h' e, Heap.ExtBut it s.heap h' → (∃ o, h'.get? e = some o ∧ o.cls = .type "StopIteration") → E (.ref e) { s with heap := h' }) : wpAny (model prog w) A (nextOf (.ref it)) Q E s := by
  obtain ⟨o, ho, hc, hd⟩ := id hit
  obtain ⟨ol, hol, _, nl, hdl⟩ := ht
  unfold nextOf
  refine wpAny_bind (wpAny_callSpecial?_slot (name := Str.ofString "__next__") hit.typeIs F.slot_tuple_iterator_next (wpAny_call_entry F.slot_tuple_iterator_next hit.typeIs F.entry_tuple_iterator_next ?_ (F.args_tuple_iterator_next_1 _)))
  refine wpAny_bind (m := field (.ref it) 0) (wpAny_field ho hd (x := .ref t) rfl ?_)
  show wpAny _ _ (if (Value.ref t == Value.none) = true then _ else _) _ _ s
  rw [if_neg (show ¬ ((Value.ref t == Value.none) = true) from Bool.false_ne_true)]
  refine wpAny_bind (m := field (.ref it) 1) (wpAny_field ho hd (x := .int i 0) rfl ?_)
  refine wpAny_bind (m := seqItems? (.ref t)) (wpAny_seqItems hol hdl ?_)
  simp only [Int.toNat_natCast, hx]
  refine wpAny_bind (wpAny_rule (wpAny_bind (wpAny_setField ho hd (by simp) ?_)))
  show wpAny _ _ (newExc (.type "StopIteration") [] >>= _) _ _ _
  refine wpAny_bind ?_
  simp only [newExc, newTuple]
  refine wpAny_bind (wpAny_newObj_type ?_ (by size_fits))
  refine wpAny_bind (m := firstArgMember _ _) (wpAny_of_eq (a := Value.none) (by first | rfl | (simp only [firstArgMember]; rfl)) ?_)
  refine wpAny_newObj_type ?_ (by size_fits)
  simp only [raiseNew]
  refine wpAny_bind (wpAny_handled ?_)
  first | rw [show A.in1.handled = none from hh] | rw [hh]
  refine wpAny_bind (wpAny_pure (wpAny_throw ?_))
  exact hE _ _ (((Heap.SameBut.update ..).extBut.push _).push _) ⟨_, Heap.get?_push_size _ rfl, rfl⟩
/-- what a zip of two tuples stands on -/
def ZSt (z TI TO i1 i2 l1 l2 : Addr) (xs ys : Array Value) (f : Value) (i : Nat) (h : Heap) : Prop :=
  IsZip h z TI TO f ∧ IsPair h TI (.ref i1) (.ref i2) ∧ (∃ a b, IsPair h TO a b) ∧ h.IsTupleIter i1 l1 i ∧ h.IsTupleIter i2 l2 i ∧ h.IsTuple l1 xs ∧ h.IsTuple l2 ys
open Builtin.SmallTypes in
theorem zipT_item {z TI TO i1 i2 l1 l2 : Addr} {k : Nat} {xs ys : Array Value} {x y : Value} {Q : Option Value → Shared → Prop} (D : ZipApart z TI TO i1 i2 l1 l2) (st : ZSt z TI TO i1 i2 l1 l2 xs ys .none k s.heap) (hx : xs[k]? = some x) (hy : ys[k]? = some y)
    (hQ : ∀ h', ZSt z TI TO i1 i2 l1 l2 xs ys (rawInt s.heap.objs.size) (k + 1) h' → IsPair h' s.heap.objs.size x y → (∀ c o, c ≠ z → c ≠ TO → c ≠ i1 → c ≠ i2 → s.heap.get? c = some o → h'.get? c = some o) → Q (some (.ref s.heap.objs.size)) { s with heap := h' }) :
    wpAny (model prog w) A (pyNext (.ref z)) Q E s := by
  obtain ⟨hz, hTI, ⟨a, b, hTO⟩, h1, h2, hl1, hl2⟩ := st
  have hT : s.TypeIs (.ref z) "zip" := ⟨_, hz, rfl⟩
  unfold pyNext
  refine wpAny_bind (wpAny_attempt (wpAny_callSpecial?_slot (name := Str.ofString "__next__") hT F.slot_zip_next (wpAny_call_entry F.slot_zip_next hT F.entry_zip_next ?_ (F.args_zip_next_1 _))))
  refine wpAny_bind (m := field (.ref z) 2) (wpAny_field hz rfl (x := .bool false) rfl ?_)
  refine wpAny_bind (m := field (.ref z) 3) (wpAny_field hz rfl (x := .ref TI) rfl ?_)
  refine wpAny_bind (wpAny_seqItems hTI rfl ?_)
  refine wpAny_bind (m := ownedTupleIsFree (.ref z)) ?_
  unfold ownedTupleIsFree
  refine wpAny_bind (wpAny_field hz rfl (x := .none) rfl (wpAny_pure ?_))
  simp only [if_true]
  refine wpAny_bind (wpAny_rule ?_)
  refine wpAny_bind (wpAny_field hz rfl (x := .ref TO) rfl ?_)
  refine wpAny_bind (wpAny_setField_rec hz (by simp) fun h₁ hz₁ hs₁ => ?_)
  replace hz₁ : IsZip h₁ z TI TO .ellipsis := hz₁
  refine wpAny_bind ?_
  simp only [List.zipIdx_cons, List.zipIdx_nil, List.forIn_cons, List.forIn_nil]
  refine wpAny_bind (wpAny_bind (wpAny_onRaise ?_))
  refine wpAny_bind (m := nextOf (.ref i1)) (nextT_item (h1.extBut hs₁.extBut D.i1z) (hl1.extBut hs₁.extBut D.l1z) hx fun h₂ h1₂ hs₂ => wpAny_pure ?_)
  have hTO₂ : IsPair h₂ TO a b := hs₂.extBut _ _ D.TOi1 (hs₁.extBut _ _ D.TOz hTO)
  refine wpAny_bind (wpAny_seqItems hTO₂ rfl ?_)
  refine wpAny_bind (wpAny_updateSeq_pair hTO₂ fun h₃ hTO₃ hs₃ => ?_)
  replace hTO₃ : IsPair h₃ TO x b := hTO₃
  refine wpAny_bind (wpAny_letGo (wpAny_pure ?_))
  refine wpAny_bind (wpAny_bind (wpAny_onRaise ?_))
  refine wpAny_bind (m := nextOf (.ref i2)) (nextT_item (((h2.extBut hs₁.extBut D.i2z).extBut hs₂.extBut D.i12.symm).extBut hs₃.extBut D.TOi2.symm) (((hl2.extBut hs₁.extBut D.l2z).extBut hs₂.extBut D.l2i1).extBut hs₃.extBut D.l2TO) hy fun h₄ h2₄ hs₄ => wpAny_pure ?_)
  have hTO₄ : IsPair h₄ TO x b := hs₄.extBut _ _ D.TOi2 hTO₃
  refine wpAny_bind (wpAny_seqItems hTO₄ rfl ?_)
  refine wpAny_bind (wpAny_updateSeq_pair hTO₄ fun h₅ hTO₅ hs₅ => ?_)
  replace hTO₅ : IsPair h₅ TO x y := hTO₅
  refine wpAny_bind (wpAny_letGo (wpAny_pure (wpAny_pure ?_)))
  refine wpAny_bind (wpAny_seqItems hTO₅ rfl ?_)
  refine wpAny_bind (wpAny_newTuple ?_)
  have hsz : h₅.objs.size = s.heap.objs.size := by rw [hs₅.1, hs₄.1, hs₃.1, hs₂.1, hs₁.1]
  have hz₅ : IsZip h₅ z TI TO .ellipsis := hs₅.extBut _ _ D.TOz.symm (hs₄.extBut _ _ D.i2z.symm (hs₃.extBut _ _ D.TOz.symm (hs₂.extBut _ _ D.i1z.symm hz₁)))
  have hk₅ : ∀ c o, c ≠ z → c ≠ TO → c ≠ i1 → c ≠ i2 → s.heap.get? c = some o → h₅.get? c = some o := fun c o c1 c2 c3 c4 e => hs₅.extBut _ _ c2 (hs₄.extBut _ _ c4 (hs₃.extBut _ _ c2 (hs₂.extBut _ _ c3 (hs₁.extBut _ _ c1 e))))
  have h1₅ : h₅.IsTupleIter i1 l1 (k + 1) := ((h1₂.extBut hs₃.extBut D.TOi1.symm).extBut hs₄.extBut D.i12).extBut hs₅.extBut D.TOi1.symm
  have h2₅ : h₅.IsTupleIter i2 l2 (k + 1) := h2₄.extBut hs₅.extBut D.TOi2.symm
  have hzlt : z < h₅.objs.size := Heap.lt_size hz₅
  refine wpAny_bind (m := ownedTupleHandOut (.ref z) (.ref h₅.objs.size)) ?_
  unfold ownedTupleHandOut
  have hz₆ : IsZip (h₅.push { cls := .type "tuple", data := .seq #[x, y] }) z TI TO .ellipsis := Heap.get?_push_of_some _ hz₅
  refine wpAny_bind (wpAny_setField_rec hz₆ (by simp) fun h₇ hz₇ hs₇ => ?_)
  replace hz₇ : IsZip h₇ z TI TO (rawInt h₅.objs.size) := hz₇
  refine wpAny_setField_rec hz₇ (by simp) fun h₈ hz₈ hs₈ => ?_
  replace hz₈ : IsZip h₈ z TI TO (rawInt h₅.objs.size) := hz₈
  have up : ∀ c o, c ≠ z → h₅.get? c = some o → h₈.get? c = some o := fun c o c1 e => hs₈.extBut _ _ c1 (hs₇.extBut _ _ c1 (Heap.get?_push_of_some _ e))
  have hT₈ : IsPair h₈ h₅.objs.size x y := hs₈.extBut _ _ (Nat.ne_of_gt hzlt) (hs₇.extBut _ _ (Nat.ne_of_gt hzlt) (Heap.get?_push_size _ rfl))
  rw [hsz] at hz₈ hT₈
  refine wpAny_pure ⟨_, rfl, ?_⟩
  show wpAny _ _ (pure (some (Value.ref h₅.objs.size))) _ _ _
  rw [hsz]
  have hk : ∀ c o, c ≠ z → c ≠ TO → c ≠ i1 → c ≠ i2 → s.heap.get? c = some o → h₈.get? c = some o := fun c o c1 c2 c3 c4 e => up c o c1 (hk₅ c o c1 c2 c3 c4 e)
  exact wpAny_pure (hQ h₈ ⟨hz₈, hk _ _ D.TIz D.TITO D.TIi1 D.TIi2 hTI, ⟨_, _, up _ _ D.TOz hTO₅⟩, h1₅.at fun o e => up _ o D.i1z e, h2₅.at fun o e => up _ o D.i2z e, hl1.at fun o e => hk _ o D.l1z D.l1TO D.l1i1 D.l1i2 e, hl2.at fun o e => hk _ o D.l2z D.l2TO D.l2i1 D.l2i2 e⟩ hT₈ hk)
open Builtin.SmallTypes in
theorem zipT_end {z TI TO i1 i2 l1 l2 : Addr} {k : Nat} {xs ys : Array Value} {Q : Option Value → Shared → Prop} (hh : A.handled = none) (D : ZipApart z TI TO i1 i2 l1 l2) (st : ZSt z TI TO i1 i2 l1 l2 xs ys .none k s.heap) (hx : xs[k]? = none)
    (hQ : ∀ h', (∀ c o, c ≠ z → c ≠ i1 → s.heap.get? c = some o → h'.get? c = some o) → Q none { s with heap := h' }) : wpAny (model prog w) A (pyNext (.ref z)) Q E s := by
  obtain ⟨hz, hTI, ⟨a, b, hTO⟩, h1, h2, hl1, hl2⟩ := st
  have hT : s.TypeIs (.ref z) "zip" := ⟨_, hz, rfl⟩
  unfold pyNext
  refine wpAny_bind (wpAny_attempt (wpAny_callSpecial?_slot (name := Str.ofString "__next__") hT F.slot_zip_next (wpAny_call_entry F.slot_zip_next hT F.entry_zip_next ?_ (F.args_zip_next_1 _))))
  refine wpAny_bind (m := field (.ref z) 2) (wpAny_field hz rfl (x := .bool false) rfl ?_)
  refine wpAny_bind (m := field (.ref z) 3) (wpAny_field hz rfl (x := .ref TI) rfl ?_)
  refine wpAny_bind (wpAny_seqItems hTI rfl ?_)
  refine wpAny_bind (m := ownedTupleIsFree (.ref z)) ?_
  unfold ownedTupleIsFree
  refine wpAny_bind (wpAny_field hz rfl (x := .none) rfl (wpAny_pure ?_))
  simp only [if_true]
  refine wpAny_bind (wpAny_rule ?_)
  refine wpAny_bind (wpAny_field hz rfl (x := .ref TO) rfl ?_)
  refine wpAny_bind (wpAny_setField_rec hz (by simp) fun h₁ hz₁ hs₁ => ?_)
  replace hz₁ : IsZip h₁ z TI TO .ellipsis := hz₁
  refine wpAny_bind ?_
  simp only [List.zipIdx_cons, List.zipIdx_nil, List.forIn_cons, List.forIn_nil]
  refine wpAny_bind (wpAny_bind (wpAny_onRaise ?_))
  refine wpAny_bind (m := nextOf (.ref i1)) (nextT_end hh (h1.extBut hs₁.extBut D.i1z) (hl1.extBut hs₁.extBut D.l1z) hx fun h₂ e hs₂ he => ?_)
  obtain ⟨oe, hoe, hce⟩ := he
  have hz₂ : IsZip h₂ z TI TO .ellipsis := hs₂ _ _ D.i1z.symm hz₁
  have hez : e ≠ z := fun x => by subst x; rw [hz₂] at hoe; cases hoe; simp at hce
  refine wpAny_setField_rec hz₂ (by simp) fun h₃ _ hs₃ => ?_
  refine wpAny_bind (wpAny_isInstance (T := "StopIteration") (b := true) ⟨oe, hs₃.extBut _ _ hez hoe, hce⟩ isSubtype_stop ?_)
  exact wpAny_pure (hQ _ fun c o c1 c3 x => hs₃.extBut _ _ c1 (hs₂ _ _ c3 (hs₁.extBut _ _ c1 x)))
theorem zipT_turns (hh : A.handled = none) {elts : List Expr} {kk : Nat} {pos : Pos} (z TI TO i1 i2 l1 l2 : Addr) (D : ZipApart z TI TO i1 i2 l1 l2) (xs ys : Array Value) (hn : xs.size = ys.size) :
    KTurns prog w A (.Tuple elts kk pos) z [z, TI, TO, i1, i2, l1, l2] [z, TO, i1, i2] xs.size (fun i v h => ∃ T x y, v = .ref T ∧ xs[i]? = some x ∧ ys[i]? = some y ∧ IsPair h T x y)
      (fun i v h => ∃ T x y, v = .ref T ∧ xs[i]? = some x ∧ ys[i]? = some y ∧ IsPair h T x y ∧ T ≠ z ∧ ZSt z TI TO i1 i2 l1 l2 xs ys (rawInt T) (i + 1) h) (ZSt z TI TO i1 i2 l1 l2 xs ys .none) where
  sub := fun c hc => by simp at hc ⊢; rcases hc with rfl | rfl | rfl | rfl <;> simp
  frame := fun i h h' hst hk => by
    obtain ⟨hz, hTI, ⟨a, b, hTO⟩, h1, h2, hl1, hl2⟩ := hst
    exact ⟨hk z (by simp) _ hz, hk TI (by simp) _ hTI, ⟨a, b, hk TO (by simp) _ hTO⟩, h1.at fun o e => hk i1 (by simp) o e, h2.at fun o e => hk i2 (by simp) o e, hl1.at fun o e => hk l1 (by simp) o e, hl2.at fun o e => hk l2 (by simp) o e⟩
  item := fun i s Q E hi hst hQ => by
    have hiy : i < ys.size := hn ▸ hi
    refine zipT_item D hst (Array.getElem?_eq_getElem hi) (Array.getElem?_eq_getElem hiy) fun h' st' hp hk => ?_
    exact hQ _ h' s.toks ⟨_, _, _, rfl, Array.getElem?_eq_getElem hi, Array.getElem?_eq_getElem hiy, hp, Nat.ne_of_gt (Heap.lt_size hst.1), st'⟩
      fun c o hc e => hk c o (fun x => hc (by simp [x])) (fun x => hc (by simp [x])) (fun x => hc (by simp [x])) (fun x => hc (by simp [x])) e
  go := fun i v s Q E hm hQ => by
    obtain ⟨T, x, y, rfl, hx, hy, hp, hTz, hz, hTI, ⟨a, b, hTO⟩, h1, h2, hl1, hl2⟩ := hm
    refine wpAny_letOwnedTupleGo_zip hz fun h' hz' hs' => hQ h' ⟨T, x, y, rfl, hx, hy, hs'.extBut _ _ hTz hp⟩ ⟨hz', hs'.extBut _ _ D.TIz hTI, ⟨a, b, hs'.extBut _ _ D.TOz hTO⟩, h1.extBut hs'.extBut D.i1z, h2.extBut hs'.extBut D.i2z,
      hl1.extBut hs'.extBut D.l1z, hl2.extBut hs'.extBut D.l2z⟩ fun c o hc e => hs'.extBut _ _ (fun x => hc (by simp [x])) e
  done := fun s Q E hst hQ => zipT_end hh D hst (Array.getElem?_eq_none (Nat.le_refl _)) fun h' hk => hQ h' s.toks fun c o hc e => hk c o (fun x => hc (by simp [x])) (fun x => hc (by simp [x])) e
abbrev zpH1 (h : Heap) (l1 : Addr) : Heap := h.push { cls := .type "tuple_iterator", data := .fields #[.ref l1, .int 0 0] }
abbrev zpH2 (h : Heap) (l1 l2 : Addr) : Heap := (zpH1 h l1).push { cls := .type "tuple_iterator", data := .fields #[.ref l2, .int 0 0] }
abbrev zpH3 (h : Heap) (l1 l2 : Addr) : Heap := (zpH2 h l1 l2).push { cls := .type "tuple", data := .seq #[.ref h.objs.size, .ref (zpH1 h l1).objs.size] }
abbrev zpH4 (h : Heap) (l1 l2 : Addr) : Heap := (zpH3 h l1 l2).push { cls := .type "tuple", data := .seq #[.none, .none] }
abbrev zpH5 (h : Heap) (l1 l2 : Addr) : Heap := (zpH4 h l1 l2).push { cls := .type "zip", data := .fields #[.none, .bool false, .bool false, .ref (zpH2 h l1 l2).objs.size, .ref (zpH3 h l1 l2).objs.size] }
theorem zipT_new (l1 l2 : Addr) (xs ys : Array Value) : Meets (Builtin.«zip.__new__» ⟨[.type "zip", .ref l1, .ref l2], []⟩) (fun _ R s => s.heap.IsTuple l1 xs ∧ s.heap.IsTuple l2 ys ∧
      R (.ok (.ret (.ref (zpH4 s.heap l1 l2).objs.size))) { s with heap := zpH5 s.heap l1 l2 }) :=
  .of_wp fun prog w A R s h => by
    obtain ⟨hp, g, d, tk, os⟩ := s; obtain ⟨hl1, hl2, h⟩ := h
    have hsub := sub_zip
    have hL1 : Heap.IsTuple (Shared.heap ⟨hp, g, d, tk, os⟩) l1 xs := hl1
    have hL2 : Heap.IsTuple (Shared.heap ⟨hp.push { cls := .type "tuple_iterator", data := .fields #[.ref l1, .int 0 0] }, g, d, tk, os⟩) l2 ys := Heap.IsTuple.push hl2 _
    wp_walk using wpAny_pyIter_tuple hL1, wpAny_pyIter_tuple hL2
    exact ⟨_, rfl, h⟩
theorem zipT_call {l1 l2 : Addr} {xs ys : Array Value} {Q : Value → Shared → Prop} (hl1 : s.heap.IsTuple l1 xs) (hl2 : s.heap.IsTuple l2 ys)
    (h : ∀ h', ZSt (s.heap.objs.size + 4) (s.heap.objs.size + 2) (s.heap.objs.size + 3) s.heap.objs.size (s.heap.objs.size + 1) l1 l2 xs ys .none 0 h' → (∀ c o, s.heap.get? c = some o → h'.get? c = some o) → Q (.ref (s.heap.objs.size + 4)) { s with heap := h' }) :
    wpAny (model prog w) A (call (.type "zip") [.ref l1, .ref l2]) Q E s := by
  refine callType_new F.called_zip (by decide) (F.typeCall_zip_2 _ _) (F.newCall_zip_2 _ _) (fun obj => F.args_object_init_3 obj _ _) F.entry_zip_new (zipT_new l1 l2 xs ys) ⟨hl1, hl2, ?_⟩
  have z1 : (zpH1 s.heap l1).objs.size = s.heap.objs.size + 1 := Heap.size_push ..
  have z2 : (zpH2 s.heap l1 l2).objs.size = s.heap.objs.size + 2 := by rw [Heap.size_push, z1]
  have z3 : (zpH3 s.heap l1 l2).objs.size = s.heap.objs.size + 3 := by rw [Heap.size_push, z2]
  have z4 : (zpH4 s.heap l1 l2).objs.size = s.heap.objs.size + 4 := by rw [Heap.size_push, z3]
  have g5 : (zpH5 s.heap l1 l2).get? (zpH4 s.heap l1 l2).objs.size = some _ := Heap.get?_push_size _ rfl
  have g4 : (zpH5 s.heap l1 l2).get? (zpH3 s.heap l1 l2).objs.size = some _ := Heap.get?_push_of_some _ (Heap.get?_push_size _ rfl)
  have g3 : (zpH5 s.heap l1 l2).get? (zpH2 s.heap l1 l2).objs.size = some _ := Heap.get?_push_of_some _ (Heap.get?_push_of_some _ (Heap.get?_push_size _ rfl))
  have g2 : (zpH5 s.heap l1 l2).get? (zpH1 s.heap l1).objs.size = some _ := Heap.get?_push_of_some _ (Heap.get?_push_of_some _ (Heap.get?_push_of_some _ (Heap.get?_push_size _ rfl)))
  have g1 : (zpH5 s.heap l1 l2).get? s.heap.objs.size = some _ := Heap.get?_push_of_some _ (Heap.get?_push_of_some _ (Heap.get?_push_of_some _ (Heap.get?_push_of_some _ (Heap.get?_push_size _ rfl))))
  have up : ∀ c o, s.heap.get? c = some o → (zpH5 s.heap l1 l2).get? c = some o := fun c o x => Heap.get?_push_of_some _ (Heap.get?_push_of_some _ (Heap.get?_push_of_some _ (Heap.get?_push_of_some _ (Heap.get?_push_of_some _ x))))
  show _ ∧ _
  rw [z2, z3, z4] at g5
  rw [z1, z2] at g3
  rw [z3] at g4
  rw [z1] at g2
  rw [z4]
  exact ⟨⟨_, g5, rfl⟩, h _ ⟨g5, g3, ⟨_, _, g4⟩, ⟨_, g1, rfl, rfl⟩, ⟨_, g2, rfl, rfl⟩, hl1.at fun o e => up _ o e, hl2.at fun o e => up _ o e⟩ up⟩
end
theorem z_ge {b n : Nat} (h : b = n + 4 ∨ b = n + 2 ∨ b = n + 3 ∨ b = n ∨ b = n + 1) : n ≤ b := by omega
theorem z_L {L n l1 l2 : Nat} (h : L = n + 4 ∨ L = n + 2 ∨ L = n + 3 ∨ L = n ∨ L = n + 1 ∨ L = l1 ∨ L = l2) (hL : L < n) (n1 : l1 ≠ L) (n2 : l2 ≠ L) : False := by omega
theorem z_p {p n : Nat} (h : p = n + 4 ∨ p = n + 3 ∨ p = n ∨ p = n + 1) (hp : p < n) : False := by omega
theorem z_o {p q n : Nat} (h : p < n ∨ ∀ k, p ≠ n + k ∨ 4 < k) (hq : q = n + 4 ∨ q = n + 2 ∨ q = n + 3 ∨ q = n ∨ q = n + 1) (e : p = q) : False := by
  rcases h with h | h
  · omega
  · have h0 := h 0; have h1 := h 1; have h2 := h 2; have h3 := h 3; have h4 := h 4
    omega
theorem z_k {p n : Nat} (k : Nat) (g1 : p ≠ n + 4) (g2 : p ≠ n + 2) (g3 : p ≠ n + 3) (g4 : p ≠ n) (g5 : p ≠ n + 1) : p ≠ n + k ∨ 4 < k := by omega
section
variable {C : Cx w mean mg mb} {m : Mp} {news : Led} {K : Mp → Led → Prop} {R : Value → Led → Prop}
theorem Run.forZ {a b : Str} {kk : Nat} {pa pb tp np cpos pos : Pos} {e1 e2 : Expr} {body rest : List Stmt} {l1 l2 : Addr} {xs ys : List Value} (p1 : Pe C C.env m news e1 (fun _ => .ref l1)) (p2 : Pe C C.env m news e2 (fun _ => .ref l2))
    (hm1 : (l1, tup xs) ∈ news) (hm2 : (l2, tup ys) ∈ news) (hn : xs.length = ys.length) (oka : locOk C.env a = true) (okb : locOk C.env b = true) (J : List Value → List Value → Mp → Led → Prop) (h0 : J xs ys m news)
    (turn : ∀ x y xs' ys' m n its, J (x :: xs') (y :: ys') m n → (∀ p ∈ n, ∀ q ∈ its, p.1 ≠ q.1) → Run C (put (put m a x) b y) (its ++ n) body (fun m' n₁ => ∃ n', (∀ p ∈ its ++ n', p ∈ n₁) ∧ (∀ p ∈ n', ∀ q ∈ its, p.1 ≠ q.1) ∧ (l1, tup xs) ∈ n' ∧ (l2, tup ys) ∈ n' ∧ J xs' ys' m' n') R)
    (fin : ∀ m n, J [] [] m n → Run C m n rest K R) (hm : nsIn (hk.heap_39 w.params) mainGlobals (Str.ofString "zip") = some none) (ok : gloOk C.env (Str.ofString "zip") = true)
    (he : starEach [e1, e2] C.env = (false, eval e1 C.env) :: starEach [e2] C.env := by rfl) (he' : starEach [e2] C.env = (false, eval e2 C.env) :: starEach [] C.env := by rfl)
    (hc : eval (.Call (.Name (Str.ofString "zip") np) [e1, e2] [] cpos) C.env = (do callWith cpos (← eval (.Name (Str.ofString "zip") np) C.env) [] (backTo cpos (starEach [e1, e2] C.env)) (backToKw cpos (keywordEach [] C.env))) := by rfl)
    (hs : ∀ x, foldedSetIterable (.Call (.Name (Str.ofString "zip") np) [e1, e2] [] cpos) C.env x = pure x := by intro _; rfl) :
    Run C m news (.For (.Tuple [.Name a pa, .Name b pb] kk tp) (.Call (.Name (Str.ofString "zip") np) [e1, e2] [] cpos) body [] pos :: rest) K R := by
  refine ⟨fun s Q E at₀ kq q => wpAny_execs_cons (wpAny_noRaise (For_turns at₀.F ?_ hs PassesOwn.never))⟩
  refine Call_ ((Pe.blt hm boot_zip (by decide) ok rfl rfl).use at₀ fun _ _ _ at₁ => ?_) hc
  refine Pv.callWith_type1 (args_cons (p1.use at₁ fun _ _ _ at₁ => args_cons (p2.use at₁ fun h₁ tk₁ _ at₁ => args_nil ?_) he') he) he (by rw [he']; rfl)
  have F := at₁.F
  have N := at₁.N
  have hax1 := N _ hm1
  have hax2 := N _ hm2
  have hlt1 : l1 < h₁.objs.size := Heap.lt_size hax1.1
  have hlt2 : l2 < h₁.objs.size := Heap.lt_size hax2.1
  have hLs : C.L < h₁.objs.size := F.ns.lt
  have D : ZipApart (h₁.objs.size + 4) (h₁.objs.size + 2) (h₁.objs.size + 3) h₁.objs.size (h₁.objs.size + 1) l1 l2 := ktu_apart _ _ _ hlt1 hlt2
  refine zipT_call (xs := xs.toArray) (ys := ys.toArray) ⟨_, hax1.1, rfl, _, rfl⟩ ⟨_, hax2.1, rfl, _, rfl⟩ fun h' st hk => ?_
  refine wpAny_pyIter_zip st.1 ?_
  refine ktu_core (tk0 := tk₁) (s := { s with heap := h₁, toks := tk₁ }) (ws := [(h₁.objs.size + 4, "zip"), (h₁.objs.size + 2, "tuple"), (h₁.objs.size + 3, "tuple"), (h₁.objs.size, "tuple_iterator"), (h₁.objs.size + 1, "tuple_iterator")]) (keep := [(l1, tup xs), (l2, tup ys)]) (xs := zipItems xs ys)
    (zipT_turns (by with_unfolding_all rfl) _ _ _ _ _ _ _ D xs.toArray ys.toArray (by simpa using hn)) (by simp [zipItems_length, hn]) ?_ ?_ ?_ ?_ ?_ ?_ ?_ st (F.keeps hk) (N.grown hk) (And.intro hm1 (And.intro hm2 trivial)) ?_
  · rintro i v h ⟨T, x, y, rfl, hx, hy, hp⟩
    exact ⟨_, zipItems_get xs ys i (x := x) (y := y) (by simpa using hx) (by simpa using hy), T, 0, rfl, ⟨_, hp, rfl, _, rfl⟩⟩
  · rintro i h ⟨hz, hTI, ⟨a, b, hTO⟩, ⟨o1, ho1, hc1, _⟩, ⟨o2, ho2, hc2, _⟩, _⟩
    have e3 : ∃ o : Obj, h.get? (h₁.objs.size + 3) = some o ∧ o.cls = .type "tuple" := ⟨_, hTO, rfl⟩
    obtain ⟨q3, g3, k3⟩ := e3
    refine ⟨[(h₁.objs.size + 4, { cls := .type "zip", dict := none, data := .fields #[.none, .bool false, .bool false, .ref (h₁.objs.size + 2), .ref (h₁.objs.size + 3)], slots := #[] }), (h₁.objs.size + 2, { cls := .type "tuple", data := .seq #[.ref h₁.objs.size, .ref (h₁.objs.size + 1)] }), (h₁.objs.size + 3, q3), (h₁.objs.size, o1), (h₁.objs.size + 1, o2)], ⟨⟨rfl, rfl⟩, ⟨rfl, rfl⟩, ⟨rfl, k3⟩, ⟨rfl, hc1⟩, ⟨rfl, hc2⟩, trivial⟩, fun p hp => ?_⟩
    rcases List.mem_cons.mp hp with rfl | hp
    · exact hz
    rcases List.mem_cons.mp hp with rfl | hp
    · exact hTI
    rcases List.mem_cons.mp hp with rfl | hp
    · exact g3
    rcases List.mem_cons.mp hp with rfl | hp
    · exact ho1
    rw [List.mem_singleton.mp hp]
    exact ho2
  · intro b hb
    have hb' : b = h₁.objs.size + 4 ∨ b = h₁.objs.size + 2 ∨ b = h₁.objs.size + 3 ∨ b = h₁.objs.size ∨ b = h₁.objs.size + 1 := by simpa using hb
    refine ⟨by rcases hb' with rfl | rfl | rfl | rfl | rfl <;> simp, ktu_new F (z_ge hb')⟩
  · intro b hb
    have hb' : b = h₁.objs.size + 4 ∨ b = h₁.objs.size + 3 ∨ b = h₁.objs.size ∨ b = h₁.objs.size + 1 := by simpa using hb
    rcases hb' with rfl | rfl | rfl | rfl <;> simp
  · intro b hb
    have hb' : b = h₁.objs.size + 4 ∨ b = h₁.objs.size + 2 ∨ b = h₁.objs.size + 3 ∨ b = h₁.objs.size ∨ b = h₁.objs.size + 1 ∨ b = l1 ∨ b = l2 := by simpa using hb
    rcases hb' with rfl | rfl | rfl | rfl | rfl | rfl | rfl
    iterate 5 exact .inl (by simp)
    · exact .inr ⟨tup xs, by simp⟩
    · exact .inr ⟨tup ys, by simp⟩
  · intro hI
    have hb' : C.L = h₁.objs.size + 4 ∨ C.L = h₁.objs.size + 2 ∨ C.L = h₁.objs.size + 3 ∨ C.L = h₁.objs.size ∨ C.L = h₁.objs.size + 1 ∨ C.L = l1 ∨ C.L = l2 := by simpa using hI
    exact z_L hb' hLs hax1.2.1 hax2.2.1
  · intro p hp hI
    have hb' : p.1 = h₁.objs.size + 4 ∨ p.1 = h₁.objs.size + 3 ∨ p.1 = h₁.objs.size ∨ p.1 = h₁.objs.size + 1 := by simpa using hI
    exact z_p hb' (Heap.lt_size (N p hp).1)
  have go : ∀ (xs' ys' : List Value) (m : Mp) (n : Led), xs'.length = ys'.length → (∀ p ∈ n, p.1 < h₁.objs.size ∨ ∀ k, p.1 ≠ h₁.objs.size + k ∨ 4 < k) → J xs' ys' m n →
      ItemsRest C.prog w C.A (fun _ _ => False) C.h₀ C.env (.Tuple [.Name a pa, .Name b pb] kk tp) body (fun f s₁ => match f with | .next => wpAny (model C.prog w) C.A (execs rest C.env) Q E s₁ | f => Q f s₁) { s with heap := h₁, toks := tk₁ }
        [(h₁.objs.size + 4, "zip"), (h₁.objs.size + 2, "tuple"), (h₁.objs.size + 3, "tuple"), (h₁.objs.size, "tuple_iterator"), (h₁.objs.size + 1, "tuple_iterator")] [(l1, tup xs), (l2, tup ys)] (zipItems xs' ys') m n := by
    intro xs'
    induction xs' with
    | nil =>
      intro ys' m n hl _ hJ
      cases ys' with
      | nil => exact ItemsRest.zero fun h tk F N => (fin m n hJ).go _ _ _ ⟨F, N⟩ kq q
      | cons _ _ => exact nomatch hl
    | cons x xs' ih =>
      intro ys' m n hl hoff hJ
      cases ys' with
      | nil => exact nomatch hl
      | cons y ys' =>
        refine ItemsRest.pair fun T t h tk hT F o1 _ o2 _ o3 _ o4 _ o5 _ N => ?_
        have hoff' : ∀ p ∈ n, ∀ q ∈ [(h₁.objs.size + 4, o1), (h₁.objs.size + 2, o2), (h₁.objs.size + 3, o3), (h₁.objs.size, o4), (h₁.objs.size + 1, o5)], p.1 ≠ q.1 := fun p hp q hq e => by
          have hq' : q.1 = h₁.objs.size + 4 ∨ q.1 = h₁.objs.size + 2 ∨ q.1 = h₁.objs.size + 3 ∨ q.1 = h₁.objs.size ∨ q.1 = h₁.objs.size + 1 := by
            have := List.mem_map_of_mem (f := Prod.fst) hq
            simpa using this
          exact z_o (hoff p hp) hq' e
        refine assign_Tuple_tuple (by with_unfolding_all rfl) hT rfl rfl fun h₂ he₂ => ?_
        have at₂ : At C m ([(h₁.objs.size + 4, o1), (h₁.objs.size + 2, o2), (h₁.objs.size + 3, o3), (h₁.objs.size, o4), (h₁.objs.size + 1, o5)] ++ n) h₂ := ⟨F.extBut he₂ (Nat.le_refl _), N.extBut he₂ (Nat.le_refl _)⟩
        show wpAny _ _ (assignInOrder [assign (.Name a pa) C.env, assign (.Name b pb) C.env] [x, y]) _ _ _
        refine assignInOrder_cons (assign_Name (store_go oka at₂ fun _ _ at₃ => assignInOrder_cons (assign_Name (store_go okb at₃ fun _ _ at₄ => assignInOrder_nil ?_))))
        refine (turn x y xs' ys' m n _ hJ hoff').go _ _ _ at₄ (fun m' n₁ h₃ tk₃ r a₃ => ?_) fun v m' n₁ h₃ tk₃ r a₃ => q _ _ _ _ _ r a₃
        obtain ⟨n', hs, ho', k1, k2, hJ'⟩ := r
        refine ⟨h₃, tk₃, m', n', rfl, a₃.F, fun p hp => a₃.N p (hs p hp), ho', ⟨k1, k2, trivial⟩, ih ys' m' n' (Nat.succ.inj hl) (fun p hp => .inr fun k => ?_) hJ'⟩
        have g1 := ho' p hp (h₁.objs.size + 4, o1) (by simp)
        have g2 := ho' p hp (h₁.objs.size + 2, o2) (by simp)
        have g3 := ho' p hp (h₁.objs.size + 3, o3) (by simp)
        have g4 := ho' p hp (h₁.objs.size, o4) (by simp)
        have g5 := ho' p hp (h₁.objs.size + 1, o5) (by simp)
        exact z_k k g1 g2 g3 g4 g5
  exact go xs ys m news hn (fun p hp => .inl (Heap.lt_size (N p hp).1)) h0
end
theorem Dct.notTup {o : Obj} {kvs : List (Str × Value)} (d : Dct w o kvs) {vs : List Value} : o ≠ tup vs := by
  rintro rfl
  obtain ⟨es, ep, h1, h2, -⟩ := d
  cases h2
theorem updF_at {d : Addr} {o : Obj} : ∀ {pre post : Led}, (∀ p ∈ pre, p.1 ≠ d) → (∀ p ∈ post, p.1 ≠ d) → UpdF d o (pre ++ (d, o) :: post) (fun o' => pre ++ (d, o') :: post)
  | [], _, _, h => .head h
  | p :: pre, _, h, h' => .tail (h p (.head _)) (updF_at (pre := pre) (fun q hq => h q (.tail _ hq)) h')
theorem Ext.cons {d : Addr} {o : Obj} {H n : Led} (e : Ext ((d, o) :: H) n) (off : ∀ p ∈ H, p.1 ≠ d) : ∃ n', n = (d, o) :: n' ∧ (∀ p ∈ n', p.1 ≠ d) ∧ Ext H n' := by
  obtain ⟨tl, rfl, g⟩ := e
  refine ⟨H ++ tl, rfl, fun p hp => ?_, tl, rfl, fun p hp => g p (.tail _ hp)⟩
  rcases List.mem_append.mp hp with hp | hp
  · exact off p hp
  · exact Nat.ne_of_gt (g _ (.head _) p hp)
theorem Po.isIn {C : Cx w mean mg mb} {m : Mp} {news : Led} {d : Addr} {o : Obj} {kvs : List (Str × Value)} {x : Str} {t : Tok} {b : Bool} (hm : (d, o) ∈ news) (hd : Dct w o kvs) (hb : (valueAt kvs x).isSome = b) : Po C m news (compareOp .In (.str x t) (.ref d)) (fun _ => .bool b) := hb ▸ Po.inD hm hd
theorem erased_ok (N : Nat) (hN : N ≤ 100) {d : Ty} (hd : d.sz ≤ N) {v : Value} {G H : Led} {R : Value → Led → Prop} (hv : TyIn G v d) (hs : ∀ p ∈ G, p ∈ H) (k : ∀ b g n, Mv G H g n → TyIn g (.ref b) d → R (.ref b) n) : Tell w mean mg mb (N + 2) 54 [v] H R :=
  Tell.def (need := N + 1) (binds := [(Str.ofString "told", v)]) (by k_is) (by k_is) rfl rfl rfl rfl rfl (by decide) fun D r =>
    Run.ret (Ev.call (by k_is) (by k_is) rfl (Pl.cons (Pe.loc rfl rfl) (Pl.cons (Pe.glo (by k_is) rfl) Pl.nil)) r fun _ => wr_ok N hN d hd hv hs k)
theorem matched_par {p x : Value} {n : Str} {d : Addr} {o : Obj} {kvs : List (Str × Value)} {H : Led} {g : Obj → Led} {R : Value → Led → Prop} (hp : TyIn H p (.par n)) (U : UpdF d o H g) (hd : Dct w o kvs) (hv : valueAt kvs n = none) (hl : Nat.ble kvs.length 100 = true)
    (k : ∀ o', Dct w o' (stored kvs n x) → R (.bool true) (g o')) : Tell w mean mg mb 1 75 [p, x, .ref d] H R := by
  refine Tell.def (need := 0) (binds := [(Str.ofString "pattern", p), (Str.ofString "told", x), (Str.ofString "table", .ref d)]) (by k_is) (by k_is) rfl rfl rfl rfl rfl (by decide) (fun D r => ?_)
  cases hp with | par hm => ?_
  have hd' : (d, o) ∈ H := by obtain ⟨pre, post, rfl, -⟩ := U.split; exact List.mem_append_right _ (.head _)
  exact Run.ifT (by walk_at "pt") (Run.ifF (Pt.cmp (by walk_at "pe") (by walk_at "pe") fun t u => Po.isIn hd' hd (by rw [hv]; rfl)) (Run.setD (x := n) (by walk_at "pe") (by walk_at "pe") (by walk_at "pe") U hd hl fun o' ho' => Run.ret (Ev.pe Pe.bool fun _ => k o' ho')))
theorem matched_S {p v : Value} {d : Addr} {o : Obj} {t : Ty} {H : Led} {R : Value → Led → Prop} (hp : TyIn H p (.S (.par (Str.ofString "T")))) (hv : TyIn H v (.S t)) (off : ∀ p ∈ H, p.1 ≠ d) (hd : Dct w o [])
    (k : ∀ o' x n', Dct w o' [(Str.ofString "T", x)] → TyIn n' x t → Ext H n' → (∀ p ∈ n', p.1 ≠ d) → R (.bool true) ((d, o') :: n')) : Tell w mean mg mb 2 75 [p, v, .ref d] ((d, o) :: H) R := by
  refine Tell.def (need := 1) (binds := [(Str.ofString "pattern", p), (Str.ofString "told", v), (Str.ofString "table", .ref d)]) (by k_is) (by k_is) rfl rfl rfl rfl rfl (by decide) (fun D r => ?_)
  have s : ∀ p ∈ H, p ∈ (d, o) :: H := fun _ h => .tail _ h
  have hp' := hp
  have hv' := hv
  cases hp
  case S ph p2 p3 p4 =>
  cases hv
  case S vh v2 v3 v4 =>
  refine Run.ifF (by walk_at "pt") (Run.ifF (Pt.orF (by walk_at "pt") (Pt.orF (by walk_at "pt") (Pt.orF (Pt.inS (by walk_at "pe") (Pl.strsC (Pl.strsC Pl.strsN)) rfl (r.le (Nat.le_refl _)) (fun _ => rfl)) Pt.orN)))
    (Run.ifF (by walk_at "pt") (Run.ifF (by walk_at "pt") (Run.swap (names := [Str.ofString "some", Str.ofString "others"]) (Ev.tupleX (El.cons (Ev.call (by k_is) (by k_is) rfl (Pl.cons (by walk_at "pe") Pl.nil) r fun _ => parts_ok hp' s fun b1 vs1 n1 e1 hb1 hvs1 => ?_)))))))
  refine El.cons (Ev.call (by k_is) (by k_is) rfl (Pl.cons (by walk_at "pe") Pl.nil) r fun _ => parts_ok hv' (fun p hp => e1.mem p (s p hp)) fun b2 vs2 n2 e2 hb2 hvs2 => ?_)
  obtain ⟨n', rfl, off', e'⟩ := (e1.trans e2).cons off
  cases hvs1 with | cons hx1 hz1 => ?_
  cases hz1
  cases hvs2 with | cons hx2 hz2 => ?_
  cases hz2
  rename_i x1 x2
  refine El.nil ⟨rfl, fun a ha => ⟨_, _, rfl, mem_e, rfl, ?_⟩⟩
  refine Run.sub (news' := (d, o) :: n') ?_ mem_l
  have hb1' := e2.mem _ hb1
  refine Run.ifF (Pt.cmp (Pe.lenT (Pe.loc rfl rfl) hb1' rfl (by k_is) rfl) (Pe.lenT (Pe.loc rfl rfl) hb2 rfl (by k_is) rfl) fun _ _ => Po.neIb rfl) ?_
  refine Run.forZ (Pe.loc rfl rfl) (Pe.loc rfl rfl) hb1' hb2 rfl rfl rfl (fun xs ys m n => (xs = [x1] ∧ ys = [x2] ∧ m (Str.ofString "table") = some (.ref d) ∧ n = (d, o) :: n') ∨ (xs = [] ∧ ∃ o', Dct w o' [(Str.ofString "T", x2)] ∧ n = (d, o') :: n'))
    (.inl ⟨rfl, rfl, rfl, rfl⟩) ?_ ?_ (by k_is) rfl
  · intro x y xs' ys' m n its hJ offI
    rcases hJ with ⟨h1, h2, hm, rfl⟩ | ⟨h1, -⟩
    · cases h1
      cases h2
      have offD : ∀ p ∈ its, p.1 ≠ d := fun p hp e => offI _ (.head _) p hp e.symm
      refine Run.ifEt' (Et.not (Et.val (Ev.call (by k_is) (by k_is) rfl (Pl.cons (Pe.loc rfl rfl) (Pl.cons (Pe.loc rfl rfl) (Pl.cons (Pe.loc (show put (put m _ _) _ _ _ = _ from hm) rfl) Pl.nil))) r fun _ =>
        matched_par (hx1.mono fun p hp => List.mem_append_right _ (.tail _ (e'.mem p hp))) (updF_at offD off') hd rfl rfl fun o' ho' => ⟨_, rfl, (fun h => nomatch h), fun _ => Run.nil ⟨(d, o') :: n', fun _ h => h, fun p hp q hq => ?_, ?_, ?_, .inr ⟨rfl, o', ho', rfl⟩⟩⟩)))
      · rcases List.mem_cons.mp hp with rfl | hp
        · exact offI (d, o) (.head _) q hq
        · exact offI p (.tail _ hp) q hq
      · rcases List.mem_cons.mp hb1' with h | h
        · exact absurd (Prod.mk.inj h).2.symm hd.notTup
        · exact .tail _ h
      · rcases List.mem_cons.mp hb2 with h | h
        · exact absurd (Prod.mk.inj h).2.symm hd.notTup
        · exact .tail _ h
    · exact nomatch h1
  · intro m n hJ
    rcases hJ with ⟨h1, -⟩ | ⟨-, o', ho', rfl⟩
    · exact nomatch h1
    · exact Run.ret (Ev.pe Pe.bool fun _ => k o' x2 n' ho' (hx2.mono fun p hp => e'.mem p hp) e' off')
theorem matched_N {p v : Value} {x : Value} {H : Led} {R : Value → Led → Prop} (hp : TyIn H p (.S (.par (Str.ofString "T")))) (hv : TyIn H v .N) (k : R (.bool false) H) : Tell w mean mg mb 2 75 [p, v, x] H R := by
  refine Tell.def (need := 1) (binds := [(Str.ofString "pattern", p), (Str.ofString "told", v), (Str.ofString "table", x)]) (by k_is) (by k_is) rfl rfl rfl rfl rfl (by decide) (fun D r => ?_)
  cases hp
  case S ph p2 p3 p4 =>
  cases hv
  case N vh v2 v3 =>
  exact Run.ifF (by walk_at "pt") (Run.ifF (Pt.orF (by walk_at "pt") (Pt.orF (by walk_at "pt") (Pt.orF (Pt.inS (by walk_at "pe") (Pl.strsC (Pl.strsC Pl.strsN)) rfl (r.le (Nat.le_refl _)) (fun _ => rfl)) Pt.orN)))
    (Run.ifF (by walk_at "pt") (Run.ifT (by walk_at "pt") (Run.ret (Ev.pe Pe.bool fun _ => k)))))
/-- a tuple of texts, with 'Copy' among them or not -/
def TrIn (G : Led) (v : Value) (b : Bool) : Prop := ∃ a ts, v = .ref a ∧ (a, tup ts) ∈ G ∧ (∀ y ∈ ts, ∃ s t, y = .str s t) ∧ ts.any (isS (Str.ofString "Copy")) = b
theorem TrIn.mono {G G' : Led} {v : Value} {b : Bool} (x : TrIn G v b) (s : ∀ p ∈ G, p ∈ G') : TrIn G' v b := let ⟨a, ts, e, h, k⟩ := x; ⟨a, ts, e, s _ h, k⟩
/-- a row's parameters: their names, and whether each asks for 'Copy' -/
inductive ParsIn (G : Led) : List Value → List (Str × Bool) → Prop
  | nil : ParsIn G [] []
  | cons {a : Addr} {n : Str} {t : Tok} {tv : Value} {b : Bool} {vs : List Value} {bs : List (Str × Bool)} : (a, tup [.str n t, tv]) ∈ G → TrIn G tv b → ParsIn G vs bs → ParsIn G (.ref a :: vs) ((n, b) :: bs)
theorem ParsIn.mono {G G' : Led} {vs : List Value} {bs : List (Str × Bool)} (x : ParsIn G vs bs) (s : ∀ p ∈ G, p ∈ G') : ParsIn G' vs bs := by
  induction x with
  | nil => exact .nil
  | cons h t _ ih => exact .cons (s _ h) (t.mono s) ih
/-- what bounds says of a name -/
def BndIn (G : Led) (kvs : List (Str × Value)) (β : Str → Bool) : Prop := ∀ n, (valueAt kvs n = none ∧ β n = false) ∨ ∃ v, valueAt kvs n = some v ∧ TrIn G v (β n)
theorem BndIn.mono {G G' : Led} {kvs : List (Str × Value)} {β : Str → Bool} (x : BndIn G kvs β) (s : ∀ p ∈ G, p ∈ G') : BndIn G' kvs β := fun n => (x n).elim .inl fun ⟨v, a, b⟩ => .inr ⟨v, a, b.mono s⟩
def TabIn (G : Led) (N : Nat) (kvs : List (Str × Value)) (τ : Str → Option Ty) : Prop := ∀ n, (valueAt kvs n = none ∧ τ n = none) ∨ ∃ v t, valueAt kvs n = some v ∧ τ n = some t ∧ t.sz ≤ N ∧ TyIn G v t
theorem TabIn.mono {G G' : Led} {N : Nat} {kvs : List (Str × Value)} {τ : Str → Option Ty} (x : TabIn G N kvs τ) (s : ∀ p ∈ G, p ∈ G') : TabIn G' N kvs τ := fun n => (x n).elim .inl fun ⟨v, t, a, b, c, d⟩ => .inr ⟨v, t, a, b, c, d.mono s⟩
def parsAll (bs : List (Str × Bool)) (τ : Str → Option Ty) (β : Str → Bool) : Bool := bs.all fun p => !p.2 || (match τ p.1 with | some t => t.cop β | none => β p.1)
/-- the world's two rows, and bounds -/
structure Cw (w : World) (G : Led) (wa bd : Addr) (β : Str → Bool) : Prop where
  world : ∃ il r0 r1 k st pl k' p0 t0 t1, Rec G 164 wa [(Str.ofString "impls", .ref il)] ∧ (il, lst [.ref r0, .ref r1] k) ∈ G ∧ Rec G 135 r0 [(Str.ofString "trait", .str (Str.ofString "Copy") t0), (Str.ofString "self_type", st), (Str.ofString "params", .ref pl)] ∧
    Rec G 135 r1 [(Str.ofString "trait", .str (Str.ofString "Clone") t1)] ∧ TyIn G st (.S (.par (Str.ofString "T"))) ∧ (pl, lst [p0] k') ∈ G ∧ ParsIn G [p0] [(Str.ofString "T", true)]
  bounds : ∃ o kvs, (bd, o) ∈ G ∧ Dct w o kvs ∧ BndIn G kvs β
theorem Cw.mono {G G' : Led} {wa bd : Addr} {β : Str → Bool} (x : Cw w G wa bd β) (s : ∀ p ∈ G, p ∈ G') : Cw w G' wa bd β :=
  ⟨let ⟨il, r0, r1, k, st, pl, k', p0, t0, t1, a, b, c, d, e, f, g⟩ := x.world; ⟨il, r0, r1, k, st, pl, k', p0, t0, t1, a.mono s, s _ b, c.mono s, d.mono s, e.mono s, s _ f, g.mono s⟩,
    let ⟨o, kvs, a, b, c⟩ := x.bounds; ⟨o, kvs, s _ a, b, c.mono s⟩⟩
section
variable {C : Cx w mean mg mb} {m : Mp} {news : Led} {env : Env}
/-- COPY in traits -/
theorem Pt.copyIn {r : Expr} {np pos : Pos} {v : Value} {b : Bool} (q : Pe C env m news r (fun _ => v)) (h : TrIn news v b) (rm : C.room 1) (ok : gloOk env (Str.ofString "COPY") = true) (hv : nsIn (hk.heap_39 w.params) mainGlobals (Str.ofString "COPY") = some (some (.str (Str.ofString "Copy") 196)))
    (hg : env.globals = mainGlobals := by rfl) (hm : behindInMarks .In r = false := by with_unfolding_all rfl) : Pt C env m news (.Compare (.Name (Str.ofString "COPY") np) [.In] [r] pos) b := by
  obtain ⟨a, ts, rfl, h, hs, rfl⟩ := h
  exact Pt.cmp (Pe.glo hv ok hg) q (fun _ _ => Po.inT _ h (fun y hy => by obtain ⟨s, t, rfl⟩ := hs y hy; exact Eqv.str) rm) hm
end
/-- what is_copy's contract says for types up to a size -/
def CopyOk (w : World) (mean : ExcName → Option Value) (mg mb : Mp) (N need : Nat) : Prop := ∀ {t : Ty} {v : Value} {H : Led} {wa bd : Addr} {β : Str → Bool} {R : Value → Led → Prop}, t.sz ≤ N → TyIn H v t → Cw w H wa bd β → R (.bool (t.cop β)) H → Tell w mean mg mb need 87 [v, .ref wa, .ref bd] H R
def BJ (H : Led) (tb wa bd : Addr) (bs : List (Str × Bool)) (τ : Str → Option Ty) (β : Str → Bool) (vs : List Value) (m : Mp) (n : Led) : Prop :=
  n = H ∧ m (Str.ofString "table") = some (.ref tb) ∧ m (Str.ofString "world") = some (.ref wa) ∧ m (Str.ofString "bounds") = some (.ref bd) ∧ ∃ bs', ParsIn H vs bs' ∧ parsAll bs τ β = parsAll bs' τ β
theorem bounds_ok {N need : Nat} (ic : CopyOk w mean mg mb N need) (hN : 1 ≤ N) {row tb wa bd pl : Addr} {ps : List Value} {k : Nat} {bs : List (Str × Bool)} {o : Obj} {kvs : List (Str × Value)} {τ : Str → Option Ty} {β : Str → Bool} {H : Led} {R : Value → Led → Prop}
    (hr : Rec H 135 row [(Str.ofString "params", .ref pl)]) (hpl : (pl, lst ps k) ∈ H) (hps : ParsIn H ps bs) (ho : (tb, o) ∈ H) (hd : Dct w o kvs) (hτ : TabIn H N kvs τ) (hw : Cw w H wa bd β) (kR : R (.bool (parsAll bs τ β)) H) (hneed : 1 ≤ need) :
    Tell w mean mg mb (need + 1) 82 [.ref row, .ref tb, .ref wa, .ref bd] H R := by
  refine Tell.def (need := need) (binds := [(Str.ofString "row", .ref row), (Str.ofString "table", .ref tb), (Str.ofString "world", .ref wa), (Str.ofString "bounds", .ref bd)]) (by k_is) (by k_is) rfl rfl rfl rfl rfl (by decide) (fun D r => ?_)
  refine Run.forL (Ev.pe (Pe.attr (Pe.loc rfl rfl) hr (.head _) (by k_is) (by k_is) (by k_is) (by k_is) rfl) fun _ => ⟨_, _, _, BJ H tb wa bd bs τ β, rfl, hpl, ⟨rfl, rfl, rfl, rfl, bs, hps, rfl⟩, ?_, ?_⟩)
  · rintro v vs' m n I oI hm ⟨rfl, m1, m2, m3, bs', hps', he⟩ off
    cases hps' with | @cons a nm t tv b _ bs' ha ht hps' => ?_
    refine As.tuple (.tail _ ha) (AsL.cons (As.name (AsL.cons (As.name (AsL.nil ?_) rfl)) rfl))
    have e2 : parsAll ((nm, b) :: bs') τ β = ((!b || (match τ nm with | some t => t.cop β | none => β nm)) && parsAll bs' τ β) := rfl
    have up : ∀ p ∈ n, p ∈ (I, oI) :: n := fun _ h => .tail _ h
    have fin : parsAll bs τ β = parsAll bs' τ β → ∀ m' : Mp, m' (Str.ofString "table") = some (.ref tb) → m' (Str.ofString "world") = some (.ref wa) → m' (Str.ofString "bounds") = some (.ref bd) →
      ∃ n', (∀ p ∈ (I, oI) :: n', p ∈ (I, oI) :: n) ∧ (∀ p ∈ n', p.1 ≠ I) ∧ (pl, lst ps k) ∈ n' ∧ BJ n tb wa bd bs τ β vs' m' n' := fun e m' a1 a2 a3 => ⟨n, fun _ h => h, off, hm, rfl, a1, a2, a3, bs', hps', e⟩
    cases b with
    | false =>
      exact Run.ifEt' (Et.and (Et.pt (Pt.copyIn (Pe.loc rfl rfl) (ht.mono up) (r.le hneed) rfl (by k_is)) ⟨fun _ => ⟨(fun h => nomatch h), fun _ => Run.nil (fin (by rw [he, e2]; rfl) _ m1 m2 m3)⟩, (fun h => nomatch h)⟩))
    | true =>
      have e3 : ∀ c, (match τ nm with | some t => t.cop β | none => β nm) = c → parsAll bs τ β = (c && parsAll bs' τ β) := fun c h => by rw [he, e2, h]; rfl
      refine Run.ifEt' (Et.and (Et.pt (Pt.copyIn (Pe.loc rfl rfl) (ht.mono up) (r.le hneed) rfl (by k_is)) ⟨(fun h => nomatch h), fun _ => Et.and (Et.not (Et.val (Ev.callX (Pe.glo (by k_is) rfl) (by k_is)
        (El.cons (Ev.dget (Pe.loc m1 rfl) (up _ ho) hd (Pe.loc rfl rfl) (Ev.tuple (Pl.cons Pe.str (Pl.cons (Pe.loc rfl rfl) Pl.nil)) (fun σ a' ha' => ⟨mem_l _ (up _ ho), El.pl (Pl.cons (Pe.loc m2 rfl) (Pl.cons (Pe.loc m3 rfl) Pl.nil)) fun _ => ?_⟩) (fun _ => rfl)) _ rfl)) r)))⟩))
      have hw' := hw.mono fun p hp => (mem_l p (up p hp) : p ∈ (I, oI) :: n ++ [(a', tup [.str (Str.ofString "param") (σ 0), .str nm t])])
      have e5 : ∃ ty, ty.sz ≤ N ∧ TyIn ((I, oI) :: n ++ [(a', tup [.str (Str.ofString "param") (σ 0), .str nm t])]) ((valueAt kvs nm).getD (.ref a')) ty ∧ parsAll bs τ β = (ty.cop β && parsAll bs' τ β) := by
        rcases hτ nm with ⟨h1, h2⟩ | ⟨v, ty, h1, h2, h3, h4⟩
        · exact ⟨.par nm, hN, by rw [h1]; exact .par mem_e, e3 _ (by rw [h2]; rfl)⟩
        · exact ⟨ty, h3, by rw [h1]; exact h4.mono fun p hp => mem_l _ (up p hp), e3 _ (by rw [h2])⟩
      obtain ⟨ty, h1, h2, h3⟩ := e5
      refine ic h1 h2 hw' ⟨_, rfl, fun hb => ⟨(fun h => nomatch h), fun _ => Run.sub (Run.nil (fin ?_ _ m1 m2 m3)) mem_l⟩, fun hb => Et.andN ⟨fun _ => Run.sub (news' := n) (Run.ret (Ev.pe Pe.bool fun _ => ?_)) fun p hp => mem_l _ (up p hp), (fun h => nomatch h)⟩⟩
      · rw [h3, show ty.cop β = true by simpa using hb]; rfl
      · rw [h3, show ty.cop β = false by simpa using hb] at kR; exact kR
  · rintro m n hm ⟨rfl, m1, m2, m3, bs', hps', he⟩
    cases hps'
    exact Run.ret (Ev.pe Pe.bool fun _ => by rw [he] at kR; exact kR)
theorem Ty.kids_cop {β : Str → Bool} : ∀ ds : Tys, (Ty.tup ds).cop β = ds.cop β := fun _ => rfl
theorem arr_cop {β : Str → Bool} (t : Ty) : (Ty.arr t).cop β = (Ty.arr t).kids.cop β := (Bool.and_true _).symm
/-- over the impls: told is an S or the N -/
def ImJ (H : Led) (r0 r1 : Addr) (v : Value) (t : Ty) (β : Str → Bool) (vs : List Value) (m : Mp) (n : Led) : Prop :=
  n = H ∧ m (Str.ofString "told") = some v ∧ (vs = [.ref r0, .ref r1] ∨ (vs = [.ref r1] ∧ t.cop β = false) ∨ (vs = [] ∧ t.cop β = false))
def CmJ (G : Led) (β : Str → Bool) (N : Nat) (ds : Tys) (vs ys : List Value) (n : Led) : Prop := n = G ∧ ∃ ds', TysIn G vs ds' ∧ ds'.sz ≤ N ∧ ((ys = [] ∧ ds.cop β = ds'.cop β) ∨ (ys ≠ [] ∧ ds.cop β = false))
theorem TysIn.uncons {G : Led} {v : Value} {vs : List Value} {ds : Tys} (h : TysIn G (v :: vs) ds) : ∃ d ds', ds = .cons d ds' ∧ TyIn G v d ∧ TysIn G vs ds' := by cases h with | cons a b => exact ⟨_, _, rfl, a, b⟩
theorem Run.drop {C : Cx w mean mg mb} {m : Mp} {news : Led} {ss : List Stmt} {K : Mp → Led → Prop} {R : Value → Led → Prop} (p : Run C m news ss K fun v n => ∃ n', (∀ p ∈ n', p ∈ n) ∧ R v n') : Run C m news ss K R :=
  ⟨fun _ _ _ a k q => p.go _ _ _ a k fun v m' n h tk r a' => by obtain ⟨n', s, r⟩ := r; exact q _ _ _ _ _ r (a'.sub s)⟩
theorem Po.eqSb {C : Cx w mean mg mb} {m : Mp} {news : Led} {x y : Str} {t u : Tok} {b : Bool} (hb : (x == y) = b) : Po C m news (compareOp .Eq (.str x t) (.str y u)) (fun _ => .bool b) := hb ▸ Po.eqS
theorem Rec.sub {G : Led} {c x : Addr} {fs fs' : List (Str × Value)} (r : Rec G c x fs) (h : ∀ p ∈ fs', p ∈ fs) : Rec G c x fs' := let ⟨dx, es, n, sl, a, b, k⟩ := r; ⟨dx, es, n, sl, a, b, fun f hf => k f (h f hf)⟩
/-- a type lies in a ledger's rest: its head is no tuple -/
theorem mem_rest {d a : Addr} {o : Obj} {kvs : List (Str × Value)} (hd : Dct w o kvs) {H : Led} {vs : List Value} (h : (a, tup vs) ∈ (d, o) :: H) : (a, tup vs) ∈ H := by
  rcases List.mem_cons.mp h with h | h
  · exact absurd (Prod.mk.inj h).2.symm hd.notTup
  · exact h
mutual
theorem TyIn.inner {d : Addr} {o : Obj} {kvs : List (Str × Value)} {H : Led} (hd : Dct w o kvs) : ∀ {v : Value} {t : Ty}, TyIn ((d, o) :: H) v t → TyIn H v t
  | _, _, .int h => .int (mem_rest hd h)
  | _, _, .bool h => .bool (mem_rest hd h)
  | _, _, .never h => .never (mem_rest hd h)
  | _, _, .par h => .par (mem_rest hd h)
  | _, _, .ref h x => .ref (mem_rest hd h) (x.inner hd)
  | _, _, .box h x => .box (mem_rest hd h) (x.inner hd)
  | _, _, .arr h x => .arr (mem_rest hd h) (x.inner hd)
  | _, _, .tup h g x => .tup (mem_rest hd h) (mem_rest hd g) (x.inner hd)
  | _, _, .S h g i x => .S (mem_rest hd h) (mem_rest hd g) (mem_rest hd i) (x.inner hd)
  | _, _, .N h g i => .N (mem_rest hd h) (mem_rest hd g) (mem_rest hd i)
theorem TysIn.inner {d : Addr} {o : Obj} {kvs : List (Str × Value)} {H : Led} (hd : Dct w o kvs) : ∀ {vs : List Value} {ts : Tys}, TysIn ((d, o) :: H) vs ts → TysIn H vs ts
  | _, _, .nil => .nil
  | _, _, .cons x y => .cons (x.inner hd) (y.inner hd)
end
theorem tab_one {G : Led} {N : Nat} {x : Value} {ty : Ty} (h : ty.sz ≤ N) (hx : TyIn G x ty) : TabIn G N [(Str.ofString "T", x)] (fun n => if n = Str.ofString "T" then some ty else none) := fun n => by
  by_cases e : n = Str.ofString "T"
  · subst e
    exact .inr ⟨x, ty, by simp [valueAt], if_pos rfl, h, hx⟩
  · exact .inl ⟨by simp [valueAt, Ne.symm e], if_neg e⟩
theorem copy_ok (N : Nat) (hN : N ≤ 100) : CopyOk w mean mg mb N (3 * N + 5) := by
  induction N with
  | zero => intro t v H wa bd β R h; exact absurd (Nat.le_trans t.sz_pos h) (by decide)
  | succ N IH =>
    intro t v H wa bd β R hsz hv hw kR
    refine Tell.defC (need := 3 * N + 7) (binds := [(Str.ofString "told", v), (Str.ofString "world", .ref wa), (Str.ofString "bounds", .ref bd)]) (fun L => [(Str.ofString "bounds", L + 2), (Str.ofString "world", L + 1)]) (put (fun _ => none) (Str.ofString "told") v) (put (put (fun _ => none) (Str.ofString "world") (.ref wa)) (Str.ofString "bounds") (.ref bd))
      (by k_is) (by k_is) rfl rfl (by decide +kernel) rfl rfl rfl (fun _ => rfl) (fun _ => rfl) (fun _ => rfl) (fun D cells r Y below => ?_)
    obtain ⟨o2, o1, rfl, ho2, ho1⟩ := Y.two
    replace ho1 : o1.data = .cell (some (.ref wa)) := ho1
    replace ho2 : o2.data = .cell (some (.ref bd)) := ho2
    have r1 : (Cx.mk (w := w) (mean := mean) (mg := mg) (mb := mb) _ _ D).room 1 := r.le (by omega)
    have up : ∀ p ∈ H, p ∈ H ++ [(D.L + 2, o2), (D.L + 1, o1)] := mem_l
    have c2 : (D.L + 2, o2) ∈ H ++ [(D.L + 2, o2), (D.L + 1, o1)] := List.mem_append_right _ (.head _)
    have c1 : (D.L + 1, o1) ∈ H ++ [(D.L + 2, o2), (D.L + 1, o1)] := List.mem_append_right _ (.tail _ (.head _))
    have hw' := hw.mono up
    have fin : ∀ {b : Bool} {n : Led}, t.cop β = b → (∀ p ∈ H, p ∈ n) → ∃ n', (∀ p ∈ n', p ∈ n) ∧ R (.bool b) n' := fun e h => ⟨H, h, e ▸ kR⟩
    refine Run.drop ?_
    have hv' := hv
    obtain ⟨T, hT⟩ : ∃ T, T = t := ⟨t, rfl⟩
    have hvT : TyIn H v T := hT ▸ hv
    have hszT : T.sz ≤ N + 1 := hT ▸ hsz
    have finT : ∀ {b : Bool} {n : Led}, T.cop β = b → (∀ p ∈ H, p ∈ n) → ∃ n', (∀ p ∈ n', p ∈ n) ∧ R (.bool b) n' := by rw [hT]; exact fin
    cases hv
    case int => exact Run.asg (Ev.pe (by walk_at "pe") fun _ => Run.ifT (Pt.inS (Pe.loc rfl rfl) (Pl.strsC (Pl.strsC (Pl.strsC (Pl.strsC Pl.strsN)))) rfl r1 (fun _ => rfl)) (Run.ret (Ev.pe Pe.bool fun _ => fin rfl up))) rfl
    case bool => exact Run.asg (Ev.pe (by walk_at "pe") fun _ => Run.ifT (Pt.inS (Pe.loc rfl rfl) (Pl.strsC (Pl.strsC (Pl.strsC (Pl.strsC Pl.strsN)))) rfl r1 (fun _ => rfl)) (Run.ret (Ev.pe Pe.bool fun _ => fin rfl up))) rfl
    case never => exact Run.asg (Ev.pe (by walk_at "pe") fun _ => Run.ifT (Pt.inS (Pe.loc rfl rfl) (Pl.strsC (Pl.strsC (Pl.strsC (Pl.strsC Pl.strsN)))) rfl r1 (fun _ => rfl)) (Run.ret (Ev.pe Pe.bool fun _ => fin rfl up))) rfl
    all_goals refine Run.asg (Ev.pe (by walk_at "pe") fun _ => Run.ifF (Pt.inS (Pe.loc rfl rfl) (Pl.strsC (Pl.strsC (Pl.strsC (Pl.strsC Pl.strsN)))) rfl r1 (fun _ => rfl)) ?_) rfl
    case ref => exact Run.ifT (by walk_at "pt") (Run.ret (Ev.pe (Pe.not (by walk_at "pe")) fun _ => fin rfl up))
    all_goals refine Run.ifF (by walk_at "pt") ?_
    case box => exact Run.ifF (by walk_at "pt") (Run.ifF (by walk_at "pt") (Run.ifT (by walk_at "pt") (Run.ret (Ev.pe Pe.bool fun _ => fin rfl up))))
    case par ha =>
      obtain ⟨ob, kvs, hb1, hb2, hb3⟩ := hw'.bounds
      refine Run.ifF (by walk_at "pt") (Run.ifT (by walk_at "pt") (Run.ret (Ev.cmp (Ev.pe (Pe.glo (by k_is) rfl) fun _ => Ev.dget (Pe.cel c2 ho2 rfl rfl) hb1 hb2 (by walk_at "pe") (Ev.tuple Pl.nil (fun σ a' ha' => ⟨mem_l _ hb1, ?_⟩) (fun _ => rfl)) _ rfl))))
      have e : ∀ {nm : Str}, ∃ ts a, (valueAt kvs nm).getD (.ref a') = .ref a ∧ (a, tup ts) ∈ H ++ [(D.L + 2, o2), (D.L + 1, o1)] ++ [(a', tup [])] ∧ (∀ y ∈ ts, ∃ s t, y = .str s t) ∧ ts.any (isS (Str.ofString "Copy")) = β nm := fun {nm} => by
        rcases hb3 nm with ⟨h1, h2⟩ | ⟨v, h1, a, ts, rfl, h3, h4, h5⟩
        · exact ⟨[], a', by rw [h1]; rfl, mem_e, fun _ h => (nomatch h), h2.symm⟩
        · exact ⟨ts, a, by rw [h1]; rfl, mem_l _ h3, h4, h5⟩
      obtain ⟨ts, a, e1, e2, e3, e4⟩ := e
      rw [e1]
      exact ⟨_, Po.inT _ e2 (fun y hy => by obtain ⟨s, t, rfl⟩ := e3 y hy; exact Eqv.str) r1, fin e4.symm fun p hp => mem_l _ (up p hp)⟩
    case S ty h1 h2 h3 h4 h5 =>
      have hcT : T.cop β = ty.cop β := by rw [hT]; rfl
      have hty : ty.sz ≤ N := Nat.le_of_succ_le_succ hsz
      obtain ⟨il, r0, r1', k, st, pl, k', p0, t0, t1, wR, hil, hr0, hr1, hst, hpl, hp0⟩ := hw'.world
      refine Run.ifF (by walk_at "pt") (Run.ifF (by walk_at "pt") (Run.ifF (by walk_at "pt") (Run.forL (Ev.pe (Pe.attr (Pe.cel c1 ho1 rfl rfl) wR (.head _) (by k_is) (by k_is) (by k_is) (by k_is) rfl) fun _ => ⟨_, _, _, ImJ (H ++ [(D.L + 2, o2), (D.L + 1, o1)]) r0 r1' (.ref _) T β, rfl, hil, ⟨rfl, rfl, .inl rfl⟩, ?_, ?_⟩))))
      · rintro v vs' m n I oI hS ⟨rfl, mt, hcase⟩ off
        refine As.name ?_ rfl
        refine Run.asg (Ev.dict0 fun d o hd hlt => ?_) rfl
        have upd : ∀ p ∈ H ++ [(D.L + 2, o2), (D.L + 1, o1)], p ∈ (d, o) :: (I, oI) :: (H ++ [(D.L + 2, o2), (D.L + 1, o1)]) := fun _ h => .tail _ (.tail _ h)
        have offd : ∀ p ∈ (I, oI) :: (H ++ [(D.L + 2, o2), (D.L + 1, o1)]), p.1 ≠ d := fun p hp => Nat.ne_of_lt (hlt p hp)
        rcases hcase with h | ⟨h, hc⟩ | ⟨h, -⟩
        · cases h
          refine Run.ifEt' (Et.and (Et.pt (Pt.cmp (Pe.attr (Pe.loc rfl rfl) (hr0.mono upd) (.head _) (by k_is) (by k_is) (by k_is) (by k_is) rfl) (Pe.glo (by k_is) rfl) fun _ _ => Po.eqSb (b := true) rfl) ⟨(fun h => nomatch h), fun _ => Et.and (Et.val (Ev.callX (need := 2) (Pe.glo (by k_is) rfl) (by k_is)
            (El.cons (Ev.call (by k_is) (by k_is) rfl (Pl.cons (Pe.attr (Pe.loc rfl rfl) (hr0.mono upd) (.tail _ (.head _)) (by k_is) (by k_is) (by k_is) (by k_is) (by cases hst; rfl)) Pl.nil) (r.le (by omega)) fun _ => erased_ok 2 (by decide) (by decide) (hst.mono upd) (fun _ h => h) fun b1 g1 n1 M1 T1 =>
              El.cons (Ev.call (by k_is) (by k_is) rfl (Pl.cons (Pe.loc mt rfl) Pl.nil) (r.le (by omega)) fun _ => erased_ok (N + 1) hN hsz (hv'.mono fun p hp => M1.n p (upd p (up p hp))) (fun _ h => h) fun b2 g2 n2 M2 T2 => El.pl (Pl.cons (Pe.loc rfl rfl) Pl.nil) fun _ => ?_))) (r.le (by omega))))⟩))
          have T1' := T1.mono fun p hp => M2.n p (M1.sub (fun _ h => h) p hp)
          have T2' := T2.mono (M2.sub fun _ h => h)
          have E := M1.ext.trans M2.ext
          obtain ⟨n3, rfl, off3, E3⟩ := E.cons offd
          refine matched_S (T1'.inner hd) (T2'.inner hd) off3 hd fun o' x n' hd' hx e' off' => ?_
          refine ⟨_, rfl, (fun h => nomatch h), fun _ => Et.andN ⟨fun _ => ?_, (fun h => nomatch h)⟩⟩
          have up' : ∀ p ∈ H ++ [(D.L + 2, o2), (D.L + 1, o1)], p ∈ (d, o') :: n' := fun p hp => .tail _ (e'.mem p (E3.mem p (.tail _ hp)))
          have hx' := hx.mono fun p hp => (List.Mem.tail (d, o') hp : p ∈ (d, o') :: n')
          refine Run.ifEt' (Et.val (Ev.call (by k_is) (by k_is) rfl (Pl.cons (Pe.loc rfl rfl) (Pl.cons (Pe.loc rfl rfl) (Pl.cons (Pe.cel (up' _ c1) ho1 rfl rfl) (Pl.cons (Pe.cel (up' _ c2) ho2 rfl rfl) Pl.nil)))) (r.le (by omega)) fun _ =>
            bounds_ok (τ := fun n => if n = Str.ofString "T" then some ty else none) (IH (by omega)) (Nat.le_trans ty.sz_pos hty) ((hr0.mono up').sub fun p hp => .tail _ (.tail _ hp)) (up' _ hpl) (hp0.mono up') (.head _) hd' (tab_one hty hx') (hw'.mono up') ⟨_, rfl, fun hb => ?_, fun hb => ?_⟩ (by omega)))
          · exact Run.ret (Ev.pe Pe.bool fun _ => finT (by rw [hcT]; simpa [parsAll] using hb) fun p hp => up' p (up p hp))
          · exact Run.sub (Run.nil (Run.nil ⟨_, fun _ h => h, off, hS, rfl, mt, .inr (.inl ⟨rfl, by rw [hcT]; simpa [parsAll] using hb⟩)⟩)) fun p hp => .tail _ (e'.mem p (E3.mem p hp))
        · cases h
          exact Run.ifEt' (Et.and (Et.pt (Pt.cmp (Pe.attr (Pe.loc rfl rfl) (hr1.mono upd) (.head _) (by k_is) (by k_is) (by k_is) (by k_is) rfl) (Pe.glo (by k_is) rfl) fun _ _ => Po.eqSb (b := false) rfl) ⟨fun _ => ⟨(fun h => nomatch h), fun _ => Run.sub (Run.nil ⟨_, fun _ h => h, off, hS, rfl, mt, .inr (.inr ⟨rfl, hc⟩)⟩) fun _ h => .tail _ h⟩, (fun h => nomatch h)⟩))
        · exact nomatch h
      · rintro m n hS ⟨rfl, mt, hcase⟩
        rcases hcase with h | ⟨h, -⟩ | ⟨-, hc⟩
        · exact nomatch h
        · exact nomatch h
        · exact Run.ret (Ev.pe Pe.bool fun _ => finT hc up)
    case N h1 h2 h3 =>
      have hcT : T.cop β = false := by rw [hT]; rfl
      obtain ⟨il, r0, r1', k, st, pl, k', p0, t0, t1, wR, hil, hr0, hr1, hst, hpl, hp0⟩ := hw'.world
      refine Run.ifF (by walk_at "pt") (Run.ifF (by walk_at "pt") (Run.ifF (by walk_at "pt") (Run.forL (Ev.pe (Pe.attr (Pe.cel c1 ho1 rfl rfl) wR (.head _) (by k_is) (by k_is) (by k_is) (by k_is) rfl) fun _ => ⟨_, _, _, ImJ (H ++ [(D.L + 2, o2), (D.L + 1, o1)]) r0 r1' (.ref _) T β, rfl, hil, ⟨rfl, rfl, .inl rfl⟩, ?_, ?_⟩))))
      · rintro v vs' m n I oI hS ⟨rfl, mt, hcase⟩ off
        refine As.name ?_ rfl
        refine Run.asg (Ev.dict0 fun d o hd hlt => ?_) rfl
        have upd : ∀ p ∈ H ++ [(D.L + 2, o2), (D.L + 1, o1)], p ∈ (d, o) :: (I, oI) :: (H ++ [(D.L + 2, o2), (D.L + 1, o1)]) := fun _ h => .tail _ (.tail _ h)
        have offd : ∀ p ∈ (I, oI) :: (H ++ [(D.L + 2, o2), (D.L + 1, o1)]), p.1 ≠ d := fun p hp => Nat.ne_of_lt (hlt p hp)
        rcases hcase with h | ⟨h, hc⟩ | ⟨h, -⟩
        · cases h
          refine Run.ifEt' (Et.and (Et.pt (Pt.cmp (Pe.attr (Pe.loc rfl rfl) (hr0.mono upd) (.head _) (by k_is) (by k_is) (by k_is) (by k_is) rfl) (Pe.glo (by k_is) rfl) fun _ _ => Po.eqSb (b := true) rfl) ⟨(fun h => nomatch h), fun _ => Et.and (Et.val (Ev.callX (need := 2) (Pe.glo (by k_is) rfl) (by k_is)
            (El.cons (Ev.call (by k_is) (by k_is) rfl (Pl.cons (Pe.attr (Pe.loc rfl rfl) (hr0.mono upd) (.tail _ (.head _)) (by k_is) (by k_is) (by k_is) (by k_is) (by cases hst; rfl)) Pl.nil) (r.le (by omega)) fun _ => erased_ok 2 (by decide) (by decide) (hst.mono upd) (fun _ h => h) fun b1 g1 n1 M1 T1 =>
              El.cons (Ev.call (by k_is) (by k_is) rfl (Pl.cons (Pe.loc mt rfl) Pl.nil) (r.le (by omega)) fun _ => erased_ok (N + 1) hN hsz (hv'.mono fun p hp => M1.n p (upd p (up p hp))) (fun _ h => h) fun b2 g2 n2 M2 T2 => El.pl (Pl.cons (Pe.loc rfl rfl) Pl.nil) fun _ => ?_))) (r.le (by omega))))⟩))
          have T1' := T1.mono fun p hp => M2.n p (M1.sub (fun _ h => h) p hp)
          have T2' := T2.mono (M2.sub fun _ h => h)
          have E := M1.ext.trans M2.ext
          refine matched_N T1' T2' ?_
          exact ⟨_, rfl, fun _ => ⟨(fun h => nomatch h), fun _ => Run.sub (Run.nil ⟨_, fun _ h => h, off, hS, rfl, mt, .inr (.inl ⟨rfl, hcT⟩)⟩) fun p hp => E.mem p (.tail _ hp)⟩, (fun h => nomatch h)⟩
        · cases h
          exact Run.ifEt' (Et.and (Et.pt (Pt.cmp (Pe.attr (Pe.loc rfl rfl) (hr1.mono upd) (.head _) (by k_is) (by k_is) (by k_is) (by k_is) rfl) (Pe.glo (by k_is) rfl) fun _ _ => Po.eqSb (b := false) rfl) ⟨fun _ => ⟨(fun h => nomatch h), fun _ => Run.sub (Run.nil ⟨_, fun _ h => h, off, hS, rfl, mt, .inr (.inr ⟨rfl, hc⟩)⟩) fun _ h => .tail _ h⟩, (fun h => nomatch h)⟩))
        · exact nomatch h
      · rintro m n hS ⟨rfl, mt, hcase⟩
        rcases hcase with h | ⟨h, -⟩ | ⟨-, hc⟩
        · exact nomatch h
        · exact nomatch h
        · exact Run.ret (Ev.pe Pe.bool fun _ => finT hc up)
    all_goals
      have hcT : T.cop β = T.kids.cop β := by first | (rw [hT]; rfl) | (rw [hT]; exact arr_cop _)
      have hkT : T.kids.sz ≤ N := by have := T.kids_sz; omega
      refine Run.ifT (by walk_at "pt") (Run.ret (Ev.cmp (Ev.compT (cl := [(Str.ofString "world", D.L + 1), (Str.ofString "bounds", D.L + 2)]) rfl (by decide) rfl (by decide) rfl (Ev.call (by k_is) (by k_is) rfl (Pl.cons (Pe.loc rfl rfl) Pl.nil) r1 fun _ => parts_ok hvT up fun b vs n e hb hvs => ?_))))
      have en := e.mem
      refine ⟨b, vs, CmJ n β N T.kids, rfl, hb, Nat.ble_eq_true_of_le (by have := hvs.length; omega), ⟨rfl, T.kids, hvs.mono fun p hp => en p (up p hp), hkT, .inl ⟨rfl, rfl⟩⟩, ?_, ?_⟩
      · rintro v₁ vs' ys n₁ hS ⟨rfl, ds', hvs, hsz', hc⟩ I oI B oB D' m₂ hB hx off
        obtain ⟨d₁, ds'', rfl, g1, g2⟩ := hvs.uncons
        have upk : ∀ p ∈ n₁, p ∈ (I, oI) :: (B, oB) :: (D', lst ys ys.length) :: n₁ := fun _ h => .tail _ (.tail _ (.tail _ h))
        refine Et.not (Et.val (Ev.call (by k_is) (by k_is) rfl (Pl.cons (Pe.own (.tail _ (.head _)) hB hx rfl rfl) (Pl.cons (Pe.cel (upk _ (en _ c1)) ho1 rfl rfl) (Pl.cons (Pe.cel (upk _ (en _ c2)) ho2 rfl rfl) Pl.nil))) (r.le (by omega)) fun _ =>
          IH (by omega) (Nat.le_trans (Nat.le_add_right ..) hsz') (g1.mono upk) (hw.mono fun p hp => upk p (en p (up p hp))) ⟨_, rfl, fun hb => ?_, fun hb => ?_⟩))
        · refine Ev.pe (Pe.own (.tail _ (.head _)) hB hx rfl rfl) fun _ => ⟨n₁, ⟨fun _ h => h, off⟩, hS, rfl, ds'', g2, Nat.le_trans (Nat.le_add_left ..) hsz', .inr ⟨by simp, ?_⟩⟩
          have hb' : d₁.cop β = false := by simpa using hb
          rcases hc with ⟨-, hc⟩ | ⟨-, hc⟩
          · rw [hc]
            show (d₁.cop β && ds''.cop β) = false
            rw [hb']; rfl
          · exact hc
        · refine ⟨n₁, ⟨fun _ h => h, off⟩, hS, rfl, ds'', g2, Nat.le_trans (Nat.le_add_left ..) hsz', ?_⟩
          have hb' : d₁.cop β = true := by simpa using hb
          refine hc.imp (fun hc => ⟨hc.1, ?_⟩) fun hc => hc
          rw [hc.2]
          show (d₁.cop β && ds''.cop β) = ds''.cop β
          rw [hb']; rfl
      · rintro ys n₁ D' hS ⟨rfl, ds', hvs, hsz', hc⟩ off
        cases hvs
        refine Ev.list Pl.nil (fun _ a ha => ?_) (fun _ => rfl)
        rcases hc with ⟨rfl, hc⟩ | ⟨hy, hc⟩
        · exact ⟨_, Po.eqL (.tail _ (.head _)) (.head _) Eqs.nil r1 (d := 0), finT (by rw [hcT, hc]; rfl) fun p hp => .tail _ (.tail _ (en p (up p hp)))⟩
        · refine ⟨_, Po.eqL' (.tail _ (.head _)) (.head _) ?_ r1, finT (by rw [hcT, hc]) fun p hp => .tail _ (.tail _ (en p (up p hp)))⟩
          cases ys with
          | nil => exact absurd rfl hy
          | cons _ _ => rfl
section
variable {C : Cx w mean mg mb} {m : Mp} {news : Led} {env : Env} {K : Mp → Led → Prop} {R : Value → Led → Prop}
theorem Po.modI {x y : Int} {t u : Tok} (hy : y ≠ 0) : Po C m news (binaryOp .Mod (.int x t) (.int y u)) (fun t => .int (x.fmod y) t) := .of fun _ _ _ a k => PyProof.Rows.mod_int hy (k _ _ _ a)
theorem Po.divI {x y : Int} {t u : Tok} (hy : 0 < y) (hy2 : y < 1048576) : Po C m news (binaryOp .FloorDiv (.int x t) (.int y u)) (fun t => .int (x.fdiv y) t) := .of fun _ _ _ a k => PyProof.Rows.floordiv_int (by omega) (k _ _ _ a) (.inl (PyProof.noPylong_small (by omega)))
theorem Po.mulI {x y : Int} {t u : Tok} (h : IntMulOk x y) : Po C m news (binaryOp .Mult (.int x t) (.int y u)) (fun t => .int (x * y) t) := .of fun _ _ _ a k => PyProof.Rows.mul_int (k _ _ _ a) h
/-- int(e) of an int -/
theorem Pe.intOf {e : Expr} {np pos : Pos} {n : Int} {g : Tok → Tok} (p : Pe C env m news e (fun t => .int n (g t))) (hm : nsIn (hk.heap_39 w.params) mainGlobals (Str.ofString "int") = some Option.none) (ok : gloOk env (Str.ofString "int") = true)
    (hg : env.globals = mainGlobals := by rfl) (hb : env.builtins = builtinsNs := by rfl) (he : starEach [e] env = (false, eval e env) :: starEach [] env := by rfl)
    (hc : eval (.Call (.Name (Str.ofString "int") np) [e] [] pos) env = (do callWith pos (← eval (.Name (Str.ofString "int") np) env) [] (backTo pos (starEach [e] env)) (backToKw pos (keywordEach [] env))) := by rfl) : Pe C env m news (.Call (.Name (Str.ofString "int") np) [e] [] pos) (fun t => .int n t) :=
  .of fun _ _ _ a q => by
    refine Call_ ((Pe.blt hm boot_int (by decide) ok hg hb).use a fun _ _ _ a => ?_) hc
    exact Pv.callWith_type1 (args_cons (p.use a fun _ _ t a => args_nil (call_int_int (q _ _ _ a))) he) he rfl
/-- an int at a written place of a list, changed -/
theorem Run.setI {e ve : Expr} {i : Int} {j : Nat} {ep sp pos : Pos} {rest : List Stmt} {l : Addr} {vs : List Value} {k n : Nat} {f : Tok → Value} {g : Obj → Led} (q : Pe C C.env m news ve f) (p : Pe C C.env m news e (fun _ => .ref l)) (U : UpdF l (lst vs k) news g) (hi : i = (n : Int)) (hn : n < vs.length) (hn2 : n < 100)
    (h : ∀ t, Run C m (g (lst (vs.set n (f t)) k)) rest K R) (hs : swapsWith ve (some (.Subscript e (.Constant (.int i) j ep) sp)) pos.line C.env = pure false := by rfl) : Run C m news (.Assign [.Subscript e (.Constant (.int i) j ep) sp] ve pos :: rest) K R :=
  ⟨fun _ _ _ a kk z => by
    subst hi
    refine wpAny_execs_cons (wpAny_Assign_Subscript (q.use a fun _ _ t a => p.use a fun _ _ _ a => wpAny_Constant_int ?_) hs)
    obtain ⟨pre, post, rfl, hg, b1, b2⟩ := U.split
    have zz := a.N (l, lst vs k) (List.mem_append_right _ (.head _))
    refine ki_setAt zz.1 (by omega) (by omega) (by rw [List.size_toArray]; omega) ((h t).go _ _ _ ⟨a.F.change (Heap.SameBut.update ..) zz.2.1 zz.2.2, ?_⟩ kk z)
    rw [hg]
    refine ki_turn _ a.N b1 b2 ?_ ?_
    · show vs.toArray.setIfInBounds (n : Int).toNat (f t) = (vs.set n (f t)).toArray
      apply Array.toList_inj.mp
      simp
    · simp⟩
theorem mul_fmod_ok (a b : Int) : IntMulOk (Int.fmod a 2147483647) b := by
  have h := fdiv_fmod_facts a 2147483647
  exact IntMulOk.of_left (intBits_le_64 (by omega) (by omega))
end
/-- the draws' state -/
def SrcObj (o : Obj) : Prop := ∃ x y tx ty n, o = lst [.int x tx, .int y ty] n ∧ 0 ≤ x ∧ 0 ≤ y ∧ y < 2147483647
theorem take_ok {l : Addr} {o : Obj} {H : Led} {top : Int} {tt : Tok} {R : Value → Led → Prop} (hS : SrcObj o) (hne : ∀ p ∈ H, p.1 ≠ l) (ht : 0 < top) (ht2 : top < 1048576) (k : ∀ v tr o', 0 ≤ v → v < top → SrcObj o' → R (.int v tr) ((l, o') :: H)) :
    Tell w mean mg mb 1 182 [.ref l, .int top tt] ((l, o) :: H) R := by
  obtain ⟨x, y, tx, ty, n, rfl, hx, hy, hy2⟩ := hS
  refine Tell.def (need := 0) (binds := [(Str.ofString "source", .ref l), (Str.ofString "top", .int top tt)]) (by k_is) (by k_is) rfl rfl rfl rfl rfl (by decide) (fun D r => ?_)
  refine Run.if (Pt.cmp (Pe.subL (Pe.loc rfl rfl) (.head _) rfl) Pe.int fun _ _ => Po.gtI) (fun _ => ?_) fun _ => ?_
  · refine Run.asg (Ev.pe (Pe.bin (Pe.intOf (Pe.subL (Pe.loc rfl rfl) (.head _) rfl) (by k_is) rfl) (Pe.loc rfl rfl) fun _ _ => Po.modI (by omega)) fun t => ?_) rfl
    refine Run.setI (n := 0) (Pe.bin (Pe.subL (Pe.loc rfl rfl) (.head _) rfl) (Pe.loc rfl rfl) fun _ _ => Po.divI ht ht2) (Pe.loc rfl rfl) (.head hne) rfl (Nat.succ_pos _) (by decide) fun t => ?_
    exact Run.ret (Ev.pe (Pe.loc rfl rfl) fun _ => k _ _ _ (Int.fmod_nonneg_of_pos _ ht) (Int.fmod_lt_of_pos _ ht) ⟨_, _, _, _, _, rfl, Int.fdiv_nonneg hx (Int.le_of_lt ht), hy, hy2⟩)
  · refine Run.setI (n := 1) (Pe.bin (Pe.intOf (Pe.bin (Pe.bin (Pe.subL (Pe.loc rfl rfl) (.head _) rfl) Pe.int fun _ _ => Po.mulI ?_) Pe.int fun _ _ => Po.addI) (by k_is) rfl) Pe.int fun _ _ => Po.modI (by decide)) (Pe.loc rfl rfl) (.head hne) rfl (Nat.lt_succ_self _) (by decide) fun t => ?_
    · exact IntMulOk.of_left (intBits_le_64 (by omega) (by omega))
    · refine Run.ret (Ev.pe (Pe.bin (Pe.intOf (Pe.bin (Pe.bin (Pe.intOf (Pe.bin (Pe.subL (Pe.loc rfl rfl) (.head _) rfl) (Pe.subL (Pe.loc rfl rfl) (.head _) rfl) fun _ _ => Po.mulI (mul_fmod_ok _ _)) (by k_is) rfl) Pe.int fun _ _ => Po.modI (by decide)) Pe.int fun _ _ => Po.divI (by decide) (by decide)) (by k_is) rfl) (Pe.loc rfl rfl) fun _ _ => Po.modI (by omega)) fun t => ?_)
      exact k _ _ _ (Int.fmod_nonneg_of_pos _ ht) (Int.fmod_lt_of_pos _ ht) ⟨_, _, _, _, _, rfl, hx, Int.fmod_nonneg_of_pos _ (by decide), Int.fmod_lt_of_pos _ (by decide)⟩
/-- things[a draw] -/
theorem Ev.itemL {C : Cx w mean mg mb} {m : Mp} {news : Led} {env : Env} {R : Value → Led → Prop} {e i : Expr} {pos : Pos} {a : Addr} {vs : List Value} {k : Nat} (p : Pe C env m news e (fun _ => .ref a)) (hl : Nat.ble vs.length 100 = true)
    (q : Ev C env m news i fun v n => ∃ x t, v = .int x t ∧ 0 ≤ x ∧ x < vs.length ∧ (a, lst vs k) ∈ n ∧ ∀ v ∈ vs, R v n)
    (hs : ∀ x u, subscripted i false (.ref a) (.int x u) = operate [.ref a, .int x u] (getItem (.ref a) (.int x u)) := by intro _ _; with_unfolding_all rfl) : Ev C env m news (.Subscript e i pos) R :=
  ⟨fun _ _ _ at_ z => by
    refine Subscript_ (p.use at_ fun _ _ _ at_ => q.go _ _ _ at_ fun v n h tk r at_ => ?_)
    obtain ⟨x, t, rfl, h0, h1, hm, r⟩ := r
    have hl' := Nat.le_of_ble_eq_true hl
    have L : h.IsList a vs.toArray := ⟨_, (at_.N _ hm).1, rfl, _, rfl⟩
    have hx : x.toNat < vs.length := by omega
    refine tail_any L.typeIs slot_list_getitem.lookup (wpAny_getItem_list L h0 (by omega) (x := vs[x.toNat]) (by simp [hx]) (z _ _ _ _ (r _ (List.getElem_mem hx)) at_)) (hs _ _)⟩
theorem Pe.lenL {C : Cx w mean mg mb} {m : Mp} {news : Led} {env : Env} {e : Expr} {np pos : Pos} {a : Addr} {vs : List Value} {k : Nat} (p : Pe C env m news e (fun _ => .ref a)) (ha : (a, lst vs k) ∈ news) (hl : Nat.ble vs.length 100 = true) (hm : nsIn (hk.heap_39 w.params) mainGlobals (Str.ofString "len") = some Option.none) (ok : gloOk env (Str.ofString "len") = true)
    (hg : env.globals = mainGlobals := by rfl) (hb : env.builtins = builtinsNs := by rfl) (he : starEach [e] env = (false, eval e env) :: starEach [] env := by rfl)
    (hc : eval (.Call (.Name (Str.ofString "len") np) [e] [] pos) env = (do callWith pos (← eval (.Name (Str.ofString "len") np) env) [] (backTo pos (starEach [e] env)) (backToKw pos (keywordEach [] env))) := by rfl) : Pe C env m news (.Call (.Name (Str.ofString "len") np) [e] [] pos) (fun t => .int vs.length t) :=
  Pe.call1 p bootS_len hm ok (fun _ => Po.lenL ha hl) (by decide) hg hb he hc
theorem one_ok {l a : Addr} {o : Obj} {H : Led} {vs : List Value} {j : Nat} {R : Value → Led → Prop} (hS : SrcObj o) (hne : ∀ p ∈ H, p.1 ≠ l) (ha : (a, lst vs j) ∈ H) (h0 : 0 < vs.length) (hl : Nat.ble vs.length 100 = true) (k : ∀ v o', v ∈ vs → SrcObj o' → R v ((l, o') :: H)) :
    Tell w mean mg mb 2 189 [.ref l, .ref a] ((l, o) :: H) R := by
  refine Tell.def (need := 1) (binds := [(Str.ofString "source", .ref l), (Str.ofString "things", .ref a)]) (by k_is) (by k_is) rfl rfl rfl rfl rfl (by decide) (fun D r => ?_)
  have hl' := Nat.le_of_ble_eq_true hl
  exact Run.ret (Ev.itemL (Pe.loc rfl rfl) hl (Ev.call (by k_is) (by k_is) rfl (Pl.cons (Pe.loc rfl rfl) (Pl.cons (Pe.lenL (Pe.loc rfl rfl) (.tail _ ha) hl (by k_is) rfl) Pl.nil)) r fun _ => take_ok hS hne (by omega) (by omega) fun v tr o' h1 h2 hS' => ⟨v, tr, rfl, h1, h2, .tail _ ha, fun v hv => k v o' hv hS'⟩))
section
variable {C : Cx w mean mg mb} {m : Mp} {news : Led} {env : Env} {K : Mp → Led → Prop} {R : Value → Led → Prop}
theorem Ev.listX {es : List Expr} {pos : Pos} (p : El C env m news es fun vs n => Nat.ble vs.length 100 = true ∧ ∀ a, (∀ p ∈ n, p.1 < a) → R (.ref a) ((a, lst vs 0) :: n)) : Ev C env m news (.List es pos) R :=
  ⟨fun _ _ _ a q => List_ (p.go _ _ _ _ a fun _ _ _ _ r a => newList_N a.F a.N (fun _ F' N' => q _ _ _ _ (r.2 _ a.below) ⟨F', N'⟩) (Nat.le_trans (Nat.le_of_ble_eq_true r.1) (by decide)))⟩
/-- a call of a built-in type upon one value -/
theorem Ev.callT1 {x : Str} {T : String} {np pos : Pos} {e : Expr} (hx : bootBuiltins x = some (.type T)) (hm : nsIn (hk.heap_39 w.params) mainGlobals x = some none) (ok : gloOk env x = true)
    (p : Ev C env m news e fun v n => Tree C m n (PySem.call (.type T) [v]) R) (hn : x ≠ "__name__" := by decide) (hg : env.globals = mainGlobals := by rfl) (hb : env.builtins = builtinsNs := by rfl) (he : starEach [e] env = (false, eval e env) :: starEach [] env := by rfl)
    (hc : eval (.Call (.Name x np) [e] [] pos) env = (do callWith pos (← eval (.Name x np) env) [] (backTo pos (starEach [e] env)) (backToKw pos (keywordEach [] env))) := by rfl) : Ev C env m news (.Call (.Name x np) [e] [] pos) R :=
  ⟨fun _ _ _ a q => by
    refine Call_ ((Pe.blt hm hx hn ok hg hb).use a fun _ _ _ a => ?_) hc
    exact Pv.callWith_type1 (args_cons (p.go _ _ _ a fun _ _ _ _ r a => args_nil (r _ _ _ a q)) he) he rfl⟩
theorem Ev.callB1 {x : Str} {id : String} {np pos : Pos} {e : Expr} (hx : bootBuiltins x = some (.builtin id)) (hm : nsIn (hk.heap_39 w.params) mainGlobals x = some none) (ok : gloOk env x = true)
    (p : Ev C env m news e fun v n => Tree C m n (PySem.call (.builtin id) [v]) R) (hn : x ≠ "__name__" := by decide) (hg : env.globals = mainGlobals := by rfl) (hb : env.builtins = builtinsNs := by rfl) (he : starEach [e] env = (false, eval e env) :: starEach [] env := by rfl)
    (hc : eval (.Call (.Name x np) [e] [] pos) env = (do callWith pos (← eval (.Name x np) env) [] (backTo pos (starEach [e] env)) (backToKw pos (keywordEach [] env))) := by rfl) : Ev C env m news (.Call (.Name x np) [e] [] pos) R :=
  ⟨fun _ _ _ a q => by
    refine Call_ ((Pe.blt hm hx hn ok hg hb).use a fun _ _ _ a => ?_) hc
    exact callWith_builtin1 (args_cons (p.go _ _ _ a fun _ _ _ _ r a => args_nil (r _ _ _ a q)) he) he rfl⟩
abbrev rangeObj (n : Int) (t u v : Tok) : Obj := { cls := .type "range", data := .fields #[.int 0 t, .int n u, .int 1 v] }
theorem Source.range {r : Addr} {k : Nat} {t u v : Tok} (hm : (r, rangeObj k t u v) ∈ news) (hk : k ≤ 100) : Source C news (.ref r) k (fun i v => ∃ t, v = .int (0 + (i : Int)) t) (fun _ => True) := fun m s Q E a q => by
  have hR : IsRange s.heap r 0 k 1 t u v := (a.N _ hm).1
  have hlt : r < s.heap.objs.size := Heap.lt_size hR
  have hn : Builtin.Range.rangeSize 0 k 1 = (k : Int) := by
    rw [rangeSize_one]
    split <;> omega
  have hsm : Builtin.Range.small 0 k 1 = true := by
    unfold Builtin.Range.small
    rw [hn]
    simp [Builtin.Range.rangeFitsLong]
    omega
  refine wpAny_pyIter_range hR hsm (q _ [s.heap.objs.size] _ _ (LCg.range_walks rfl 0 k) (fun i h st => ⟨_, st⟩) (fun i h h' o nw st e e' k N S => LCg.range_st (h₀ := C.h₀) (L := C.L) i h h' o nw st e e' k N trivial)
    (by show IsRangeIter _ _ _ _ _; rw [hn]; simpa using Heap.get?_push_size _ rfl) (fun b hb => ?_) (a.up fun b o e => Heap.get?_push_of_some _ e) (Nat.ne_of_lt a.F.ns.lt) (next_is_new a.F) (fun p hp => Nat.ne_of_lt (Heap.lt_size (a.N p hp).1)))
  rw [Heap.size_push, List.mem_singleton.mp hb]
  exact Nat.lt_succ_self _
theorem range_tree {k : Int} {u : Tok} (h : ∀ r t v, (∀ p ∈ news, p.1 < r) → R (.ref r) ((r, rangeObj k t u v) :: news)) : Tree C m news (call (.type "range") [.int k u]) R := fun s Q E a q =>
  call_range_1 (q _ _ _ _ (h _ _ _ a.below) ⟨a.F.push _, a.N.push a.F _⟩)
theorem sum_tree {l : Addr} {vs : List Value} {k : Nat} {ns : List Int} (hm : (l, lst vs k) ∈ news) (hi : IntsAre vs ns) (h : ∀ t, R (.int ns.sum t) news) : Tree C m news (call (.builtin "sum") [.ref l]) R := fun s Q E a q => by
  obtain ⟨xs, e⟩ := hi.allInts.items
  have hl : s.heap.IsList l (intItems xs) := e ▸ ⟨_, (a.N _ hm).1, rfl, _, rfl⟩
  refine sum_intListG (by with_unfolding_all rfl) hl fun h' tk t' hk => ?_
  have e2 : preSum (numAt xs) xs.size = ns.sum := by
    rw [preSum_eq, List.take_of_length_le (by simp), ← nums_intItems, ← e, show vs.toArray.toList = vs from rfl, hi.numsOf]
  rw [e2]
  exact q _ _ _ _ (h t') (a.up hk)
theorem range_back {k : Int} {u : Tok} (h : ∀ r t v, (∀ p ∈ news, p.1 < r) → R (.ref r) (news ++ [(r, rangeObj k t u v)])) : Tree C m news (call (.type "range") [.int k u]) R := fun s Q E a q =>
  call_range_1 (q _ _ _ _ (h _ _ _ a.below) (At.back ⟨a.F.push _, a.N.push a.F _⟩))
theorem El.sub {es : List Expr} {R : List Value → Led → Prop} {news' : Led} (p : El C env m news' es R) (h : ∀ p ∈ news', p ∈ news) : El C env m news es R := ⟨fun pos _ _ _ a q => p.go pos _ _ _ (a.sub h) q⟩
end
section
variable {C : Cx w mean mg mb} {m : Mp} {news : Led} {env : Env} {K : Mp → Led → Prop} {R : Value → Led → Prop}
theorem Ev.bin {l r : Expr} {op : Operator} {pos : Pos} (p : Ev C env m news l fun v n => Ev C env m n r fun u n' => ∃ f, Po C m n' (binaryOp op v u) f ∧ ∀ t, R (f t) n') : Ev C env m news (.BinOp l op r pos) R :=
  ⟨fun _ _ _ a q => wpAny_BinOp (p.go _ _ _ a fun _ _ _ _ r a => r.go _ _ _ a fun _ _ _ _ r a => by obtain ⟨f, o, r⟩ := r; exact o.use a fun _ _ t a => q _ _ _ _ (r t) a)⟩
end
/-- rows of what _law_type gives -/
inductive RowsIn (β : Str → Bool) (G : Led) : List Value → List Ty → Prop
  | nil : RowsIn β G [] []
  | cons {a : Addr} {tv : Value} {z : Int} {t1 : Tok} {t : Ty} {vs : List Value} {ts : List Ty} : (a, tup [tv, .int z t1, .bool (t.cop β)]) ∈ G → z = t.sz → TyIn G tv t → RowsIn β G vs ts → RowsIn β G (.ref a :: vs) (t :: ts)
theorem RowsIn.mono {β : Str → Bool} {G G' : Led} {vs : List Value} {ts : List Ty} (x : RowsIn β G vs ts) (s : ∀ p ∈ G, p ∈ G') : RowsIn β G' vs ts := by
  induction x with
  | nil => exact .nil
  | cons h z t _ ih => exact .cons (s _ h) z (t.mono s) ih
theorem RowsIn.snoc {β : Str → Bool} {G : Led} {a : Addr} {tv : Value} {z : Int} {t1 : Tok} {t : Ty} {vs : List Value} {ts : List Ty} (x : RowsIn β G vs ts) (h : (a, tup [tv, .int z t1, .bool (t.cop β)]) ∈ G) (hz : z = t.sz) (ht : TyIn G tv t) : RowsIn β G (vs ++ [.ref a]) (ts ++ [t]) := by
  induction x with
  | nil => exact .cons h hz ht .nil
  | cons h' z' t' _ ih => exact .cons h' z' t' ih
theorem RowsIn.length {β : Str → Bool} {G : Led} {vs : List Value} {ts : List Ty} (x : RowsIn β G vs ts) : vs.length = ts.length := by
  induction x with
  | nil => rfl
  | cons _ _ _ _ ih => exact congrArg (· + 1) ih
def Tys.ofL : List Ty → Tys
  | [] => .nil
  | t :: ts => .cons t (ofL ts)
theorem ofL_sz : ∀ ts : List Ty, ((Tys.ofL ts).sz : Int) = (ts.map fun t => (t.sz : Int)).sum
  | [] => rfl
  | t :: ts => by
    rw [List.map_cons, List.sum_cons, ← ofL_sz ts]
    exact Int.natCast_add ..
theorem ofL_snoc : ∀ (ts : List Ty) (t : Ty), (Tys.ofL (ts ++ [t])).sz = (Tys.ofL ts).sz + t.sz
  | [], t => Nat.add_comm ..
  | u :: ts, t => by
    show u.sz + (Tys.ofL (ts ++ [t])).sz = u.sz + (Tys.ofL ts).sz + t.sz
    rw [ofL_snoc ts t, Nat.add_assoc]
def isF : Value → Bool
  | .bool b => b == false
  | _ => false
theorem ofL_cop (β : Str → Bool) : ∀ ts : List Ty, (Tys.ofL ts).cop β = !(ts.map fun t => Value.bool (t.cop β)).any isF
  | [] => rfl
  | t :: ts => by
    rw [List.map_cons, List.any_cons, Bool.not_or, ← ofL_cop β ts]
    show (t.cop β && _) = _
    cases t.cop β <;> rfl
theorem TysIn.snoc {G : Led} {t : Ty} {v : Value} : ∀ {ts : List Ty} {vs : List Value}, TysIn G vs (Tys.ofL ts) → TyIn G v t → TysIn G (vs ++ [v]) (Tys.ofL (ts ++ [t]))
  | [], _, h, hv => by cases h; exact .cons hv .nil
  | _ :: _, _, h, hv => by cases h with | cons a b => exact .cons a (TysIn.snoc b hv)
theorem ints_snoc {z : Int} {t : Tok} {vs : List Value} {ns : List Int} (h : IntsAre vs ns) : IntsAre (vs ++ [.int z t]) (ns ++ [z]) := h.append (.cons z t .nil)
/-- one column of the rows: [row[j] for row in rows] -/
theorem Ev.col {C : Cx w mean mg mb} {m : Mp} {N : Led} {R : Value → Led → Prop} {β : Str → Bool} {G : Led} {D : Addr} {ys : List Value} {k : Nat} {ts : List Ty} {x y : Str} {i : Int} {j i' : Nat} {px xp ep sp pos yp : Pos} {scope : Scope} (P : List Ty → List Value → Prop)
    (hclos : closureFor scope C.env = pure []) (hcell : ∀ y ∈ scope.names, y.2 ≠ .cell) (hkind : scope.kind = .function) (hnames : ∀ y ∈ scope.names, y.2 = .local → scope.names.lookup y.1 = some .local) (hx : scope.names.lookup x = some .local)
    (hy : m y = some (.ref D)) (oky : locOk C.env y = true) (okx : ∀ B, locOk (compEnvC scope [] B C.env) x = true) (hl : ∀ B, (compEnvC scope [] B C.env).locals = B) (hm : (D, lst ys k) ∈ N) (hr : RowsIn β G ys ts) (hG : ∀ p ∈ G, p ∈ N) (hn : Nat.ble ys.length 100 = true) (hi : i = (j : Int)) (hj : j < 3)
    (h0 : P [] []) (step : ∀ done t zs tv z t1, z = t.sz → TyIn G tv t → P done zs → ∀ v, [tv, .int z t1, .bool (t.cop β)][j]? = some v → P (done ++ [t]) (zs ++ [v]))
    (fin : ∀ zs D', P ts zs → zs.length = ts.length → (∀ p ∈ N, p.1 ≠ D') → R (.ref D') ((D', lst zs zs.length) :: N)) :
    Ev C C.env m N (.ListComp (.Subscript (.Name x xp) (.Constant (.int i) i' ep) sp) [⟨.Name x px, .Name y yp, [], 0⟩] scope pos) R := by
  refine Ev.compL hclos hcell hkind hnames hx (Ev.pe (Pe.loc hy oky) fun _ => ⟨D, ys, k, fun vs zs n => n = N ∧ ∃ done rest, done ++ rest = ts ∧ RowsIn β G vs rest ∧ P done zs ∧ zs.length = done.length, rfl, hm, hn, ⟨rfl, [], ts, rfl, hr, h0, rfl⟩, ?_, ?_⟩) (by intro _; rfl)
  · rintro v vs' zs n hS ⟨rfl, done, rest, he, hr', hP, hlen⟩ I oI B oB D' m₂ hB hx' off
    cases hr' with | @cons a tv z t1 t _ ts' ha hz ht hr' => ?_
    have hv : ∃ v, [tv, .int z t1, .bool (t.cop β)][j]? = some v := ⟨_, List.getElem?_eq_getElem hj⟩
    obtain ⟨v, hv⟩ := hv
    exact Ev.pe (Pe.sub (Pe.own (.tail _ (.head _)) hB hx' (hl B) (okx B)) (.tail _ (.tail _ (.tail _ (hG _ ha)))) hv hi (by omega)) fun _ => ⟨n, ⟨fun _ h => h, off⟩, hS, rfl, done ++ [t], ts', by rw [List.append_assoc]; exact he, hr', step done t zs tv z t1 hz ht hP v hv, by rw [List.length_append, List.length_append, hlen]; rfl⟩
  · rintro zs n D' hS ⟨rfl, done, rest, he, hr', hP, hlen⟩ off
    cases hr'
    rw [List.append_nil] at he
    subst he
    exact fin zs D' hP hlen off
/-- y = [.. for ..], which the machine binds amid the comprehension's end -/
theorem Run.asgC {C : Cx w mean mg mb} {m : Mp} {news : Led} {K : Mp → Led → Prop} {R : Value → Led → Prop} {elt iter : Expr} {x y : Str} {px py pos spos : Pos} {scope : Scope} {cl : List (Str × Addr)} {rest : List Stmt}
    (hsw : swapsWith (.ListComp elt [⟨.Name x px, iter, [], 0⟩] scope pos) (some (.Name y py)) spos.line C.env = pure true) (oky : locOk C.env y = true)
    (hclos : closureFor scope C.env = pure cl) (hcell : ∀ y ∈ scope.names, y.2 ≠ .cell) (hkind : scope.kind = .function) (hnames : ∀ y ∈ scope.names, y.2 = .local → scope.names.lookup y.1 = some .local) (hx : scope.names.lookup x = some .local)
    (h : Ev C C.env m news iter fun v n => ∃ len P S, ∃ J : Nat → List Value → Led → Prop, Source C n v len P S ∧ S n ∧ Nat.ble len 100 = true ∧ J 0 [] n ∧
      (∀ i v ys n, i < len → P i v → S n → J i ys n → Turn C m elt x scope cl v ys n fun ys n => S n ∧ J (i + 1) ys n) ∧ (∀ ys n D, S n → J len ys n → (∀ p ∈ n, p.1 ≠ D) → Run C (put m y (.ref D)) ((D, lst ys ys.length) :: n) rest K R))
    (hs : ∀ x, foldedSetIterable iter C.env x = pure x := by intro _; rfl) : Run C m news (.Assign [.Name y py] (.ListComp elt [⟨.Name x px, iter, [], 0⟩] scope pos) spos :: rest) K R := by
  refine ⟨fun s Q E a kk q => wpAny_execs_cons ?_⟩
  rw [exec_Assign_Name_used _ _ _ _ hsw]
  refine wpAny_bind (wpAny_standAt (wpAny_bind ?_))
  show wpAny _ C.A (do let _ ← comprehension (.ListComp elt [⟨.Name x px, iter, [], 0⟩] scope pos) scope C.env _ (newList []) false (eval iter C.env) (some (assign (.Name y py) C.env))) _ _ s
  refine wpAny_bind (wpAny_mono (wpAny_comprehension_free (use := some (assign (.Name y py) C.env)) (Q := fun _ s' => wpAny (model C.prog w) C.A (execs rest C.env) Q E s') rfl hs hclos hkind hnames (h.go _ _ _ a fun xv n h₁ tk₁ r a₁ => ?_)) (fun _ s' hq => wpAny_pure (wpAny_pure hq)) fun _ _ e => e)
  obtain ⟨len, P, S, J, src, hS, hl, hJ, turn, fin⟩ := r
  refine src m { s with heap := h₁, toks := tk₁ } _ _ a₁ fun I fp St h' W hIo hSt hst hfp a₂ hIL hI₀ off => ?_
  refine LCg.block_U (S := S) W (Nat.le_trans (Nat.le_of_ble_eq_true hl) (by decide)) hIo hSt hcell hkind hx hst hfp a₂.F a₂.N hIL hI₀ off hS
    (rest_of (Fin := fun ys n => S n ∧ J len ys n) (fun i ys n => S n ∧ J i ys n) len (fun i v ys n hi hP hJ => ?_) (fun ys n hJ => hJ) _ 0 [] n (Nat.zero_add _) ⟨hS, hJ⟩) ?_
  · intro I oI B oB D m₂ hB hx' off
    refine (turn i v ys n hi hP hJ.1 hJ.2 I oI B oB D m₂ hB hx' off).mono fun y n₁ r => ?_
    obtain ⟨n', hK, hS, hJ'⟩ := r
    exact ⟨n', hK, hS, hS, hJ'⟩
  · intro D B h' tk m' ys n' F' N' o1 hn hB₀ hD₀ hBL hDL hBD offB fin'
    show wpAny _ C.A (assign (.Name y py) C.env (.ref D)) _ _ _
    obtain ⟨-, hy, -⟩ := locOk_of oky
    have hp : (C.env.scope.kind == .class || (C.env.scope.kind == .module && C.env.locals != C.env.globals)) = false := by rw [show C.env.scope.kind = .function from C.fn.hk]; rfl
    refine wpAny_assign_Name (wpAny_storeName_local hy F'.ns (fun h₂ hn₂ hs₂ => ?_) hp)
    have N₂ := N'.set hs₂
    exact ⟨m', hn.sameBut hs₂ hBL, fun h'' hs'' => (fin ys n' D fin'.1 fin'.2 (off1 o1)).go _ _ _ ⟨(F'.set hn₂ hs₂).change hs'' hBL hB₀, comp_end N₂ hs'' hBD offB⟩ kk q⟩
theorem Tell.sub {need : Nat} {f : Addr} {vs : List Value} {news news' : Led} {R : Value → Led → Prop} (p : Tell w mean mg mb need f vs news' R) (h : ∀ p ∈ news', p ∈ news) : Tell w mean mg mb need f vs news R := ⟨fun C m r _ _ _ a q => p.go C m r _ _ _ (a.sub h) q⟩
theorem sw {x y : Addr × Obj} {H : Led} : ∀ p ∈ x :: y :: H, p ∈ y :: x :: H := fun p hp => by
  rcases List.mem_cons.mp hp with rfl | hp
  · exact .tail _ (.head _)
  · rcases List.mem_cons.mp hp with rfl | hp
    · exact .head _
    · exact .tail _ (.tail _ hp)
/-- the head stays, the second goes -/
theorem dr {x y : Addr × Obj} {H : Led} : ∀ p ∈ x :: H, p ∈ x :: y :: H := fun p hp => by
  rcases List.mem_cons.mp hp with rfl | hp
  · exact .head _
  · exact .tail _ (.tail _ hp)
theorem off_cons {l a : Addr} {o o' : Obj} {H : Led} (off : ∀ p ∈ H, p.1 ≠ l) (ha : ∀ p ∈ (l, o) :: H, p.1 < a) : ∀ p ∈ (a, o') :: H, p.1 ≠ l := fun p hp => by
  rcases List.mem_cons.mp hp with rfl | hp
  · exact Nat.ne_of_gt (ha _ (.head _))
  · exact off p hp
theorem off_snoc {l a : Addr} {o o' : Obj} {H : Led} (off : ∀ p ∈ H, p.1 ≠ l) (ha : ∀ p ∈ (l, o) :: H, p.1 < a) : ∀ p ∈ H ++ [(a, o')], p.1 ≠ l := fun p hp => by
  rcases List.mem_append.mp hp with hp | hp
  · exact off p hp
  · rw [List.mem_singleton.mp hp]; exact Nat.ne_of_gt (ha _ (.head _))
theorem lt_tl {l a : Addr} {o : Obj} {H : Led} (ha : ∀ p ∈ (l, o) :: H, p.1 < a) : ∀ p ∈ H, p.1 < a := fun p hp => ha p (.tail _ hp)
theorem Mv.glue {H g n g' n' : Led} (e : Mv [] H g n) (f : Mv [] n g' n') : Mv [] H (g ++ g') n' := by
  obtain ⟨tl, rfl, rfl, o⟩ := e
  obtain ⟨tl', rfl, rfl, o'⟩ := f
  refine ⟨g ++ g', rfl, List.append_assoc .., fun p hp q hq => ?_⟩
  rcases List.mem_append.mp hq with hq | hq
  · exact o p hp q hq
  · exact o' p (mem_l _ hp) q hq
/-- what _law_type's contract says, n deep -/
def TypeOk (w : World) (mean : ExcName → Option Value) (mg mb : Mp) (n : Nat) : Prop :=
  ∀ {l bd : Addr} {o ob : Obj} {x : Int} {tk : Tok} {kvs : List (Str × Value)} {β : Str → Bool} {H : Led} {R : Value → Led → Prop}, SrcObj o → (∀ p ∈ H, p.1 ≠ l) → x = n → (bd, ob) ∈ H → Dct w ob kvs → BndIn H kvs β → (valueAt kvs (Str.ofString "X")).isSome → (valueAt kvs (Str.ofString "Y")).isSome →
    (∀ a tv z t1 t o' g H', SrcObj o' → Mv [] H g H' → (∀ p ∈ H', p.1 ≠ l) → (a, tup [tv, .int z t1, .bool (t.cop β)]) ∈ g → z = t.sz → TyIn g tv t → t.sz + 1 ≤ 2 ^ (n + 1) → R (.ref a) ((l, o') :: H')) → Tell w mean mg mb (2 * n + 4) 201 [.ref l, .int x tk, .ref bd] ((l, o) :: H) R
theorem type_step (n : Nat) (IH : ∀ k, n = k + 1 → TypeOk w mean mg mb k) : TypeOk w mean mg mb n := by
  intro l bd o ob x tk kvs β H R hS off hx hb hd hB hX hY k
  refine Tell.defC (need := 2 * n + 3) (binds := [(Str.ofString "source", .ref l), (Str.ofString "deep", .int x tk), (Str.ofString "bounds", .ref bd)]) (fun L => [(Str.ofString "bounds", L + 3), (Str.ofString "deep", L + 2), (Str.ofString "source", L + 1)]) (fun _ => none) (put (put (put (fun _ => none) (Str.ofString "source") (.ref l)) (Str.ofString "deep") (.int x tk)) (Str.ofString "bounds") (.ref bd))
    (by k_is) (by k_is) rfl rfl (by decide +kernel) rfl rfl rfl (fun _ => rfl) (fun _ => rfl) (fun _ => rfl) (fun D cells r Y below => ?_)
  obtain ⟨o3, o2, o1, rfl, ho3, ho2, ho1⟩ := Y.three
  replace ho1 : o1.data = .cell (some (.ref l)) := ho1
  replace ho2 : o2.data = .cell (some (.int x tk)) := ho2
  replace ho3 : o3.data = .cell (some (.ref bd)) := ho3
  have E0 : Ext H (H ++ [(D.L + 3, o3), (D.L + 2, o2), (D.L + 1, o1)]) := ⟨_, rfl, fun p hp => below p (.tail _ hp)⟩
  have E1 : Mv [] H [(D.L + 3, o3), (D.L + 2, o2), (D.L + 1, o1)] (H ++ [(D.L + 3, o3), (D.L + 2, o2), (D.L + 1, o1)]) := ⟨_, rfl, rfl, fun p hp => below p (.tail _ hp)⟩
  have off1 : ∀ p ∈ H ++ [(D.L + 3, o3), (D.L + 2, o2), (D.L + 1, o1)], p.1 ≠ l := fun p hp => (List.mem_append.mp hp).elim (off p) fun h => Nat.ne_of_gt (below _ (.head _) p h)
  have c3 : (D.L + 3, o3) ∈ H ++ [(D.L + 3, o3), (D.L + 2, o2), (D.L + 1, o1)] := List.mem_append_right _ (.head _)
  have c2 : (D.L + 2, o2) ∈ H ++ [(D.L + 3, o3), (D.L + 2, o2), (D.L + 1, o1)] := List.mem_append_right _ (.tail _ (.head _))
  have c1 : (D.L + 1, o1) ∈ H ++ [(D.L + 3, o3), (D.L + 2, o2), (D.L + 1, o1)] := List.mem_append_right _ (.tail _ (.tail _ (.head _)))
  have hb1 := E0.mem _ hb
  have hB1 := hB.mono E0.mem
  have kk : ∀ a tv z t1 t o' g H', SrcObj o' → Mv [] (H ++ [(D.L + 3, o3), (D.L + 2, o2), (D.L + 1, o1)]) g H' → (∀ p ∈ H', p.1 ≠ l) → (a, tup [tv, .int z t1, .bool (t.cop β)]) ∈ g → z = t.sz → TyIn g tv t → t.sz + 1 ≤ 2 ^ (n + 1) → R (.ref a) ((l, o') :: H') :=
    fun a tv z t1 t o' g H' h1 h2 h3 h4 h5 h6 h7 => k a tv z t1 t o' ([(D.L + 3, o3), (D.L + 2, o2), (D.L + 1, o1)] ++ g) H' h1 (Mv.glue E1 h2) h3 (List.mem_append_right _ h4) h5 (h6.mono fun p hp => List.mem_append_right _ hp) h7
  show Run _ _ ((l, o) :: (H ++ [(D.L + 3, o3), (D.L + 2, o2), (D.L + 1, o1)])) _ _ _
  generalize H ++ [(D.L + 3, o3), (D.L + 2, o2), (D.L + 1, o1)] = H1 at E0 E1 off1 c1 c2 c3 hb1 hB1 kk ⊢
  clear k
  have p1 : 2 ≤ 2 ^ (n + 1) := by
    have := Nat.pow_le_pow_right (n := 2) (by decide) (Nat.le_add_left 1 n)
    simpa using this
  -- the draw
  refine Run.asg (Ev.mono (R := fun v n' => ∃ x' t o', v = .int x' t ∧ 0 ≤ x' ∧ x' < 10 ∧ (n = 0 → x' < 4) ∧ SrcObj o' ∧ n' = (l, o') :: H1) (Ev.ite (Pt.cmp (Pe.cel (.tail _ c2) ho2 rfl rfl) Pe.int fun _ _ => Po.gtI)
    (fun h => Ev.call (by k_is) (by k_is) rfl (Pl.cons (Pe.cel (.tail _ c1) ho1 rfl rfl) (Pl.cons Pe.int Pl.nil)) (r.le (by omega)) fun _ => take_ok hS off1 (by decide) (by decide) fun v tr o' h0 h1 hS' => ⟨v, tr, o', rfl, h0, h1, fun e => ?_, hS', rfl⟩)
    (fun h => Ev.call (by k_is) (by k_is) rfl (Pl.cons (Pe.cel (.tail _ c1) ho1 rfl rfl) (Pl.cons Pe.int Pl.nil)) (r.le (by omega)) fun _ => take_ok hS off1 (by decide) (by decide) fun v tr o' h0 h1 hS' => ⟨v, tr, o', rfl, h0, by omega, fun _ => h1, hS', rfl⟩)) fun v n' h => ?_) rfl
  · have := of_decide_eq_true h
    omega
  obtain ⟨x', t', o', rfl, h0, h10, hn0, hS', rfl⟩ := h
  clear hS below Y E0 E1
  -- a name
  refine Run.if (Pt.cmp (Pe.loc rfl rfl) Pe.int fun _ _ => Po.eqI) (fun h2 => ?_) fun h2 => ?_
  · refine Run.asg (Ev.callX (need := 2) (Pe.glo (by k_is) rfl) (by k_is) (El.cons (Ev.pe (Pe.cel (.tail _ c1) ho1 rfl rfl) fun _ => El.cons (Ev.list (Pl.strsC (Pl.strsC Pl.strsN)) (fun τ a ha => El.nil (Tell.sub (one_ok hS' (off_cons off1 ha) (.head _) (by exact Nat.succ_pos _) rfl fun v o'' hv hS'' => Run.sub (news' := (l, o'') :: H1) ?_ dr) sw)) (fun _ => rfl)))) (r.le (by omega))) rfl
    have hv' : ∃ nm tn v', v = .str nm tn ∧ valueAt kvs nm = some v' ∧ TrIn H1 v' (β nm) := by
      have nx : ∀ nm, (valueAt kvs nm).isSome → ∃ v', valueAt kvs nm = some v' ∧ TrIn H1 v' (β nm) := fun nm h => by
        rcases hB1 nm with ⟨e, -⟩ | ⟨v', e, t⟩
        · rw [e] at h; exact nomatch h
        · exact ⟨v', e, t⟩
      rcases List.mem_cons.mp hv with rfl | hv
      · obtain ⟨v', a, b⟩ := nx _ hX; exact ⟨_, _, v', rfl, a, b⟩
      · rw [List.mem_singleton.mp hv]
        obtain ⟨v', a, b⟩ := nx _ hY; exact ⟨_, _, v', rfl, a, b⟩
    obtain ⟨nm, tn, v', rfl, e1, at_, ts, rfl, e2, e3, e4⟩ := hv'
    refine Run.ret (Ev.tupleX (El.cons (Ev.tuple (Pl.cons Pe.str (Pl.cons (Pe.loc rfl rfl) Pl.nil)) (fun τ2 a2 ha2 => El.cons (Ev.pe Pe.int fun t3 => El.cons (Ev.pe (Pe.cmp Pe.str (Pe.subD (Pe.cel (mem_l _ (.tail _ c3)) ho3 rfl rfl) (Pe.loc rfl rfl) (mem_l _ (.tail _ hb1)) hd e1) fun _ _ => Po.inT (isS (Str.ofString "Copy")) (mem_l _ (.tail _ e2)) (fun y hy => by obtain ⟨s, t, rfl⟩ := e3 y hy; exact Eqv.str) (r.le (by omega))) fun _ => El.nil ⟨rfl, fun a3 ha3 => ?_⟩))) (fun _ => rfl))))
    rw [e4]
    exact kk a3 _ _ _ (.par nm) o'' _ (H1 ++ [(a2, _)] ++ [(a3, _)]) hS'' (.step (.step .refl (lt_tl ha2)) (lt_tl ha3)) (off_snoc (off_snoc off1 ha2) ha3) mem_e rfl (.par (mem_l _ mem_e)) p1
  -- a leaf
  refine Run.if (Pt.cmp (Pe.loc rfl rfl) Pe.int fun _ _ => Po.ltI) (fun h4 => ?_) fun h4 => ?_
  · refine Run.ret (Ev.tupleX (El.cons (Ev.callX (need := 2) (Pe.glo (by k_is) rfl) (by k_is) (El.cons (Ev.pe (Pe.cel (.tail _ c1) ho1 rfl rfl) fun _ => El.cons (Ev.listX (El.cons (Ev.tuple (Pl.cons Pe.str (Pl.cons Pe.str Pl.nil)) (fun τ1 a1 g1 => El.cons (Ev.tuple (Pl.cons Pe.str Pl.nil) (fun τ2 a2 g2 =>
      El.cons (Ev.tuple (Pl.cons Pe.str Pl.nil) (fun τ3 a3 g3 => El.nil ⟨rfl, fun a4 g4 => El.nil (Tell.sub (one_ok hS' (off_cons (off_snoc (off_snoc (off_snoc off1 g1) g2) g3) g4) (.head _) (by exact Nat.succ_pos _) rfl fun v o'' hv hS'' => El.sub ?_ dr) sw)⟩) fun _ => rfl)) fun _ => rfl)) fun _ => rfl))))) (r.le (by omega)))))
    have M3 := ((Mv.refl (G := []) (H := H1)).step (o := tup [.str (Str.ofString "int") (τ1 0), .str (Str.ofString "u8") (τ1 1)]) (lt_tl g1)).step (o := tup [.str (Str.ofString "bool") (τ2 0)]) (lt_tl g2) |>.step (o := tup [.str (Str.ofString "never") (τ3 0)]) (lt_tl g3)
    have hv' : ∃ t : Ty, t.sz = 1 ∧ t.cop β = true ∧ TyIn ([] ++ [(a1, tup [.str (Str.ofString "int") (τ1 0), .str (Str.ofString "u8") (τ1 1)])] ++ [(a2, tup [.str (Str.ofString "bool") (τ2 0)])] ++ [(a3, tup [.str (Str.ofString "never") (τ3 0)])]) v t := by
      rcases List.mem_cons.mp hv with rfl | hv
      · exact ⟨.int, rfl, rfl, .int (.head _)⟩
      rcases List.mem_cons.mp hv with rfl | hv
      · exact ⟨.bool, rfl, rfl, .bool (.tail _ (.head _))⟩
      · rw [List.mem_singleton.mp hv]
        exact ⟨.never, rfl, rfl, .never (.tail _ (.tail _ (.head _)))⟩
    obtain ⟨t, e1, e2, e3⟩ := hv'
    refine El.cons (Ev.pe Pe.int fun t5 => El.cons (Ev.pe Pe.bool fun _ => El.nil ⟨rfl, fun a5 g5 => ?_⟩))
    exact kk a5 v _ _ t o'' _ _ hS'' (M3.step (lt_tl g5)) (off_snoc (off_snoc (off_snoc (off_snoc off1 g1) g2) g3) g5) (by rw [e2]; exact mem_e) (by rw [e1]; rfl) (e3.mono mem_l) (by rw [e1]; exact p1)
  have hk : ∃ k, n = k + 1 := by
    cases n with
    | zero => exact absurd (hn0 rfl) (by simpa using h4)
    | succ k => exact ⟨k, rfl⟩
  obtain ⟨k, rfl⟩ := hk
  have ih : TypeOk w mean mg mb k := IH k rfl
  have p2 : 2 ^ (k + 1 + 1) = 2 * 2 ^ (k + 1) := by rw [Nat.pow_succ]; omega
  have hx' : x - 1 = (k : Int) := by rw [hx]; omega
  -- a tuple
  refine Run.if (Pt.cmp (Pe.loc rfl rfl) Pe.int fun _ _ => Po.eqI) (fun h7 => ?_) fun h7 => ?_
  · refine Run.asgC (cl := [(Str.ofString "source", D.L + 1), (Str.ofString "deep", D.L + 2), (Str.ofString "bounds", D.L + 3)]) rfl rfl rfl (by decide) rfl (by decide) rfl (Ev.callT1 boot_range (by k_is) rfl (Ev.call (by k_is) (by k_is) rfl (Pl.cons (Pe.cel (.tail _ c1) ho1 rfl rfl) (Pl.cons Pe.int Pl.nil)) (r.le (by omega)) fun _ =>
      take_ok hS' off1 (by decide) (by decide) fun v tr o2' v0 v3 hS2 => ?_))
    obtain ⟨q, rfl⟩ := Int.eq_ofNat_of_zero_le v0
    refine range_back fun ra t8 t9 ha => ⟨q, _, _, fun i ys n' => ∃ o4 H2 g2 ts, n' = (l, o4) :: H2 ∧ SrcObj o4 ∧ Mv [] H1 g2 H2 ∧ (∀ p ∈ H2, p.1 ≠ l) ∧ RowsIn β g2 ys ts ∧ ys.length = i ∧ (Tys.ofL ts).sz + i ≤ i * 2 ^ (k + 1), Source.range mem_e (by omega), trivial, Nat.ble_eq_true_of_le (by omega),
      ⟨o2', _, _, [], rfl, hS2, (Mv.refl (G := [])).step (lt_tl ha), off_snoc off1 ha, .nil, rfl, by show 0 + 0 ≤ 0 * _; omega⟩, ?_, ?_⟩
    · rintro i v ys n' hi hP - ⟨o4, H2, g2, ts, rfl, hS4, M2, off2, hR, hlen, hsz⟩ I oI B oB D' m₂ hB' hx'' off3
      have lI := off3.mem (l, o4) (.head _)
      have upk : ∀ p ∈ H2, p ∈ (I, oI) :: (B, oB) :: (D', lst ys ys.length) :: (l, o4) :: H2 := fun _ h => .tail _ (.tail _ (.tail _ (.tail _ h)))
      have up3 : ∀ p ∈ H2, p ∈ (I, oI) :: (B, oB) :: (D', lst ys ys.length) :: H2 := fun _ h => .tail _ (.tail _ (.tail _ h))
      have m2 := M2.n
      refine Ev.call (by k_is) (by k_is) rfl (Pl.cons (Pe.cel (upk _ (m2 _ c1)) ho1 rfl rfl) (Pl.cons (Pe.bin (Pe.cel (upk _ (m2 _ c2)) ho2 rfl rfl) Pe.int fun _ _ => Po.subI) (Pl.cons (Pe.cel (upk _ (m2 _ c3)) ho3 rfl rfl) Pl.nil))) (r.le (by omega)) fun τ => Tell.sub (news' := (l, o4) :: (I, oI) :: (B, oB) :: (D', lst ys ys.length) :: H2)
        (ih hS4 ?_ hx' (up3 _ (m2 _ hb1)) hd (hB1.mono fun p hp => up3 p (m2 p hp)) hX hY fun a tv z t1 t o5 g3 H3 hS5 M3 off5 ha5 hz5 hT5 hsz5 => ?_) ?_
      · intro p hp
        rcases List.mem_cons.mp hp with rfl | hp
        · exact Ne.symm lI.1
        rcases List.mem_cons.mp hp with rfl | hp
        · exact Ne.symm lI.2.1
        rcases List.mem_cons.mp hp with rfl | hp
        · exact Ne.symm lI.2.2
        · exact off2 p hp
      · obtain ⟨tl, rfl, rfl, ord⟩ := M3
        have M4 : Mv [] H2 g3 (H2 ++ g3) := ⟨g3, rfl, rfl, fun p hp q hq => ord p (up3 p hp) q hq⟩
        refine ⟨(l, o5) :: (H2 ++ g3), ⟨fun p hp => ?_, LCg.Off3.of fun p hp => ?_⟩, trivial, o5, _, g2 ++ g3, ts ++ [t], rfl, hS5, M2.glue M4, fun p hp => off5 p (.tail _ (.tail _ (.tail _ hp))), (hR.mono mem_l).snoc (List.mem_append_right _ ha5) hz5 (hT5.mono fun p hp => List.mem_append_right _ hp), by rw [List.length_append, hlen]; rfl, ?_⟩
        · rcases List.mem_cons.mp hp with rfl | hp
          · exact .tail _ (.head _)
          rcases List.mem_cons.mp hp with rfl | hp
          · exact .tail _ (.tail _ (.head _))
          rcases List.mem_cons.mp hp with rfl | hp
          · exact .tail _ (.tail _ (.tail _ (.head _)))
          rcases List.mem_cons.mp hp with rfl | hp
          · exact .head _
          · exact .tail _ (.tail _ (.tail _ (.tail _ hp)))
        · rcases List.mem_cons.mp hp with rfl | hp
          · exact lI
          rcases List.mem_append.mp hp with hp | hp
          · exact off3.mem p (.tail _ hp)
          · exact ⟨Nat.ne_of_gt (ord _ (.head _) p hp), Nat.ne_of_gt (ord _ (.tail _ (.head _)) p hp), Nat.ne_of_gt (ord _ (.tail _ (.tail _ (.head _))) p hp)⟩
        · rw [ofL_snoc, Nat.succ_mul]
          omega
      · intro p hp
        rcases List.mem_cons.mp hp with rfl | hp
        · exact .tail _ (.tail _ (.tail _ (.head _)))
        rcases List.mem_cons.mp hp with rfl | hp
        · exact .head _
        rcases List.mem_cons.mp hp with rfl | hp
        · exact .tail _ (.head _)
        rcases List.mem_cons.mp hp with rfl | hp
        · exact .tail _ (.tail _ (.head _))
        · exact upk p hp
    · rintro ys n' D' - ⟨o4, H2, g2, ts, rfl, hS4, M2, off2, hR, hlen, hsz⟩ offD
      have hG : ∀ p ∈ g2, p ∈ H2 := M2.sub fun _ h => nomatch h
      have hys : Nat.ble ys.length 100 = true := Nat.ble_eq_true_of_le (by omega)
      have hts : ts.length = q := by rw [← hR.length, hlen]
      have hsz2 : (Tys.ofL ts).sz + 1 + 1 ≤ 2 ^ (k + 1 + 1) := by
        have h1 : 1 ≤ 2 ^ (k + 1) := Nat.one_le_two_pow
        have h2 : q ≤ 2 := by omega
        have h3 : q * 2 ^ (k + 1) ≤ 2 * 2 ^ (k + 1) := Nat.mul_le_mul_right _ h2
        match q, h2, hsz with
        | 0, _, h => omega
        | 1, _, h => omega
        | 2, _, h => omega
      refine Run.asg (Ev.bin (Ev.pe Pe.int fun t0 => Ev.callB1 boot_sum (by k_is) rfl (Ev.col (j := 1) (fun done zs => IntsAre zs (done.map fun t => (t.sz : Int))) rfl (by decide) rfl (by decide) rfl rfl rfl (fun _ => rfl) (fun _ => rfl) (.head _) hR (fun p hp => .tail _ (.tail _ (hG p hp))) hys rfl (by decide) .nil
        (fun done t zs tv z t1 hz ht hP v hv => by cases hv; rw [List.map_append]; exact hz ▸ ints_snoc hP) fun zs D2 hP hlz off2' => sum_tree (.head _) hP fun t => ⟨_, Po.addI, fun t' => Run.sub (news' := (D', lst ys ys.length) :: (l, o4) :: H2) ?_ (fun _ h => .tail _ h)⟩))) rfl
      rw [← ofL_sz]
      refine Run.ret (Ev.tupleX (El.cons (Ev.tupleX (El.cons (Ev.pe Pe.str fun t1 => El.cons (Ev.tupleOf (Ev.col (j := 0) (fun done zs => TysIn g2 zs (Tys.ofL done)) rfl (by decide) rfl (by decide) rfl rfl rfl (fun _ => rfl) (fun _ => rfl) (.head _) hR (fun p hp => .tail _ (.tail _ (hG p hp))) hys rfl (by decide) .nil
        (fun done t zs tv z t1 hz ht hP v hv => by cases hv; exact TysIn.snoc hP ht) fun zs D3 hP hlz off3' => ⟨_, _, _, rfl, .head _, Nat.ble_eq_true_of_le (by omega), fun a4 h4 => El.nil ⟨rfl, fun a5 h5 => ?_⟩⟩) (by k_is) rfl))))))
      have h4' : ∀ p ∈ H2, p.1 < a4 := fun p hp => h4 p (.tail _ (.tail _ (.tail _ hp)))
      have h5' : ∀ p ∈ H2 ++ [(a4, tup zs)], p.1 < a5 := fun p hp => h5 p (by
        rcases List.mem_append.mp hp with hp | hp
        · exact mem_l _ (.tail _ (.tail _ (.tail _ hp)))
        · exact List.mem_append_right _ hp)
      refine El.sub (news' := (D', lst ys ys.length) :: (l, o4) :: (H2 ++ [(a4, tup zs)] ++ [(a5, tup [.str (Str.ofString "tuple") t1, .ref a4])])) ?_ (fun p hp => by
        rcases List.mem_cons.mp hp with rfl | hp
        · exact mem_l _ (mem_l _ (.tail _ (.head _)))
        rcases List.mem_cons.mp hp with rfl | hp
        · exact mem_l _ (mem_l _ (.tail _ (.tail _ (.head _))))
        rcases List.mem_append.mp hp with hp | hp
        · rcases List.mem_append.mp hp with hp | hp
          · exact mem_l _ (mem_l _ (.tail _ (.tail _ (.tail _ hp))))
          · exact mem_l _ (List.mem_append_right _ hp)
        · exact List.mem_append_right _ hp)
      have M4 := (M2.step (o := tup zs) h4').step (o := tup [.str (Str.ofString "tuple") t1, .ref a4]) h5'
      have off4 : ∀ p ∈ H2 ++ [(a4, tup zs)] ++ [(a5, tup [.str (Str.ofString "tuple") t1, .ref a4])], p.1 ≠ l := fun p hp => by
        rcases List.mem_append.mp hp with hp | hp
        · rcases List.mem_append.mp hp with hp | hp
          · exact off2 p hp
          · rw [List.mem_singleton.mp hp]; exact Nat.ne_of_gt (h4 (l, o4) (.tail _ (.tail _ (.head _))))
        · rw [List.mem_singleton.mp hp]; exact Nat.ne_of_gt (h5 (l, o4) (mem_l _ (.tail _ (.tail _ (.head _)))))
      refine El.cons (Ev.pe (Pe.loc rfl rfl) fun _ => El.cons (Ev.cmp (Ev.pe Pe.bool fun _ => Ev.col (j := 2) (fun done zs => zs = done.map fun t => Value.bool (t.cop β)) rfl (by decide) rfl (by decide) rfl rfl rfl (fun _ => rfl) (fun _ => rfl) (.head _) hR (fun p hp => .tail _ (.tail _ (mem_l _ (mem_l _ (hG p hp))))) hys rfl (by decide) rfl
        (fun done t zs tv z t1 hz ht hP v hv => by cases hv; rw [List.map_append, hP]; rfl) fun zs6 D6 hP6 hlz6 off6 => ⟨_, Po.notInL isF (.head _) (fun y hy => ?_) (r.le (by omega)), El.sub (news' := (l, o4) :: (H2 ++ [(a4, tup zs)] ++ [(a5, tup [.str (Str.ofString "tuple") t1, .ref a4])])) (El.nil ⟨rfl, fun a7 h7 => ?_⟩) fun p hp => .tail _ (.tail _ hp)⟩)))
      · rw [hP6] at hy
        obtain ⟨t, -, rfl⟩ := List.mem_map.mp hy
        exact Eqv.bool
      · rw [hP6, ← ofL_cop]
        exact kk a7 _ _ _ (.tup (Tys.ofL ts)) o4 _ _ hS4 (M4.step (lt_tl h7)) (off_snoc off4 h7) mem_e (by show (1 : Int) + _ = (((Tys.ofL ts).sz + 1 : Nat) : Int); omega) (.tup (mem_l _ mem_e) (mem_l _ (mem_l _ mem_e)) (hP.mono fun p hp => mem_l _ (mem_l _ (mem_l _ hp)))) hsz2
  -- the N
  refine Run.if (Pt.cmp (Pe.loc rfl rfl) Pe.int fun _ _ => Po.eqI) (fun h9 => ?_) fun h9 => ?_
  · refine Run.ret (Ev.tupleX (El.cons (Ev.tupleX (El.cons (Ev.pe Pe.str fun t1 => El.cons (Ev.pe Pe.str fun t2 => El.cons (Ev.tuple Pl.nil (fun τ3 a3 g3 => El.cons (Ev.tuple Pl.nil (fun τ4 a4 g4 => El.nil ⟨rfl, fun a5 g5 => El.cons (Ev.pe Pe.int fun t6 => El.cons (Ev.pe Pe.bool fun _ => El.nil ⟨rfl, fun a7 g7 => ?_⟩))⟩) fun _ => rfl)) fun _ => rfl)))))))
    exact kk a7 _ _ _ .N o' _ _ hS' (.step (.step (.step (.step .refl (lt_tl g3)) (lt_tl g4)) (lt_tl g5)) (lt_tl g7)) (off_snoc (off_snoc (off_snoc (off_snoc off1 g3) g4) g5) g7) mem_e rfl (.N (mem_l _ mem_e) (mem_l _ (mem_l _ (mem_l _ mem_e))) (mem_l _ (mem_l _ mem_e))) (by have : 1 ≤ 2 ^ (k + 1) := Nat.one_le_two_pow; show 1 + 1 ≤ _; omega)
  -- one inside
  refine Run.unpack (Ev.call (by k_is) (by k_is) rfl (Pl.cons (Pe.cel (.tail _ c1) ho1 rfl rfl) (Pl.cons (Pe.bin (Pe.cel (.tail _ c2) ho2 rfl rfl) Pe.int fun _ _ => Po.subI) (Pl.cons (Pe.cel (.tail _ c3) ho3 rfl rfl) Pl.nil))) (r.le (by omega)) fun τ => ih hS' off1 hx' hb1 hd hB1 hX hY fun a tv z t1 t o2' g H2 hS2 M2 off2 ha hz hT hsz =>
    As.tuple (.tail _ (M2.sub (fun _ h => nomatch h) _ ha)) (AsL.cons (As.name (AsL.cons (As.name (AsL.cons (As.name (AsL.nil ?_) rfl)) rfl)) rfl)))
  have c1' := M2.n _ c1
  have e1 : z + 1 = ((t.sz + 1 : Nat) : Int) := by rw [hz]; rfl
  have e2 : t.sz + 1 + 1 ≤ 2 ^ (k + 1 + 1) := by omega
  -- a ref
  refine Run.if (Pt.cmp (Pe.loc rfl rfl) Pe.int fun _ _ => Po.eqI) (fun h4 => ?_) fun h4' => ?_
  · refine Run.asg (Ev.cmp (Ev.call (by k_is) (by k_is) rfl (Pl.cons (Pe.cel (.tail _ c1') ho1 rfl rfl) (Pl.cons Pe.int Pl.nil)) (r.le (by omega)) fun _ => take_ok hS2 off2 (by decide) (by decide) fun v tr o3' _ _ hS3 => Ev.pe Pe.int fun _ => ⟨_, Po.eqI, ?_⟩)) rfl
    generalize (v == 0) = im
    refine Run.ret (Ev.tupleX (El.cons (Ev.tupleX (El.cons (Ev.pe Pe.str fun t1' => El.cons (Ev.callX (need := 2) (Pe.glo (by k_is) rfl) (by k_is) (El.cons (Ev.pe (Pe.cel (.tail _ c1') ho1 rfl rfl) fun _ => El.cons (Ev.list (Pl.cons Pe.none (Pl.cons Pe.str (Pl.cons Pe.int Pl.nil))) (fun τ5 a5 g5 =>
      El.nil (Tell.sub (one_ok hS3 (off_cons off2 g5) (.head _) (by exact Nat.succ_pos _) rfl fun rv o4' _ hS4 => El.sub ?_ dr) sw)) fun _ => rfl))) (r.le (by omega))))))))
    refine El.cons (Ev.pe (Pe.loc rfl rfl) fun _ => El.cons (Ev.pe (Pe.loc rfl rfl) fun _ => El.nil ⟨rfl, fun a6 g6 => El.cons (Ev.pe (Pe.bin (Pe.loc rfl rfl) Pe.int fun _ _ => Po.addI) fun t7 => El.cons (Ev.pe (Pe.not (Pe.loc rfl rfl)) fun _ => El.nil ⟨rfl, fun a8 g8 => ?_⟩))⟩))
    exact kk a8 _ _ _ (.ref im t) o4' _ _ hS4 ((M2.step (lt_tl g6)).step (lt_tl g8)) (off_snoc (off_snoc off2 g6) g8) mem_e e1 (.ref (mem_l _ mem_e) (hT.mono fun _ h => mem_l _ (mem_l _ h))) e2
  -- a box
  refine Run.if (Pt.cmp (Pe.loc rfl rfl) Pe.int fun _ _ => Po.eqI) (fun h5 => ?_) fun h5 => ?_
  · refine Run.ret (Ev.tupleX (El.cons (Ev.tuple (Pl.cons Pe.str (Pl.cons (Pe.loc rfl rfl) Pl.nil)) (fun τ6 a6 g6 => El.cons (Ev.pe (Pe.bin (Pe.loc rfl rfl) Pe.int fun _ _ => Po.addI) fun t7 => El.cons (Ev.pe Pe.bool fun _ => El.nil ⟨rfl, fun a8 g8 => ?_⟩))) fun _ => rfl)))
    exact kk a8 _ _ _ (.box t) o2' _ _ hS2 ((M2.step (lt_tl g6)).step (lt_tl g8)) (off_snoc (off_snoc off2 g6) g8) mem_e e1 (.box (mem_l _ mem_e) (hT.mono fun _ h => mem_l _ (mem_l _ h))) e2
  -- an array
  refine Run.if (Pt.cmp (Pe.loc rfl rfl) Pe.int fun _ _ => Po.eqI) (fun h6 => ?_) fun h6 => ?_
  · refine Run.ret (Ev.tupleX (El.cons (Ev.tupleX (El.cons (Ev.pe Pe.str fun t1' => El.cons (Ev.pe (Pe.loc rfl rfl) fun _ => El.cons (Ev.call (by k_is) (by k_is) rfl (Pl.cons (Pe.cel (.tail _ c1') ho1 rfl rfl) (Pl.cons Pe.int Pl.nil)) (r.le (by omega)) fun _ => take_ok hS2 off2 (by decide) (by decide) fun v tr o3' _ _ hS3 =>
      El.nil ⟨rfl, fun a6 g6 => El.cons (Ev.pe (Pe.bin (Pe.loc rfl rfl) Pe.int fun _ _ => Po.addI) fun t7 => El.cons (Ev.pe (Pe.loc rfl rfl) fun _ => El.nil ⟨rfl, fun a8 g8 => ?_⟩))⟩)))))))
    exact kk a8 _ _ _ (.arr t) o3' _ _ hS3 ((M2.step (lt_tl g6)).step (lt_tl g8)) (off_snoc (off_snoc off2 g6) g8) mem_e e1 (.arr (mem_l _ mem_e) (hT.mono fun _ h => mem_l _ (mem_l _ h))) e2
  -- an S
  refine Run.ret (Ev.tupleX (El.cons (Ev.tupleX (El.cons (Ev.pe Pe.str fun t1' => El.cons (Ev.pe Pe.str fun t2' => El.cons (Ev.tuple (Pl.cons Pe.str Pl.nil) (fun τ3 a3 g3 => El.cons (Ev.tuple (Pl.cons (Pe.loc rfl rfl) Pl.nil) (fun τ4 a4 g4 => El.nil ⟨rfl, fun a6 g6 =>
    El.cons (Ev.pe (Pe.bin (Pe.loc rfl rfl) Pe.int fun _ _ => Po.addI) fun t7 => El.cons (Ev.pe (Pe.loc rfl rfl) fun _ => El.nil ⟨rfl, fun a8 g8 => ?_⟩))⟩) fun _ => rfl)) fun _ => rfl)))))))
  exact kk a8 _ _ _ (.S t) o2' _ _ hS2 ((((M2.step (lt_tl g3)).step (lt_tl g4)).step (lt_tl g6)).step (lt_tl g8)) (off_snoc (off_snoc (off_snoc (off_snoc off2 g3) g4) g6) g8) mem_e e1 (.S (mem_l _ mem_e) (mem_l _ (mem_l _ (mem_l _ mem_e))) (mem_l _ (mem_l _ mem_e)) (hT.mono fun _ h => mem_l _ (mem_l _ (mem_l _ (mem_l _ h))))) e2
theorem type_ok (n : Nat) : TypeOk w mean mg mb n := by
  induction n with
  | zero => exact type_step 0 fun _ h => nomatch h
  | succ n ih => exact type_step (n + 1) fun k h => by cases h; exact ih
theorem upd_at {d : Addr} {o o' : Obj} : ∀ {pre post : Led}, (∀ p ∈ pre, p.1 ≠ d) → (∀ p ∈ post, p.1 ≠ d) → Upd d o o' (pre ++ (d, o) :: post) (pre ++ (d, o') :: post)
  | [], _, _, h => .head h
  | p :: pre, _, h, h' => .tail (h p (.head _)) (upd_at (pre := pre) (fun q hq => h q (.tail _ hq)) h')
theorem updF_upd {d : Addr} {o o' : Obj} {n : Led} {g : Obj → Led} (U : UpdF d o n g) : Upd d o o' n (g o') := by
  obtain ⟨pre, post, rfl, hg, a, b⟩ := U.split
  rw [hg]
  exact upd_at a b
theorem updF_mem {d : Addr} {o : Obj} {n : Led} {g : Obj → Led} (U : UpdF d o n g) : (d, o) ∈ n := by
  obtain ⟨pre, post, rfl, -⟩ := U.split
  exact List.mem_append_right _ (.head _)
theorem last_snoc : ∀ (vs : List Value) (y : Value), kl_last (vs ++ [y]) = some (vs, y)
  | [], _ => rfl
  | x :: r, y => by
    show (match kl_last (r ++ [y]) with | some (p, y) => some (x :: p, y) | none => some ([], x)) = _
    rw [last_snoc r y]
theorem not_long {k j : Nat} (h : k + j ≤ 1000) {its : Array Value} (hs : its.size = k) {its2 : Array Value} (hs2 : its2.size = j) : ¬(!its.isEmpty && Builtin.List.listTooLong (its.size + its2.size)) = true := by
  have : Builtin.List.listTooLong (its.size + its2.size) = false := by
    unfold Builtin.List.listTooLong
    rw [decide_eq_false_iff_not, hs, hs2]
    have : 1000 ≤ sizeLine := by decide
    omega
  rw [this, Bool.and_false]
  exact Bool.false_ne_true
section
variable {C : Cx w mean mg mb} {m : Mp} {news : Led} {env : Env} {K : Mp → Led → Prop} {R : Value → Led → Prop}
theorem Run.expr {e : Expr} {pos : Pos} {rest : List Stmt} (h : Ev C C.env m news e fun v n => v = .none ∧ Run C m n rest K R) (hi : interactive C.env = false := by rfl) (hs : swapsWith e none pos.line C.env = pure false := by rfl) : Run C m news (.Expr e pos :: rest) K R :=
  ⟨fun _ _ _ a k q => wpAny_execs_cons (wpAny_Expr (h.go _ _ _ a fun _ _ _ _ r a => by obtain ⟨rfl, r⟩ := r; exact r.go _ _ _ a k q) hi hs)⟩
/-- l.append(e) -/
theorem Ev.append {e x : Expr} {ap pos : Pos} {d : Addr} {vs₀ : List Value} {k₀ : Nat} (p : Pe C env m news e (fun _ => .ref d)) (hm : (d, lst vs₀ k₀) ∈ news)
    (q : Ev C env m news x fun v n => ∃ vs k g, UpdF d (lst vs k) n g ∧ Nat.ble vs.length 200 = true ∧ R .none (g (lst (vs ++ [v]) (k + 1)))) (pl : Sem Bool)
    (he : eval (.Call (.Attribute e (Str.ofString "append") ap) [x] [] pos) env = (do
      let ov ← eval e env
      standAt ap.atName
      let (f, first) ← holding [ov] (getMethod ov (Str.ofString "append") pl)
      callWith pos f first (backTo pos (starEach [x] env)) []))
    (hb : starEach [x] env = (false, eval x env) :: starEach [] env := by rfl) : Ev C env m news (.Call (.Attribute e (Str.ofString "append") ap) [x] [] pos) R :=
  ⟨fun _ _ _ a z => by
    refine MethodCall_ (pl := pl) (p.use a fun _ _ _ a => ?_) he
    refine kl_method a.N hm slot_list_append PySem.F.type_list_append ?_
    refine callWith_method1 (args_cons (q.go _ _ _ a fun v n _ _ r a => args_nil ?_) hb) hb rfl
    obtain ⟨vs, k, g, U, hl, r⟩ := r
    have e : listOf (vs.toArray.push v) (k + 1) = lst (vs ++ [v]) (k + 1) := by
      show ({ cls := .type "list", data := .seq (vs.toArray.push v) (k + 1) } : Obj) = { cls := .type "list", data := .seq (vs ++ [v]).toArray (k + 1) }
      simp
    exact append_K (its := vs.toArray) (news' := g (lst (vs ++ [v]) (k + 1))) a.F a.N (by rw [e]; exact updF_upd U) (fun _ F' N' => z _ _ _ _ r ⟨F', N'⟩) (by rw [List.size_toArray]; exact Nat.le_trans (Nat.le_of_ble_eq_true hl) (by decide))⟩
/-- l.pop() -/
theorem Ev.pop {e : Expr} {ap pos : Pos} {d : Addr} {vs : List Value} {y : Value} {k : Nat} {g : Obj → Led} (p : Pe C env m news e (fun _ => .ref d)) (U : UpdF d (lst (vs ++ [y]) k) news g) (hl : Nat.ble vs.length 200 = true) (r : R y (g (lst vs (k + 1)))) (pl : Sem Bool)
    (he : eval (.Call (.Attribute e (Str.ofString "pop") ap) [] [] pos) env = (do
      let ov ← eval e env
      standAt ap.atName
      let (f, first) ← holding [ov] (getMethod ov (Str.ofString "pop") pl)
      callWith pos f first (backTo pos (starEach [] env)) [])) : Ev C env m news (.Call (.Attribute e (Str.ofString "pop") ap) [] [] pos) R :=
  ⟨fun _ _ _ a z => by
    refine MethodCall_ (pl := pl) (p.use a fun _ _ _ a => ?_) he
    refine kl_method a.N (updF_mem U) PySem.F.slot_list_pop PySem.F.type_list_pop ?_
    refine callWith_method0 (kl_pop (its := (vs ++ [y]).toArray) (p := vs) (y := y) a.F a.N (last_snoc vs y) (updF_upd U) ?_ fun _ F' N' => z _ _ _ _ r ⟨F', N'⟩)
    show (vs ++ [y]).length ≤ _
    rw [List.length_append]
    exact Nat.le_trans (Nat.add_le_add_right (Nat.le_of_ble_eq_true hl) 1) (by decide)⟩
/-- l.extend(a tuple) -/
theorem Ev.extend {e x : Expr} {ap pos : Pos} {d : Addr} {vs₀ : List Value} {k₀ : Nat} (p : Pe C env m news e (fun _ => .ref d)) (hm : (d, lst vs₀ k₀) ∈ news)
    (q : Ev C env m news x fun v n => ∃ b ws vs k g, v = .ref b ∧ (b, tup ws) ∈ n ∧ UpdF d (lst vs k) n g ∧ Nat.ble (vs.length + ws.length) 200 = true ∧ ∀ k', R .none (g (lst (vs ++ ws) k'))) (pl : Sem Bool)
    (he : eval (.Call (.Attribute e (Str.ofString "extend") ap) [x] [] pos) env = (do
      let ov ← eval e env
      standAt ap.atName
      let (f, first) ← holding [ov] (getMethod ov (Str.ofString "extend") pl)
      callWith pos f first (backTo pos (starEach [x] env)) []))
    (hb : starEach [x] env = (false, eval x env) :: starEach [] env := by rfl) : Ev C env m news (.Call (.Attribute e (Str.ofString "extend") ap) [x] [] pos) R :=
  ⟨fun _ _ _ a z => by
    refine MethodCall_ (pl := pl) (p.use a fun _ _ _ a => ?_) he
    refine kl_method a.N hm PySem.F.slot_list_extend PySem.F.type_list_extend ?_
    refine callWith_method1 (args_cons (q.go _ _ _ a fun v n _ _ r a => args_nil ?_) hb) hb rfl
    obtain ⟨b, ws, vs, k, g, rfl, hw, U, hl, r⟩ := r
    have hl' := Nat.le_of_ble_eq_true hl
    obtain ⟨pre, post, rfl, hg, c1, c2⟩ := U.split
    have zz := a.N (d, lst vs k) (List.mem_append_right _ (.head _))
    have big : 1000 ≤ sizeLine := by decide
    refine call_meets PySem.F.slot_list_extend ⟨_, zz.1, rfl⟩ PySem.F.entry_list_extend (PySem.F.args_list_extend_2 _ _) (PySem.AutoSeq1.list_extend_list_tuple_0 d vs.toArray k b ws.toArray 0 (not_long (k := vs.length) (j := ws.length) (by omega) (by simp) (by simp)) (by simp; omega) (by simp; omega)) ⟨zz.1, (a.N _ hw).1, ?_⟩
    cases ws with
    | nil =>
      refine z _ _ _ _ (r k) ⟨a.F.change (Heap.SameBut.update ..) zz.2.1 zz.2.2, ?_⟩
      rw [hg, List.append_nil]
      exact kl_turn0 (fun x => x ++ #[]) a.N c1 c2 (by simp) rfl
    | cons y ys =>
      refine z _ _ _ _ (r (k + 1)) ⟨a.F.change (Heap.SameBut.update ..) zz.2.1 zz.2.2, ?_⟩
      rw [hg]
      exact kl_turn _ a.N c1 c2 (by simp) (by simp)⟩
end
inductive TyLs (G : Led) : List Value → List Ty → Prop
  | nil : TyLs G [] []
  | cons {v : Value} {vs : List Value} {t : Ty} {ts : List Ty} : TyIn G v t → TyLs G vs ts → TyLs G (v :: vs) (t :: ts)
def lsz : List Ty → Nat
  | [] => 0
  | t :: ts => t.sz + lsz ts
theorem TyLs.mono {G G' : Led} {vs : List Value} {ts : List Ty} (x : TyLs G vs ts) (s : ∀ p ∈ G, p ∈ G') : TyLs G' vs ts := by
  induction x with
  | nil => exact .nil
  | cons h _ ih => exact .cons (h.mono s) ih
theorem TyLs.of {G : Led} : ∀ {vs : List Value} {ds : Tys}, TysIn G vs ds → ∃ ts, TyLs G vs ts ∧ lsz ts = ds.sz
  | _, _, .nil => ⟨[], .nil, rfl⟩
  | _, _, .cons h x => let ⟨ts, a, b⟩ := TyLs.of x; ⟨_ :: ts, .cons h a, by show _ + lsz ts = _ + _; rw [b]⟩
theorem lsz_append : ∀ ts us : List Ty, lsz (ts ++ us) = lsz ts + lsz us
  | [], us => (Nat.zero_add _).symm
  | t :: ts, us => by
    show t.sz + lsz (ts ++ us) = t.sz + lsz ts + lsz us
    rw [lsz_append, Nat.add_assoc]
theorem TyLs.append {G : Led} {vs us : List Value} {ts ss : List Ty} (x : TyLs G vs ts) (y : TyLs G us ss) : TyLs G (vs ++ us) (ts ++ ss) := by
  induction x with
  | nil => exact y
  | cons h _ ih => exact .cons h ih
theorem TyLs.len {G : Led} {vs : List Value} {ts : List Ty} (x : TyLs G vs ts) : vs.length ≤ lsz ts := by
  induction x with
  | nil => exact Nat.le_refl _
  | @cons _ _ t _ _ _ ih =>
    have := t.sz_pos
    show _ + 1 ≤ t.sz + _
    omega
theorem TyLs.unsnoc {G : Led} {vs : List Value} {ts : List Ty} (x : TyLs G vs ts) (h : vs ≠ []) : ∃ p y ts' t, vs = p ++ [y] ∧ TyLs G p ts' ∧ TyIn G y t ∧ lsz ts = lsz ts' + t.sz := by
  induction x with
  | nil => exact absurd rfl h
  | @cons v vs t ts hv hx ih =>
    cases vs with
    | nil => cases hx; exact ⟨[], v, [], t, rfl, .nil, hv, Nat.add_comm ..⟩
    | cons v' vs' =>
      obtain ⟨p, y, ts', t', e, a, b, c⟩ := ih (by simp)
      exact ⟨v :: p, y, t :: ts', t', by rw [e]; rfl, .cons hv a, b, by show t.sz + lsz ts = t.sz + lsz ts' + t'.sz; rw [c, Nat.add_assoc]⟩
theorem kids_one : ∀ d : Ty, d.kids.sz + 1 = d.sz
  | .int | .bool | .never | .par _ | .N => rfl
  | .ref _ _ | .box _ | .arr _ | .S _ => rfl
  | .tup _ => rfl
def HmJ (H : Led) (d : Addr) (t : Ty) (x : Int) (tk : Tok) (cnt : Nat) (m : Mp) (n : Led) : Prop :=
  ∃ vs k ts c tc H', n = (d, lst vs k) :: H' ∧ Ext H H' ∧ (∀ p ∈ H', p.1 ≠ d) ∧ TyLs H' vs ts ∧ lsz ts = cnt ∧ c + cnt = t.sz ∧ (c : Int) ≤ x ∧ m (Str.ofString "left") = some (.ref d) ∧ m (Str.ofString "many") = some (.int (c : Int) tc) ∧ m (Str.ofString "most") = some (.int x tk)
theorem has_ok {v : Value} {t : Ty} {H : Led} {x : Int} {tk : Tok} {R : Value → Led → Prop} (hv : TyIn H v t) (h0 : 0 ≤ x) (hz : t.sz ≤ 100) (k : R (.bool (decide (x < t.sz))) H) : Tell w mean mg mb 2 61 [v, .int x tk] H R := by
  refine Tell.def (need := 1) (binds := [(Str.ofString "told", v), (Str.ofString "most", .int x tk)]) (by k_is) (by k_is) rfl rfl rfl rfl rfl (by decide) (fun D r => ?_)
  refine Run.swap (names := [Str.ofString "left", Str.ofString "many"]) (Ev.tupleX (El.cons (Ev.list (Pl.cons (Pe.loc rfl rfl) Pl.nil) (fun τ d hd => El.cons (Ev.pe Pe.int fun t0 => El.nil ⟨rfl, fun a ha => ⟨a, _, rfl, mem_e, rfl, Run.sub (news' := (d, lst [v] 0) :: H) ?_ mem_l⟩⟩)) fun _ => rfl)))
  refine Run.while (N₀ := t.sz) (HmJ H d t x tk) ⟨[v], 0, [t], 0, t0, H, rfl, .refl, fun p hp => Nat.ne_of_lt (hd p hp), .cons hv .nil, Nat.add_zero _, Nat.zero_add _, h0, rfl, rfl, rfl⟩ ?_
  rintro cnt m n ⟨vs, kk, ts, c, tc, H', rfl, E, off, hT, hcnt, hsum, hcx, m1, m2, m3⟩
  cases vs with
  | nil =>
    cases hT
    refine ⟨false, Pt.et (Et.cmp (Ev.pe (Pe.loc m1 rfl) fun _ => Ev.list Pl.nil (fun τ a ha => ⟨false, Po.neL (.tail _ (.head _)) (.head _) Eqs.nil r (d := 0), rfl, fun p hp => .tail _ hp⟩) fun _ => rfl)), (fun h => nomatch h), fun _ => ?_⟩
    have hc : c = t.sz := by rw [← hcnt] at hsum; exact hsum
    refine Run.sub (news' := H) (Run.ret (Ev.pe Pe.bool fun _ => ?_)) fun p hp => .tail _ (E.mem p hp)
    rw [decide_eq_false (by omega)] at k
    exact k
  | cons v₁ vs₁ =>
    refine ⟨true, Pt.et (Et.cmp (Ev.pe (Pe.loc m1 rfl) fun _ => Ev.list Pl.nil (fun τ a ha => ⟨true, Po.neL' (.tail _ (.head _)) (.head _) rfl r, rfl, fun p hp => .tail _ hp⟩) fun _ => rfl)), fun _ => ?_, (fun h => nomatch h)⟩
    obtain ⟨p, y, ts', t', e, hp, hy, hl⟩ := hT.unsnoc (by simp)
    have hpos := t'.sz_pos
    refine Run.asg (Ev.pe (Pe.bin (Pe.loc m2 rfl) Pe.int fun _ _ => Po.addI) fun tc' => ?_) rfl
    refine Run.if (Pt.cmp (Pe.loc rfl rfl) (Pe.loc m3 rfl) fun _ _ => Po.gtI) (fun h => ?_) fun h => ?_
    · have h' := of_decide_eq_true h
      refine Run.sub (news' := H) (Run.ret (Ev.pe Pe.bool fun _ => ?_)) fun p hp => .tail _ (E.mem p hp)
      rw [decide_eq_true (by omega)] at k
      exact k
    · have h' := of_decide_eq_false h
      rw [e] at hT ⊢
      have hplen := hp.len
      refine Run.expr (Ev.extend (Pe.loc m1 rfl) (.head _) (Ev.callX (need := 1) (Pe.glo (by k_is) rfl) (by k_is) (El.cons (Ev.pop (Pe.loc m1 rfl) (.head off) (Nat.ble_eq_true_of_le (by omega)) (El.nil (parts_ok hy (fun q hq => .tail _ hq) fun b ws n₁ e₁ hb hws => ?_)) _ rfl)) r) _ rfl)
      obtain ⟨n', rfl, off', E'⟩ := e₁.cons off
      obtain ⟨us, hus, hul⟩ := TyLs.of hws
      have hkid := kids_one t'
      have hulen := hus.len
      refine ⟨b, ws, p, kk + 1, _, rfl, hb, .head off', Nat.ble_eq_true_of_le (by omega), fun k' => ⟨rfl, Run.nil ⟨lsz (ts' ++ us), ?_, p ++ ws, k', ts' ++ us, c + 1, tc', n', rfl, E.trans E', off', (hp.mono E'.mem).append (hus.mono E'.mem), rfl, ?_, by push_cast; omega, m1, rfl, m3⟩⟩⟩
      · rw [lsz_append]; omega
      · rw [lsz_append]; omega
section
variable {C : Cx w mean mg mb} {m : Mp} {news : Led} {env : Env} {K : Mp → Led → Prop} {R : Value → Led → Prop}
theorem Po.neB {x y b : Bool} (hb : (!(x == y)) = b) : Po C m news (compareOp .NotEq (.bool x) (.bool y)) (fun _ => .bool b) := .of fun _ _ _ a k => SeqAt.RcNeAt.bool_bool x y _ _ _ _ (by rw [hb]; exact k _ _ 0 a)
theorem Po.eqB {x y b : Bool} (hb : (x == y) = b) : Po C m news (compareOp .Eq (.bool x) (.bool y)) (fun _ => .bool b) := .of fun _ _ _ a k => SeqAt.RcAt.bool_bool x y _ _ _ _ (by rw [hb]; exact k _ _ 0 a)
end
def MostJ (N : Led) (v : Value) (z : Int) (vs : List Value) (m : Mp) (n : Led) : Prop :=
  n = N ∧ (∀ y ∈ vs, ∃ x t, y = .int x t ∧ 0 ≤ x) ∧ m (Str.ofString "told") = some v ∧ ∃ tz, m (Str.ofString "many") = some (.int z tz)
theorem parts_right_ok {l bd : Addr} {o ob : Obj} {kvs : List (Str × Value)} {β : Str → Bool} {H : Led} {R : Value → Led → Prop} (hS : SrcObj o) (off : ∀ p ∈ H, p.1 ≠ l) (hb : (bd, ob) ∈ H) (hd : Dct w ob kvs) (hB : BndIn H kvs β) (hX : (valueAt kvs (Str.ofString "X")).isSome) (hY : (valueAt kvs (Str.ofString "Y")).isSome)
    (k : ∀ o', SrcObj o' → R (.bool true) ((l, o') :: H)) : Tell w mean mg mb 11 208 [.ref l, .ref bd] ((l, o) :: H) R := by
  refine Tell.def (need := 10) (binds := [(Str.ofString "source", .ref l), (Str.ofString "bounds", .ref bd)]) (by k_is) (by k_is) rfl rfl rfl rfl rfl (by decide) (fun D r => ?_)
  refine Run.unpack (Ev.call (by k_is) (by k_is) rfl (Pl.cons (Pe.loc rfl rfl) (Pl.cons Pe.int (Pl.cons (Pe.loc rfl rfl) Pl.nil))) r fun τ => type_ok 3 hS off rfl hb hd hB hX hY fun a tv z t1 t o' g H' hS' M off' ha hz hT hsz =>
    As.tuple (.tail _ (M.sub (fun _ h => nomatch h) _ ha)) (AsL.cons (As.name (AsL.cons (As.name (AsL.cons (As.name (AsL.nil ?_) rfl)) rfl)) rfl)))
  have hT' := hT.mono (M.sub fun _ h => nomatch h)
  have hpos := t.sz_pos
  refine Run.forL (Ev.listX (El.cons (Ev.pe Pe.int fun t0 => El.cons (Ev.pe Pe.int fun t1 => El.cons (Ev.pe (Pe.bin (Pe.loc rfl rfl) Pe.int fun _ _ => Po.subI) fun t2 => El.cons (Ev.pe (Pe.loc rfl rfl) fun _ => El.cons (Ev.pe (Pe.bin (Pe.loc rfl rfl) Pe.int fun _ _ => Po.addI) fun t4 =>
    El.cons (Ev.bin (Ev.pe (Pe.loc rfl rfl) fun _ => Ev.call (by k_is) (by k_is) rfl (Pl.cons (Pe.loc rfl rfl) (Pl.cons Pe.int Pl.nil)) (r.le (by decide)) fun _ => take_ok hS' off' (by decide) (by decide) fun v tr o'' h0 h1 hS'' => ⟨_, Po.addI, fun t5 => El.nil ⟨rfl, fun la hla => ?_⟩⟩)))))))))
  refine ⟨la, _, 0, MostJ _ tv z, rfl, .head _, ⟨rfl, ?_, rfl, _, rfl⟩, ?_, ?_⟩
  · intro y hy
    simp only [List.mem_cons, List.not_mem_nil, or_false] at hy
    rcases hy with rfl | rfl | rfl | rfl | rfl | rfl
    · exact ⟨_, _, rfl, by decide⟩
    · exact ⟨_, _, rfl, by decide⟩
    · exact ⟨_, _, rfl, by omega⟩
    · exact ⟨_, _, rfl, by omega⟩
    · exact ⟨_, _, rfl, by omega⟩
    · exact ⟨_, _, rfl, by omega⟩
  · rintro y vs' m n I oI hm ⟨rfl, hys, mt, tz, mz⟩ offI
    obtain ⟨x, tx, rfl, hx0⟩ := hys y (.head _)
    refine As.name ?_ rfl
    refine Run.ifEt' (Et.cmp (Ev.call (by k_is) (by k_is) rfl (Pl.cons (Pe.loc mt rfl) (Pl.cons (Pe.loc rfl rfl) Pl.nil)) (r.le (by decide)) fun _ => has_ok (hT'.mono fun p hp => .tail _ (.tail _ (.tail _ hp))) hx0 (by omega)
      (Ev.pe (Pe.cmp (Pe.loc mz rfl) (Pe.loc rfl rfl) fun _ _ => Po.gtI) fun _ => ⟨false, Po.neB ?_, (fun h => nomatch h), fun _ => Run.nil ⟨_, fun _ h => h, offI, hm, rfl, fun y hy => hys y (.tail _ hy), mt, tz, mz⟩⟩)))
    rw [hz]
    cases decide (x < (t.sz : Int)) <;> rfl
  · rintro m n hm ⟨rfl, -⟩
    exact Run.sub (news' := (l, o'') :: H) (Run.ret (Ev.pe Pe.bool fun _ => k o'' hS'')) fun p hp => by
      rcases List.mem_cons.mp hp with rfl | hp
      · exact .tail _ (.head _)
      · exact .tail _ (.tail _ (M.n p hp))
/-- a call of a class of the top's: its __init__ run upon the new object -/
theorem Tell.cls {need : Nat} {c f : Addr} {vs : List Value} {R : Value → Led → Prop} {news : Led} {name qual : Str} {params : Arguments} {body : List Stmt} {scope : Scope} {dV kV doc pm cdv ct oc : Value} {an od : Option Addr} {osl : Array (Option Value)} {binds : Addr → List (Str × Value)}
    (hm : makesIn (hk.heap_39 w.params) c = true) (hi : findIn (hk.heap_39 w.params) (.ref c) "__init__" = some (some (.ref f))) (hf : isFn (hk.heap_39 w.params) (.ref f) = true)
    (ho : (hk.heap_39 w.params).lookup f = some ⟨oc, od, .func (fnOf name qual params body scope dV kV doc pm an cdv ct), osl⟩) (hcd : codeIn (hk.heap_39 w.params) cdv qual = true)
    (hbind : ∀ x (s : Shared), (hk.heap_39 w.params).In s.heap → BindsTo s (fnOf name qual params body scope dV kV doc pm an cdv ct) ⟨.ref x :: vs, []⟩ (binds x)) (hloc : ∀ x, ((binds x).all fun x => decide (scope.names.lookup x.1 = some .local)) = true)
    (hkd : scope.kind = .function) (hco : scope.isCoroutine = false) (hgen : scope.isGenerator = false) (hcell : ∀ x ∈ scope.names, x.2 ≠ .cell)
    (h : ∀ (D : Dy w mean mg mb) (x dx : Addr), (∀ p ∈ news, p.1 < dx) → dx < x → (Cx.mk ⟨qual, scope, f, cdv, hkd⟩ [] D).room need →
      Run ⟨⟨qual, scope, f, cdv, hkd⟩, [], D⟩ (ents (binds x)) ((x, instObj c dx) :: (dx, dictOf [] 0) :: news) body (fun _ n => R (.ref x) n) fun _ _ => False) : Tell w mean mg mb (need + 2) c vs news R := by
  constructor
  intro C m r s Q E a q
  refine call_cls a.F C.D.X a.N hm hi hf fun x dx h' F' N' l1 l2 => ?_
  refine code_def (A := C.A.under (.builtin "type.__call__" ⟨.ref c :: vs, []⟩)) (env := C.env) (outer := C.D.outer) C.D.B F' C.D.X N' C.D.T rfl rfl C.fn.hk ho hcd (Nat.lt_of_le_of_lt (Nat.add_le_add_left (Nat.le_add_left 1 (need + 1)) _) r.d) (hbind x _ (C.D.X.keeps F'.keep)) (locs (hloc x)) (fun g L' h₁ FG F' N' B' X' T' => ?_) hco hgen hkd hcell
  refine (h ⟨C.D.q, C.D.qi, C.D.prog, C.D.dp + 1 + 1, C.D.un + 1 + 3, (C.A.under (.builtin "type.__call__" ⟨.ref c :: vs, []⟩)).guards, L', C.env :: C.D.outer, C.A.under (.builtin "type.__call__" ⟨.ref c :: vs, []⟩), C.D.base, g, B', X', T'⟩ x dx l1 l2
    ⟨by have := r.d; show C.D.dp + 1 + 1 + need < _; omega, by have := r.u; show C.D.un + 1 + 3 + 8 * need < _; omega⟩).go _ _ _ ⟨F', N'⟩ ?_ ?_
  · intro m' news' h tk hr a'
    exact leaveK_ a'.F a'.N fun F3 N3 => ⟨rfl, q _ _ _ _ hr ⟨F3, N3⟩⟩
  · intro v m' news' h tk hr a'
    exact hr.elim
section
variable {C : Cx w mean mg mb} {m : Mp} {news : Led} {K : Mp → Led → Prop} {R : Value → Led → Prop}
/-- self.name = value, self's class a class of the top's -/
theorem Run.setAttr {e ve : Expr} {attr : Str} {ap pos : Pos} {rest : List Stmt} {x c dx : Addr} {v : Value} {es : List DictEntry} {n n' : Nat} {sl : Array (Option Value)} {g : Obj → Led} (q : Ev C C.env m news ve fun v' n1 => v' = v ∧ n1 = news) (p : Pe C C.env m news e (fun _ => .ref x)) (hx : (x, (⟨.ref c, some dx, .plain, sl⟩ : Obj)) ∈ news) (U : UpdF dx (dictOf es n) news g)
    (hs1 : findIn (hk.heap_39 w.params) (.ref c) "__setattr__" = some (some (.builtin "object.__setattr__"))) (hp : plainOver (hk.heap_39 w.params) c = true) (ht : takerIn (hk.heap_39 w.params) c attr = some Option.none) (hh : hasDictIn (hk.heap_39 w.params) c = true) (hl : (getL attr es).isSome = true)
    (e1 : ∀ t, ∃ es', (putL attr (PyData.keyHash w.params attr) (.str attr t) v es, putN attr es n) = (es', n') ∧ Nat.ble es'.length 100 = true ∧ Run C m (g (dictOf es' n')) rest K R)
    (hs : swapsWith ve (some (.Attribute e attr ap)) pos.line C.env = pure false := by rfl) : Run C m news (.Assign [.Attribute e attr ap] ve pos :: rest) K R :=
  ⟨fun s _ _ a k z => by
    refine wpAny_execs_cons (plainObj_wpAny_Assign_Attribute (q.go _ _ _ a fun v' n1 h1 tk1 r a1 => ?_) hs)
    obtain ⟨rfl, rfl⟩ := r
    refine p.use a1 fun h2 tk2 _ a2 => ?_
    obtain ⟨es', e2, e3, r⟩ := e1 (tk2 + 1)
    exact set_dict a2.F C.D.X a2.N (InstAt.of_news a2.N hx (updF_mem U)) rfl hs1 hp ht hh hl e2 (updF_upd U) (Nat.le_trans (Nat.le_of_ble_eq_true e3) (by decide)) fun h' F' N' => r.go _ _ _ ⟨F', N'⟩ k z⟩
/-- what holds of the object and its dict when the value has been found -/
def SetK (C : Cx w mean mg mb) (m : Mp) (e : Expr) (attr : Str) (x c dx : Addr) (sl : Array (Option Value)) (k : Led → Prop) (v : Value) (n1 : Led) : Prop :=
  ∃ (es : List DictEntry) (n n' : Nat) (g : Obj → Led), Pe C C.env m n1 e (fun _ => .ref x) ∧ (x, (⟨.ref c, some dx, .plain, sl⟩ : Obj)) ∈ n1 ∧ UpdF dx (dictOf es n) n1 g ∧ (getL attr es).isSome = true ∧
    ∀ t : Tok, ∃ es' : List DictEntry, (putL attr (PyData.keyHash w.params attr) (.str attr t) v es, putN attr es n) = (es', n') ∧ Nat.ble es'.length 100 = true ∧ k (g (dictOf es' n'))
theorem Run.setAttrE {e ve : Expr} {attr : Str} {ap pos : Pos} {rest : List Stmt} {x c dx : Addr} {sl : Array (Option Value)} (q : Ev C C.env m news ve (SetK C m e attr x c dx sl fun n => Run C m n rest K R))
    (hs1 : findIn (hk.heap_39 w.params) (.ref c) "__setattr__" = some (some (.builtin "object.__setattr__"))) (hp : plainOver (hk.heap_39 w.params) c = true) (ht : takerIn (hk.heap_39 w.params) c attr = some Option.none) (hh : hasDictIn (hk.heap_39 w.params) c = true)
    (hs : swapsWith ve (some (.Attribute e attr ap)) pos.line C.env = pure false := by rfl) : Run C m news (.Assign [.Attribute e attr ap] ve pos :: rest) K R := by
  constructor
  intro s Q E a k z
  refine wpAny_execs_cons (plainObj_wpAny_Assign_Attribute (q.go _ _ _ a fun v n1 h1 tk1 r a1 => ?_) hs)
  obtain ⟨es, n, n', g, p, hx, U, hl, e1⟩ := r
  refine p.use a1 fun h2 tk2 _ a2 => ?_
  obtain ⟨es', e2, e3, r⟩ := e1 (tk2 + 1)
  exact set_dict a2.F C.D.X a2.N (InstAt.of_news a2.N hx (updF_mem U)) rfl hs1 hp ht hh hl e2 (updF_upd U) (Nat.le_trans (Nat.le_of_ble_eq_true e3) (by decide)) fun h' F' N' => r.go _ _ _ ⟨F', N'⟩ k z
end
theorem impl_ok {a b p tr ta st me : Value} {H : Led} {R : Value → Led → Prop} (k : ∀ x dx ox od, (∀ p ∈ H, p.1 < dx) → dx < x → Rec [(x, ox), (dx, od)] 135 x [(Str.ofString "trait", tr), (Str.ofString "self_type", st), (Str.ofString "params", p)] → R (.ref x) ((x, ox) :: (dx, od) :: H)) :
    Tell w mean mg mb 2 135 [a, b, p, tr, ta, st, me] H R := by
  refine Tell.cls (need := 0) (f := 132) (binds := fun x => [(Str.ofString "self", .ref x), (Str.ofString "number", a), (Str.ofString "regions", b), (Str.ofString "params", p), (Str.ofString "trait", tr), (Str.ofString "trait_args", ta), (Str.ofString "self_type", st), (Str.ofString "methods", me), (Str.ofString "spot", .int 0 348)])
    (by k_is) (by k_is) (by k_is) (by k_is) (by k_is) (fun x s X => binds_K X rfl (by k_is) rfl rfl rfl) (fun _ => rfl) rfl rfl rfl (by decide) fun D x dx hx1 hx2 r => ?_
  have off : ∀ p ∈ H, p.1 ≠ dx := fun p hp => Nat.ne_of_lt (hx1 p hp)
  refine Run.setAttr (Ev.pe (Pe.loc rfl rfl) fun _ => ⟨rfl, rfl⟩) (Pe.loc rfl rfl) (.head _) (.tail (Nat.ne_of_gt hx2) (.head off)) (by k_is) (by k_is) (by k_is) (by k_is) rfl (fun t1 => ⟨_, rfl, rfl, ?_⟩)
  refine Run.setAttr (Ev.pe (Pe.loc rfl rfl) fun _ => ⟨rfl, rfl⟩) (Pe.loc rfl rfl) (.head _) (.tail (Nat.ne_of_gt hx2) (.head off)) (by k_is) (by k_is) (by k_is) (by k_is) rfl (fun t2 => ⟨_, rfl, rfl, ?_⟩)
  refine Run.setAttr (Ev.pe (Pe.loc rfl rfl) fun _ => ⟨rfl, rfl⟩) (Pe.loc rfl rfl) (.head _) (.tail (Nat.ne_of_gt hx2) (.head off)) (by k_is) (by k_is) (by k_is) (by k_is) rfl (fun t3 => ⟨_, rfl, rfl, ?_⟩)
  refine Run.setAttr (Ev.pe (Pe.loc rfl rfl) fun _ => ⟨rfl, rfl⟩) (Pe.loc rfl rfl) (.head _) (.tail (Nat.ne_of_gt hx2) (.head off)) (by k_is) (by k_is) (by k_is) (by k_is) rfl (fun t4 => ⟨_, rfl, rfl, ?_⟩)
  refine Run.setAttr (Ev.pe (Pe.loc rfl rfl) fun _ => ⟨rfl, rfl⟩) (Pe.loc rfl rfl) (.head _) (.tail (Nat.ne_of_gt hx2) (.head off)) (by k_is) (by k_is) (by k_is) (by k_is) rfl (fun t5 => ⟨_, rfl, rfl, ?_⟩)
  refine Run.setAttr (Ev.pe (Pe.loc rfl rfl) fun _ => ⟨rfl, rfl⟩) (Pe.loc rfl rfl) (.head _) (.tail (Nat.ne_of_gt hx2) (.head off)) (by k_is) (by k_is) (by k_is) (by k_is) rfl (fun t6 => ⟨_, rfl, rfl, ?_⟩)
  refine Run.setAttr (Ev.pe (Pe.loc rfl rfl) fun _ => ⟨rfl, rfl⟩) (Pe.loc rfl rfl) (.head _) (.tail (Nat.ne_of_gt hx2) (.head off)) (by k_is) (by k_is) (by k_is) (by k_is) rfl (fun t7 => ⟨_, rfl, rfl, ?_⟩)
  refine Run.setAttr (Ev.pe (Pe.loc rfl rfl) fun _ => ⟨rfl, rfl⟩) (Pe.loc rfl rfl) (.head _) (.tail (Nat.ne_of_gt hx2) (.head off)) (by k_is) (by k_is) (by k_is) (by k_is) rfl (fun t8 => ⟨_, rfl, rfl, ?_⟩)
  exact Run.nil (k x dx _ _ hx1 hx2 ⟨dx, _, _, _, .head _, .tail _ (.head _), fun f hf => by
    simp only [List.mem_cons, List.not_mem_nil, or_false] at hf
    rcases hf with rfl | rfl | rfl <;> rfl⟩)
theorem adt_ok {a b p va en : Value} {H : Led} {R : Value → Led → Prop} (k : ∀ x dx ox od, (∀ p ∈ H, p.1 < dx) → dx < x → Rec [(x, ox), (dx, od)] 113 x [(Str.ofString "variants", va)] → R (.ref x) ((x, ox) :: (dx, od) :: H)) :
    Tell w mean mg mb 2 113 [a, b, p, va, en] H R := by
  refine Tell.cls (need := 0) (f := 110) (binds := fun x => [(Str.ofString "self", .ref x), (Str.ofString "path", a), (Str.ofString "regions", b), (Str.ofString "params", p), (Str.ofString "variants", va), (Str.ofString "is_enum", en), (Str.ofString "module", .str (Str.ofString "") 306), (Str.ofString "publics", .ref 102)])
    (by k_is) (by k_is) (by k_is) (by k_is) (by k_is) (fun x s X => binds_K X rfl (by k_is) rfl rfl rfl) (fun _ => rfl) rfl rfl rfl (by decide) fun D x dx hx1 hx2 r => ?_
  have off : ∀ p ∈ H, p.1 ≠ dx := fun p hp => Nat.ne_of_lt (hx1 p hp)
  refine Run.setAttr (Ev.pe (Pe.loc rfl rfl) fun _ => ⟨rfl, rfl⟩) (Pe.loc rfl rfl) (.head _) (.tail (Nat.ne_of_gt hx2) (.head off)) (by k_is) (by k_is) (by k_is) (by k_is) rfl (fun t1 => ⟨_, rfl, rfl, ?_⟩)
  refine Run.setAttr (Ev.pe (Pe.loc rfl rfl) fun _ => ⟨rfl, rfl⟩) (Pe.loc rfl rfl) (.head _) (.tail (Nat.ne_of_gt hx2) (.head off)) (by k_is) (by k_is) (by k_is) (by k_is) rfl (fun t2 => ⟨_, rfl, rfl, ?_⟩)
  refine Run.setAttr (Ev.pe (Pe.loc rfl rfl) fun _ => ⟨rfl, rfl⟩) (Pe.loc rfl rfl) (.head _) (.tail (Nat.ne_of_gt hx2) (.head off)) (by k_is) (by k_is) (by k_is) (by k_is) rfl (fun t3 => ⟨_, rfl, rfl, ?_⟩)
  refine Run.setAttr (Ev.pe (Pe.loc rfl rfl) fun _ => ⟨rfl, rfl⟩) (Pe.loc rfl rfl) (.head _) (.tail (Nat.ne_of_gt hx2) (.head off)) (by k_is) (by k_is) (by k_is) (by k_is) rfl (fun t4 => ⟨_, rfl, rfl, ?_⟩)
  refine Run.setAttr (Ev.pe (Pe.loc rfl rfl) fun _ => ⟨rfl, rfl⟩) (Pe.loc rfl rfl) (.head _) (.tail (Nat.ne_of_gt hx2) (.head off)) (by k_is) (by k_is) (by k_is) (by k_is) rfl (fun t5 => ⟨_, rfl, rfl, ?_⟩)
  refine Run.setAttr (Ev.pe (Pe.loc rfl rfl) fun _ => ⟨rfl, rfl⟩) (Pe.loc rfl rfl) (.head _) (.tail (Nat.ne_of_gt hx2) (.head off)) (by k_is) (by k_is) (by k_is) (by k_is) rfl (fun t6 => ⟨_, rfl, rfl, ?_⟩)
  refine Run.setAttr (Ev.pe (Pe.loc rfl rfl) fun _ => ⟨rfl, rfl⟩) (Pe.loc rfl rfl) (.head _) (.tail (Nat.ne_of_gt hx2) (.head off)) (by k_is) (by k_is) (by k_is) (by k_is) rfl (fun t7 => ⟨_, rfl, rfl, ?_⟩)
  exact Run.nil (k x dx _ _ hx1 hx2 ⟨dx, _, _, _, .head _, .tail _ (.head _), fun f hf => by
    rw [List.mem_singleton.mp hf]; rfl⟩)
theorem world_ok {H : Led} {v : Value} {R : Value → Led → Prop} (k : ∀ x dx da il ox od oa, (∀ p ∈ H, p.1 < dx) → dx < x → x < da → da < il → Dct w oa [] → Rec [(x, ox), (dx, od)] 164 x [(Str.ofString "adts", .ref da), (Str.ofString "impls", .ref il)] → R (.ref x) ((il, lst [] 0) :: (da, oa) :: (x, ox) :: (dx, od) :: H)) :
    Tell w mean mg mb 2 164 [v] H R := by
  refine Tell.cls (need := 0) (f := 154) (binds := fun x => [(Str.ofString "self", .ref x), (Str.ofString "modules", v)])
    (by k_is) (by k_is) (by k_is) (by k_is) (by k_is) (fun x s X => binds_K X rfl (by k_is) rfl rfl rfl) (fun _ => rfl) rfl rfl rfl (by decide) fun D x dx hx1 hx2 r => ?_
  have off : ∀ p ∈ H, p.1 ≠ dx := fun p hp => Nat.ne_of_lt (hx1 p hp)
  have hxd := Nat.ne_of_gt hx2
  refine Run.setAttr (Ev.pe (Pe.loc rfl rfl) fun _ => ⟨rfl, rfl⟩) (Pe.loc rfl rfl) (.head _) (.tail hxd (.head off)) (by k_is) (by k_is) (by k_is) (by k_is) rfl (fun t1 => ⟨_, rfl, rfl, ?_⟩)
  refine Run.setAttrE (Ev.dict0 fun da oa hda hlt => ⟨_, _, _, _, Pe.loc rfl rfl, .tail _ (.head _), .tail (Nat.ne_of_gt (hlt _ (.tail _ (.head _)))) (.tail hxd (.head off)), rfl, fun t2 => ⟨_, rfl, rfl, ?_⟩⟩) (by k_is) (by k_is) (by k_is) (by k_is)
  have hda1 : x < da := hlt _ (.head _)
  have hda' : da ≠ dx := Nat.ne_of_gt (Nat.lt_trans hx2 hda1)
  refine Run.setAttrE (Ev.dict0 fun d3 o3 hd3 hlt3 => ⟨_, _, _, _, Pe.loc rfl rfl, .tail _ (.tail _ (.head _)), .tail (Nat.ne_of_gt (hlt3 _ (.tail _ (.tail _ (.head _))))) (.tail hda' (.tail hxd (.head off))), rfl, fun t3 => ⟨_, rfl, rfl, Run.sub ?_ fun _ h => .tail _ h⟩⟩) (by k_is) (by k_is) (by k_is) (by k_is)
  refine Run.setAttrE (Ev.dict0 fun d4 o4 hd4 hlt4 => ⟨_, _, _, _, Pe.loc rfl rfl, .tail _ (.tail _ (.head _)), .tail (Nat.ne_of_gt (hlt4 _ (.tail _ (.tail _ (.head _))))) (.tail hda' (.tail hxd (.head off))), rfl, fun t4 => ⟨_, rfl, rfl, Run.sub ?_ fun _ h => .tail _ h⟩⟩) (by k_is) (by k_is) (by k_is) (by k_is)
  refine Run.setAttrE (Ev.dict0 fun d5 o5 hd5 hlt5 => ⟨_, _, _, _, Pe.loc rfl rfl, .tail _ (.tail _ (.head _)), .tail (Nat.ne_of_gt (hlt5 _ (.tail _ (.tail _ (.head _))))) (.tail hda' (.tail hxd (.head off))), rfl, fun t5 => ⟨_, rfl, rfl, Run.sub ?_ fun _ h => .tail _ h⟩⟩) (by k_is) (by k_is) (by k_is) (by k_is)
  refine Run.setAttrE (Ev.list Pl.nil (fun τ il hil => ⟨_, _, _, _, Pe.loc rfl rfl, .tail _ (.tail _ (.head _)), .tail (Nat.ne_of_gt (hil _ (.tail _ (.tail _ (.head _))))) (.tail hda' (.tail hxd (.head off))), rfl, fun t6 => ⟨_, rfl, rfl, ?_⟩⟩) fun _ => rfl) (by k_is) (by k_is) (by k_is) (by k_is)
  have hil1 : da < il := hil _ (.head _)
  have hil' : il ≠ dx := Nat.ne_of_gt (Nat.lt_trans (Nat.lt_trans hx2 hda1) hil1)
  refine Run.setAttrE (Ev.dict0 fun d7 o7 hd7 hlt7 => ⟨_, _, _, _, Pe.loc rfl rfl, .tail _ (.tail _ (.tail _ (.head _))), .tail (Nat.ne_of_gt (hlt7 _ (.tail _ (.tail _ (.tail _ (.head _)))))) (.tail hil' (.tail hda' (.tail hxd (.head off)))), rfl, fun t7 => ⟨_, rfl, rfl, Run.sub ?_ fun _ h => .tail _ h⟩⟩) (by k_is) (by k_is) (by k_is) (by k_is)
  refine Run.setAttrE (Ev.dict0 fun d8 o8 hd8 hlt8 => ⟨_, _, _, _, Pe.loc rfl rfl, .tail _ (.tail _ (.tail _ (.head _))), .tail (Nat.ne_of_gt (hlt8 _ (.tail _ (.tail _ (.tail _ (.head _)))))) (.tail hil' (.tail hda' (.tail hxd (.head off)))), rfl, fun t8 => ⟨_, rfl, rfl, Run.sub ?_ fun _ h => .tail _ h⟩⟩) (by k_is) (by k_is) (by k_is) (by k_is)
  exact Run.nil (k x dx da il _ _ oa hx1 hx2 hda1 hil1 hda ⟨dx, _, _, _, .head _, .tail _ (.head _), fun f hf => by
    simp only [List.mem_cons, List.not_mem_nil, or_false] at hf
    rcases hf with rfl | rfl <;> rfl⟩)
theorem Pe.idxL {C : Cx w mean mg mb} {m : Mp} {news : Led} {env : Env} {e i : Expr} {pos : Pos} {a : Addr} {vs : List Value} {n k : Nat} {v : Value} {x : Int} {f : Tok → Tok} (p : Pe C env m news e (fun _ => .ref a)) (hm : (a, lst vs n) ∈ news) (q : Pe C env m news i (fun t => .int x (f t))) (hx : vs[k]? = some v) (hi : x = (k : Int)) (hk : k < 100)
    (hs : ∀ u, subscripted i false (.ref a) (.int x u) = operate [.ref a, .int x u] (getItem (.ref a) (.int x u)) := by intro _; with_unfolding_all rfl) : Pe C env m news (.Subscript e i pos) (fun _ => v) :=
  .of fun _ _ _ at_ z => Subscript_ (p.use at_ fun h tk _ a' => q.use a' fun _ _ t a' =>
    have L : Heap.IsList _ a vs.toArray := ⟨_, (a'.N _ hm).1, rfl, _, rfl⟩
    tail_any L.typeIs slot_list_getitem.lookup (wpAny_getItem_list L (by omega) (by omega) (x := v) (by subst hi; simpa using hx) (z _ _ 0 a')) (hs _))
/-- what field_rows finds -/
def Fld (w : World) (H : Led) (wa : Addr) (nm : Str) (i : Nat) (rl : Value) : Prop := ∃ ad oa kvs c vl vs k tv n kd, Rec H 164 wa [(Str.ofString "adts", .ref ad)] ∧ (ad, oa) ∈ H ∧ Dct w oa kvs ∧ valueAt kvs nm = some (.ref c) ∧ Rec H 113 c [(Str.ofString "variants", .ref vl)] ∧ (vl, lst vs k) ∈ H ∧ vs[i]? = some (.ref tv) ∧ (tv, tup [n, kd, rl]) ∈ H
theorem Fld.mono {H H' : Led} {wa : Addr} {nm : Str} {i : Nat} {rl : Value} (x : Fld w H wa nm i rl) (s : ∀ p ∈ H, p ∈ H') : Fld w H' wa nm i rl :=
  let ⟨ad, oa, kvs, c, vl, vs, k, tv, n, kd, a, b, d, e, f, g, h, j⟩ := x; ⟨ad, oa, kvs, c, vl, vs, k, tv, n, kd, a.mono s, s _ b, d, e, f.mono s, s _ g, h, s _ j⟩
theorem field_ok {a wa : Addr} {nm : Str} {t u ti : Tok} {xs : List Value} {i : Nat} {rl : Value} {H : Led} {R : Value → Led → Prop} (ha : (a, tup (.str (Str.ofString "adt") t :: .str nm u :: xs)) ∈ H) (hf : Fld w H wa nm i rl) (hi : i < 100) (k : R rl H) : Tell w mean mg mb 1 94 [.ref a, .int i ti, .ref wa] H R := by
  refine Tell.def (need := 0) (binds := [(Str.ofString "told", .ref a), (Str.ofString "variant", .int i ti), (Str.ofString "world", .ref wa)]) (by k_is) (by k_is) rfl rfl rfl rfl rfl (by decide) (fun D r => ?_)
  obtain ⟨ad, oa, kvs, c, vl, vs, j, tv, n, kd, h1, h2, h3, h4, h5, h6, h7, h8⟩ := hf
  exact Run.ret (Ev.pe (Pe.sub (Pe.idxL (Pe.attr (Pe.subD (Pe.attr (Pe.loc rfl rfl) h1 (.head _) (by k_is) (by k_is) (by k_is) (by k_is) rfl) (Pe.sub (Pe.loc rfl rfl) ha rfl) h2 h3 h4) h5 (.head _) (by k_is) (by k_is) (by k_is) (by k_is) rfl) h6 (Pe.loc rfl rfl) h7 rfl hi) h8 rfl) fun _ => k)
section
variable {C : Cx w mean mg mb} {m : Mp} {news : Led} {env : Env} {K : Mp → Led → Prop} {R : Value → Led → Prop}
/-- a call of a built-in upon two values -/
theorem Pe.call2 {x : Str} {id : String} {np pos : Pos} {e e2 : Expr} {f f2 g : Tok → Value} (p : Pe C env m news e f) (p2 : Pe C env m news e2 f2) (hx : bootBuiltins x = some (.builtin id)) (hm : nsIn (hk.heap_39 w.params) mainGlobals x = some Option.none) (ok : gloOk env x = true)
    (h : ∀ t u, Po C m news (call (.builtin id) [f t, f2 u]) g) (hn : x ≠ "__name__" := by decide) (hg : env.globals = mainGlobals := by rfl) (hb : env.builtins = builtinsNs := by rfl) (he : starEach [e, e2] env = (false, eval e env) :: starEach [e2] env := by rfl) (he2 : starEach [e2] env = (false, eval e2 env) :: starEach [] env := by rfl)
    (hc : eval (.Call (.Name x np) [e, e2] [] pos) env = (do callWith pos (← eval (.Name x np) env) [] (backTo pos (starEach [e, e2] env)) (backToKw pos (keywordEach [] env))) := by rfl) : Pe C env m news (.Call (.Name x np) [e, e2] [] pos) g :=
  .of fun _ _ _ a q => by
    refine Call_ ((Pe.blt hm hx hn ok hg hb).use a fun _ _ _ a => ?_) hc
    refine callWith_builtin1 (args_cons (p.use a fun _ _ t a => args_cons (p2.use a fun _ _ u a => args_nil ((h t u).use a fun _ _ _ a => q _ _ _ a)) he2) he) he ?_
    rw [he2]
    rfl
theorem Po.isStrS {x : Str} {t : Tok} : Po C m news (call (.builtin "isinstance") [.str x t, .type "str"]) (fun _ => .bool true) := .of fun _ _ _ a k => IsiPair.str_str (k _ _ 0 a)
theorem Po.isStrI {x : Int} {t : Tok} : Po C m news (call (.builtin "isinstance") [.int x t, .type "str"]) (fun _ => .bool false) := .of fun _ _ _ a k => IsiPair.int_str (k _ _ 0 a)
theorem Po.noneN : Po C m news (compareOp .Is .none .none) (fun _ => .bool true) := .of fun _ _ _ a k => PyProof.Rows.is_none_none (k _ _ 0 a)
theorem Po.noneS {x : Str} {t : Tok} : Po C m news (compareOp .Is (.str x t) .none) (fun _ => .bool false) := .of fun _ _ _ a k => PyProof.Rows.is_str_none (k _ _ 0 a)
theorem Po.noneI {x : Int} {t : Tok} : Po C m news (compareOp .Is (.int x t) .none) (fun _ => .bool false) := .of fun _ _ _ a k => PyProof.Rows.is_int_none (k _ _ 0 a)
theorem Po.addS {x y : Str} {t u : Tok} (h : x.length + y.length ≤ sizeLine) : Po C m news (binaryOp .Add (.str x t) (.str y u)) (fun t => .str (x ++ y) t) := .of fun _ _ _ a k => PyProof.Rows.add_str (fun t' _ => k _ _ t' a) h
/-- str(e) of an int -/
theorem Pe.strOf {e : Expr} {np pos : Pos} {n : Int} {g : Tok → Tok} (p : Pe C env m news e (fun t => .int n (g t))) (hb : n.natAbs.log2 < 1920) (hm : nsIn (hk.heap_39 w.params) mainGlobals (Str.ofString "str") = some Option.none) (ok : gloOk env (Str.ofString "str") = true)
    (hg : env.globals = mainGlobals := by rfl) (hb' : env.builtins = builtinsNs := by rfl) (he : starEach [e] env = (false, eval e env) :: starEach [] env := by rfl)
    (hc : eval (.Call (.Name (Str.ofString "str") np) [e] [] pos) env = (do callWith pos (← eval (.Name (Str.ofString "str") np) env) [] (backTo pos (starEach [e] env)) (backToKw pos (keywordEach [] env))) := by rfl) : Pe C env m news (.Call (.Name (Str.ofString "str") np) [e] [] pos) (fun t => .str (Str.ofString (toString n)) t) :=
  .of fun _ _ _ a q => by
    refine Call_ ((Pe.blt hm bootS_str (by decide) ok hg hb').use a fun _ _ _ a => ?_) hc
    exact Pv.callWith_type1 (args_cons (p.use a fun _ _ t a => args_nil (P.str_of_int hb (q _ _ _ a))) he) he rfl
end
theorem mark_fits {n : Int} (h : n.natAbs.log2 < 1920) : (Str.ofString "'").length + (Str.ofString (toString n)).length ≤ sizeLine := by
  have e := int_text_length_le (k := 1920) (by decide) h
  have e1 : (Str.ofString "'").length = 1 := rfl
  rw [e1, PySem.ofString_length, sizeLine_eq]
  omega
theorem region_none {H : Led} {R : Value → Led → Prop} (k : ∀ t, R (.str (Str.ofString "") t) H) : Tell w mean mg mb 1 68 [.none] H R :=
  Tell.def (need := 0) (binds := [(Str.ofString "region", .none)]) (by k_is) (by k_is) rfl rfl rfl rfl rfl (by decide) (fun D r => Run.ifT (Pt.cmp (Pe.loc rfl rfl) Pe.none fun _ _ => Po.noneN) (Run.ret (Ev.pe Pe.str fun t => k t)))
theorem region_str {x : Str} {u : Tok} {H : Led} {R : Value → Led → Prop} (k : R (.str x u) H) : Tell w mean mg mb 1 68 [.str x u] H R :=
  Tell.def (need := 0) (binds := [(Str.ofString "region", .str x u)]) (by k_is) (by k_is) rfl rfl rfl rfl rfl (by decide) (fun D r => Run.ifF (Pt.cmp (Pe.loc rfl rfl) Pe.none fun _ _ => Po.noneS)
    (Run.ret (Ev.iteT (Pt.val (Pe.call2 (Pe.loc rfl rfl) (Pe.blt (by k_is) bootS_str (by decide) rfl) boot_isinstance (by k_is) rfl fun _ _ => Po.isStrS)) (Ev.pe (Pe.loc rfl rfl) fun _ => k))))
theorem region_int {n : Int} {u : Tok} {H : Led} {R : Value → Led → Prop} (hb : n.natAbs.log2 < 1920) (k : ∀ t, R (.str (Str.ofString "'" ++ Str.ofString (toString n)) t) H) : Tell w mean mg mb 1 68 [.int n u] H R :=
  Tell.def (need := 0) (binds := [(Str.ofString "region", .int n u)]) (by k_is) (by k_is) rfl rfl rfl rfl rfl (by decide) (fun D r => Run.ifF (Pt.cmp (Pe.loc rfl rfl) Pe.none fun _ _ => Po.noneI)
    (Run.ret (Ev.iteF (Pt.val (Pe.call2 (Pe.loc rfl rfl) (Pe.blt (by k_is) bootS_str (by decide) rfl) boot_isinstance (by k_is) rfl fun _ _ => Po.isStrI)) (Ev.pe (Pe.bin Pe.str (Pe.strOf (Pe.loc rfl rfl) hb (by k_is) rfl) fun _ _ => Po.addS (mark_fits hb)) fun t => k t))))
mutual
/-- a written value -/
inductive Sh where
  | s (x : Str) | b (v : Bool)
  | t (xs : Shs)
  | l (xs : Shs)
inductive Shs where
  | nil
  | cons (x : Sh) (xs : Shs)
end
mutual
def Sh.dep : Sh → Nat
  | .s _ | .b _ => 0
  | .t xs | .l xs => xs.dep + 1
def Shs.dep : Shs → Nat
  | .nil => 0
  | .cons x xs => max x.dep xs.dep
end
mutual
/-- the ledger bears the written value at v -/
inductive ShIn (G : Led) : Value → Sh → Prop
  | s {x : Str} {t : Tok} : ShIn G (.str x t) (.s x)
  | b {v : Bool} : ShIn G (.bool v) (.b v)
  | t {a : Addr} {vs : List Value} {xs : Shs} : (a, tup vs) ∈ G → ShsIn G vs xs → ShIn G (.ref a) (.t xs)
  | l {a : Addr} {vs : List Value} {k : Nat} {xs : Shs} : (a, lst vs k) ∈ G → ShsIn G vs xs → ShIn G (.ref a) (.l xs)
inductive ShsIn (G : Led) : List Value → Shs → Prop
  | nil : ShsIn G [] .nil
  | cons {v : Value} {vs : List Value} {x : Sh} {xs : Shs} : ShIn G v x → ShsIn G vs xs → ShsIn G (v :: vs) (.cons x xs)
end
mutual
theorem ShIn.mono {G G' : Led} (h : ∀ p ∈ G, p ∈ G') : ∀ {v : Value} {x : Sh}, ShIn G v x → ShIn G' v x
  | _, _, .s => .s
  | _, _, .b => .b
  | _, _, .t m x => .t (h _ m) (x.mono h)
  | _, _, .l m x => .l (h _ m) (x.mono h)
theorem ShsIn.mono {G G' : Led} (h : ∀ p ∈ G, p ∈ G') : ∀ {vs : List Value} {xs : Shs}, ShsIn G vs xs → ShsIn G' vs xs
  | _, _, .nil => .nil
  | _, _, .cons a b => .cons (a.mono h) (b.mono h)
end
theorem Eqv.strT {G : Led} {d : Nat} {x y : Str} {t u : Tok} (h : (x == y) = true) : Eqv G d (.str x t) (.str y u) true := h ▸ Eqv.str
theorem Eqv.boolT {G : Led} {d : Nat} {x y : Bool} (h : (x == y) = true) : Eqv G d (.bool x) (.bool y) true := h ▸ Eqv.bool
mutual
theorem ShIn.eqv {G : Led} : ∀ {v u : Value} {x : Sh} {d : Nat}, ShIn G v x → ShIn G u x → x.dep ≤ d → Eqv G d v u true
  | _, _, _, _, .s, .s, _ => Eqv.strT (beq_self_eq_true _)
  | _, _, _, _, .b, .b, _ => Eqv.boolT (beq_self_eq_true _)
  | _, _, _, 0, .t _ _, .t _ _, h => absurd h (Nat.not_succ_le_zero _)
  | _, _, _, _ + 1, .t a x, .t b y, h => Eqv.tups a b (x.eqv y (Nat.le_of_succ_le_succ h))
  | _, _, _, 0, .l _ _, .l _ _, h => absurd h (Nat.not_succ_le_zero _)
  | _, _, _, _ + 1, .l a x, .l b y, h => Eqv.lsts a b (x.eqv y (Nat.le_of_succ_le_succ h))
theorem ShsIn.eqv {G : Led} : ∀ {vs us : List Value} {xs : Shs} {d : Nat}, ShsIn G vs xs → ShsIn G us xs → xs.dep ≤ d → Eqs G d vs us
  | _, _, _, _, .nil, .nil, _ => .nil
  | _, _, _, _, .cons a x, .cons b y, h => .cons (a.eqv b (Nat.le_trans (Nat.le_max_left ..) h)) (x.eqv y (Nat.le_trans (Nat.le_max_right ..) h))
end
section
variable {C : Cx w mean mg mb} {m : Mp} {news : Led} {env : Env} {K : Mp → Led → Prop} {R : Value → Led → Prop}
/-- a list that stays: at the ledger's end -/
theorem Ev.listB {es : List Expr} {pos : Pos} (p : El C env m news es fun vs n => Nat.ble vs.length 100 = true ∧ ∀ a, (∀ p ∈ n, p.1 < a) → R (.ref a) (n ++ [(a, lst vs 0)])) : Ev C env m news (.List es pos) R :=
  ⟨fun _ _ _ a q => List_ (p.go _ _ _ _ a fun _ _ _ _ r a => newList_N a.F a.N (fun _ F' N' => q _ _ _ _ (r.2 _ a.below) (At.back ⟨F', N'⟩)) (Nat.le_trans (Nat.le_of_ble_eq_true r.1) (by decide)))⟩
theorem Ev.dictB {pos : Pos} (k : ∀ a o, (∀ p ∈ news, p.1 < a) → Dct w o [] → R (.ref a) (news ++ [(a, o)])) : Ev C env m news (.Dict [] [] pos) R :=
  ⟨fun _ _ _ a q => newDict_K a.F a.N C.D.T.nolimit fun _ _ _ F' N' l1 _ hd _ _ _ => q _ _ _ _ (k _ _ l1 (isDict_to hd)) (At.back ⟨F', N'⟩)⟩
theorem Tell.drop {need : Nat} {f : Addr} {vs : List Value} (p : Tell w mean mg mb need f vs news fun v n => ∃ n', (∀ p ∈ n', p ∈ n) ∧ R v n') : Tell w mean mg mb need f vs news R :=
  ⟨fun C m r _ _ _ a q => p.go C m r _ _ _ a fun _ _ _ _ r a => by obtain ⟨n', s, r⟩ := r; exact q _ _ _ _ r (a.sub s)⟩
/-- d[..] = e -/
theorem Run.setDE {e i ve : Expr} {sp pos : Pos} {rest : List Stmt} (q : Ev C C.env m news ve fun v n => ∃ d o kvs x, ∃ f : Tok → Tok, ∃ g, Pe C C.env m n e (fun _ => .ref d) ∧ Pe C C.env m n i (fun t => .str x (f t)) ∧ UpdF d o n g ∧ Dct w o kvs ∧ Nat.ble kvs.length 100 = true ∧ ∀ o', Dct w o' (stored kvs x v) → Run C m (g o') rest K R)
    (hs : swapsWith ve (some (.Subscript e i sp)) pos.line C.env = pure false := by rfl) : Run C m news (.Assign [.Subscript e i sp] ve pos :: rest) K R :=
  ⟨fun _ _ _ a k z => by
    refine wpAny_execs_cons (wpAny_Assign_Subscript (q.go _ _ _ a fun v n _ _ r a => ?_) hs)
    obtain ⟨d, o, kvs, x, f, g, p, r, U, hd, hn, h⟩ := r
    refine p.use a fun _ _ _ a => r.use a fun _ _ t a => ?_
    obtain ⟨pre, post, rfl, hg, b1, b2⟩ := U.split
    have hm : (d, o) ∈ pre ++ (d, o) :: post := List.mem_append_right _ (.head _)
    refine wpAny_setItem_pairs (strKind_is C.prog w x _) (hd.dictOf a hm) (fun h' hd' hs' => ?_) (Nat.le_trans (Nat.le_of_ble_eq_true hn) (by decide))
    obtain ⟨o', ho', hd'⟩ := Heap.dictOf_iff.mp hd'
    have z0 := a.N _ hm
    exact (h o' (isDict_to hd')).go _ _ _ ⟨a.F.change hs' z0.2.1 z0.2.2, hg o' ▸ News.setAt a.N b1 b2 hs' ho'⟩ k z⟩
/-- a call without arguments -/
theorem Ev.call0 {fe : Expr} {f : Addr} {pos : Pos} {need : Nat} (pf : Pe C env m news fe (fun _ => .ref f)) (hk : keepIn (hk.heap_39 w.params) (.ref f) = true) (T : Tell w mean mg mb need f [] news R) (r : C.room need)
    (hc : eval (.Call fe [] [] pos) env = (do callWith pos (← eval fe env) [] (backTo pos (starEach [] env)) (backToKw pos (keywordEach [] env))) := by rfl) : Ev C env m news (.Call fe [] [] pos) R :=
  ⟨fun _ _ _ a q => by
    refine Call_ (pf.use a fun _ _ _ a => ?_) hc
    refine callWith_K0 (C.D.X.keeps a.F.keep) hk ?_
    exact T.go C _ r _ _ _ a q⟩
end
theorem lt_two {H : Led} {x dx : Addr} {ox od : Obj} (h1 : ∀ p ∈ H, p.1 < dx) (h2 : dx < x) : ∀ p ∈ H, ∀ q ∈ [(dx, od), (x, ox)], p.1 < q.1 := fun p hp q hq => by
  rcases List.mem_cons.mp hq with rfl | hq
  · exact h1 p hp
  · rw [List.mem_singleton.mp hq]; exact Nat.lt_trans (h1 p hp) h2
theorem two_sw {x y : Addr × Obj} : ∀ p ∈ [x, y], p ∈ [y, x] := fun p hp => by
  rcases List.mem_cons.mp hp with rfl | hp
  · exact .tail _ (.head _)
  · rw [List.mem_singleton.mp hp]; exact .head _
theorem two_back {H : Led} {x y : Addr × Obj} : ∀ p ∈ H ++ [y, x], p ∈ x :: y :: H := fun p hp => by
  rcases List.mem_append.mp hp with hp | hp
  · exact .tail _ (.tail _ hp)
  · rcases List.mem_cons.mp hp with rfl | hp
    · exact .tail _ (.head _)
    · rw [List.mem_singleton.mp hp]; exact .head _
theorem adt_okB {a b p va en : Value} {H : Led} {R : Value → Led → Prop} (k : ∀ x tl, (∀ p ∈ H, ∀ q ∈ tl, p.1 < q.1) → Rec tl 113 x [(Str.ofString "variants", va)] → R (.ref x) (H ++ tl)) : Tell w mean mg mb 2 113 [a, b, p, va, en] H R :=
  Tell.drop (adt_ok fun x _ _ _ h1 h2 hr => ⟨_, two_back, k x _ (lt_two h1 h2) (hr.mono two_sw)⟩)
theorem impl_okB {a b p tr ta st me : Value} {H : Led} {R : Value → Led → Prop} (k : ∀ x tl, (∀ p ∈ H, ∀ q ∈ tl, p.1 < q.1) → Rec tl 135 x [(Str.ofString "trait", tr), (Str.ofString "self_type", st), (Str.ofString "params", p)] → R (.ref x) (H ++ tl)) : Tell w mean mg mb 2 135 [a, b, p, tr, ta, st, me] H R :=
  Tell.drop (impl_ok fun x _ _ _ h1 h2 hr => ⟨_, two_back, k x _ (lt_two h1 h2) (hr.mono two_sw)⟩)
theorem Ext.app {G n tl : Led} (e : Ext G n) (h : ∀ p ∈ n, ∀ q ∈ tl, p.1 < q.1) : Ext G (n ++ tl) := e.trans ⟨tl, rfl, h⟩
/-- two changing objects stand ahead -/
theorem Ext.two {x y : Addr × Obj} {G n n2 : Led} (E : Ext (x :: y :: G) n) (hx : ∀ p ∈ y :: G, p.1 ≠ x.1) (hy : ∀ p ∈ G, p.1 ≠ y.1) (e : n = x :: y :: n2) : (∀ p ∈ y :: n2, p.1 ≠ x.1) ∧ (∀ p ∈ n2, p.1 ≠ y.1) ∧ Ext G n2 := by
  subst e
  obtain ⟨n1, e1, o1, E1⟩ := E.cons hx
  cases e1
  obtain ⟨n3, e3, o3, E3⟩ := E1.cons hy
  cases e3
  exact ⟨o1, o3, E3⟩
local macro_rules | `(tactic| walk_at "sh") => `(tactic| first
  | exact ShIn.s | exact ShIn.b | exact ShsIn.nil
  | (refine' ShsIn.cons ?a ?b; (case a => walk_at "sh"); (case b => walk_at "sh"))
  | (refine' ShIn.t ?a ?b; (case a => walk_at "mem"); (case b => walk_at "sh"))
  | (refine' ShIn.l ?a ?b; (case a => walk_at "mem"); (case b => walk_at "sh"))
  | fail "sh: no rule")
local macro_rules | `(tactic| walk_at "ext") => `(tactic| first
  | exact Ext.refl
  | (refine' Ext.step ?a ?b; (case a => walk_at "ext"); (case b => assumption))
  | (refine' Ext.app ?a ?b; (case a => walk_at "ext"); (case b => assumption))
  | fail "ext: no rule")
local macro_rules | `(tactic| walk_at "ev") => `(tactic| first
  | (refine' El.nil ?_)
  | (refine' El.cons ?_)
  | (refine' Ev.pe ?p fun _ => ?_; (case p => walk_at "pe"))
  | (refine' Ev.tuple ?p (fun _ _ _ => ?_) ?l; (case p => walk_at "pl"); (case l => exact fun _ => rfl))
  | (refine' Ev.tupleX ?_)
  | (refine' Ev.listB ?_)
  | (refine' Ev.dictB fun _ _ _ _ => ?_)
  | (refine' ⟨rfl, fun _ _ => ?_⟩)
  | fail "ev: no rule")
def ownS : Sh := .t (.cons (.s (Str.ofString "param")) (.cons (.s (Str.ofString "T")) .nil))
def shS0 : Sh := .l (.cons (.t (.cons (.s (Str.ofString "a")) (.cons ownS .nil))) (.cons (.t (.cons (.s (Str.ofString "b")) (.cons (.t (.cons (.s (Str.ofString "ref")) (.cons (.s (Str.ofString "'a")) (.cons (.b false) (.cons ownS .nil))))) .nil))) .nil))
def shE1 : Sh := .l (.cons (.t (.cons (.s (Str.ofString "0")) (.cons ownS .nil))) (.cons (.t (.cons (.s (Str.ofString "1")) (.cons (.t (.cons (.s (Str.ofString "bool")) .nil)) .nil))) .nil))
/-- a class row's fields, at the variant i -/
def AdtP (G : Led) (c : Addr) (i : Nat) (rl : Value) : Prop := ∃ vl vs k tv n kd, Rec G 113 c [(Str.ofString "variants", .ref vl)] ∧ (vl, lst vs k) ∈ G ∧ vs[i]? = some (.ref tv) ∧ (tv, tup [n, kd, rl]) ∈ G
theorem AdtP.mono {G G' : Led} {c : Addr} {i : Nat} {rl : Value} (x : AdtP G c i rl) (s : ∀ p ∈ G, p ∈ G') : AdtP G' c i rl := let ⟨vl, vs, k, tv, n, kd, a, b, e, d⟩ := x; ⟨vl, vs, k, tv, n, kd, a.mono s, s _ b, e, s _ d⟩
def AdtS (G : Led) (v : Value) (i : Nat) (x : Sh) : Prop := ∃ c rl, v = .ref c ∧ AdtP G c i rl ∧ ShIn G rl x
theorem AdtS.mono {G G' : Led} {v : Value} {i : Nat} {x : Sh} (a : AdtS G v i x) (s : ∀ p ∈ G, p ∈ G') : AdtS G' v i x := let ⟨c, rl, e, b, d⟩ := a; ⟨c, rl, e, b.mono s, d.mono s⟩
def FldS (w : World) (G : Led) (wa : Addr) (nm : Str) (i : Nat) (x : Sh) : Prop := ∃ rl, Fld w G wa nm i rl ∧ ShIn G rl x
theorem FldS.mono {G G' : Led} {wa : Addr} {nm : Str} {i : Nat} {x : Sh} (a : FldS w G wa nm i x) (s : ∀ p ∈ G, p ∈ G') : FldS w G' wa nm i x := let ⟨rl, b, d⟩ := a; ⟨rl, b.mono s, d.mono s⟩
theorem FldS.of {G : Led} {wa ad : Addr} {oa : Obj} {kvs : List (Str × Value)} {nm : Str} {v : Value} {i : Nat} {x : Sh} (h1 : Rec G 164 wa [(Str.ofString "adts", .ref ad)]) (h2 : (ad, oa) ∈ G) (h3 : Dct w oa kvs) (h4 : valueAt kvs nm = some v) (h5 : AdtS G v i x) : FldS w G wa nm i x := by
  obtain ⟨c, rl, rfl, ⟨vl, vs, k, tv, n, kd, a, b, e, d⟩, hs⟩ := h5
  exact ⟨rl, ⟨ad, oa, kvs, c, vl, vs, k, tv, n, kd, h1, h2, h3, h4, a, b, e, d⟩, hs⟩
def ImpC (G : Led) (v : Value) : Prop := ∃ r0 st pl k' p0 t0, v = .ref r0 ∧ Rec G 135 r0 [(Str.ofString "trait", .str (Str.ofString "Copy") t0), (Str.ofString "self_type", st), (Str.ofString "params", .ref pl)] ∧ TyIn G st (.S (.par (Str.ofString "T"))) ∧ (pl, lst [p0] k') ∈ G ∧ ParsIn G [p0] [(Str.ofString "T", true)]
theorem ImpC.mono {G G' : Led} {v : Value} (x : ImpC G v) (s : ∀ p ∈ G, p ∈ G') : ImpC G' v := let ⟨r0, st, pl, k', p0, t0, e, a, b, c, d⟩ := x; ⟨r0, st, pl, k', p0, t0, e, a.mono s, b.mono s, s _ c, d.mono s⟩
def ImpN (G : Led) (v : Value) : Prop := ∃ r1 t1, v = .ref r1 ∧ Rec G 135 r1 [(Str.ofString "trait", .str (Str.ofString "Clone") t1)]
/-- what the law's world holds -/
structure Wo (w : World) (G : Led) (wa : Addr) : Prop where
  rows : ∃ il v0 v1 k, Rec G 164 wa [(Str.ofString "impls", .ref il)] ∧ (il, lst [v0, v1] k) ∈ G ∧ ImpC G v0 ∧ ImpN G v1
  s0 : FldS w G wa (Str.ofString "S") 0 shS0
  n0 : FldS w G wa (Str.ofString "N") 0 (.l .nil)
  e0 : FldS w G wa (Str.ofString "E") 0 (.l .nil)
  e1 : FldS w G wa (Str.ofString "E") 1 shE1
theorem Wo.mono {G G' : Led} {wa : Addr} (x : Wo w G wa) (s : ∀ p ∈ G, p ∈ G') : Wo w G' wa :=
  ⟨let ⟨il, v0, v1, k, a, b, c, r1, t1, e, d⟩ := x.rows; ⟨il, v0, v1, k, a.mono s, s _ b, c.mono s, r1, t1, e, d.mono s⟩, x.s0.mono s, x.n0.mono s, x.e0.mono s, x.e1.mono s⟩
theorem Wo.cw {G : Led} {wa bd : Addr} {β : Str → Bool} {o : Obj} {kvs : List (Str × Value)} (x : Wo w G wa) (h1 : (bd, o) ∈ G) (h2 : Dct w o kvs) (h3 : BndIn G kvs β) : Cw w G wa bd β := by
  obtain ⟨il, v0, v1, k, a, b, ⟨r0, st, pl, k', p0, t0, rfl, c, d, e, f⟩, r1, t1, rfl, g⟩ := x.rows
  exact ⟨⟨il, r0, r1, k, st, pl, k', p0, t0, t1, a, b, c, g, d, e, f⟩, o, kvs, h1, h2, h3⟩
theorem world_fn {H : Led} {R : Value → Led → Prop} (k : ∀ x n, (∀ p ∈ H, p ∈ n) → Wo w n x → R (.ref x) n) : Tell w mean mg mb 3 196 [] H R := by
  refine Tell.def (need := 2) (binds := []) (by k_is) (by k_is) rfl rfl rfl rfl rfl (by decide) (fun D r => ?_)
  refine Run.swap (names := [Str.ofString "own", Str.ofString "world"]) (Ev.tupleX (El.cons (Ev.tuple (Pl.cons Pe.str (Pl.cons Pe.str Pl.nil)) (fun τ ow how => El.cons (Ev.call (by k_is) (by k_is) rfl (Pl.cons Pe.none Pl.nil) r fun _ => world_ok fun wa dw da il ow' od oa h1 h2 h3 h4 hd hr =>
    El.nil ⟨rfl, fun a ha => ⟨a, _, rfl, mem_e, rfl, Run.sub (news' := (il, lst [] 0) :: (da, oa) :: (wa, ow') :: (dw, od) :: (H ++ [(ow, tup [.str (Str.ofString "param") (τ 0), .str (Str.ofString "T") (τ 1)])])) ?_ mem_l⟩⟩)) fun _ => rfl)))
  have f1 : ∀ p ∈ H, p ∈ (wa, ow') :: (dw, od) :: (H ++ [(ow, tup [.str (Str.ofString "param") (τ 0), .str (Str.ofString "T") (τ 1)])]) := fun _ h => .tail _ (.tail _ (mem_l _ h))
  have f2 : (ow, tup [.str (Str.ofString "param") (τ 0), .str (Str.ofString "T") (τ 1)]) ∈ (wa, ow') :: (dw, od) :: (H ++ [(ow, tup [.str (Str.ofString "param") (τ 0), .str (Str.ofString "T") (τ 1)])]) := .tail _ (.tail _ mem_e)
  have f3 : Rec ((wa, ow') :: (dw, od) :: (H ++ [(ow, tup [.str (Str.ofString "param") (τ 0), .str (Str.ofString "T") (τ 1)])])) 164 wa [(Str.ofString "adts", .ref da), (Str.ofString "impls", .ref il)] := hr.mono mem_l
  have f4 : ∀ p ∈ (wa, ow') :: (dw, od) :: (H ++ [(ow, tup [.str (Str.ofString "param") (τ 0), .str (Str.ofString "T") (τ 1)])]), p.1 < da := fun p hp => by
    rcases List.mem_cons.mp hp with rfl | hp
    · exact h3
    · rcases List.mem_cons.mp hp with rfl | hp
      · exact Nat.lt_trans h2 h3
      · exact Nat.lt_trans (h1 p hp) (Nat.lt_trans h2 h3)
  generalize (wa, ow') :: (dw, od) :: (H ++ [(ow, tup [.str (Str.ofString "param") (τ 0), .str (Str.ofString "T") (τ 1)])]) = G at f1 f2 f3 f4 ⊢
  have f5 : ∀ p ∈ G, p.1 ≠ da := fun p hp => Nat.ne_of_lt (f4 p hp)
  have f6 : ∀ p ∈ (da, oa) :: G, p.1 ≠ il := fun p hp => by
    rcases List.mem_cons.mp hp with rfl | hp
    · exact Nat.ne_of_lt h4
    · exact Nat.ne_of_lt (Nat.lt_trans (f4 p hp) h4)
  have hne : il ≠ da := Nat.ne_of_gt h4
  clear hr f4 h1 h2 h3 h4 how ha
  have fa : Rec G 164 wa [(Str.ofString "adts", .ref da)] := f3.sub fun f hf => by rw [List.mem_singleton.mp hf]; exact .head _
  have fi : Rec G 164 wa [(Str.ofString "impls", .ref il)] := f3.sub fun f hf => by rw [List.mem_singleton.mp hf]; exact .tail _ (.head _)
  clear f3
  -- the class row S
  refine Run.setDE (Ev.mono (R := fun v n => Ext ((il, lst [] 0) :: (da, oa) :: G) n ∧ ∃ n2, n = (il, lst [] 0) :: (da, oa) :: n2 ∧ AdtS n2 v 0 shS0) ?_ ?_)
  · refine Ev.callX (Pe.glo (by k_is) rfl) (by k_is) ?_ r
    repeat walk_at "ev"
    exact adt_okB fun x tl htl hr => ⟨by walk_at "ext", _, rfl, x, _, rfl, ⟨_, _, _, _, _, _, hr.mono fun _ h => List.mem_append_right _ h, by walk_at "mem", rfl, by walk_at "mem"⟩, by walk_at "sh"⟩
  rintro vS n ⟨E, n2, rfl, hS⟩
  obtain ⟨o1, o2, E2⟩ := E.two f6 f5 rfl
  refine ⟨da, oa, [], Str.ofString "S", _, _, Pe.attr (Pe.loc rfl rfl) ((fa.mono E2.mem).mono fun _ h => .tail _ (.tail _ h)) (.head _) (by k_is) (by k_is) (by k_is) (by k_is) rfl, Pe.str, .tail hne (.head o2), hd, rfl, fun oa1 hd1 => ?_⟩
  have fo := E2.mem _ f2
  have fh := fun p hp => E2.mem p (f1 p hp)
  have fa' := fa.mono E2.mem
  have fi' := fi.mono E2.mem
  have g6 : ∀ p ∈ (da, oa1) :: n2, p.1 ≠ il := fun p hp => by
    rcases List.mem_cons.mp hp with rfl | hp
    · exact hne.symm
    · exact o1 p (.tail _ hp)
  clear E E2 o1 f1 f2 f5 f6 fa fi hd G
  show Run _ _ ((il, lst [] 0) :: (da, oa1) :: n2) _ _ _
  -- the class row N
  refine Run.setDE (Ev.mono (R := fun v n => Ext ((il, lst [] 0) :: (da, oa1) :: n2) n ∧ ∃ n3, n = (il, lst [] 0) :: (da, oa1) :: n3 ∧ AdtS n3 v 0 (.l .nil)) ?_ ?_)
  · refine Ev.callX (Pe.glo (by k_is) rfl) (by k_is) ?_ r
    repeat walk_at "ev"
    exact adt_okB fun x tl htl hr => ⟨by walk_at "ext", _, rfl, x, _, rfl, ⟨_, _, _, _, _, _, hr.mono fun _ h => List.mem_append_right _ h, by walk_at "mem", rfl, by walk_at "mem"⟩, by walk_at "sh"⟩
  rintro vN n ⟨E, n3, rfl, hN⟩
  obtain ⟨o1', o3, E3⟩ := E.two g6 o2 rfl
  refine ⟨da, oa1, _, Str.ofString "N", _, _, Pe.attr (Pe.loc rfl rfl) ((fa'.mono E3.mem).mono fun _ h => .tail _ (.tail _ h)) (.head _) (by k_is) (by k_is) (by k_is) (by k_is) rfl, Pe.str, .tail hne (.head o3), hd1, rfl, fun oa2 hd2 => ?_⟩
  have ga := fa'.mono E3.mem
  have gi := fi'.mono E3.mem
  have go := E3.mem _ fo
  have gh := fun p hp => E3.mem p (fh p hp)
  have hS3 := hS.mono E3.mem
  have h6 : ∀ p ∈ (da, oa2) :: n3, p.1 ≠ il := fun p hp => by
    rcases List.mem_cons.mp hp with rfl | hp
    · exact hne.symm
    · exact o1' p (.tail _ hp)
  clear E E3 o1' g6 o2 fa' fi' fo fh hS hd1 n2
  show Run _ _ ((il, lst [] 0) :: (da, oa2) :: n3) _ _ _
  -- the rows of E
  refine Run.asg (Ev.mono (R := fun v n => Ext ((il, lst [] 0) :: (da, oa2) :: n3) n ∧ ∃ n4 vl a0 a1 r0 r1, n = (il, lst [] 0) :: (da, oa2) :: n4 ∧ v = .ref vl ∧ (vl, lst [.ref a0, .ref a1] 0) ∈ n4 ∧ (∃ x y, (a0, tup [x, y, r0]) ∈ n4) ∧ (∃ x y, (a1, tup [x, y, r1]) ∈ n4) ∧ ShIn n4 r0 (.l .nil) ∧ ShIn n4 r1 shE1) ?_ ?_) rfl
  · repeat walk_at "ev"
    exact ⟨by walk_at "ext", _, _, _, _, _, _, rfl, rfl, by walk_at "mem", ⟨_, _, by walk_at "mem"⟩, ⟨_, _, by walk_at "mem"⟩, by walk_at "sh", by walk_at "sh"⟩
  rintro vr n ⟨E, n4, vl, a0, a1, r0, r1, rfl, rfl, q1, ⟨x0, y0, q2⟩, ⟨x1, y1, q3⟩, q4, q5⟩
  obtain ⟨o1', o4, E4⟩ := E.two h6 o3 rfl
  have ha := ga.mono E4.mem
  have hi := gi.mono E4.mem
  have ho := E4.mem _ go
  have hh := fun p hp => E4.mem p (gh p hp)
  have hS4 := hS3.mono E4.mem
  have hN4 := hN.mono E4.mem
  clear E E4 h6 o3 ga gi go gh hS3 hN n3
  -- the class row E
  refine Run.setDE (Ev.mono (R := fun v n => Ext ((il, lst [] 0) :: (da, oa2) :: n4) n ∧ ∃ n5, n = (il, lst [] 0) :: (da, oa2) :: n5 ∧ AdtS n5 v 0 (.l .nil) ∧ AdtS n5 v 1 shE1) ?_ ?_)
  · refine Ev.callX (Pe.glo (by k_is) rfl) (by k_is) ?_ r
    repeat walk_at "ev"
    refine adt_okB fun x tl htl hr => ⟨by walk_at "ext", _, rfl, ?_⟩
    exact ⟨⟨x, r0, rfl, ⟨_, _, _, _, _, _, hr.mono fun _ h => List.mem_append_right _ h, by walk_at "mem", rfl, by walk_at "mem"⟩, q4.mono fun _ h => mem_l _ (mem_l _ (mem_l _ h))⟩, ⟨x, r1, rfl, ⟨_, _, _, _, _, _, hr.mono fun _ h => List.mem_append_right _ h, by walk_at "mem", rfl, by walk_at "mem"⟩, q5.mono fun _ h => mem_l _ (mem_l _ (mem_l _ h))⟩⟩
  rintro vE n ⟨E, n5, rfl, hE0, hE1⟩
  obtain ⟨o1, o5, E5⟩ := E.two o1' o4 rfl
  refine ⟨da, oa2, _, Str.ofString "E", _, _, Pe.attr (Pe.loc rfl rfl) ((ha.mono E5.mem).mono fun _ h => .tail _ (.tail _ h)) (.head _) (by k_is) (by k_is) (by k_is) (by k_is) rfl, Pe.str, .tail hne (.head o5), hd2, rfl, fun oa3 hd3 => ?_⟩
  have ia := ha.mono E5.mem
  have ii := hi.mono E5.mem
  have io := E5.mem _ ho
  have ih := fun p hp => E5.mem p (hh p hp)
  have hS5 := hS4.mono E5.mem
  have hN5 := hN4.mono E5.mem
  have i6 : ∀ p ∈ (da, oa3) :: n5, p.1 ≠ il := fun p hp => by
    rcases List.mem_cons.mp hp with rfl | hp
    · exact hne.symm
    · exact o1 p (.tail _ hp)
  clear E E5 o1 o1' o4 ha hi ho hh hS4 hN4 q1 q2 q3 q4 q5 hd2 n4
  -- the rows of impls
  show Run _ _ ((il, lst [] 0) :: (da, oa3) :: n5) _ _ _
  refine Run.expr (Ev.append (Pe.attr (Pe.loc rfl rfl) (ii.mono fun _ h => .tail _ (.tail _ h)) (.head _) (by k_is) (by k_is) (by k_is) (by k_is) rfl) (.head _) (Ev.mono (R := fun v n => Ext ((il, lst [] 0) :: (da, oa3) :: n5) n ∧ ∃ n6, n = (il, lst [] 0) :: (da, oa3) :: n6 ∧ ImpC n6 v) ?_ ?_) _ rfl)
  · refine Ev.callX (Pe.glo (by k_is) rfl) (by k_is) ?_ r
    repeat walk_at "ev"
    exact impl_okB fun x tl htl hr => ⟨by walk_at "ext", _, rfl, x, _, _, _, _, _, rfl, hr.mono fun _ h => List.mem_append_right _ h, .S (by walk_at "mem") (by walk_at "mem") (by walk_at "mem") (.par (by walk_at "mem")), by walk_at "mem", .cons (by walk_at "mem") ⟨_, _, rfl, by walk_at "mem", fun y hy => by rw [List.mem_singleton.mp hy]; exact ⟨_, _, rfl⟩, rfl⟩ .nil⟩
  rintro v0 n ⟨E, n6, rfl, hI0⟩
  obtain ⟨o1, o6, E6⟩ := E.two i6 o5 rfl
  have ja := ia.mono E6.mem
  have ji := ii.mono E6.mem
  have jh := fun p hp => E6.mem p (ih p hp)
  have hS6 := hS5.mono E6.mem
  have hN6 := hN5.mono E6.mem
  have hE06 := hE0.mono E6.mem
  have hE16 := hE1.mono E6.mem
  refine ⟨[], 0, _, .head o1, rfl, rfl, ?_⟩
  clear E E6 i6 o5 ia ii io ih hS5 hN5 hE0 hE1 n5
  refine Run.expr (Ev.append (Pe.attr (Pe.loc rfl rfl) (ji.mono fun _ h => .tail _ (.tail _ h)) (.head _) (by k_is) (by k_is) (by k_is) (by k_is) rfl) (.head _) (Ev.mono (R := fun v n => Ext ((il, lst [v0] 1) :: (da, oa3) :: n6) n ∧ ∃ n7, n = (il, lst [v0] 1) :: (da, oa3) :: n7 ∧ ImpN n7 v) ?_ ?_) _ rfl)
  · refine Ev.callX (Pe.glo (by k_is) rfl) (by k_is) ?_ r
    repeat walk_at "ev"
    exact impl_okB fun x tl htl hr => ⟨by walk_at "ext", _, rfl, x, _, rfl, (hr.mono fun _ h => List.mem_append_right _ h).sub fun f hf => by rw [List.mem_singleton.mp hf]; exact .head _⟩
  rintro v1 n ⟨E, n7, rfl, hI1⟩
  obtain ⟨o1', o7, E7⟩ := E.two o1 o6 rfl
  refine ⟨[v0], 1, _, .head o1', rfl, rfl, ?_⟩
  have up : ∀ p ∈ n7, p ∈ (il, lst [v0, v1] 2) :: (da, oa3) :: n7 := fun _ h => .tail _ (.tail _ h)
  have up6 : ∀ p ∈ n6, p ∈ (il, lst [v0, v1] 2) :: (da, oa3) :: n7 := fun p h => up p (E7.mem p h)
  have hda : (da, oa3) ∈ (il, lst [v0, v1] 2) :: (da, oa3) :: n7 := .tail _ (.head _)
  refine Run.ret (Ev.pe (Pe.loc rfl rfl) fun _ => k wa _ (fun p hp => up6 p (jh p hp)) ⟨⟨il, v0, v1, 2, ji.mono up6, .head _, hI0.mono up6, let ⟨r1, t1, e, d⟩ := hI1; ⟨r1, t1, e, d.mono up⟩⟩, ?_, ?_, ?_, ?_⟩)
  · exact FldS.of (ja.mono up6) hda hd3 rfl (hS6.mono up6)
  · exact FldS.of (ja.mono up6) hda hd3 rfl (hN6.mono up6)
  · exact FldS.of (ja.mono up6) hda hd3 rfl (hE06.mono up6)
  · exact FldS.of (ja.mono up6) hda hd3 rfl (hE16.mono up6)
section
variable {C : Cx w mean mg mb} {m : Mp} {news : Led} {env : Env} {K : Mp → Led → Prop} {R : Value → Led → Prop}
/-- e[:k] of a list -/
theorem Ev.upto {e ue : Expr} {sp pos : Pos} (p : Ev C env m news e fun v n => ∃ l vs j, v = .ref l ∧ Nat.ble vs.length 100 = true ∧ Ev C env m n ue fun u n' => ∃ k t, u = .int k t ∧ 0 ≤ k ∧ (l, lst vs j) ∈ n' ∧ ∀ D, (∀ p ∈ n', p.1 < D) → R (.ref D) ((D, lst (vs.take k.toNat) 0) :: n'))
    (hs : ∀ l a, subscripted (.Slice none (some ue) none sp) false (.ref l) (.ref a) = operate [.ref a, .ref l] (getItem (.ref l) (.ref a)) := by intro _ _; with_unfolding_all rfl) : Ev C env m news (.Subscript e (.Slice none (some ue) none sp) pos) R :=
  ⟨fun _ _ _ a z => by
    refine Subscript_ (p.go _ _ _ a fun v n h tk r a => wpAny_Slice (wpAny_of_eq (evalPart_none env) ?_))
    obtain ⟨l, vs, j, rfl, hl, r⟩ := r
    rw [evalPart_some]
    refine r.go _ _ _ a fun u n' h tk r a => wpAny_of_eq (evalPart_none env) ?_
    obtain ⟨k, t, rfl, h0, hm, r⟩ := r
    have hL : h.IsList l vs.toArray := ⟨_, (a.N _ hm).1, rfl, _, rfl⟩
    refine tail_any (Heap.IsList.typeIs (hL.push _)) list_getitem_lookup (wpAny_getItem_list_slice (hL.push _) (Heap.IsSliceOf.new ..) .none (.int _ _) .none (by simp) ?_ (by rw [List.size_toArray]; exact Nat.le_trans (Nat.le_of_ble_eq_true hl) (by decide))) (hs _ _)
    have e : slicePick vs.toArray none (some k) none = (vs.take k.toNat).toArray := by
      have := slicePick_upto' vs.toArray k.toNat
      rw [Int.toNat_of_nonneg h0] at this
      exact this
    rw [e]
    have F1 := a.F.push { cls := .type "slice", data := .fields #[.none, .int k t, .none] }
    have N1 := a.N.grown fun _ _ e => Heap.get?_push_of_some { cls := .type "slice", data := .fields #[.none, .int k t, .none] } e
    exact z _ _ _ _ (r _ fun p hp => Heap.lt_size (N1 p hp).1) ⟨F1.push _, N1.push F1 _⟩⟩
/-- d[..] as a target -/
theorem As.subD {e i : Expr} {pos : Pos} {d : Addr} {o : Obj} {kvs : List (Str × Value)} {x : Str} {f : Tok → Tok} {v : Value} {g : Obj → Led} (p : Pe C C.env m news e (fun _ => .ref d)) (r : Pe C C.env m news i (fun t => .str x (f t))) (U : UpdF d o news g) (hd : Dct w o kvs)
    (hn : Nat.ble kvs.length 100 = true) (h : ∀ o', Dct w o' (stored kvs x v) → K m (g o')) : As C m news (.Subscript e i pos) v K :=
  ⟨fun _ _ _ a z => by
    refine kas_sub (p.use a fun _ _ _ a => r.use a fun _ _ t a => ?_)
    obtain ⟨pre, post, rfl, hg, b1, b2⟩ := U.split
    have hm : (d, o) ∈ pre ++ (d, o) :: post := List.mem_append_right _ (.head _)
    refine wpAny_setItem_pairs (strKind_is C.prog w x _) (hd.dictOf a hm) (fun h' hd' hs' => ?_) (Nat.le_trans (Nat.le_of_ble_eq_true hn) (by decide))
    obtain ⟨o', ho', hd'⟩ := Heap.dictOf_iff.mp hd'
    have z0 := a.N _ hm
    exact z _ _ _ _ (h o' (isDict_to hd')) ⟨a.F.change hs' z0.2.1 z0.2.2, hg o' ▸ News.setAt a.N b1 b2 hs' ho'⟩⟩
end
theorem valueAt_stored {kvs : List (Str × Value)} {x : Str} {v : Value} (h : valueAt kvs x = none) (n : Str) : valueAt (stored kvs x v) n = if n = x then some v else valueAt kvs n := by
  have hn : ∀ kv ∈ kvs, kv.1 ≠ x := by
    unfold valueAt at h
    simpa using h
  have ha : ¬(kvs.any fun kv => kv.1 = x) = true := fun e => by
    obtain ⟨kv, hkv, e⟩ := List.any_eq_true.mp e
    exact hn kv hkv (of_decide_eq_true e)
  unfold stored
  rw [if_neg ha]
  unfold valueAt
  rw [List.find?_append]
  by_cases e : n = x
  · subst e
    have : kvs.find? (fun kv => kv.1 = n) = none := List.find?_eq_none.mpr fun kv hkv => by simpa using hn kv hkv
    rw [this, if_pos rfl]
    simp
  · rw [if_neg e]
    have : ([(x, v)] : List (Str × Value)).find? (fun kv => kv.1 = n) = none := by simpa using fun h => e h.symm
    rw [this, Option.or_none]
theorem ParsIn.snoc {G : Led} {a : Addr} {n : Str} {t : Tok} {tv : Value} {b : Bool} {vs : List Value} {bs : List (Str × Bool)} (x : ParsIn G vs bs) (h : (a, tup [.str n t, tv]) ∈ G) (ht : TrIn G tv b) : ParsIn G (vs ++ [.ref a]) (bs ++ [(n, b)]) := by
  induction x with
  | nil => exact .cons h ht .nil
  | cons h' t' _ ih => exact .cons h' t' ih
theorem ParsIn.length {G : Led} {vs : List Value} {bs : List (Str × Bool)} (x : ParsIn G vs bs) : vs.length = bs.length := by
  induction x with
  | nil => rfl
  | cons _ _ _ ih => exact congrArg (· + 1) ih
def due (τ : Str → Option Ty) (β : Str → Bool) (n : Str) : Bool := match τ n with | some t => t.cop β | none => β n
theorem parsAll_snoc {τ : Str → Option Ty} {β : Str → Bool} {n : Str} {b : Bool} {bs : List (Str × Bool)} : parsAll (bs ++ [(n, b)]) τ β = (parsAll bs τ β && (!b || due τ β n)) := by
  unfold parsAll
  rw [List.all_append, List.all_cons, List.all_nil, Bool.and_true]
  rfl
theorem parsAll_put {τ : Str → Option Ty} {β : Str → Bool} {n : Str} {t : Ty} : ∀ {bs : List (Str × Bool)}, (∀ p ∈ bs, p.1 ≠ n) → parsAll bs (fun x => if x = n then some t else τ x) β = parsAll bs τ β
  | [], _ => rfl
  | p :: bs, h => by
    have ih := parsAll_put (τ := τ) (β := β) (t := t) fun q hq => h q (List.mem_cons_of_mem p hq)
    unfold parsAll at ih ⊢
    rw [List.all_cons, List.all_cons, ih]
    simp only [if_neg (h p (.head _))]
/-- names, as values -/
inductive Nms : List Value → List Str → Prop
  | nil : Nms [] []
  | cons {x : Str} {t : Tok} {vs : List Value} {ns : List Str} : Nms vs ns → Nms (.str x t :: vs) (x :: ns)
theorem Nms.take {vs : List Value} {ns : List Str} (h : Nms vs ns) : ∀ k, Nms (vs.take k) (ns.take k) := by
  induction h with
  | nil => intro k; rw [List.take_nil, List.take_nil]; exact .nil
  | cons _ ih =>
    intro k
    cases k with
    | zero => exact .nil
    | succ k => exact .cons (ih k)
theorem TabIn.put {G : Led} {N : Nat} {kvs : List (Str × Value)} {τ : Str → Option Ty} (x : TabIn G N kvs τ) {nm : Str} {v : Value} {t : Ty} (h : valueAt kvs nm = none) (hz : t.sz ≤ N) (ht : TyIn G v t) : TabIn G N (stored kvs nm v) (fun y => if y = nm then some t else τ y) := fun n => by
  rw [valueAt_stored h]
  by_cases e : n = nm
  · simp only [if_pos e]; exact .inr ⟨v, t, rfl, rfl, hz, ht⟩
  · simp only [if_neg e]; exact x n
theorem Ext.three {x y z : Addr × Obj} {G n : Led} (E : Ext (x :: y :: z :: G) n) (hx : ∀ p ∈ y :: z :: G, p.1 ≠ x.1) (hy : ∀ p ∈ z :: G, p.1 ≠ y.1) (hz : ∀ p ∈ G, p.1 ≠ z.1) : ∃ n', n = x :: y :: z :: n' ∧ (∀ p ∈ n', p.1 ≠ x.1) ∧ (∀ p ∈ n', p.1 ≠ y.1) ∧ (∀ p ∈ n', p.1 ≠ z.1) ∧ Ext G n' := by
  obtain ⟨n1, rfl, o1, E1⟩ := E.cons hx
  obtain ⟨n2, rfl, o2, E2⟩ := E1.cons hy
  obtain ⟨n3, rfl, o3, E3⟩ := E2.cons hz
  exact ⟨n3, rfl, fun p hp => o1 p (.tail _ (.tail _ hp)), fun p hp => o2 p (.tail _ hp), o3, E3⟩
theorem Ext.thr {x y z : Addr × Obj} {G n n2 : Led} (E : Ext (x :: y :: z :: G) n) (hx : ∀ p ∈ y :: z :: G, p.1 ≠ x.1) (hy : ∀ p ∈ z :: G, p.1 ≠ y.1) (hz : ∀ p ∈ G, p.1 ≠ z.1) (e : n = x :: y :: z :: n2) : (∀ p ∈ n2, p.1 ≠ x.1) ∧ (∀ p ∈ n2, p.1 ≠ y.1) ∧ (∀ p ∈ n2, p.1 ≠ z.1) ∧ Ext G n2 := by
  obtain ⟨n3, e3, a, b, c, E3⟩ := E.three hx hy hz
  subst e
  cases e3
  exact ⟨a, b, c, E3⟩
theorem Po.inTr {C : Cx w mean mg mb} {m : Mp} {news : Led} {v : Value} {b : Bool} {t : Tok} (h : TrIn news v b) (rm : C.room 1) : Po C m news (compareOp .In (.str (Str.ofString "Copy") t) v) (fun _ => .bool b) := by
  obtain ⟨a, ts, rfl, h, hs, rfl⟩ := h
  exact Po.inT _ h (fun y hy => by obtain ⟨s, t, rfl⟩ := hs y hy; exact Eqv.str) rm
/-- what a dict of bounds says of a name, with () for none -/
theorem BndIn.got {G : Led} {kvs : List (Str × Value)} {β : Str → Bool} (h : BndIn G kvs β) {a : Addr} (ha : (a, tup []) ∈ G) (n : Str) : TrIn G ((valueAt kvs n).getD (.ref a)) (β n) := by
  rcases h n with ⟨e, e2⟩ | ⟨v, e, t⟩
  · rw [e, e2]; exact ⟨a, [], rfl, ha, (fun _ h => nomatch h), rfl⟩
  · rw [e]; exact t
theorem off_app {x a : Addr} {o : Obj} {G : Led} (h : ∀ p ∈ G, p.1 ≠ x) (hx : x < a) : ∀ p ∈ G ++ [(a, o)], p.1 ≠ x := fun p hp => by
  rcases List.mem_append.mp hp with hp | hp
  · exact h p hp
  · rw [List.mem_singleton.mp hp]; exact Nat.ne_of_gt hx
theorem off_tl {x : Addr} {G tl : Led} (h : ∀ p ∈ G, p.1 ≠ x) (hx : ∀ q ∈ tl, x < q.1) : ∀ p ∈ G ++ tl, p.1 ≠ x := fun p hp => by
  rcases List.mem_append.mp hp with hp | hp
  · exact h p hp
  · exact Nat.ne_of_gt (hx p hp)
local macro_rules | `(tactic| walk_at "off") => `(tactic| first
  | assumption
  | (refine' off_snoc ?a ?b; (case b => assumption); (case a => walk_at "off")))
local macro_rules | `(tactic| walk_at "ext") => `(tactic| (refine' Ext.step ?a ?b; (case a => walk_at "ext"); (case b => exact lt_tl (by assumption))))
/-- between the turns of _law_bounds_right's loop -/
def BrJ (w : World) (H : Led) (l tb pl wa bd la : Addr) (xs : List Value) (β : Str → Bool) (vs : List Value) (m : Mp) (n : Led) : Prop :=
  ∃ o ot ps kp H1 kvs bs τ nms, n = (l, o) :: (tb, ot) :: (pl, lst ps kp) :: H1 ∧ SrcObj o ∧ (∀ p ∈ H, p ∈ H1) ∧ (∀ p ∈ H1, p.1 ≠ l) ∧ (∀ p ∈ H1, p.1 ≠ tb) ∧ (∀ p ∈ H1, p.1 ≠ pl) ∧ (la, lst xs 0) ∈ H1 ∧ Dct w ot kvs ∧ TabIn H1 7 kvs τ ∧ ParsIn H1 ps bs ∧
    Nms vs nms ∧ nms.Nodup ∧ (∀ x ∈ nms, valueAt kvs x = none) ∧ (∀ x ∈ nms, ∀ p ∈ bs, p.1 ≠ x) ∧ kvs.length + nms.length ≤ 3 ∧ ps.length + nms.length ≤ 3 ∧
    m (Str.ofString "source") = some (.ref l) ∧ m (Str.ofString "world") = some (.ref wa) ∧ m (Str.ofString "bounds") = some (.ref bd) ∧ m (Str.ofString "params") = some (.ref pl) ∧ m (Str.ofString "table") = some (.ref tb) ∧ m (Str.ofString "is_due") = some (.bool (parsAll bs τ β))
theorem bounds_right_ok {l wa bd : Addr} {o ob : Obj} {kvs : List (Str × Value)} {β : Str → Bool} {H : Led} {R : Value → Led → Prop} (hS : SrcObj o) (off : ∀ p ∈ H, p.1 ≠ l) (hb : (bd, ob) ∈ H) (hd : Dct w ob kvs) (hB : BndIn H kvs β) (hX : (valueAt kvs (Str.ofString "X")).isSome) (hY : (valueAt kvs (Str.ofString "Y")).isSome) (hW : Wo w H wa)
    (k : ∀ o', SrcObj o' → R (.bool true) ((l, o') :: H)) : Tell w mean mg mb 28 215 [.ref l, .ref wa, .ref bd] ((l, o) :: H) R := by
  refine Tell.def (need := 27) (binds := [(Str.ofString "source", .ref l), (Str.ofString "world", .ref wa), (Str.ofString "bounds", .ref bd)]) (by k_is) (by k_is) rfl rfl rfl rfl rfl (by decide) (fun D r => ?_)
  refine Run.swap (names := [Str.ofString "params", Str.ofString "table", Str.ofString "is_due"]) (Ev.tupleX (El.cons (Ev.list Pl.nil (fun τ0 pl hpl => El.cons (Ev.dict0 fun tb ot hdt htb => El.cons (Ev.pe Pe.bool fun _ => El.nil ⟨rfl, fun a ha => ⟨a, _, rfl, mem_e, rfl, Run.sub (news' := (l, o) :: (tb, ot) :: (pl, lst [] 0) :: H) ?_ ?_⟩⟩))) fun _ => rfl)))
  rotate_left 1
  · intro p hp
    refine mem_l _ ?_
    rcases List.mem_cons.mp hp with rfl | hp
    · exact .tail _ (.tail _ (.head _))
    rcases List.mem_cons.mp hp with rfl | hp
    · exact .head _
    rcases List.mem_cons.mp hp with rfl | hp
    · exact .tail _ (.head _)
    · exact .tail _ (.tail _ (.tail _ hp))
  have nl1 : pl ≠ l := Nat.ne_of_gt (hpl (l, o) (.head _))
  have nl2 : tb ≠ l := Nat.ne_of_gt (htb (l, o) (.tail _ (.head _)))
  have nl3 : pl ≠ tb := Nat.ne_of_lt (htb (pl, _) (.head _))
  have op : ∀ p ∈ H, p.1 ≠ pl := fun p hp => Nat.ne_of_lt (hpl p (.tail _ hp))
  have ot' : ∀ p ∈ H, p.1 ≠ tb := fun p hp => Nat.ne_of_lt (htb p (.tail _ (.tail _ hp)))
  clear hpl htb ha
  have off3 : ∀ p ∈ (tb, ot) :: (pl, lst [] 0) :: H, p.1 ≠ l := fun p hp => by
    rcases List.mem_cons.mp hp with rfl | hp
    · exact nl2
    rcases List.mem_cons.mp hp with rfl | hp
    · exact nl1
    · exact off p hp
  refine Run.forL (Ev.mono (R := fun v n => ∃ o' H1 la xs ns, v = .ref la ∧ n = (l, o') :: (tb, ot) :: (pl, lst [] 0) :: H1 ∧ SrcObj o' ∧ (∀ p ∈ H, p ∈ H1) ∧ (∀ p ∈ H1, p.1 ≠ l) ∧ (∀ p ∈ H1, p.1 ≠ tb) ∧ (∀ p ∈ H1, p.1 ≠ pl) ∧ (la, lst xs 0) ∈ H1 ∧ Nms xs ns ∧ ns.Nodup ∧ ns.length ≤ 3) ?_ ?_)
  · refine Ev.drop (Ev.upto (Ev.listB (El.pl (Pl.strsC (Pl.strsC (Pl.strsC Pl.strsN))) fun σ => ⟨rfl, fun lx hlx => ⟨lx, strsV [Str.ofString "P", Str.ofString "Q", Str.ofString "X"] σ, 0, rfl, rfl, Ev.call (need := 1) (by k_is) (by k_is) rfl (Pl.cons (Pe.loc rfl rfl) (Pl.cons Pe.int Pl.nil)) (r.le (by decide)) fun _ => ?_⟩⟩)))
    have off4 := off_snoc off3 (o' := lst (strsV [Str.ofString "P", Str.ofString "Q", Str.ofString "X"] σ) 0) hlx
    refine take_ok hS off4 (by decide) (by decide) fun v tr o' h0 h1 hS' => ⟨v, tr, rfl, h0, .tail _ mem_e, fun X hX' => ?_⟩
    have hN0 : Nms (strsV [Str.ofString "P", Str.ofString "Q", Str.ofString "X"] σ) [Str.ofString "P", Str.ofString "Q", Str.ofString "X"] := .cons (.cons (.cons .nil))
    refine ⟨(l, o') :: (tb, ot) :: (pl, lst [] 0) :: (H ++ [(X, _)]), ?_, o', H ++ [(X, _)], X, _, _, rfl, rfl, hS', mem_l, ?_, ?_, ?_, mem_e, hN0.take v.toNat, List.Nodup.sublist (List.take_sublist _ _) (by decide), ?_⟩
    · intro p hp
      rcases List.mem_cons.mp hp with rfl | hp
      · exact .tail _ (.head _)
      rcases List.mem_cons.mp hp with rfl | hp
      · exact .tail _ (.tail _ (.head _))
      rcases List.mem_cons.mp hp with rfl | hp
      · exact .tail _ (.tail _ (.tail _ (.head _)))
      rcases List.mem_append.mp hp with hp | hp
      · exact .tail _ (.tail _ (.tail _ (.tail _ (mem_l _ hp))))
      · rw [List.mem_singleton.mp hp]; exact .head _
    · intro p hp
      rcases List.mem_append.mp hp with hp | hp
      · exact off p hp
      · rw [List.mem_singleton.mp hp]; exact Nat.ne_of_gt (hX' (l, o') (.head _))
    · intro p hp
      rcases List.mem_append.mp hp with hp | hp
      · exact ot' p hp
      · rw [List.mem_singleton.mp hp]; exact Nat.ne_of_gt (hX' (tb, ot) (.tail _ (.head _)))
    · intro p hp
      rcases List.mem_append.mp hp with hp | hp
      · exact op p hp
      · rw [List.mem_singleton.mp hp]; exact Nat.ne_of_gt (hX' (pl, _) (.tail _ (.tail _ (.head _))))
    · rw [List.length_take]; exact Nat.min_le_right _ _
  rintro v n ⟨o1, H1, la, xs, ns, rfl, rfl, hS1, s1, o1l, o1t, o1p, hla, hN, hNd, hlen⟩
  clear hS off3 op ot'
  refine ⟨la, xs, 0, BrJ w H l tb pl wa bd la xs β, rfl, .tail _ (.tail _ (.tail _ hla)), ⟨o1, ot, [], 0, H1, [], [], fun _ => none, ns, rfl, hS1, s1, o1l, o1t, o1p, hla, hdt, fun _ => .inl ⟨rfl, rfl⟩, .nil, hN, hNd, fun _ _ => rfl, (fun _ _ _ h => nomatch h), by simpa using hlen, by simpa using hlen, rfl, rfl, rfl, rfl, rfl, rfl⟩, ?_, ?_⟩
  · clear hS1 s1 o1l o1t o1p hla hN hNd hlen hdt
    rintro v vs' m n I oIt hm ⟨o, ot, ps, kp, H1, kvs', bs, τ, nms, rfl, hS, s1, ol, otb, opl, hla, hdt, hT, hP, hN, hNd, hNv, hNb, hk1, hk2, m1, m2, m3, m4, m5, m6⟩ offI
    cases hN with | @cons nm tn vs' nms' hN' => ?_
    refine As.name ?_ rfl
    have nI1 : I ≠ l := (offI (l, o) (.head _)).symm
    have nI2 : I ≠ tb := (offI (tb, ot) (.tail _ (.head _))).symm
    have nI3 : I ≠ pl := (offI (pl, _) (.tail _ (.tail _ (.head _)))).symm
    have oI : ∀ p ∈ H1, p.1 ≠ I := fun p hp => offI p (.tail _ (.tail _ (.tail _ hp)))
    have hvn : valueAt kvs' nm = none := hNv nm (.head _)
    have hτn : τ nm = none := by
      rcases hT nm with ⟨-, e⟩ | ⟨v, t, e, -⟩
      · exact e
      · rw [hvn] at e; exact nomatch e
    refine Run.sub (news' := (l, o) :: (tb, ot) :: (pl, lst ps kp) :: (I, oIt) :: H1) ?_ ?_
    rotate_left 1
    · intro p hp
      rcases List.mem_cons.mp hp with rfl | hp
      · exact .tail _ (.head _)
      rcases List.mem_cons.mp hp with rfl | hp
      · exact .tail _ (.tail _ (.head _))
      rcases List.mem_cons.mp hp with rfl | hp
      · exact .tail _ (.tail _ (.tail _ (.head _)))
      rcases List.mem_cons.mp hp with rfl | hp
      · exact .head _
      · exact .tail _ (.tail _ (.tail _ (.tail _ hp)))
    have offl : ∀ {kq : Nat} {qs : List Value} {o2 : Obj} {G : Led}, (∀ p ∈ G, p.1 ≠ l) → ∀ p ∈ (tb, o2) :: (pl, lst qs kq) :: (I, oIt) :: G, p.1 ≠ l := fun h p hp => by
      rcases List.mem_cons.mp hp with rfl | hp
      · exact nl2
      rcases List.mem_cons.mp hp with rfl | hp
      · exact nl1
      rcases List.mem_cons.mp hp with rfl | hp
      · exact nI1
      · exact h p hp
    have offt : ∀ {kq : Nat} {qs : List Value} {G : Led}, (∀ p ∈ G, p.1 ≠ tb) → ∀ p ∈ (pl, lst qs kq) :: (I, oIt) :: G, p.1 ≠ tb := fun h p hp => by
      rcases List.mem_cons.mp hp with rfl | hp
      · exact nl3
      rcases List.mem_cons.mp hp with rfl | hp
      · exact nI2
      · exact h p hp
    have offp : ∀ {G : Led}, (∀ p ∈ G, p.1 ≠ pl) → ∀ p ∈ (I, oIt) :: G, p.1 ≠ pl := fun h p hp => by
      rcases List.mem_cons.mp hp with rfl | hp
      · exact nI3
      · exact h p hp
    clear hm offI
    -- traits
    refine Run.asg (Ev.mono (R := fun v n => ∃ o' N b, SrcObj o' ∧ n = (l, o') :: N ∧ Ext ((tb, ot) :: (pl, lst ps kp) :: (I, oIt) :: H1) N ∧ (∀ p ∈ N, p.1 ≠ l) ∧ ∃ H2, N = (tb, ot) :: (pl, lst ps kp) :: (I, oIt) :: H2 ∧ TrIn H2 v b) ?_ ?_) rfl
    · refine Ev.callX (need := 2) (Pe.glo (by k_is) rfl) (by k_is) ?_ (r.le (by decide))
      repeat first | walk_at "ev" | refine Ev.pe (Pe.loc m1 rfl) fun _ => ?_
      have offb := offl (kq := kp) (qs := ps) (o2 := ot) ol
      refine one_ok hS (by walk_at "off") (by walk_at "mem") (by exact Nat.succ_pos _) rfl fun v o' hv hS' => ?_
      rcases List.mem_cons.mp hv with rfl | hv
      · exact ⟨o', _, _, hS', rfl, by walk_at "ext", by walk_at "off", _, rfl, _, _, rfl, by walk_at "mem", (fun y hy => absurd (show y ∈ ([] : List Value) from hy) List.not_mem_nil), rfl⟩
      rcases List.mem_cons.mp hv with rfl | hv
      · exact ⟨o', _, _, hS', rfl, by walk_at "ext", by walk_at "off", _, rfl, _, _, rfl, by walk_at "mem", (fun y hy => by rw [List.mem_singleton.mp hy]; exact ⟨_, _, rfl⟩), rfl⟩
      rcases List.mem_cons.mp hv with rfl | hv
      · exact ⟨o', _, _, hS', rfl, by walk_at "ext", by walk_at "off", _, rfl, _, _, rfl, by walk_at "mem", (fun y hy => by rw [List.mem_singleton.mp hy]; exact ⟨_, _, rfl⟩), rfl⟩
      · rw [List.mem_singleton.mp hv]
        exact ⟨o', _, _, hS', rfl, by walk_at "ext", by walk_at "off", _, rfl, _, _, rfl, by walk_at "mem", (fun y hy => by
          rcases List.mem_cons.mp hy with rfl | hy
          · exact ⟨_, _, rfl⟩
          · rw [List.mem_singleton.mp hy]; exact ⟨_, _, rfl⟩), rfl⟩
    rintro trv n ⟨o2, N, b, hS2, rfl, E, onl, H2, rfl, htr⟩
    obtain ⟨q1, q2, q3, E2⟩ := E.thr (offt otb) (offp opl) oI rfl
    have q0 : ∀ p ∈ H2, p.1 ≠ l := fun p hp => onl p (.tail _ (.tail _ (.tail _ hp)))
    have hT2 := hT.mono E2.mem
    have hP2 := hP.mono E2.mem
    have s2 := fun p hp => E2.mem p (s1 p hp)
    have hla2 := E2.mem _ hla
    clear hS s1 ol otb opl oI hT hP hla E E2 onl H1 o
    -- the row's list grows
    refine Run.expr (Ev.append (Pe.loc m4 rfl) (.tail _ (.tail _ (.head _))) (Ev.tuple (Pl.cons (Pe.loc rfl rfl) (Pl.cons (Pe.loc rfl rfl) Pl.nil)) (fun _ a ha => ⟨ps, kp, _, .tail nl1.symm (.tail nl3.symm (.head ?_)), Nat.ble_eq_true_of_le (by omega), rfl, ?_⟩) fun _ => rfl) _ rfl)
    · intro p hp
      have hp' : p ∈ (I, oIt) :: (H2 ++ [(a, tup [.str nm tn, trv])]) := hp
      rcases List.mem_cons.mp hp' with rfl | hp'
      · exact nI3
      · exact off_app q2 (ha (pl, _) (.tail _ (.tail _ (.head _)))) p hp'
    show Run _ _ ((l, o2) :: (tb, ot) :: (pl, lst (ps ++ [.ref a]) (kp + 1)) :: (I, oIt) :: (H2 ++ [(a, tup [.str nm tn, trv])])) _ _ _
    have w0 : ∀ p ∈ H2 ++ [(a, tup [.str nm tn, trv])], p.1 ≠ l := off_app q0 (ha (l, _) (.head _))
    have w1 : ∀ p ∈ H2 ++ [(a, tup [.str nm tn, trv])], p.1 ≠ tb := off_app q1 (ha (tb, _) (.tail _ (.head _)))
    have w2 : ∀ p ∈ H2 ++ [(a, tup [.str nm tn, trv])], p.1 ≠ pl := off_app q2 (ha (pl, _) (.tail _ (.tail _ (.head _))))
    have w3 : ∀ p ∈ H2 ++ [(a, tup [.str nm tn, trv])], p.1 ≠ I := off_app q3 (ha (I, _) (.tail _ (.tail _ (.tail _ (.head _)))))
    have hT3 := hT2.mono (G' := H2 ++ [(a, tup [.str nm tn, trv])]) mem_l
    have htr3 := htr.mono (G' := H2 ++ [(a, tup [.str nm tn, trv])]) mem_l
    have hP3 := (hP2.mono (G' := H2 ++ [(a, tup [.str nm tn, trv])]) mem_l).snoc mem_e htr3
    have s3 : ∀ p ∈ H, p ∈ H2 ++ [(a, tup [.str nm tn, trv])] := fun p hp => mem_l _ (s2 p hp)
    have hla3 : (la, lst xs 0) ∈ H2 ++ [(a, tup [.str nm tn, trv])] := mem_l _ hla2
    generalize H2 ++ [(a, tup [.str nm tn, trv])] = H3 at w0 w1 w2 w3 hT3 htr3 hP3 s3 hla3 ⊢
    clear ha q0 q1 q2 q3 hT2 htr hP2 s2 hla2 H2
    have up3 : ∀ {x y z u : Addr × Obj}, ∀ p ∈ H, p ∈ x :: y :: z :: u :: H3 := fun p h => .tail _ (.tail _ (.tail _ (.tail _ (s3 p h))))
    have up3' : ∀ {x y z : Addr × Obj}, ∀ p ∈ H, p ∈ x :: y :: z :: H3 := fun p h => .tail _ (.tail _ (.tail _ (s3 p h)))
    -- is_copied
    refine Run.asg (Ev.pe (Pe.ev (v := .bool (β nm)) (Ev.cmp (Ev.pe Pe.str fun t => Ev.dget (Pe.loc m3 rfl) (up3 _ hb) hd (Pe.loc rfl rfl) (Ev.tuple Pl.nil (fun _ a' _ => ⟨mem_l _ (up3 _ hb), β nm, Po.inTr ((hB.mono fun p hp => mem_l _ (up3 p hp)).got mem_e nm) (r.le (by decide)), rfl, mem_l⟩) fun _ => rfl) _ rfl))) fun _ => ?_) rfl
    refine Run.seq (fun m' n' => ∃ o' ot' H4 kvs2 τ2, n' = (l, o') :: (tb, ot') :: (pl, lst (ps ++ [.ref a]) (kp + 1)) :: (I, oIt) :: H4 ∧ SrcObj o' ∧ (∀ p ∈ H3, p ∈ H4) ∧ (∀ p ∈ H4, p.1 ≠ l) ∧ (∀ p ∈ H4, p.1 ≠ tb) ∧ (∀ p ∈ H4, p.1 ≠ pl) ∧ (∀ p ∈ H4, p.1 ≠ I) ∧ Dct w ot' kvs2 ∧ TabIn H4 7 kvs2 τ2 ∧
      (∀ x, x ≠ nm → valueAt kvs' x = none → valueAt kvs2 x = none) ∧ parsAll bs τ2 β = parsAll bs τ β ∧ kvs2.length ≤ kvs'.length + 1 ∧ m' (Str.ofString "source") = some (.ref l) ∧ m' (Str.ofString "world") = some (.ref wa) ∧ m' (Str.ofString "bounds") = some (.ref bd) ∧ m' (Str.ofString "params") = some (.ref pl) ∧ m' (Str.ofString "table") = some (.ref tb) ∧
      m' (Str.ofString "is_due") = some (.bool (parsAll bs τ β)) ∧ m' (Str.ofString "traits") = some trv ∧ m' (Str.ofString "is_copied") = some (.bool (due τ2 β nm))) ?_ ?_
    · refine Run.ifEt' (Et.cmp (Ev.call (by k_is) (by k_is) rfl (Pl.cons (Pe.loc m1 rfl) (Pl.cons Pe.int Pl.nil)) (r.le (by decide)) fun _ => take_ok hS2 (offl w0) (by decide) (by decide) fun v tr o3 h0 h1 hS3 => Ev.pe Pe.int fun _ => ⟨_, Po.gtI, fun _ => ?_, fun _ => ?_⟩))
      · refine Run.unpack (Ev.call (by k_is) (by k_is) rfl (Pl.cons (Pe.loc m1 rfl) (Pl.cons Pe.int (Pl.cons (Pe.loc m3 rfl) Pl.nil))) (r.le (by decide)) fun _ => type_ok 2 hS3 (offl w0) rfl (up3' _ hb) hd (hB.mono up3') hX hY fun a2 tv z t1 t o4 g N hS4 M onl ha2 hz hTy hsz => ?_)
        obtain ⟨tl, rfl, rfl, lt⟩ := M
        have z1 : ∀ p ∈ H3 ++ g, p.1 ≠ tb := off_tl w1 fun q hq => lt (tb, ot) (.head _) q hq
        have z2 : ∀ p ∈ H3 ++ g, p.1 ≠ pl := off_tl w2 fun q hq => lt (pl, _) (.tail _ (.head _)) q hq
        have z3 : ∀ p ∈ H3 ++ g, p.1 ≠ I := off_tl w3 fun q hq => lt (I, _) (.tail _ (.tail _ (.head _))) q hq
        have z0 : ∀ p ∈ H3 ++ g, p.1 ≠ l := fun p hp => onl p (.tail _ (.tail _ (.tail _ hp)))
        refine As.tuple (.tail _ (.tail _ (.tail _ (.tail _ (List.mem_append_right _ ha2))))) (AsL.cons (As.subD (Pe.loc m5 rfl) (Pe.loc rfl rfl) (.tail nl2.symm (.head (offt z1))) hdt (Nat.ble_eq_true_of_le (by omega)) fun ot2 hd2 => AsL.cons (As.name (AsL.cons (As.name (AsL.nil (Run.nil (Run.nil
          ⟨o4, ot2, H3 ++ g, _, _, rfl, hS4, mem_l, z0, z1, z2, z3, hd2, (hT3.mono mem_l).put hvn (by have : t.sz + 1 ≤ 8 := hsz; omega) (hTy.mono fun p hp => List.mem_append_right _ hp), ?_, parsAll_put (t := t) fun p hp => hNb nm (.head _) p hp, stored_length_le _ _ _, m1, m2, m3, m4, m5, m6, rfl, ?_⟩))) rfl)) rfl)))
        · intro x hx h
          rw [valueAt_stored hvn, if_neg hx]
          exact h
        · have e : due (fun y => if y = nm then some t else τ y) β nm = t.cop β := by
            show (match (if nm = nm then some t else τ nm) with | some t => t.cop β | none => β nm) = t.cop β
            rw [if_pos rfl]
          rw [e]
          rfl
      · have e : due τ β nm = β nm := by unfold due; rw [hτn]
        exact Run.nil ⟨o3, ot, H3, kvs', τ, rfl, hS3, fun _ h => h, w0, w1, w2, w3, hdt, hT3, fun _ _ h => h, rfl, Nat.le_succ _, m1, m2, m3, m4, m5, m6, rfl, by rw [e]; rfl⟩
    rintro m' n' ⟨o4, ot4, H4, kvs2, τ2, rfl, hS4, s4, w0, w1, w2, w3, hdt4, hT4, hv4, hpa, hk4, m1, m2, m3, m4, m5, m6, m7, m8⟩
    have fin : ∀ m'' : Mp, m'' (Str.ofString "source") = some (.ref l) → m'' (Str.ofString "world") = some (.ref wa) → m'' (Str.ofString "bounds") = some (.ref bd) → m'' (Str.ofString "params") = some (.ref pl) → m'' (Str.ofString "table") = some (.ref tb) → m'' (Str.ofString "is_due") = some (.bool (parsAll bs τ β && (!b || due τ2 β nm))) →
        ∃ n', (∀ p ∈ (I, oIt) :: n', p ∈ (l, o4) :: (tb, ot4) :: (pl, lst (ps ++ [.ref a]) (kp + 1)) :: (I, oIt) :: H4) ∧ (∀ p ∈ n', p.1 ≠ I) ∧ (la, lst xs 0) ∈ n' ∧ BrJ w H l tb pl wa bd la xs β vs' m'' n' := by
      intro m'' a1 a2 a3 a4 a5 a6
      have hnd := List.nodup_cons.mp hNd
      have hlen : (ps ++ [Value.ref a]).length = ps.length + 1 := by rw [List.length_append]; rfl
      have hcons : (nm :: nms').length = nms'.length + 1 := rfl
      refine ⟨(l, o4) :: (tb, ot4) :: (pl, lst (ps ++ [.ref a]) (kp + 1)) :: H4, ?_, ?_, .tail _ (.tail _ (.tail _ (s4 _ hla3))), o4, ot4, ps ++ [.ref a], kp + 1, H4, kvs2, bs ++ [(nm, b)], τ2, nms', rfl, hS4, fun p hp => s4 p (s3 p hp), w0, w1, w2, s4 _ hla3, hdt4, hT4, hP3.mono s4, hN', hnd.2, ?_, ?_, by omega, by omega, a1, a2, a3, a4, a5, ?_⟩
      · intro p hp
        rcases List.mem_cons.mp hp with rfl | hp
        · exact .tail _ (.tail _ (.tail _ (.head _)))
        rcases List.mem_cons.mp hp with rfl | hp
        · exact .head _
        rcases List.mem_cons.mp hp with rfl | hp
        · exact .tail _ (.head _)
        rcases List.mem_cons.mp hp with rfl | hp
        · exact .tail _ (.tail _ (.head _))
        · exact .tail _ (.tail _ (.tail _ (.tail _ hp)))
      · intro p hp
        rcases List.mem_cons.mp hp with rfl | hp
        · exact nI1.symm
        rcases List.mem_cons.mp hp with rfl | hp
        · exact nI2.symm
        rcases List.mem_cons.mp hp with rfl | hp
        · exact nI3.symm
        · exact w3 p hp
      · exact fun x hx => hv4 x (fun e => hnd.1 (e ▸ hx)) (hNv x (.tail _ hx))
      · intro x hx p hp
        rcases List.mem_append.mp hp with hp | hp
        · exact hNb x (.tail _ hx) p hp
        · rw [List.mem_singleton.mp hp]
          exact fun e => hnd.1 ((show nm = x from e) ▸ hx)
      · rw [a6, parsAll_snoc, hpa]
    have tr4 := htr3.mono (G' := (l, o4) :: (tb, ot4) :: (pl, lst (ps ++ [.ref a]) (kp + 1)) :: (I, oIt) :: H4) fun p hp => .tail _ (.tail _ (.tail _ (.tail _ (s4 p hp))))
    clear hS2 hS4 hT3 hT4 hP3 hdt4 hNv hNb hk1 hk2
    cases b with
    | false =>
      exact Run.ifF (Pt.andF (Pt.cmp Pe.str (Pe.loc m7 rfl) fun _ _ => Po.inTr tr4 (r.le (by decide)))) (Run.nil (fin _ m1 m2 m3 m4 m5 (by rw [m6, Bool.not_false, Bool.true_or, Bool.and_true])))
    | true =>
      cases hdue : due τ2 β nm with
      | true =>
        rw [hdue] at m8 fin
        exact Run.ifF (Pt.andT (Pt.cmp Pe.str (Pe.loc m7 rfl) fun _ _ => Po.inTr tr4 (r.le (by decide))) (Pt.andF (Pt.not (Pt.val (Pe.loc m8 rfl))))) (Run.nil (fin _ m1 m2 m3 m4 m5 (by rw [m6, Bool.or_true, Bool.and_true])))
      | false =>
        rw [hdue] at m8 fin
        exact Run.ifT (Pt.andT (Pt.cmp Pe.str (Pe.loc m7 rfl) fun _ _ => Po.inTr tr4 (r.le (by decide))) (Pt.andT (Pt.not (Pt.val (Pe.loc m8 rfl))) Pt.andN)) (Run.asg (Ev.pe Pe.bool fun _ => Run.nil (Run.nil (fin _ m1 m2 m3 m4 m5 (by rw [Bool.not_true, Bool.false_or, Bool.and_false]; rfl)))) rfl)
  · clear hS1 s1 o1l o1t o1p hla hN hNd hlen hdt
    rintro m n hm ⟨o, ot, ps, kp, H1, kvs', bs, τ, nms, rfl, hS, s1, ol, otb, opl, hla, hdt, hT, hP, hN, hNd, hNv, hNb, hk1, hk2, m1, m2, m3, m4, m5, m6⟩
    refine Run.asg (Ev.mono (R := fun v n => ∃ x N, v = .ref x ∧ n = (l, o) :: (tb, ot) :: (pl, lst ps kp) :: N ∧ (∀ p ∈ H1, p ∈ N) ∧ Rec N 135 x [(Str.ofString "params", .ref pl)]) ?_ ?_) rfl
    · refine Ev.callX (need := 2) (Pe.glo (by k_is) rfl) (by k_is) ?_ (r.le (by decide))
      repeat first | walk_at "ev" | refine Ev.pe (Pe.loc m4 rfl) fun _ => ?_
      exact impl_okB fun x tl htl hr => ⟨x, _, rfl, rfl, fun p hp => by walk_at "mem", (hr.mono fun _ h => List.mem_append_right _ h).sub fun f hf => by rw [List.mem_singleton.mp hf]; exact .tail _ (.tail _ (.head _))⟩
    rintro v n ⟨x, N, rfl, rfl, s2, hr⟩
    have up : ∀ p ∈ N, p ∈ (l, o) :: (tb, ot) :: (pl, lst ps kp) :: N := fun _ h => .tail _ (.tail _ (.tail _ h))
    have up1 : ∀ p ∈ H1, p ∈ (l, o) :: (tb, ot) :: (pl, lst ps kp) :: N := fun p h => up p (s2 p h)
    have upH : ∀ p ∈ H, p ∈ (l, o) :: (tb, ot) :: (pl, lst ps kp) :: N := fun p h => up1 p (s1 p h)
    refine Run.ret (Ev.drop (Ev.cmp (Ev.call (by k_is) (by k_is) rfl (Pl.cons (Pe.loc rfl rfl) (Pl.cons (Pe.loc m5 rfl) (Pl.cons (Pe.loc m2 rfl) (Pl.cons (Pe.loc m3 rfl) Pl.nil)))) r fun _ => bounds_ok (copy_ok 7 (by decide)) (by decide) (hr.mono up) (.tail _ (.tail _ (.head _))) (hP.mono up1)
      (.tail _ (.head _)) hdt (hT.mono up1) ((hW.mono upH).cw (upH _ hb) hd (hB.mono upH)) (Ev.pe (Pe.loc m6 rfl) fun _ => ⟨true, Po.eqB (beq_self_eq_true _), (l, o) :: H, ?_, k o hS⟩) (by decide))))
    intro p hp
    rcases List.mem_cons.mp hp with rfl | hp
    · exact .head _
    · exact upH p hp
section
variable {C : Cx w mean mg mb} {m : Mp} {news : Led} {env : Env} {K : Mp → Led → Prop} {R : Value → Led → Prop}
/-- a name that a cell holds, as a target -/
theorem As.cel {x : Str} {p : Pos} {v : Value} {c : Addr} {o : Obj} {v₀ : Option Value} {g : Obj → Led} (hc : C.env.cells.lookup x = some c) (U : UpdF c o news g) (hd : o.data = .cell v₀) (k : ∀ o', o'.data = .cell (some v) → K m (g o')) (ok : C.env.kindOf x = some .cell) : As C m news (.Name x p) v K :=
  ⟨fun _ _ _ a q => assign_Name (storeX_C a.F a.N hc U hd (fun _ o' F N hd' => q _ _ _ _ (k o' hd') ⟨F, N⟩) C.fn.hk ok)⟩
/-- an item of a tuple that an expression with a trace gives -/
theorem Ev.subE {e : Expr} {i : Int} {j : Nat} {ep pos : Pos} {k : Nat} (p : Ev C env m news e fun v n => ∃ a vs v', v = .ref a ∧ (a, tup vs) ∈ n ∧ vs[k]? = some v' ∧ R v' n) (hi : i = (k : Int) := by rfl) (hk : k < 100 := by decide) : Ev C env m news (.Subscript e (.Constant (.int i) j ep) pos) R :=
  ⟨fun _ _ _ at_ q => by
    subst hi
    refine Subscript_ (p.go _ _ _ at_ fun v n h tk r a' => wpAny_Constant_int ?_)
    obtain ⟨a, vs, v', rfl, hm, hx, r⟩ := r
    refine item_tupleT (j := k) (News.isTup a'.N hm) (by omega) (by omega) ?_ hx (q _ _ _ _ r a')
    obtain ⟨hl, -⟩ := List.getElem?_eq_some_iff.mp hx
    unfold seqIndex?
    simp
    omega⟩
/-- a and b, as a value, where a is true -/
theorem Ev.and2 {e1 e2 : Expr} {pos : Pos} (p : Ev C env m news e1 fun v n => v = .bool true ∧ Ev C env m n e2 R) : Ev C env m news (.BoolOp .And [e1, e2] pos) R :=
  ⟨fun _ _ _ a q => BoolOp_and (p.go _ _ _ a fun _ _ _ _ r a => by
    obtain ⟨rfl, r⟩ := r
    exact wpAny_truthy_bool (BoolOp_one (r.go _ _ _ a q)))⟩
theorem Po.neSh {v u : Value} {xs : Shs} (h1 : ShIn news v (.l xs)) (h2 : ShIn news u (.l xs)) (r : C.room 1) (hd : xs.dep < 7 := by decide) : Po C m news (compareOp .NotEq v u) (fun _ => .bool false) := by
  cases h1 with | l a x => cases h2 with | l b y => exact Po.neL a b (x.eqv y (Nat.le_refl _)) r hd
theorem Po.eqSh {v u : Value} {xs : Shs} (h1 : ShIn news v (.l xs)) (h2 : ShIn news u (.l xs)) (r : C.room 1) (hd : xs.dep < 7 := by decide) : Po C m news (compareOp .Eq v u) (fun _ => .bool true) := by
  cases h1 with | l a x => cases h2 with | l b y => exact Po.eqL a b (x.eqv y (Nat.le_refl _)) r hd
theorem Run.asgCL {elt iter : Expr} {x y : Str} {px py pos spos : Pos} {scope : Scope} {cl : List (Str × Addr)} {rest : List Stmt}
    (hsw : swapsWith (.ListComp elt [⟨.Name x px, iter, [], 0⟩] scope pos) (some (.Name y py)) spos.line C.env = pure true) (oky : locOk C.env y = true)
    (hclos : closureFor scope C.env = pure cl) (hcell : ∀ y ∈ scope.names, y.2 ≠ .cell) (hkind : scope.kind = .function) (hnames : ∀ y ∈ scope.names, y.2 = .local → scope.names.lookup y.1 = some .local) (hx : scope.names.lookup x = some .local)
    (h : Ev C C.env m news iter fun v n => ∃ a vs k, ∃ J : List Value → List Value → Led → Prop, v = .ref a ∧ (a, lst vs k) ∈ n ∧ Nat.ble vs.length 100 = true ∧ J vs [] n ∧
      (∀ v vs' ys n, (a, lst vs k) ∈ n → J (v :: vs') ys n → Turn C m elt x scope cl v ys n fun ys n => (a, lst vs k) ∈ n ∧ J vs' ys n) ∧
      (∀ ys n D, (a, lst vs k) ∈ n → J [] ys n → (∀ p ∈ n, p.1 ≠ D) → Run C (put m y (.ref D)) ((D, lst ys ys.length) :: n) rest K R))
    (hs : ∀ x, foldedSetIterable iter C.env x = pure x := by intro _; rfl) : Run C m news (.Assign [.Name y py] (.ListComp elt [⟨.Name x px, iter, [], 0⟩] scope pos) spos :: rest) K R :=
  Run.asgC hsw oky hclos hcell hkind hnames hx (h.mono fun v n r => by
    obtain ⟨a, vs, k, J, rfl, hm, hl, hJ, turn, fin⟩ := r
    exact ⟨_, _, _, fun i => J (vs.drop i), .list hm, hm, by rw [List.size_toArray]; exact hl, hJ, fun i v ys n _ hP hS hJ => turn v _ ys n hS (by rw [← drop_at hP]; exact hJ), fun ys n D hS hJ => fin ys n D hS (by rw [← drop_all (vs := vs)]; exact hJ)⟩) hs
end
local macro_rules | `(tactic| walk_at "pe") => `(tactic| (refine' Pe.cel ?m ?d ?l ?o; (case l => exact rfl); (case m => walk_at "mem"); (case d => assumption); (case o => exact rfl)))
local macro_rules | `(tactic| walk_at "pe") => `(tactic| (refine' Pe.loc ?v ?o; (case v => assumption); (case o => exact rfl)))
theorem rows_right_ok {l wa bd : Addr} {o ob : Obj} {kvs : List (Str × Value)} {β : Str → Bool} {H : Led} {R : Value → Led → Prop} (hS : SrcObj o) (off : ∀ p ∈ H, p.1 ≠ l) (hb : (bd, ob) ∈ H) (hd : Dct w ob kvs) (hB : BndIn H kvs β) (hX : (valueAt kvs (Str.ofString "X")).isSome) (hY : (valueAt kvs (Str.ofString "Y")).isSome) (hW : Wo w H wa)
    (k : R (.bool true) H) : Tell w mean mg mb 9 220 [.ref l, .ref wa, .ref bd] ((l, o) :: H) R := by
  refine Tell.defC (need := 8) (binds := [(Str.ofString "source", .ref l), (Str.ofString "world", .ref wa), (Str.ofString "bounds", .ref bd)]) (fun L => [(Str.ofString "inner", L + 2), (Str.ofString "world", L + 1)]) (put (put (fun _ => none) (Str.ofString "source") (.ref l)) (Str.ofString "bounds") (.ref bd)) (put (fun _ => none) (Str.ofString "world") (.ref wa))
    (by k_is) (by k_is) rfl rfl (by decide +kernel) rfl rfl rfl (fun _ => rfl) (fun _ => rfl) (fun _ => rfl) (fun D cells r Y below => ?_)
  obtain ⟨o2, o1, rfl, ho2, ho1⟩ := Y.two
  replace ho1 : o1.data = .cell (some (.ref wa)) := ho1
  refine Run.sub (news' := (l, o) :: (D.L + 2, o2) :: (H ++ [(D.L + 1, o1)])) ?_ ?_
  rotate_left 1
  · intro p hp
    rcases List.mem_cons.mp hp with rfl | hp
    · exact .head _
    rcases List.mem_cons.mp hp with rfl | hp
    · exact .tail _ (List.mem_append_right _ (.head _))
    rcases List.mem_append.mp hp with hp | hp
    · exact .tail _ (mem_l _ hp)
    · exact .tail _ (List.mem_append_right _ (.tail _ hp))
  have b2 : ∀ p ∈ (l, o) :: H, p.1 < D.L + 2 := fun p hp => below p hp (D.L + 2, o2) (.head _)
  have b1 : ∀ p ∈ (l, o) :: H, p.1 < D.L + 1 := fun p hp => below p hp (D.L + 1, o1) (.tail _ (.head _))
  have nl : l ≠ D.L + 2 := Nat.ne_of_lt (b2 (l, o) (.head _))
  have e1 : ∀ p ∈ H, p ∈ H ++ [(D.L + 1, o1)] := mem_l
  have e2 : (D.L + 1, o1) ∈ H ++ [(D.L + 1, o1)] := mem_e
  have e3 : ∀ p ∈ H ++ [(D.L + 1, o1)], p.1 ≠ D.L + 2 := fun p hp => by
    rcases List.mem_append.mp hp with hp | hp
    · exact Nat.ne_of_lt (b2 p (.tail _ hp))
    · rw [List.mem_singleton.mp hp]; exact Nat.ne_of_lt (Nat.lt_succ_self _)
  have e4 : ∀ p ∈ (D.L + 2, o2) :: (H ++ [(D.L + 1, o1)]), p.1 ≠ l := fun p hp => by
    rcases List.mem_cons.mp hp with rfl | hp
    · exact nl.symm
    · exact off_app off (b1 (l, o) (.head _)) p hp
  generalize H ++ [(D.L + 1, o1)] = H1 at e1 e2 e3 e4 ⊢
  clear Y below b1 b2
  have up1 : ∀ {x y : Addr × Obj}, ∀ p ∈ H, p ∈ x :: y :: H1 := fun p hp => .tail _ (.tail _ (e1 p hp))
  -- inner, own
  refine Run.unpack (Ev.tupleX (El.cons (Ev.subE (Ev.call (by k_is) (by k_is) rfl (Pl.cons (Pe.loc rfl rfl) (Pl.cons Pe.int (Pl.cons (Pe.loc rfl rfl) Pl.nil))) (need := 6) (r.le (by decide)) fun _ => type_ok 1 hS e4 rfl (.tail _ (e1 _ hb)) hd (hB.mono fun p hp => .tail _ (e1 p hp)) hX hY fun a tv z t1 t o' g N hS' M off' ha _ _ _ => ?_))))
  obtain ⟨tl, e, rfl, lt⟩ := M
  have e5 : ∀ p ∈ H1 ++ tl, p.1 ≠ D.L + 2 := off_tl e3 fun q hq => lt (D.L + 2, o2) (.head _) q hq
  refine ⟨a, _, tv, rfl, .tail _ (.tail _ (List.mem_append_right _ (by rw [e] at ha; exact ha))), rfl, ?_⟩
  refine El.cons (Ev.tuple (Pl.cons Pe.str (Pl.cons Pe.str Pl.nil)) (fun τ2 ow how => El.nil ⟨rfl, fun b hb' => As.tuple mem_e (AsL.cons (As.cel rfl (.tail nl (.head (?_ : ∀ p ∈ (H1 ++ tl) ++ [(ow, tup [.str (Str.ofString "param") (τ2 0), .str (Str.ofString "T") (τ2 1)])] ++ [(b, tup [tv, .ref ow])], p.1 ≠ D.L + 2))) ho2 (fun o3 ho3 => AsL.cons (As.name (AsL.nil ?_) rfl)) rfl))⟩) fun _ => rfl)
  · exact off_app (off_app e5 (how (D.L + 2, o2) (.tail _ (.head _)))) (hb' (D.L + 2, o2) (.tail _ (.head _)))
  have f1 : ∀ p ∈ H, p ∈ (l, o') :: (D.L + 2, o3) :: ((H1 ++ tl) ++ [(ow, tup [.str (Str.ofString "param") (τ2 0), .str (Str.ofString "T") (τ2 1)])] ++ [(b, tup [tv, .ref ow])]) := fun p hp => .tail _ (.tail _ (mem_l _ (mem_l _ (mem_l _ (e1 p hp)))))
  have f2 : (ow, tup [.str (Str.ofString "param") (τ2 0), .str (Str.ofString "T") (τ2 1)]) ∈ (l, o') :: (D.L + 2, o3) :: ((H1 ++ tl) ++ [(ow, tup [.str (Str.ofString "param") (τ2 0), .str (Str.ofString "T") (τ2 1)])] ++ [(b, tup [tv, .ref ow])]) := .tail _ (.tail _ (mem_l _ mem_e))
  have f3 : (D.L + 2, o3) ∈ (l, o') :: (D.L + 2, o3) :: ((H1 ++ tl) ++ [(ow, tup [.str (Str.ofString "param") (τ2 0), .str (Str.ofString "T") (τ2 1)])] ++ [(b, tup [tv, .ref ow])]) := .tail _ (.head _)
  have f4 : (D.L + 1, o1) ∈ (l, o') :: (D.L + 2, o3) :: ((H1 ++ tl) ++ [(ow, tup [.str (Str.ofString "param") (τ2 0), .str (Str.ofString "T") (τ2 1)])] ++ [(b, tup [tv, .ref ow])]) := .tail _ (.tail _ (mem_l _ (mem_l _ (mem_l _ e2))))
  show Run _ _ ((l, o') :: (D.L + 2, o3) :: ((H1 ++ tl) ++ [(ow, tup [.str (Str.ofString "param") (τ2 0), .str (Str.ofString "T") (τ2 1)])] ++ [(b, tup [tv, .ref ow])])) _ _ _
  generalize (l, o') :: (D.L + 2, o3) :: ((H1 ++ tl) ++ [(ow, tup [.str (Str.ofString "param") (τ2 0), .str (Str.ofString "T") (τ2 1)])] ++ [(b, tup [tv, .ref ow])]) = N at f1 f2 f3 f4 ⊢
  clear how hb' lt e e1 e2 e3 e4 e5 off' hS' ho2 off hS nl up1 hX hY hB hd hb ha
  obtain ⟨rs, hs0, hs1⟩ := hW.s0
  obtain ⟨rn, hn0, hn1⟩ := hW.n0
  obtain ⟨r0, h00, h01⟩ := hW.e0
  obtain ⟨r1, h10, h11⟩ := hW.e1
  refine Run.ifEt' (Et.cmp (Ev.callX (need := 1) (Pe.glo (by k_is) rfl) (by k_is) ?_ (r.le (by decide))))
  repeat walk_at "ev"
  refine field_ok (by walk_at "mem") (hs0.mono fun p hp => by walk_at "mem") (by decide) ?_
  repeat walk_at "ev"
  refine ⟨false, Po.neSh (hs1.mono fun p hp => by walk_at "mem") (by walk_at "sh") (r.le (by decide)), (fun h => nomatch h), fun _ => Run.sub (news' := N) ?_ (fun p hp => by walk_at "mem")⟩
  -- told
  refine Run.asgCL (cl := [(Str.ofString "world", D.L + 1), (Str.ofString "inner", D.L + 2)]) rfl rfl rfl (by decide) rfl (by decide) rfl (Ev.listB (El.pl (Pl.cons Pe.int (Pl.cons Pe.int Pl.nil)) fun τ => ⟨rfl, fun la hla =>
    ⟨la, [.int 0 (τ 0), .int 1 (τ 1)], 0, fun vs ys n => n = N ++ [(la, lst [.int 0 (τ 0), .int 1 (τ 1)] 0)] ∧ ((vs = [.int 0 (τ 0), .int 1 (τ 1)] ∧ ys = []) ∨ (vs = [.int 1 (τ 1)] ∧ ys = [r0]) ∨ (vs = [] ∧ ys = [r0, r1])), rfl, mem_e, rfl, ⟨rfl, .inl ⟨rfl, rfl⟩⟩, ?_, ?_⟩⟩))
  · rintro v vs' ys n hm ⟨rfl, h⟩ I oI B oB D' m₂ hB' hx' off'
    rcases h with ⟨h, rfl⟩ | ⟨h, rfl⟩ | ⟨h, -⟩
    · cases h
      refine Ev.callX (need := 1) (Pe.glo (by k_is) rfl) (by k_is) ?_ (r.le (by decide))
      repeat first | walk_at "ev" | refine Ev.pe (Pe.own (by walk_at "mem") hB' hx' rfl rfl) fun _ => ?_
      exact field_ok (i := 0) (by walk_at "mem") (h00.mono fun p hp => by walk_at "mem") (by decide) ⟨_, ⟨fun p hp => by walk_at "mem", off'⟩, hm, rfl, .inr (.inl ⟨rfl, rfl⟩)⟩
    · cases h
      refine Ev.callX (need := 1) (Pe.glo (by k_is) rfl) (by k_is) ?_ (r.le (by decide))
      repeat first | walk_at "ev" | refine Ev.pe (Pe.own (by walk_at "mem") hB' hx' rfl rfl) fun _ => ?_
      exact field_ok (i := 1) (by walk_at "mem") (h10.mono fun p hp => by walk_at "mem") (by decide) ⟨_, ⟨fun p hp => by walk_at "mem", off'⟩, hm, rfl, .inr (.inr ⟨rfl, rfl⟩)⟩
    · exact nomatch h
  rintro ys n D' hm ⟨rfl, h⟩ offD
  rcases h with ⟨h, -⟩ | ⟨h, -⟩ | ⟨-, rfl⟩
  · exact nomatch h
  · exact nomatch h
  refine Run.ret (Ev.drop (Ev.and2 (Ev.cmp (Ev.pe (Pe.loc rfl rfl) fun _ => ?_))))
  repeat walk_at "ev"
  refine ⟨true, Po.eqSh (xs := .cons (.l .nil) (.cons shE1 .nil)) (.l (by walk_at "mem") (.cons (h01.mono fun p hp => by walk_at "mem") (.cons (h11.mono fun p hp => by walk_at "mem") .nil))) (by walk_at "sh") (r.le (by decide)), rfl, ?_⟩
  refine Ev.cmp (Ev.callX (need := 1) (Pe.glo (by k_is) rfl) (by k_is) ?_ (r.le (by decide)))
  repeat walk_at "ev"
  refine field_ok (by walk_at "mem") (hn0.mono fun p hp => by walk_at "mem") (by decide) ?_
  repeat walk_at "ev"
  exact ⟨true, Po.eqSh (xs := .nil) (hn1.mono fun p hp => by walk_at "mem") (by walk_at "sh") (r.le (by decide)), H, fun p hp => by walk_at "mem", k⟩
section
variable {C : Cx w mean mg mb} {m : Mp} {news : Led} {env : Env} {K : Mp → Led → Prop} {R : Value → Led → Prop}
/-- {'a text': e} -/
theorem Ev.dict1 {x : Str} {j : Nat} {ep pos : Pos} {ve : Expr} (p : ∀ d o, (∀ p ∈ news, p.1 < d) → Ev C env m ((d, o) :: news) ve fun v n => ∃ n', n = (d, o) :: n' ∧ (∀ p ∈ n', p.1 ≠ d) ∧ ∀ o', Dct w o' [(x, v)] → R (.ref d) (n' ++ [(d, o')])) :
    Ev C env m news (.Dict [some (.Constant (.str x) j ep)] [ve] pos) R :=
  ⟨fun _ _ _ a q => by
    refine kdn_str rfl a.F a.N C.D.T.nolimit rfl rfl (List.cons_ne_nil _ _) (Nat.le_of_ble_eq_true rfl) fun d h' o F' N' l1 lo hd => ?_
    refine pairTrees_cons_walk (wpAny_Constant_str ((p d o l1).go _ _ _ ⟨F', N'⟩ fun v n _ _ r a => pairTrees_nil_walk ?_))
    obtain ⟨n', rfl, off, r⟩ := r
    exact kdn_made_str a.F a.N (.head off) hd rfl (by simp [strPairs]) fun _ o' F' N' hd' => q _ _ _ _ (r o' (isDict_to hd')) (At.back ⟨F', N'⟩)⟩
/-- {'a text': e, 'another': e'} -/
theorem Ev.dict2 {x y : Str} {j j' : Nat} {ep ep' pos : Pos} {ve ve' : Expr} (hxy : x ≠ y) (p : ∀ d o, (∀ p ∈ news, p.1 < d) → Ev C env m ((d, o) :: news) ve fun v n => Ev C env m n ve' fun v' n => ∃ n', (∀ p ∈ (d, o) :: n', p ∈ n) ∧ (∀ p ∈ n', p.1 ≠ d) ∧ ∀ o', Dct w o' [(x, v), (y, v')] → R (.ref d) (n' ++ [(d, o')])) :
    Ev C env m news (.Dict [some (.Constant (.str x) j ep), some (.Constant (.str y) j' ep')] [ve, ve'] pos) R :=
  ⟨fun _ _ _ a q => by
    refine kdn_str rfl a.F a.N C.D.T.nolimit rfl rfl (List.cons_ne_nil _ _) (Nat.le_of_ble_eq_true rfl) fun d h' o F' N' l1 lo hd => ?_
    refine pairTrees_cons_walk (wpAny_Constant_str ((p d o l1).go _ _ _ ⟨F', N'⟩ fun v n _ _ r a => pairTrees_cons_walk (wpAny_Constant_str (r.go _ _ _ a fun v' n _ _ r a => pairTrees_nil_walk ?_))))
    obtain ⟨n', s, off, r⟩ := r
    have a' := a.sub s
    exact kdn_made_str a'.F a'.N (.head off) hd rfl (by simpa [strPairs] using hxy) fun _ o' F' N' hd' => q _ _ _ _ (r o' (isDict_to hd')) (At.back ⟨F', N'⟩)⟩
/-- l.extend(a list) -/
theorem Ev.extendL {e x : Expr} {ap pos : Pos} {d : Addr} {vs₀ : List Value} {k₀ : Nat} (p : Pe C env m news e (fun _ => .ref d)) (hm : (d, lst vs₀ k₀) ∈ news)
    (q : Ev C env m news x fun v n => ∃ b y ys j vs k g, v = .ref b ∧ (b, lst (y :: ys) j) ∈ n ∧ UpdF d (lst vs k) n g ∧ Nat.ble (vs.length + (y :: ys).length) 200 = true ∧ R .none (g (lst (vs ++ y :: ys) (k + 1)))) (pl : Sem Bool)
    (he : eval (.Call (.Attribute e (Str.ofString "extend") ap) [x] [] pos) env = (do
      let ov ← eval e env
      standAt ap.atName
      let (f, first) ← holding [ov] (getMethod ov (Str.ofString "extend") pl)
      callWith pos f first (backTo pos (starEach [x] env)) []))
    (hb : starEach [x] env = (false, eval x env) :: starEach [] env := by rfl) : Ev C env m news (.Call (.Attribute e (Str.ofString "extend") ap) [x] [] pos) R :=
  ⟨fun _ _ _ a z => by
    refine MethodCall_ (pl := pl) (p.use a fun _ _ _ a => ?_) he
    refine kl_method a.N hm PySem.F.slot_list_extend PySem.F.type_list_extend ?_
    refine callWith_method1 (args_cons (q.go _ _ _ a fun v n _ _ r a => args_nil ?_) hb) hb rfl
    obtain ⟨b, y, ys, j, vs, k, g, rfl, hw, U, hl, r⟩ := r
    have hl' := Nat.le_of_ble_eq_true hl
    rw [List.length_cons] at hl'
    obtain ⟨pre, post, rfl, hg, c1, c2⟩ := U.split
    have zz := a.N (d, lst vs k) (List.mem_append_right _ (.head _))
    have big : 1000 ≤ sizeLine := by decide
    refine call_meets PySem.F.slot_list_extend ⟨_, zz.1, rfl⟩ PySem.F.entry_list_extend (PySem.F.args_list_extend_2 _ _) (PySem.AutoSeq1.list_extend_list_list_0 d vs.toArray k b (y :: ys).toArray j (not_long (k := vs.length) (j := ys.length + 1) (by omega) (by simp) (by simp)) (by simp; omega) (by simp; omega)) ⟨zz.1, (a.N _ hw).1, ?_⟩
    refine z _ _ _ _ r ⟨a.F.change (Heap.SameBut.update ..) zz.2.1 zz.2.2, ?_⟩
    rw [hg]
    exact kl_turn _ a.N c1 c2 (by simp) (by simp)⟩
/-- a list and a list -/
theorem Ev.addL {l r : Expr} {pos : Pos} (p : Ev C env m news l fun v n => Ev C env m n r fun u n' => ∃ a b xs ys j k, v = .ref a ∧ u = .ref b ∧ (a, lst xs j) ∈ n' ∧ (b, lst ys k) ∈ n' ∧ Nat.ble (xs.length + ys.length) 200 = true ∧ ∀ D, (∀ p ∈ n', p.1 < D) → R (.ref D) (n' ++ [(D, lst (xs ++ ys) 0)])) : Ev C env m news (.BinOp l .Add r pos) R :=
  ⟨fun _ _ _ a q => wpAny_BinOp (p.go _ _ _ a fun _ _ _ _ r a => r.go _ _ _ a fun _ _ _ _ r a => by
    obtain ⟨x, y, xs, ys, j, k, rfl, rfl, h1, h2, hl, r⟩ := r
    refine kmk_add_lit (its := xs.toArray) (its2 := ys.toArray) (zs := xs ++ ys) a.F a.N ⟨_, (a.N _ h1).1, rfl, _, rfl⟩ ⟨_, (a.N _ h2).1, rfl, _, rfl⟩ rfl (fun D _ F' N' hD => q _ _ _ _ (r D hD) (At.back ⟨F', N'⟩)) (Nat.le_trans (Nat.le_of_ble_eq_true hl) (by decide)))⟩
end
theorem off_lt {d : Addr} {G : Led} (h : ∀ p ∈ G, p.1 < d) : ∀ p ∈ G, p.1 ≠ d := fun p hp => Nat.ne_of_lt (h p hp)
theorem bnd_one {G : Led} {v : Value} {b : Bool} (h : TrIn G v b) : BndIn G [(Str.ofString "T", v)] (fun n => if n = Str.ofString "T" then b else false) := fun n => by
  by_cases e : n = Str.ofString "T"
  · subst e
    exact .inr ⟨v, rfl, h⟩
  · refine .inl ⟨?_, if_neg e⟩
    unfold valueAt
    have : ([(Str.ofString "T", v)] : List (Str × Value)).find? (fun kv => kv.1 = n) = none := List.find?_eq_none.mpr fun kv hkv => by
      rw [List.mem_singleton.mp hkv]
      simpa using fun h => e h.symm
    rw [this]
    rfl
theorem ib_ok {row tb wa bd pl : Addr} {ps : List Value} {k : Nat} {bs : List (Str × Bool)} {o : Obj} {kvs : List (Str × Value)} {τ : Str → Option Ty} {β : Str → Bool} {H : Led} {R : Value → Led → Prop} {b : Bool}
    (hr : Rec H 135 row [(Str.ofString "params", .ref pl)]) (hpl : (pl, lst ps k) ∈ H) (hps : ParsIn H ps bs) (ho : (tb, o) ∈ H) (hd : Dct w o kvs) (hτ : TabIn H 2 kvs τ) (hw : Cw w H wa bd β) (hb : parsAll bs τ β = b) (kR : R (.bool b) H) : Tell w mean mg mb 12 82 [.ref row, .ref tb, .ref wa, .ref bd] H R :=
  bounds_ok (copy_ok 2 (by decide)) (by decide) hr hpl hps ho hd hτ hw (by rw [hb]; exact kR) (by decide)
local macro_rules | `(tactic| walk_at "off") => `(tactic| (refine' off_app ?a ?b; (case b => exact (by assumption : ∀ p ∈ (_ : Led), p.1 < _) (_, _) (.head _)); (case a => walk_at "off")))
local macro_rules | `(tactic| walk_at "off") => `(tactic| (refine' off_app ?a ?b; (case b => (refine' (?h : ∀ p ∈ (_ : Led), p.1 < _) (_, _) ?m; (case h => assumption); (case m => walk_at "mem"))); (case a => walk_at "off")))
local macro_rules | `(tactic| walk_at "off") => `(tactic| (refine' off_lt ?a; assumption))
local macro_rules | `(tactic| walk_at "pe") => `(tactic| (refine' Pe.loc ?v ?o; (case v => assumption); (case o => exact rfl)))
local macro_rules | `(tactic| walk_at "ev") => `(tactic| (refine' Ev.dict1 fun _ _ _ => ?_))
/-- a row with one parameter -/
def PrIn (G : Led) (v : Value) (b : Bool) : Prop := ∃ x pl p0, v = .ref x ∧ Rec G 135 x [(Str.ofString "params", .ref pl)] ∧ (pl, lst [p0] 0) ∈ G ∧ ParsIn G [p0] [(Str.ofString "T", b)]
theorem PrIn.ok {H G : Led} {row tb wa bd : Addr} {o : Obj} {kvs : List (Str × Value)} {b c : Bool} {R : Value → Led → Prop} (τ : Str → Option Ty) (β : Str → Bool) (hp : PrIn G (.ref row) c) (hW : Wo w G wa) (s : ∀ p ∈ G, p ∈ H) (ho : (tb, o) ∈ H) (hd : Dct w o kvs) (hτ : TabIn H 2 kvs τ) {ob : Obj} {kvb : List (Str × Value)} (h1 : (bd, ob) ∈ H) (h2 : Dct w ob kvb) (h3 : BndIn H kvb β)
    (hb : parsAll [(Str.ofString "T", c)] τ β = b) (kR : R (.bool b) H) : Tell w mean mg mb 12 82 [.ref row, .ref tb, .ref wa, .ref bd] H R := by
  obtain ⟨x, pl, p0, e, a, h, p⟩ := hp
  cases e
  exact ib_ok (a.mono s) (s _ h) (p.mono s) ho hd hτ ((hW.mono s).cw h1 h2 h3) hb kR
theorem told_right_ok {wa : Addr} {H : Led} {R : Value → Led → Prop} (hW : Wo w H wa) (k : R (.bool true) H) : Tell w mean mg mb 13 227 [.ref wa] H R := by
  refine Tell.def (need := 12) (binds := [(Str.ofString "world", .ref wa)]) (by k_is) (by k_is) rfl rfl rfl rfl rfl (by decide) (fun D r => ?_)
  -- a truth's type
  refine Run.ifEt' (Et.or (Et.val (Ev.callX (need := 2) (Pe.glo (by k_is) rfl) (by k_is) ?_ (r.le (by decide)))))
  repeat walk_at "ev"
  refine has_ok (t := .bool) (.bool (by walk_at "mem")) (by decide) (by decide) ⟨_, rfl, fun h => absurd h (by decide), fun _ => Et.or (Et.not (Et.val (Ev.callX (need := 2) (Pe.glo (by k_is) rfl) (by k_is) ?_ (r.le (by decide)))))⟩
  repeat walk_at "ev"
  refine has_ok (t := .bool) (.bool (by walk_at "mem")) (by decide) (by decide) ⟨_, rfl, fun h => absurd h (by decide), fun _ => Et.orN ⟨(fun h => nomatch h), fun _ => Run.sub (news' := H) ?_ (fun p hp => by walk_at "mem")⟩⟩
  -- a pair
  refine Run.asg (Ev.mono (R := fun v n => ∃ a, v = .ref a ∧ TyIn n (.ref a) (.tup (.cons .bool (.cons (.ref false .bool) .nil))) ∧ ∀ p ∈ H, p ∈ n) ?_ ?_) rfl
  · repeat walk_at "ev"
    exact ⟨_, rfl, .tup (by walk_at "mem") (by walk_at "mem") (.cons (.bool (by walk_at "mem")) (.cons (.ref (by walk_at "mem") (.bool (by walk_at "mem"))) .nil)), fun p hp => by walk_at "mem"⟩
  rintro v G ⟨pr, rfl, hpr, sG⟩
  refine Run.ifEt' (Et.or (Et.val (Ev.callX (need := 2) (Pe.glo (by k_is) rfl) (by k_is) ?_ (r.le (by decide)))))
  repeat first | walk_at "ev" | refine Ev.pe (Pe.loc rfl rfl) fun _ => ?_
  refine has_ok hpr (by decide) (by decide) ⟨_, rfl, fun h => absurd h (by decide), fun _ => Et.or (Et.not (Et.val (Ev.callX (need := 2) (Pe.glo (by k_is) rfl) (by k_is) ?_ (r.le (by decide)))))⟩
  repeat first | walk_at "ev" | refine Ev.pe (Pe.loc rfl rfl) fun _ => ?_
  refine has_ok hpr (by decide) (by decide) ⟨_, rfl, fun h => absurd h (by decide), fun _ => Et.orN ⟨(fun h => nomatch h), fun _ => Run.sub (news' := H) ?_ sG⟩⟩
  clear hpr sG G
  -- regions
  refine Run.ifEt' (Et.cmp (Ev.listB (El.cons (Ev.call (need := 1) (by k_is) (by k_is) rfl (Pl.cons Pe.none Pl.nil) (r.le (by decide)) fun _ => region_none fun t1 => El.cons (Ev.call (need := 1) (by k_is) (by k_is) rfl (Pl.cons Pe.str Pl.nil) (r.le (by decide)) fun _ => region_str
    (El.cons (Ev.call (need := 1) (by k_is) (by k_is) rfl (Pl.cons Pe.int Pl.nil) (r.le (by decide)) fun _ => region_int (by decide) fun t3 => El.cons (Ev.call (need := 1) (by k_is) (by k_is) rfl (Pl.cons Pe.int Pl.nil) (r.le (by decide)) fun _ => region_int (by decide) fun t4 => El.nil ⟨rfl, fun a ha => ?_⟩))))))))
  repeat walk_at "ev"
  refine ⟨false, Po.neL (by walk_at "mem") (by walk_at "mem") (.cons (Eqv.strT (by decide +kernel)) (.cons (Eqv.strT (by decide +kernel)) (.cons (Eqv.strT (by decide +kernel)) (.cons (Eqv.strT (by decide +kernel)) .nil)))) (r.le (by decide)) (d := 0), (fun h => nomatch h), fun _ => Run.sub (news' := H) ?_ (fun p hp => by walk_at "mem")⟩
  -- a row
  refine Run.asg (Ev.mono (R := fun v n => PrIn n v true ∧ ∀ p ∈ H, p ∈ n) ?_ ?_) rfl
  · refine Ev.callX (need := 2) (Pe.glo (by k_is) rfl) (by k_is) ?_ (r.le (by decide))
    repeat walk_at "ev"
    exact impl_okB fun x tl htl hr => ⟨⟨x, _, _, rfl, (hr.mono fun _ h => List.mem_append_right _ h).sub fun f hf => by rw [List.mem_singleton.mp hf]; exact .tail _ (.tail _ (.head _)), by walk_at "mem", .cons (by walk_at "mem") ⟨_, _, rfl, by walk_at "mem", fun y hy => by rw [List.mem_singleton.mp hy]; exact ⟨_, _, rfl⟩, rfl⟩ .nil⟩, fun p hp => by walk_at "mem"⟩
  rintro v G ⟨hrow, sG⟩
  obtain ⟨row, rfl⟩ : ∃ row, v = .ref row := let ⟨x, _, _, e, _⟩ := hrow; ⟨x, e⟩
  have hWG := hW.mono sG
  -- told
  refine Run.asg (Ev.mono (R := fun v n => ∃ tl N, v = .ref tl ∧ n = (tl, lst [.bool true, .bool false] 0) :: N ∧ (∀ p ∈ G, p ∈ N) ∧ (∀ p ∈ N, p.1 ≠ tl)) ?_ ?_) rfl
  · refine Ev.listX (El.cons (Ev.callX (need := 12) (Pe.glo (by k_is) rfl) (by k_is) ?_ r))
    repeat walk_at "ev"
    refine ⟨_, rfl, by walk_at "off", fun o1 hd1 => ?_⟩
    repeat walk_at "ev"
    refine hrow.ok (b := true) (fun n => if n = Str.ofString "T" then some .bool else none) (fun _ => false) hWG (fun p hp => by walk_at "mem") (by walk_at "mem") hd1 (tab_one (by decide) (.bool (by walk_at "mem"))) (by walk_at "mem") (by assumption) (fun _ => .inl ⟨rfl, rfl⟩) rfl (El.cons (Ev.callX (need := 12) (Pe.glo (by k_is) rfl) (by k_is) ?_ r))
    repeat walk_at "ev"
    refine ⟨_, rfl, by walk_at "off", fun o2 hd2 => ?_⟩
    repeat walk_at "ev"
    refine hrow.ok (b := false) (fun n => if n = Str.ofString "T" then some (.box .bool) else none) (fun _ => false) hWG (fun p hp => by walk_at "mem") (by walk_at "mem") hd2 (tab_one (by decide) (.box (by walk_at "mem") (.bool (by walk_at "mem")))) (by walk_at "mem") (by assumption) (fun _ => .inl ⟨rfl, rfl⟩) rfl (El.nil ⟨rfl, fun a ha => ?_⟩)
    exact ⟨a, _, rfl, rfl, fun p hp => by walk_at "mem", off_lt ha⟩
  rintro v n ⟨tl, N, rfl, rfl, sN, oN⟩
  refine Run.expr (Ev.extendL (Pe.loc rfl rfl) (.head _) (Ev.listB (El.cons (Ev.callX (need := 12) (Pe.glo (by k_is) rfl) (by k_is) ?_ r))) _ rfl)
  repeat walk_at "ev"
  refine hrow.ok (b := false) (fun _ => none) (fun _ => false) hWG (fun p hp => by walk_at "mem") (by walk_at "mem") (by assumption) (fun _ => .inl ⟨rfl, rfl⟩) (by walk_at "mem") (by assumption) (fun _ => .inl ⟨rfl, rfl⟩) rfl (El.cons (Ev.callX (need := 12) (Pe.glo (by k_is) rfl) (by k_is) ?_ r))
  repeat walk_at "ev"
  refine ⟨_, rfl, by walk_at "off", fun o2 hd2 => ?_⟩
  repeat walk_at "ev"
  refine hrow.ok (b := true) (fun _ => none) (fun n => if n = Str.ofString "T" then true else false) hWG (fun p hp => by walk_at "mem") (by walk_at "mem") (by assumption) (fun _ => .inl ⟨rfl, rfl⟩) (by walk_at "mem") hd2 (bnd_one ⟨_, _, rfl, by walk_at "mem", fun y hy => by rw [List.mem_singleton.mp hy]; exact ⟨_, _, rfl⟩, rfl⟩) rfl (El.nil ⟨rfl, fun a ha => ?_⟩)
  refine ⟨a, _, _, 0, [.bool true, .bool false], 0, _, rfl, mem_e, .head (by walk_at "off"), rfl, rfl, Run.sub (news' := (tl, lst [.bool true, .bool false, .bool false, .bool true] 1) :: N) ?_ ?_⟩
  rotate_left 1
  · intro p hp
    rcases List.mem_cons.mp hp with rfl | hp
    · exact .head _
    · refine .tail _ ?_
      walk_at "mem"
  clear oN
  have sH : ∀ p ∈ H, p ∈ (tl, lst [.bool true, .bool false, .bool false, .bool true] 1) :: N := fun p hp => .tail _ (sN _ (sG p hp))
  clear sN sG hWG hrow
  generalize hN : (tl, lst [.bool true, .bool false, .bool false, .bool true] 1) :: N = N1 at sH ⊢
  have htl : (tl, lst [.bool true, .bool false, .bool false, .bool true] 1) ∈ N1 := hN ▸ .head _
  clear hN
  -- another row
  refine Run.asg (Ev.mono (R := fun v n => PrIn n v false ∧ (∀ p ∈ H, p ∈ n) ∧ (tl, lst [.bool true, .bool false, .bool false, .bool true] 1) ∈ n) ?_ ?_) rfl
  · refine Ev.callX (need := 2) (Pe.glo (by k_is) rfl) (by k_is) ?_ (r.le (by decide))
    repeat walk_at "ev"
    exact impl_okB fun x tl' htl' hr => ⟨⟨x, _, _, rfl, (hr.mono fun _ h => List.mem_append_right _ h).sub fun f hf => by rw [List.mem_singleton.mp hf]; exact .tail _ (.tail _ (.head _)), by walk_at "mem", .cons (by walk_at "mem") ⟨_, _, rfl, by walk_at "mem", fun y hy => by rw [List.mem_singleton.mp hy]; exact ⟨_, _, rfl⟩, rfl⟩ .nil⟩, fun p hp => by have := sH p hp; walk_at "mem", by walk_at "mem"⟩
  rintro v G ⟨hoth, sG, htl⟩
  obtain ⟨oth, rfl⟩ : ∃ x, v = .ref x := let ⟨x, _, _, e, _⟩ := hoth; ⟨x, e⟩
  have hWG := hW.mono sG
  clear sH hW
  refine Run.ret (Ev.drop (Ev.cmp (Ev.addL (Ev.pe (Pe.loc rfl rfl) fun _ => Ev.listB (El.cons (Ev.callX (need := 12) (Pe.glo (by k_is) rfl) (by k_is) ?_ r))))))
  repeat walk_at "ev"
  refine ⟨_, rfl, by walk_at "off", fun o2 hd2 => ?_⟩
  repeat walk_at "ev"
  refine hoth.ok (b := true) (fun n => if n = Str.ofString "T" then some (.box .bool) else none) (fun _ => false) hWG (fun p hp => by walk_at "mem") (by walk_at "mem") hd2 (tab_one (by decide) (.box (by walk_at "mem") (.bool (by walk_at "mem")))) (by walk_at "mem") (by assumption) (fun _ => .inl ⟨rfl, rfl⟩) rfl (El.nil ⟨rfl, fun a ha => ⟨tl, a, _, _, 1, 0, rfl, rfl, by walk_at "mem", mem_e, rfl, fun X hX => ?_⟩⟩)
  repeat walk_at "ev"
  exact ⟨true, Po.eqL (by walk_at "mem") (by walk_at "mem") (.cons (Eqv.boolT rfl) (.cons (Eqv.boolT rfl) (.cons (Eqv.boolT rfl) (.cons (Eqv.boolT rfl) (.cons (Eqv.boolT rfl) .nil))))) (r.le (by decide)) (d := 0), H, fun p hp => by have := sG p hp; walk_at "mem", k⟩
/-- a call, where the frame's ground heap is known in part -/
structure TellP (w : World) (mean : ExcName → Option Value) (mg mb : Mp) (P : Heap → Prop) (need : Nat) (f : Addr) (vs : List Value) (news : Led) (R : Value → Led → Prop) : Prop where
  go : ∀ (C : Cx w mean mg mb) (m : Mp), C.room need → P C.h₀ → Tree C m news (call (.ref f) vs) R
theorem TellP.def {P : Heap → Prop} (hP : ∀ h h' : Heap, (∀ b o, h.get? b = some o → h'.get? b = some o) → P h → P h') {need : Nat} {f : Addr} {vs : List Value} {R : Value → Led → Prop} {news : Led} {name qual : Str} {params : Arguments} {body : List Stmt} {scope : Scope} {dV kV doc pm cdv ct oc : Value} {an od : Option Addr} {osl : Array (Option Value)} {binds : List (Str × Value)}
    (ho : (hk.heap_39 w.params).lookup f = some ⟨oc, od, .func (fnOf name qual params body scope dV kV doc pm an cdv ct), osl⟩) (hcd : codeIn (hk.heap_39 w.params) cdv qual = true)
    (hbind : bindArgs (fnOf name qual params body scope dV kV doc pm an cdv ct) ⟨vs, []⟩ = pure binds) (hloc : (binds.all fun x => decide (scope.names.lookup x.1 = some .local)) = true)
    (hk : scope.kind = .function) (hco : scope.isCoroutine = false) (hgen : scope.isGenerator = false) (hcell : ∀ x ∈ scope.names, x.2 ≠ .cell)
    (h : ∀ D : Dy w mean mg mb, P D.h₀ → (Cx.mk ⟨qual, scope, f, cdv, hk⟩ [] D).room need → Run ⟨⟨qual, scope, f, cdv, hk⟩, [], D⟩ (ents binds) news body (fun _ n => R .none n) R) : TellP w mean mg mb P (need + 1) f vs news R := by
  constructor
  intro C m r p s Q E a q
  refine wpAny_call (code_def C.D.B a.F C.D.X a.N C.D.T rfl rfl C.fn.hk ho hcd (Nat.lt_of_le_of_lt (Nat.le_add_right _ _) r.d) (BindsTo.of_eq hbind) (locs hloc) (fun g L' h₁ FG F' N' B' X' T' => ?_) hco hgen hk hcell)
  refine (h ⟨C.D.q, C.D.qi, C.D.prog, C.D.dp + 1, C.D.un + 3, C.D.gd, L', C.env :: C.D.outer, C.A, C.D.base, g, B', X', T'⟩ (hP _ _ FG.keep p) ⟨by have := r.d; show C.D.dp + 1 + need < _; omega, by have := r.u; show C.D.un + 3 + 8 * need < _; omega⟩).go _ _ _ ⟨F', N'⟩ ?_ ?_
  · intro m' news' h tk hr a'
    exact leaveK_ a'.F a'.N fun F3 N3 => q _ _ _ _ hr ⟨F3, N3⟩
  · intro v m' news' h tk hr a'
    exact leaveK_ a'.F a'.N fun F3 N3 => q _ _ _ _ hr ⟨F3, N3⟩
section
variable {C : Cx w mean mg mb} {m : Mp} {news : Led} {env : Env} {K : Mp → Led → Prop} {R : Value → Led → Prop}
theorem Ev.callP {P : Heap → Prop} {fe : Expr} {f : Addr} {e : Expr} {es : List Expr} {pos : Pos} {need : Nat} (hP : P C.h₀) (pf : Pe C env m news fe (fun _ => .ref f)) (hk : keepIn (hk.heap_39 w.params) (.ref f) = true)
    (p : El C env m news (e :: es) fun vs n => TellP w mean mg mb P need f vs n R) (r : C.room need)
    (he : starEach (e :: es) env = (false, eval e env) :: starEach es env := by rfl) (hp : (starEach es env).any (·.1) = false := by rfl)
    (hc : eval (.Call fe (e :: es) [] pos) env = (do callWith pos (← eval fe env) [] (backTo pos (starEach (e :: es) env)) (backToKw pos (keywordEach [] env))) := by rfl) :
    Ev C env m news (.Call fe (e :: es) [] pos) R :=
  ⟨fun _ _ _ a q => by
    refine Call_ (pf.use a fun _ _ _ a => ?_) hc
    refine callWith_K C.D.X hk (p.go _ _ _ _ a fun _ _ _ _ r' a => ⟨C.D.X.keeps a.F.keep, ?_⟩) he ?_
    · rw [List.nil_append]
      exact r'.go C _ r hP _ _ _ a q
    · have : (backTo pos (starEach es env)).any (·.1) = (starEach es env).any (·.1) := by
        unfold backTo
        simp only [List.any_map]
        rfl
      rw [this, hp]⟩
def Scr (ws : Addr) (vs : List Value) (h : Heap) : Prop := h.IsList ws vs.toArray
theorem Scr.keeps {ws : Addr} {vs : List Value} : ∀ h h' : Heap, (∀ b o, h.get? b = some o → h'.get? b = some o) → Scr ws vs h → Scr ws vs h' := fun _ _ k ⟨o, ho, r⟩ => ⟨o, k _ _ ho, r⟩
theorem Po.lenS {ws : Addr} {vs : List Value} (p : Scr ws vs C.h₀) (hl : Nat.ble vs.length 100 = true) : Po C m news (call (.builtin "len") [.ref ws]) (fun t => .int vs.length t) :=
  .of fun _ _ _ at_ q => Calls.call_len_list (items := vs.toArray) (Scr.keeps _ _ at_.F.keep p) (by have := Nat.le_of_ble_eq_true hl; rw [List.size_toArray]; omega) (by rw [List.size_toArray]; exact q _ _ _ at_)
theorem Pe.itemS {e i : Expr} {pos : Pos} {ws : Addr} {v : Value} {vs : List Value} {g : Tok → Tok} (s : Scr ws (v :: vs) C.h₀) (p : Pe C env m news e (fun _ => .ref ws)) (q : Pe C env m news i (fun t => .int 0 (g t)))
    (hs : ∀ x u, subscripted i false (.ref ws) (.int x u) = operate [.ref ws, .int x u] (getItem (.ref ws) (.int x u)) := by intro _ _; with_unfolding_all rfl) : Pe C env m news (.Subscript e i pos) (fun _ => v) :=
  .of fun _ _ _ at_ z => Subscript_ (p.use at_ fun _ _ _ at_ => q.use at_ fun h tk t at_ => by
    have L : h.IsList ws (v :: vs).toArray := Scr.keeps _ _ at_.F.keep s
    exact tail_any L.typeIs slot_list_getitem.lookup (wpAny_getItem_list L (Int.le_refl 0) (by decide) (x := v) (by simp) (z _ _ 0 at_)) (hs _ _))
theorem Po.maxI {x y : Int} {t u : Tok} : Po C m news (call (.builtin "max") [.int x t, .int y u]) (fun t => .int (if y > x then y else x) t) := .of fun _ _ _ a k => PySem.max_two_ints rfl fun h tk hk => by
  have := k h tk (if y > x then u else t) (a.up hk)
  split <;> simpa [*] using this
theorem Po.geI {x y : Int} {t u : Tok} : Po C m news (compareOp .GtE (.int x t) (.int y u)) (fun _ => .bool (decide (y ≤ x))) := .of fun _ _ _ a k => PyProof.Rows.ge_int (k _ _ 0 a)
theorem Po.powI {x y : Int} {t u : Tok} (hn : 0 ≤ y) (hs : (Builtin.Int.intBits x : Int) * y ≤ 2 ^ 27) : Po C m news (binaryOp .Pow (.int x t) (.int y u)) (fun t => .int (x ^ y.toNat) t) := .of fun _ _ _ a k => PyProof.Rows.pow_int hn hs (k _ _ _ a)
theorem Pe.neg {e : Expr} {pos : Pos} {n : Int} {g : Tok → Tok} (p : Pe C env m news e (fun t => .int n (g t))) : Pe C env m news (.UnaryOp .USub e pos) (fun t => .int (-n) t) := .of fun _ _ _ a k => UnaryOp_ (p.use a fun _ _ _ a => PyProof.Rows.neg_int (k _ _ _ a))
theorem Pe.intOfB {e : Expr} {np pos : Pos} {b : Bool} (p : Pe C env m news e (fun _ => .bool b)) (hm : nsIn (hk.heap_39 w.params) mainGlobals (Str.ofString "int") = some Option.none) (ok : gloOk env (Str.ofString "int") = true)
    (hg : env.globals = mainGlobals := by rfl) (hb : env.builtins = builtinsNs := by rfl) (he : starEach [e] env = (false, eval e env) :: starEach [] env := by rfl)
    (hc : eval (.Call (.Name (Str.ofString "int") np) [e] [] pos) env = (do callWith pos (← eval (.Name (Str.ofString "int") np) env) [] (backTo pos (starEach [e] env)) (backToKw pos (keywordEach [] env))) := by rfl) : Pe C env m news (.Call (.Name (Str.ofString "int") np) [e] [] pos) (fun t => .int (if b then 1 else 0) t) :=
  .of fun _ _ _ a q => by
    refine Call_ ((Pe.blt hm boot_int (by decide) ok hg hb).use a fun _ _ _ a => ?_) hc
    exact Pv.callWith_type1 (args_cons (p.use a fun _ _ t a => args_nil (call_int_bool (q _ _ _ a))) he) he rfl
end
theorem ite_ok (x : Int) (b : Bool) : IntMulOk x (if b then 1 else 0) := IntMulOk.of_right (by cases b <;> exact intBits_le_64 (by decide) (by decide))
theorem pool_ok {ws : Addr} {vs : List Value} {ns : List Int} {tk : Tok} {H : Led} {R : Value → Led → Prop} (hi : IntsAre vs ns) (hl : Nat.ble vs.length 100 = true) (k : ∀ a o, (∀ p ∈ H, p.1 < a) → SrcObj o → R (.ref a) ((a, o) :: H)) : TellP w mean mg mb (Scr ws vs) 1 175 [.ref ws, .int 0 tk] H R := by
  refine TellP.def Scr.keeps (need := 0) (binds := [(Str.ofString "script", .ref ws), (Str.ofString "k", .int 0 tk)]) (by k_is) (by k_is) rfl rfl rfl rfl rfl (by decide) (fun D p r => ?_)
  refine Run.asg (Ev.pe Pe.int fun t0 => ?_) rfl
  refine Run.seq (fun m' n' => n' = H ∧ m' (Str.ofString "k") = some (.int 0 tk) ∧ ∃ c tc, m' (Str.ofString "cell") = some (.int c tc)) ?_ ?_
  · refine Run.if (Pt.cmp (Pe.loc rfl rfl) (Pe.call1 (Pe.loc rfl rfl) bootS_len (by k_is) rfl fun _ => Po.lenS p hl) fun _ _ => Po.ltI) (fun h => ?_) fun _ => Run.nil ⟨rfl, rfl, _, _, rfl⟩
    cases hi with
    | nil => exact absurd h (by decide)
    | cons n t hi => exact Run.asg (Ev.pe (Pe.itemS p (Pe.loc rfl rfl) (Pe.loc rfl rfl)) fun _ => Run.nil (Run.nil ⟨rfl, rfl, _, _, rfl⟩)) rfl
  rintro m' n' ⟨rfl, mk, c, tc, mc⟩
  refine Run.asg (Ev.pe (Pe.call2 (Pe.intOf (Pe.loc mc rfl) (by k_is) rfl) (Pe.intOf (Pe.bin (Pe.neg Pe.int) (Pe.loc mc rfl) fun _ _ => Po.subI) (by k_is) rfl) boot_max (by k_is) rfl fun _ _ => Po.maxI) fun tb => ?_) rfl
  have hB : 0 ≤ (if -1 - c > c then -1 - c else c) := by split <;> omega
  generalize (if -1 - c > c then -1 - c else c) = B at hB ⊢
  refine Run.asg (Ev.pe (Pe.bin (Pe.intOf (Pe.bin (Pe.bin (Pe.bin (Pe.bin (Pe.bin (Pe.intOf (Pe.loc rfl rfl) (by k_is) rfl) Pe.int fun _ _ => Po.modI (by decide)) (Pe.bin (Pe.bin Pe.int (Pe.loc mk rfl) fun _ _ => Po.mulI ?_) (Pe.loc mk rfl) fun _ _ => Po.mulI ?_) fun _ _ => Po.addI)
    (Pe.bin Pe.int (Pe.loc mk rfl) fun _ _ => Po.mulI ?_) fun _ _ => Po.addI) Pe.int fun _ _ => Po.addI) Pe.int fun _ _ => Po.mulI ?_) (by k_is) rfl) Pe.int fun _ _ => Po.modI (by decide)) fun tm => ?_) rfl
  · exact IntMulOk.of_right (intBits_le_64 (by decide) (by decide))
  · exact IntMulOk.of_right (intBits_le_64 (by decide) (by decide))
  · exact IntMulOk.of_right (intBits_le_64 (by decide) (by decide))
  · exact IntMulOk.of_right (intBits_le_64 (by decide) (by decide))
  refine Run.ret (Ev.list (Pl.cons (Pe.bin (Pe.loc rfl rfl) (Pe.intOfB (Pe.cmp (Pe.loc rfl rfl) (Pe.bin Pe.int Pe.int fun _ _ => Po.powI (by decide) (by decide +kernel)) fun _ _ => Po.geI) (by k_is) rfl) fun _ _ => Po.mulI (ite_ok _ _)) (Pl.cons (Pe.loc rfl rfl) Pl.nil)) (fun τ a ha => k a _ ha ⟨_, _, _, _, _, rfl, ?_, Int.fmod_nonneg_of_pos _ (by decide), Int.fmod_lt_of_pos _ (by decide)⟩) fun _ => rfl)
  split
  · rw [Int.mul_one]; exact hB
  · rw [Int.mul_zero]; exact Int.le_refl 0
/-- a loop over range(k), by what holds between the turns -/
theorem Run.forR {C : Cx w mean mg mb} {m : Mp} {news : Led} {K : Mp → Led → Prop} {R : Value → Led → Prop} {x : Str} {px : Pos} {iter : Expr} {body rest : List Stmt} {pos : Pos} (ok : locOk C.env x = true)
    (h : Ev C C.env m news iter fun v n => ∃ r k t u z, ∃ J : Nat → Mp → Led → Prop, v = .ref r ∧ (r, rangeObj (k : Nat) t u z) ∈ n ∧ k ≤ 100 ∧ J 0 m n ∧
      (∀ i m n I oI v, i < k → J i m n → (∀ p ∈ n, p.1 ≠ I) → Run C (put m x v) ((I, oI) :: n) body (fun m' n₁ => ∃ n', (∀ p ∈ (I, oI) :: n', p ∈ n₁) ∧ (∀ p ∈ n', p.1 ≠ I) ∧ J (i + 1) m' n') R) ∧
      (∀ m n, J k m n → Run C m n rest K R))
    (hs : ∀ x, foldedSetIterable iter C.env x = pure x := by intro _; rfl) : Run C m news (.For (.Name x px) iter body [] pos :: rest) K R := by
  obtain ⟨-, hx, -⟩ := locOk_of ok
  have hp : (C.env.scope.kind == .class || (C.env.scope.kind == .module && C.env.locals != C.env.globals)) = false := by rw [show C.env.scope.kind = .function from C.fn.hk]; rfl
  refine ⟨fun s Q E a kk q => wpAny_execs_cons (wpAny_noRaise (For_invV C.h₀ hx hp (h.go _ _ _ a fun v n h₁ tk₁ r a₁ => ?_) hs PassesOwn.never))⟩
  obtain ⟨rg, k, t, u, z, J, rfl, hm, hk, hJ, turn, fin⟩ := r
  have hn : Builtin.Range.rangeSize 0 k 1 = (k : Int) := by
    rw [rangeSize_one]
    split <;> omega
  have hsm : Builtin.Range.small 0 k 1 = true := by
    unfold Builtin.Range.small
    rw [hn]
    simp [Builtin.Range.rangeFitsLong]
    omega
  refine iter_rangeUnr (by with_unfolding_all rfl) (show IsRange h₁ rg 0 k 1 t u z from (a₁.N _ hm).1) hsm hn a₁.F a₁.N fun I hI => ?_
  have go : ∀ (k' i : Nat) (m : Mp) (n : Led), i + k' = k → (∀ p ∈ n, p.1 ≠ I) → J i m n →
      RangeRest C.prog w C.A (fun _ _ => False) C.h₀ C.env x body (fun f s₁ => match f with | .next => wpAny (model C.prog w) C.A (execs rest C.env) Q E s₁ | f => Q f s₁) { s with heap := h₁, toks := tk₁ } I 0 k k' i m n := by
    intro k'
    induction k' with
    | zero => exact fun i m n e hI hJ => RangeRest.zero fun h tk F N => (fin m n (by rw [← e]; exact hJ)).go _ _ _ ⟨F, N⟩ kk q
    | succ k' ih =>
      refine fun i m n e hI hJ => RangeRest.succ fun t h tk F N => ?_
      refine (turn i m n I _ _ (by omega) hJ hI).go _ _ _ ⟨F, N⟩ (fun m' n₂ h₃ tk₃ r a₃ => ?_) fun v m' n₂ h₃ tk₃ r a₃ => q _ _ _ _ _ r a₃
      obtain ⟨n', hs, ho', hJ'⟩ := r
      exact UnrEnd.intro (s₁ := { s with heap := h, toks := tk }) a₃.F a₃.N n' hs ho' (ih (i + 1) m' n' (by omega) ho' hJ')
  exact go k 0 m n (Nat.zero_add _) (fun p hp => Nat.ne_of_lt (hI p hp)) hJ
theorem bnd_two {G : Led} {v v' : Value} {b b' : Bool} (h : TrIn G v b) (h' : TrIn G v' b') : BndIn G [(Str.ofString "X", v), (Str.ofString "Y", v')] (fun n => if n = Str.ofString "X" then b else if n = Str.ofString "Y" then b' else false) := fun n => by
  by_cases e : n = Str.ofString "X"
  · subst e
    exact .inr ⟨v, rfl, h⟩
  by_cases e' : n = Str.ofString "Y"
  · subst e'
    exact .inr ⟨v', rfl, h'⟩
  · refine .inl ⟨?_, by simp only [if_neg e, if_neg e']⟩
    unfold valueAt
    have : ([(Str.ofString "X", v), (Str.ofString "Y", v')] : List (Str × Value)).find? (fun kv => kv.1 = n) = none := List.find?_eq_none.mpr fun kv hkv => by
      rcases List.mem_cons.mp hkv with rfl | hkv
      · simpa using fun h => e h.symm
      · rw [List.mem_singleton.mp hkv]
        simpa using fun h => e' h.symm
    rw [this]
    rfl
theorem Po.neSs {C : Cx w mean mg mb} {m : Mp} {news : Led} {x : Str} {t u : Tok} : Po C m news (compareOp .NotEq (.str x t) (.str x u)) (fun _ => .bool false) := by
  have := Po.neS (C := C) (m := m) (news := news) (x := x) (y := x) (t := t) (u := u)
  rwa [bne_self_eq_false] at this
def lawFn : List Stmt × Scope := match PySem.Challenge.pw_xw0158_01.main.body.getLast? with | some (.FunctionDef _ _ b _ _ _ sc _ _ _) => (b, sc) | _ => ([], ⟨.function, [], false, false, []⟩)
theorem law_kind : lawFn.2.kind = .function := rfl
theorem law_run {ws : Addr} {vs : List Value} {ns : List Int} (D : Dy w mean mg mb) (fa : Addr) (ccd : Value) (hs : Scr ws vs D.h₀) (hi : IntsAre vs ns) (hl : Nat.ble vs.length 100 = true) (r : (Cx.mk ⟨Str.ofString "law", lawFn.2, fa, ccd, law_kind⟩ [] D).room 31) :
    Run (Cx.mk ⟨Str.ofString "law", lawFn.2, fa, ccd, law_kind⟩ [] D) (ents [(Str.ofString "script", .ref ws)]) [] lawFn.1 (fun _ _ => False) (fun v _ => v = .bool true) := by
  refine Run.asg (Ev.call0 (need := 3) (Pe.glo (by k_is) rfl) (by k_is) (world_fn fun wa H _ hW => ?_) (r.le (by decide))) rfl
  refine Run.ifEt' (Et.not (Et.val (Ev.call (need := 13) (by k_is) (by k_is) rfl (Pl.cons (Pe.loc rfl rfl) Pl.nil) (r.le (by decide)) fun _ => told_right_ok hW ⟨_, rfl, (fun h => nomatch h), fun _ => ?_⟩)))
  refine Run.asg (Ev.callP (need := 1) hs (Pe.glo (by k_is) rfl) (by k_is) (El.pl (Pl.cons (Pe.loc rfl rfl) (Pl.cons Pe.int Pl.nil)) fun _ => pool_ok hi hl fun l o hlt hS => ?_) (r.le (by decide))) rfl
  have offH := off_lt hlt
  refine Run.asg (Ev.mono (R := fun v n => ∃ bd o' ob kvs β G, v = .ref bd ∧ n = (l, o') :: G ∧ SrcObj o' ∧ (∀ p ∈ H, p ∈ G) ∧ (∀ p ∈ G, p.1 ≠ l) ∧ (bd, ob) ∈ G ∧ Dct w ob kvs ∧ BndIn G kvs β ∧ (valueAt kvs (Str.ofString "X")).isSome ∧ (valueAt kvs (Str.ofString "Y")).isSome) ?_ ?_) rfl
  · refine Ev.dict2 (by decide) fun d ob0 hd => Ev.sub (news' := (l, o) :: (d, ob0) :: H) ?_ sw
    have nld : l < d := hd (l, o) (.head _)
    have offD : ∀ p ∈ H, p.1 ≠ d := fun p hp => Nat.ne_of_lt (hd p (.tail _ hp))
    have offb : ∀ p ∈ (d, ob0) :: H, p.1 ≠ l := fun p hp => by
      rcases List.mem_cons.mp hp with rfl | hp
      · exact Nat.ne_of_gt nld
      · exact offH p hp
    clear hd hlt
    refine Ev.mono (R := fun v n => ∃ o' X b, SrcObj o' ∧ n = (l, o') :: (d, ob0) :: X ∧ (∀ p ∈ H, p ∈ X) ∧ (∀ p ∈ X, p.1 ≠ l) ∧ (∀ p ∈ X, p.1 ≠ d) ∧ TrIn X v b) ?_ ?_
    · refine Ev.callX (need := 2) (Pe.glo (by k_is) rfl) (by k_is) ?_ (r.le (by decide))
      repeat walk_at "ev"
      refine one_ok hS (by walk_at "off") (by walk_at "mem") (by exact Nat.succ_pos _) rfl fun v o' hv hS' => ?_
      rcases List.mem_cons.mp hv with rfl | hv
      · exact ⟨o', _, _, hS', rfl, fun p hp => by walk_at "mem", by walk_at "off", by walk_at "off", _, _, rfl, by walk_at "mem", (fun y hy => absurd (show y ∈ ([] : List Value) from hy) List.not_mem_nil), rfl⟩
      rcases List.mem_cons.mp hv with rfl | hv
      · exact ⟨o', _, _, hS', rfl, fun p hp => by walk_at "mem", by walk_at "off", by walk_at "off", _, _, rfl, by walk_at "mem", (fun y hy => by rw [List.mem_singleton.mp hy]; exact ⟨_, _, rfl⟩), rfl⟩
      · rw [List.mem_singleton.mp hv]
        exact ⟨o', _, _, hS', rfl, fun p hp => by walk_at "mem", by walk_at "off", by walk_at "off", _, _, rfl, by walk_at "mem", (fun y hy => by
          rcases List.mem_cons.mp hy with rfl | hy
          · exact ⟨_, _, rfl⟩
          · rw [List.mem_singleton.mp hy]; exact ⟨_, _, rfl⟩), rfl⟩
    rintro v1 n ⟨o1, X1, b1, hS1, rfl, s1, q1, q2, t1⟩
    clear offb offH offD hS hW
    have offb : ∀ p ∈ (d, ob0) :: X1, p.1 ≠ l := fun p hp => by
      rcases List.mem_cons.mp hp with rfl | hp
      · exact Nat.ne_of_gt nld
      · exact q1 p hp
    refine Ev.mono (R := fun v n => ∃ o' X b, SrcObj o' ∧ n = (l, o') :: (d, ob0) :: X ∧ (∀ p ∈ X1, p ∈ X) ∧ (∀ p ∈ X, p.1 ≠ l) ∧ (∀ p ∈ X, p.1 ≠ d) ∧ TrIn X v b) ?_ ?_
    · refine Ev.callX (need := 2) (Pe.glo (by k_is) rfl) (by k_is) ?_ (r.le (by decide))
      repeat walk_at "ev"
      refine one_ok hS1 (by walk_at "off") (by walk_at "mem") (by exact Nat.succ_pos _) rfl fun v o' hv hS' => ?_
      rcases List.mem_cons.mp hv with rfl | hv
      · exact ⟨o', _, _, hS', rfl, fun p hp => by walk_at "mem", by walk_at "off", by walk_at "off", _, _, rfl, by walk_at "mem", (fun y hy => by rw [List.mem_singleton.mp hy]; exact ⟨_, _, rfl⟩), rfl⟩
      · rw [List.mem_singleton.mp hv]
        exact ⟨o', _, _, hS', rfl, fun p hp => by walk_at "mem", by walk_at "off", by walk_at "off", _, _, rfl, by walk_at "mem", (fun y hy => by rw [List.mem_singleton.mp hy]; exact ⟨_, _, rfl⟩), rfl⟩
    rintro v2 n ⟨o2, X2, b2, hS2, rfl, s2, z1, z2, t2⟩
    refine ⟨(l, o2) :: X2, sw, fun p hp => ?_, fun o' hd => ⟨d, o2, o', _, _, X2 ++ [(d, o')], rfl, rfl, hS2, fun p hp => mem_l _ (s2 p (s1 p hp)), off_app z1 nld, mem_e, hd, bnd_two (t1.mono fun p hp => mem_l _ (s2 p hp)) (t2.mono mem_l), rfl, rfl⟩⟩
    rcases List.mem_cons.mp hp with rfl | hp
    · exact Nat.ne_of_lt nld
    · exact z2 p hp
  rintro v n ⟨bd, o1, ob, kvs, β, G, rfl, rfl, hS1, sG, offG, hb, hd, hB, hX, hY⟩
  have hWG := hW.mono sG
  clear hS hW offH hlt sG
  -- two turns
  refine Run.forR rfl (Ev.callT1 boot_range (by k_is) rfl (Ev.pe Pe.int fun t => range_back fun rg t1 t2 hrg => ⟨rg, 2, _, _, _, fun _ m n => ∃ o', n = (l, o') :: (G ++ [(rg, rangeObj 2 t1 t t2)]) ∧ SrcObj o' ∧ m (Str.ofString "source") = some (.ref l) ∧ m (Str.ofString "world") = some (.ref wa) ∧ m (Str.ofString "bounds") = some (.ref bd),
    rfl, mem_e, by decide, ⟨o1, rfl, hS1, rfl, rfl, rfl⟩, ?_, ?_⟩))
  · rintro i m n I oI v hi ⟨o', rfl, hS', m1, m2, m3⟩ hI
    have offI : ∀ p ∈ (I, oI) :: (G ++ [(rg, rangeObj 2 t1 t t2)]), p.1 ≠ l := fun p hp => by
      rcases List.mem_cons.mp hp with rfl | hp
      · exact (hI (l, o') (.head _)).symm
      · exact off_snoc offG hrg p hp
    have up : ∀ p ∈ G, p ∈ (I, oI) :: (G ++ [(rg, rangeObj 2 t1 t t2)]) := fun p hp => .tail _ (mem_l _ hp)
    refine Run.sub (news' := (l, o') :: (I, oI) :: (G ++ [(rg, rangeObj 2 t1 t t2)])) ?_ sw
    refine Run.ifEt' (Et.or (Et.not (Et.val (Ev.call (need := 11) (by k_is) (by k_is) rfl (Pl.cons (Pe.loc m1 rfl) (Pl.cons (Pe.loc m3 rfl) Pl.nil)) (r.le (by decide)) fun _ => parts_right_ok hS' offI (up _ hb) hd (hB.mono up) hX hY fun o2 hS2 => ⟨_, rfl, (fun h => nomatch h), fun _ =>
      Et.or (Et.not (Et.val (Ev.call (need := 28) (by k_is) (by k_is) rfl (Pl.cons (Pe.loc m1 rfl) (Pl.cons (Pe.loc m2 rfl) (Pl.cons (Pe.loc m3 rfl) Pl.nil))) (r.le (by decide)) fun _ => bounds_right_ok hS2 offI (up _ hb) hd (hB.mono up) hX hY (hWG.mono up) fun o3 hS3 => ⟨_, rfl, (fun h => nomatch h), fun _ =>
        Et.orN ⟨(fun h => nomatch h), fun _ => Run.nil ⟨_, sw, fun p hp => ?_, o3, rfl, hS3, m1, m2, m3⟩⟩⟩)))⟩))))
    rcases List.mem_cons.mp hp with rfl | hp
    · exact hI (l, o') (.head _)
    · exact hI p (.tail _ hp)
  rintro m n ⟨o2, rfl, hS2, m1, m2, m3⟩
  have offR : ∀ p ∈ G ++ [(rg, rangeObj 2 t1 t t2)], p.1 ≠ l := off_snoc offG hrg
  refine Run.asg (Ev.call (need := 1) (by k_is) (by k_is) rfl (Pl.cons (Pe.loc m1 rfl) (Pl.cons Pe.int Pl.nil)) (r.le (by decide)) fun _ => take_ok hS2 offR (by decide) (by decide) fun v tr o4 h0 h1 hS4 => ?_) rfl
  have hv : v.natAbs.log2 < 1920 := by
    have := Nat.log2_le_self v.natAbs
    omega
  refine Run.ifEt' (Et.cmp (Ev.call (need := 1) (by k_is) (by k_is) rfl (Pl.cons (Pe.loc rfl rfl) Pl.nil) (r.le (by decide)) fun _ => region_int hv fun t3 => Ev.pe (Pe.bin Pe.str (Pe.strOf (Pe.loc rfl rfl) hv (by k_is) rfl) fun _ _ => Po.addS (mark_fits hv)) fun t4 => ⟨false, Po.neSs, (fun h => nomatch h), fun _ => ?_⟩))
  exact Run.ret (Ev.call (need := 9) (by k_is) (by k_is) rfl (Pl.cons (Pe.loc m1 rfl) (Pl.cons (Pe.loc m2 rfl) (Pl.cons (Pe.loc m3 rfl) Pl.nil))) (r.le (by decide)) fun _ => rows_right_ok hS4 offR (mem_l _ hb) hd (hB.mono mem_l) hX hY (hWG.mono mem_l) rfl)
theorem law_top {q prog : Program} {g : Heap} {fa ws : Addr} {ccd : Value} {vs : List Value} {ns : List Int} {s : Shared} {Q : Flow → Shared → Prop} {E : Value → Shared → Prop} (qi : importsNone q = true) (B : Below callerA g [] g) (X : (hk.heap_39 w.params).In g) (T : Top q (looseW q [Str.ofString "Adt"]) mean mg mb g)
    (hl : g.IsList ws vs.toArray) (hi : IntsAre vs ns) (hn : ¬(63 : Int) < (ns.length : Int)) (F : Fr g g.objs.size s.heap (fun x => List.lookup x [(Str.ofString "script", Value.ref ws)].reverse)) (N : News g g.objs.size s.heap [])
    (k : ∀ h tk, (∀ b o, g.get? b = some o → h.get? b = some o) → Q (.ret (.bool true)) { s with heap := h, toks := tk }) :
    wpAny (model prog w) (callerA.deeper (envOf (Str.ofString "law") lawFn.2 g.objs.size fa ccd)) (execs lawFn.1 (envOf (Str.ofString "law") lawFn.2 g.objs.size fa ccd)) Q E s := by
  have hb : Nat.ble vs.length 100 = true := Nat.ble_eq_true_of_le (by have := hi.length; omega)
  refine (law_run ⟨q, qi, prog, callerA.depth + 1, callerA.units + 3, callerA.guards, g.objs.size, [], callerA, g, g, B, X, T⟩ fa ccd hl hi hb ⟨by show callerA.depth + 1 + 31 < recursionLimit; decide +kernel, by show callerA.units + 3 + 8 * 31 < cLine; decide +kernel⟩).go s Q E ⟨F, N⟩ ?_ ?_
  · intro m' n h tk hK
    exact hK.elim
  · rintro v m' n h tk rfl a
    exact k h tk a.F.keep
theorem good_true {c : ClaimW} {cl : Str → Option Addr} {me : ExcName → Option Value} {args : List WData} {s₁ : Shared} {h : Heap} {tk : Nat} (hr : ∀ cls, c.raises args cls = false) (hp : c.post args (.bool true) args = true) (hg : s₁.gens = #[]) (hk : ∀ b o, s₁.heap.get? b = some o → h.get? b = some o) :
    GoodW c cl me args s₁ (.ok (.ret (.bool true))) { s₁ with heap := h, toks := tk } :=
  ⟨.inl ⟨_, _, [], rfl, hr, ReadsW.bool true, hp, fun _ => ⟨List.nodup_nil, fun _ hm => nomatch hm⟩⟩, hk, rfl, hg⟩
def hd.tw16894668238130281675 : Nat := 0
def hd.tw17134546804617137983 : Nat := 0
def hd.tw4521311704260346916 : Nat := 0
def hd.tw909924351560934390 : Nat := 0
def hd.tw8071622481548722988 : Nat := 0
def hd.tw2782273408667855022 : Nat := 0
def hd.tw2463646050095909150 : Nat := 0
def hd.tw13181220554201973888 : Nat := 0
def hd.tw7269190750281295013 : Nat := 0
def hd.tw5615920466096486118 : Nat := 0
def hd.tw11869253278440568778 : Nat := 0
def hd.tw5987830557187376847 : Nat := 0
def hd.tw11631947586910100387 : Nat := 0
def hd.tw17447410573909459338 : Nat := 0
def hd.tw16007149819294483003 : Nat := 0
def hd.tw9386895884608548742 : Nat := 0
def hd.tw6411954120941647267 : Nat := 0
def hd.tw6082411064634330575 : Nat := 0
def hd.tw5278057926702712004 : Nat := 0
def hd.tw991583007596301734 : Nat := 0
def hd.tw4851647983119433812 : Nat := 0
def hd.tw15529170255622000948 : Nat := 0
def hd.tw13483081372092288885 : Nat := 0
def hd.tw728884934406724761 : Nat := 0
def hd.tw11054480109507316185 : Nat := 0
def hd.tw6394381022753523788 : Nat := 0
def hd.tw4478166936697009375 : Nat := 0
def hd.tw17054507655720011243 : Nat := 0
def hd.tw10458740792067480800 : Nat := 0
def hd.tw4225703048834024713 : Nat := 0
def hd.tw17542962492245011380 : Nat := 0
def hd.tw1860674893733999873 : Nat := 0
def hd.tw2114630138375439770 : Nat := 0
def hd.tw15153279154761372571 : Nat := 0
def hd.tw18350433093344046624 : Nat := 0
set_option Elab.async true
set_option maxRecDepth 100000 in
set_option maxHeartbeats 8000000 in
theorem hd : PySem.Challenge.rw_xw0158_01.Holds := by
  refine hk ⟨rfl, ?_⟩
  w_on
  o_head (kHook hk.heap_39 [2, 3, 15, 17, 18, 20, 21, 22, 24, 25, 27, 28, 29, 31, 32, 34, 35, 36, 39, 40, 41, 43, 44, 46, 47, 48, 50, 51, 53, 54, 55, 57, 58, 60, 61, 62, 64, 65, 67, 68, 69, 71, 72, 74, 75, 76, 78, 79, 81, 82, 83, 86, 87, 88, 90, 91, 93, 94, 102, 103, 104, 106, 107, 109, 110, 111, 112, 113, 114, 115, 125, 126, 128, 129, 131, 132, 133, 134, 135, 136, 137, 147, 148, 150, 151, 153, 154, 155, 157, 158, 160, 161, 162, 163, 164, 165, 166, 169, 171, 172, 174, 175, 176, 178, 179, 181, 182, 183, 185, 186, 188, 189, 190, 192, 193, 195, 196, 197, 200, 201, 202, 204, 205, 207, 208, 209, 211, 212, 214, 215, 216, 219, 220, 221, 223, 224, 226, 227, 228, 230, 231, 233, 234] (fun _ => by kernel_rfl))
  (case hw => w_witness2)
  w_strict k_go0
  refine' law_top ?lz1 ?lz2 ?lz3 ?lz4 ?lz5 ?lz6 ?lz7 ?lz8 ?lz9 ?lz10
  case lz4 => assumption
  case lz8 => assumption
  case lz5 => assumption
  case lz6 => assumption
  case lz7 => assumption
  case lz9 => assumption
  case lz1 => kernel_rfl
  case lz2 => assumption
  case lz3 => assumption
  case lz10 => exact fun h tk hk => good_true (fun _ => rfl) (by first | wrow_post | exact postW_of (X := true) (by wrow_shape) (by wtm_val) rfl | exact postW_of (X := true) rfl rfl rfl) (by assumption) hk
end Mine
theorem PySem.Challenge.cw_xw0158_01_holds : PySem.Challenge.rw_xw0158_01.Holds :=
  Mine.hd
