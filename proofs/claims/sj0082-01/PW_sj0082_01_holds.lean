import PyProof.Rows.All
import Wide.All
import OpenK.AllK
import Wide.FinOn
import PySem.Challenge.RW_sj0082_01
open PySem PySem.W PySem.Calls PyProof.Rows
set_option Elab.async false
set_option linter.unusedVariables false
set_option maxRecDepth 100000
set_option maxHeartbeats 8000000

namespace Mine

abbrev Fz := Addr → Option Obj

inductive V where
  | lit (v : Value)
  | bool (b : Bool)
  | int (i : Int)
  | ref (a : Addr)
  | list (l : List V)
  | tup (l : List V)

abbrev lobj (arr : Array Value) (n : Nat) : Obj := { cls := .type "list", dict := none, data := .seq arr n, slots := #[] }
abbrev tobj (arr : Array Value) (n : Nat) : Obj := { cls := .type "tuple", dict := none, data := .seq arr n, slots := #[] }

mutual
inductive Rep (W : Fz) : Value → V → Prop
  | lit (v : Value) : Rep W v (.lit v)
  | bool (b : Bool) : Rep W (.bool b) (.bool b)
  | int (i : Int) (t : Tok) : Rep W (.int i t) (.int i)
  | ref (a : Addr) : Rep W (.ref a) (.ref a)
  | list {a : Addr} {arr : Array Value} {n : Nat} {l : List V} : W a = some (lobj arr n) → RepL W arr.toList l → Rep W (.ref a) (.list l)
  | tup {a : Addr} {arr : Array Value} {n : Nat} {l : List V} : W a = some (tobj arr n) → RepL W arr.toList l → Rep W (.ref a) (.tup l)
inductive RepL (W : Fz) : List Value → List V → Prop
  | nil : RepL W [] []
  | cons {v : Value} {x : V} {vs : List Value} {l : List V} : Rep W v x → RepL W vs l → RepL W (v :: vs) (x :: l)
end

mutual
theorem Rep.mono {W W' : Fz} (h : ∀ a o, W a = some o → W' a = some o) : ∀ {v : Value} {x : V}, Rep W v x → Rep W' v x
  | _, _, .lit v => .lit v
  | _, _, .bool b => .bool b
  | _, _, .int i t => .int i t
  | _, _, .ref a => .ref a
  | _, _, .list e r => .list (h _ _ e) (RepL.mono h r)
  | _, _, .tup e r => .tup (h _ _ e) (RepL.mono h r)
theorem RepL.mono {W W' : Fz} (h : ∀ a o, W a = some o → W' a = some o) : ∀ {vs : List Value} {l : List V}, RepL W vs l → RepL W' vs l
  | _, _, .nil => .nil
  | _, _, .cons a r => .cons (Rep.mono h a) (RepL.mono h r)
end

theorem RepL.length {W : Fz} : ∀ {vs : List Value} {l : List V}, RepL W vs l → vs.length = l.length
  | _, _, .nil => rfl
  | _, _, .cons _ r => by simp [RepL.length r]
theorem RepL.get {W : Fz} : ∀ {vs : List Value} {l : List V} {i : Nat} {x : V}, RepL W vs l → l[i]? = some x → ∃ v, vs[i]? = some v ∧ Rep W v x
  | _, _, _, _, .nil, e => by simp at e
  | _, _, 0, _, .cons a _, e => by simp at e; subst e; exact ⟨_, rfl, a⟩
  | _, _, i+1, _, .cons _ r, e => by simpa using RepL.get r (i := i) (by simpa using e)
theorem RepL.append {W : Fz} : ∀ {vs us : List Value} {l k : List V}, RepL W vs l → RepL W us k → RepL W (vs ++ us) (l ++ k)
  | _, _, _, _, .nil, r => r
  | _, _, _, _, .cons a q, r => .cons a (RepL.append q r)
theorem RepL.take {W : Fz} : ∀ {vs : List Value} {l : List V}, RepL W vs l → ∀ n, RepL W (vs.take n) (l.take n)
  | _, _, .nil, _ => by simpa using RepL.nil
  | _, _, .cons _ _, 0 => .nil
  | _, _, .cons a r, n+1 => .cons a (RepL.take r n)
theorem RepL.drop {W : Fz} : ∀ {vs : List Value} {l : List V}, RepL W vs l → ∀ n, RepL W (vs.drop n) (l.drop n)
  | _, _, .nil, _ => by simpa using RepL.nil
  | _, _, .cons a r, 0 => .cons a r
  | _, _, .cons _ r, n+1 => RepL.drop r n
theorem RepL.set {W : Fz} : ∀ {vs : List Value} {l : List V}, RepL W vs l → ∀ (n : Nat) {v : Value} {x : V}, Rep W v x → RepL W (vs.set n v) (l.set n x)
  | _, _, .nil, _, _, _, _ => by simpa using RepL.nil
  | _, _, .cons _ r, 0, _, _, h => .cons h r
  | _, _, .cons a r, n+1, _, _, h => .cons a (RepL.set r n h)
theorem RepL.replicate {W : Fz} {v : Value} {x : V} (h : Rep W v x) : ∀ n, RepL W (List.replicate n v) (List.replicate n x)
  | 0 => .nil
  | n+1 => .cons h (RepL.replicate h n)

/-- the built-ins that the text asks for by name -/
def biNames : List Str := ["len", "range", "abs", "min", "int", "enumerate"]
/-- the surroundings of every judgement -/
structure G (p : Program) where
  prog : Program
  w : World
  loose : List Str
  mean : ExcName → Option Value
  mg : Str → Option Value
  mb : Str → Option Value
  hB : Heap
  s0 : Shared
  T : Top p loose mean mg mb hB
  bi : ∀ x, x ∈ biNames → mg x = none

structure St where
  m : Str → Option V
  σ : Addr → Option (List V)

structure R0 {p : Program} (g : G p) (Z W : Fz) (σ : Addr → Option (List V)) (s : Shared) : Prop where
  rest : ∃ h tk, s = { g.s0 with heap := h, toks := tk }
  base : ∀ b o, g.hB.get? b = some o → s.heap.get? b = some o
  z : ∀ a o, Z a = some o → s.heap.get? a = some o
  w : ∀ a o, W a = some o → s.heap.get? a = some o
  mu : ∀ a l, σ a = some l → ∃ arr n, s.heap.get? a = some (lobj arr n) ∧ RepL W arr.toList l ∧ Z a = none ∧ W a = none ∧ g.hB.get? a = none

structure R {p : Program} (g : G p) (L : Addr) (Z W : Fz) (S : St) (s : Shared) : Prop extends R0 g Z W S.σ s where
  ns : ∃ mr, s.heap.Ns L mr ∧ ∀ x v, S.m x = some v → ∃ r, mr x = some r ∧ Rep W r v
  lz : Z L = none
  lw : W L = none
  lb : g.hB.get? L = none
  lm : S.σ L = none

structure Ext (Z W W' : Fz) : Prop where
  up : ∀ a o, W a = some o → W' a = some o
  fresh : ∀ a o, W' a = some o → W a = some o ∨ Z a = none
theorem Ext.refl {Z W : Fz} : Ext Z W W := ⟨fun _ _ e => e, fun _ _ e => .inl e⟩
theorem Ext.trans {Z W W' W'' : Fz} (x : Ext Z W W') (y : Ext Z W' W'') : Ext Z W W'' :=
  ⟨fun a o e => y.up a o (x.up a o e), fun a o e => (y.fresh a o e).elim (fun e' => x.fresh a o e') .inr⟩

theorem R0.keeps {p : Program} {g : G p} {Z W : Fz} {σ : Addr → Option (List V)} {s : Shared} (r : R0 g Z W σ s) {h' : Heap} {tk' : Nat}
    (k : ∀ b o, s.heap.get? b = some o → h'.get? b = some o) : R0 g Z W σ { s with heap := h', toks := tk' } where
  rest := by obtain ⟨h, tk, rfl⟩ := r.rest; exact ⟨h', tk', rfl⟩
  base := fun b o e => k _ _ (r.base b o e)
  z := fun b o e => k _ _ (r.z b o e)
  w := fun b o e => k _ _ (r.w b o e)
  mu := fun a l e => let ⟨arr, n, h1, h2⟩ := r.mu a l e; ⟨arr, n, k _ _ h1, h2⟩
theorem R.keeps {p : Program} {g : G p} {L : Addr} {Z W : Fz} {S : St} {s : Shared} (r : R g L Z W S s) {h' : Heap} {tk' : Nat}
    (k : ∀ b o, s.heap.get? b = some o → h'.get? b = some o) : R g L Z W S { s with heap := h', toks := tk' } where
  toR0 := r.toR0.keeps k
  ns := let ⟨mr, h1, h2⟩ := r.ns; ⟨mr, h1.keeps k, h2⟩
  lz := r.lz
  lw := r.lw
  lb := r.lb
  lm := r.lm
theorem R.tk {p : Program} {g : G p} {L : Addr} {Z W : Fz} {S : St} {s : Shared} (r : R g L Z W S s) {tk' : Nat} : R g L Z W S { s with toks := tk' } :=
  r.keeps (h' := s.heap) fun _ _ e => e
theorem R.push {p : Program} {g : G p} {L : Addr} {Z W : Fz} {S : St} {s : Shared} (r : R g L Z W S s) (o : Obj) {tk' : Nat} : R g L Z W S { s with heap := s.heap.push o, toks := tk' } :=
  r.keeps (h' := s.heap.push o) fun _ _ e => Heap.get?_push_of_some _ e

/-- what the level of a frame allows -/
structure Lv (n : Nat) (A : Around) : Prop where
  hh : A.handled = none
  dep : A.depth + n ≤ 900
  un : A.units + 40 * n ≤ 9000
theorem Lv.le {n m : Nat} {A : Around} (l : Lv n A) (h : m ≤ n) : Lv m A := ⟨l.hh, by have := l.dep; omega, by have := l.un; omega⟩

structure Cx where
  lv : Nat
  name : Str
  scope : Scope
  fn : scope.kind = .function
  /-- what else is known of the frame -/
  ax : Around → Addr → Prop
structure LvC (c : Cx) (A : Around) (L : Addr) : Prop extends Lv c.lv A where
  ax : c.ax A L

abbrev Cx.env (c : Cx) (L a : Addr) (cd : Value) : Env := envOf c.name c.scope L a cd

def Post {p : Program} (g : G p) (L : Addr) (Z W : Fz) {α β : Type} (ρ : Fz → α → β → Prop) (Q : β → St → Prop) (Q' : α → Shared → Prop) : Prop :=
  ∀ W' x b S' s', Ext Z W W' → ρ W' x b → R g L Z W' S' s' → Q b S' → Q' x s'

/-- the judgement: from every state that S tells, the tree ends in what Q tells, and never raises -/
def Wp {p : Program} (g : G p) (c : Cx) {α β : Type} (ρ : Fz → α → β → Prop) (t : Env → Sem α) (S : St) (Q : β → St → Prop) : Prop :=
  ∀ (A : Around) (L a : Addr) (cd : Value) (Z W : Fz) (s : Shared) (Q' : α → Shared → Prop), LvC c A L → R g L Z W S s → Post g L Z W ρ Q Q' →
    wpAny (model g.prog g.w) A (t (c.env L a cd)) Q' (fun _ _ => False) s

def Op1 {p : Program} (g : G p) (c : Cx) {α β : Type} (ρ : Fz → α → β → Prop) (t : Value → Sem α) (x : V) (S : St) (Q : β → St → Prop) : Prop :=
  ∀ (A : Around) (L : Addr) (Z W : Fz) (s : Shared) (Q' : α → Shared → Prop) (v : Value), LvC c A L → R g L Z W S s → Rep W v x → Post g L Z W ρ Q Q' →
    wpAny (model g.prog g.w) A (t v) Q' (fun _ _ => False) s
def Op2 {p : Program} (g : G p) (c : Cx) {α β : Type} (ρ : Fz → α → β → Prop) (t : Value → Value → Sem α) (x y : V) (S : St) (Q : β → St → Prop) : Prop :=
  ∀ (A : Around) (L : Addr) (Z W : Fz) (s : Shared) (Q' : α → Shared → Prop) (v u : Value), LvC c A L → R g L Z W S s → Rep W v x → Rep W u y → Post g L Z W ρ Q Q' →
    wpAny (model g.prog g.w) A (t v u) Q' (fun _ _ => False) s
def OpN {p : Program} (g : G p) (c : Cx) {α β : Type} (ρ : Fz → α → β → Prop) (t : List Value → Sem α) (xs : List V) (S : St) (Q : β → St → Prop) : Prop :=
  ∀ (A : Around) (L : Addr) (Z W : Fz) (s : Shared) (Q' : α → Shared → Prop) (vs : List Value), LvC c A L → R g L Z W S s → RepL W vs xs → Post g L Z W ρ Q Q' →
    wpAny (model g.prog g.w) A (t vs) Q' (fun _ _ => False) s

inductive F where
  | next | brk | cont
  | ret (v : V)
inductive RepF (W : Fz) : Flow → F → Prop
  | next : RepF W .next .next
  | brk : RepF W .brk .brk
  | cont : RepF W .cont .cont
  | ret {v : Value} {x : V} : Rep W v x → RepF W (.ret v) (.ret x)
def RepB (_ : Fz) (a b : Bool) : Prop := a = b
def RepU (_ : Fz) (_ _ : Unit) : Prop := True

abbrev WE {p : Program} (g : G p) (c : Cx) (e : Expr) (S : St) (Q : V → St → Prop) : Prop := Wp g c Rep (fun env => eval e env) S Q
abbrev WT {p : Program} (g : G p) (c : Cx) (e : Expr) (S : St) (Q : Bool → St → Prop) : Prop := Wp g c RepB (fun env => isTrue e env (eval e env)) S Q
abbrev WX {p : Program} (g : G p) (c : Cx) (st : Stmt) (S : St) (Q : F → St → Prop) : Prop := Wp g c RepF (fun env => exec st env) S Q
abbrev WS {p : Program} (g : G p) (c : Cx) (sts : List Stmt) (S : St) (Q : F → St → Prop) : Prop := Wp g c RepF (fun env => execs sts env) S Q
/-- the arguments of a call, the items of a display: one behind the other -/
abbrev WA {p : Program} (g : G p) (c : Cx) (pos : Pos) (es : List Expr) (S : St) (Q : List V → St → Prop) : Prop := Wp g c RepL (fun env => spliced (backTo pos (starEach es env))) S Q

section
variable {p : Program} {g : G p} {c : Cx} {α β : Type} {ρ : Fz → α → β → Prop} {S : St}

theorem Post.ext {L : Addr} {Z W W₁ : Fz} {Q : β → St → Prop} {Q' : α → Shared → Prop} (h : Post g L Z W ρ Q Q') (e : Ext Z W W₁) : Post g L Z W₁ ρ Q Q' :=
  fun W' x b S' s' e' r rr q => h W' x b S' s' (e.trans e') r rr q
theorem Post.here {L : Addr} {Z W : Fz} {Q : β → St → Prop} {Q' : α → Shared → Prop} (h : Post g L Z W ρ Q Q') {x : α} {b : β} {s' : Shared} (r : ρ W x b) (rr : R g L Z W S s') (q : Q b S) : Q' x s' :=
  h W x b S s' .refl r rr q

theorem Wp.mono {t : Env → Sem α} {Q Q₁ : β → St → Prop} (h : Wp g c ρ t S Q) (k : ∀ b S', Q b S' → Q₁ b S') : Wp g c ρ t S Q₁ :=
  fun A L a cd Z W s Q' lv r po => h A L a cd Z W s Q' lv r fun W' x b S' s' e r' rr q => po W' x b S' s' e r' rr (k _ _ q)

theorem wS_nil {Q : F → St → Prop} (h : Q .next S) : WS g c [] S Q := fun _ _ _ _ _ _ _ _ _ r po => wpAny_execs_nil (po.here .next r h)
theorem wS_cons {st : Stmt} {rest : List Stmt} {Q : F → St → Prop}
    (h : WX g c st S (fun f S' => match f with | .next => WS g c rest S' Q | f => Q f S')) : WS g c (st :: rest) S Q :=
  fun A L a cd Z W s Q' lv r po => wpAny_execs_cons (h A L a cd Z W s _ lv r fun W' x b S' s' e r' rr q => by
    cases r' with
    | next => exact q A L a cd Z W' s' Q' lv rr (po.ext e)
    | brk => exact po _ _ _ _ _ e .brk rr q
    | cont => exact po _ _ _ _ _ e .cont rr q
    | ret hr => exact po _ _ _ _ _ e (.ret hr) rr q)

theorem wX_return {e : Expr} {pos : Pos} {Q : F → St → Prop} (h : WE g c e S (fun v S' => Q (.ret v) S')) : WX g c (.Return (some e) pos) S Q :=
  fun A L a cd Z W s Q' lv r po => wpAny_Return_some (h A L a cd Z W s _ lv r fun W' _ b S' s' e r' rr q => po W' _ (.ret b) S' s' e (.ret r') rr q)

theorem wX_if {test : Expr} {body orelse : List Stmt} {pos : Pos} {Q : F → St → Prop}
    (h : WT g c test S (fun b S' => if b = true then WS g c body S' Q else WS g c orelse S' Q)) : WX g c (.If test body orelse pos) S Q :=
  fun A L a cd Z W s Q' lv r po => wpAny_If (h A L a cd Z W s _ lv r fun W' x b S' s' e r' rr q => by
    cases r'
    cases x with
    | true => exact q A L a cd Z W' s' Q' lv rr (po.ext e)
    | false => exact q A L a cd Z W' s' Q' lv rr (po.ext e))

theorem wE_int {i : Int} {k : Nat} {pos : Pos} {Q : V → St → Prop} (h : Q (.int i) S) : WE g c (.Constant (.int i) k pos) S Q :=
  fun _ _ _ _ _ _ _ _ _ r po => wpAny_Constant_int (po.here (.int _ _) r.tk h)
theorem wE_bool {i : Bool} {k : Nat} {pos : Pos} {Q : V → St → Prop} (h : Q (.bool i) S) : WE g c (.Constant (.bool i) k pos) S Q :=
  fun _ _ _ _ _ _ _ _ _ r po => Constant_bool (po.here (.bool _) r h)
theorem wE_none {k : Nat} {pos : Pos} {Q : V → St → Prop} (h : Q (.lit .none) S) : WE g c (.Constant .none k pos) S Q :=
  fun _ _ _ _ _ _ _ _ _ r po => Constant_none (po.here (.lit _) r h)

/-- a local name -/
theorem wE_local {x : Str} {pos : Pos} {v : V} {Q : V → St → Prop} (hv : S.m x = some v) (h : Q v S)
    (hl : c.scope.names.lookup x = some .local := by rfl) (hd : (x == ("__debug__" : Str)) = false := by decide) : WE g c (.Name x pos) S Q :=
  fun A L a cd Z W s Q' lv r po => by
    obtain ⟨mr, hn, hm⟩ := r.ns
    obtain ⟨rv, e, rp⟩ := hm x v hv
    exact wpAny_Name (wpAny_loadName_local (env := c.env L a cd) c.fn hl hn e (po.here rp r h)) hd
/-- a name of the module -/
theorem wE_global {x : Str} {pos : Pos} {v : Value} {Q : V → St → Prop} (hv : g.mg x = some v) (h : Q (.lit v) S)
    (hl : c.scope.names.lookup x = some .globalImplicit := by rfl) (hd : (x == ("__debug__" : Str)) = false := by decide) : WE g c (.Name x pos) S Q :=
  fun A L a cd Z W s Q' lv r po =>
    Calls.Name_function_global (env := c.env L a cd) c.fn hl (Calls.loadGlobal_global (mg := g.mg) (g.T.g.keeps r.base) hv (po.here (.lit _) r h)) hd
theorem wE_builtin {x : Str} {pos : Pos} {v : Value} {Q : V → St → Prop} (hf : g.mg x = none) (hv : bootBuiltins x = some v) (h : Q (.lit v) S)
    (hl : c.scope.names.lookup x = some .globalImplicit := by rfl) (hn : x ≠ "__name__" := by decide) (hd : (x == ("__debug__" : Str)) = false := by decide) : WE g c (.Name x pos) S Q :=
  fun A L a cd Z W s Q' lv r po =>
    Calls.Name_function_global (env := c.env L a cd) c.fn hl (Calls.loadGlobal_builtin (mg := g.mg) (mb := g.mb) (g.T.g.keeps r.base) hf (g.T.b.keeps r.base) ((g.T.builtins x hn).trans hv) (po.here (.lit _) r h)) hd

theorem wE_binop {l q : Expr} {op : Operator} {pos : Pos} {Q : V → St → Prop} (h : WE g c l S (fun x S₁ => WE g c q S₁ (fun y S₂ => Op2 g c Rep (binaryOp op) x y S₂ Q))) :
    WE g c (.BinOp l op q pos) S Q :=
  fun A L a cd Z W s Q' lv r po => wpAny_BinOp (h A L a cd Z W s _ lv r fun W₁ v x S₁ s₁ e₁ r₁ rr₁ h₁ =>
    h₁ A L a cd Z W₁ s₁ _ lv rr₁ fun W₂ u y S₂ s₂ e₂ r₂ rr₂ h₂ => h₂ A L Z W₂ s₂ Q' v u lv rr₂ (r₁.mono e₂.up) r₂ (po.ext (e₁.trans e₂)))

theorem wE_cmp {l q : Expr} {op : CmpOp} {pos : Pos} {Q : V → St → Prop} (h : WE g c l S (fun x S₁ => WE g c q S₁ (fun y S₂ => Op2 g c Rep (compareOp op) x y S₂ Q)))
    (hm : behindInMarks op q = false := by with_unfolding_all rfl) : WE g c (.Compare l [op] [q] pos) S Q :=
  fun A L a cd Z W s Q' lv r po => wpAny_Compare1 (h A L a cd Z W s _ lv r fun W₁ v x S₁ s₁ e₁ r₁ rr₁ h₁ =>
    h₁ A L a cd Z W₁ s₁ _ lv rr₁ fun W₂ u y S₂ s₂ e₂ r₂ rr₂ h₂ => h₂ A L Z W₂ s₂ Q' v u lv rr₂ (r₁.mono e₂.up) r₂ (po.ext (e₁.trans e₂))) hm

/-- the truth of a value -/
def truthV : V → Option Bool
  | .bool b => some b
  | .int i => some (i != 0)
  | .lit .none => some false
  | _ => none

theorem truthy_V {A : Around} {s : Shared} {W : Fz} {v : Value} {x : V} {b : Bool} {Q : Bool → Shared → Prop} {E : Value → Shared → Prop} (r : Rep W v x) (hb : truthV x = some b) (h : Q b s) : wpAny (model g.prog g.w) A (truthy v) Q E s := by
  cases r with
  | bool b' => cases hb; exact wpAny_truthy_bool h
  | int i t => cases hb; exact truthy_int h
  | lit v => cases v <;> first | (simp [truthV] at hb; done) | (cases hb; exact truthy_none h)
  | _ => cases hb

theorem wT_cmp {l q : Expr} {op : CmpOp} {pos : Pos} {Q : Bool → St → Prop}
    (h : WE g c l S (fun x S₁ => WE g c q S₁ (fun y S₂ => Op2 g c Rep (compareOp op) x y S₂ (fun v S₃ => ∃ b, truthV v = some b ∧ Q b S₃))))
    (hm : behindInMarks op q = false := by with_unfolding_all rfl) : WT g c (.Compare l [op] [q] pos) S Q :=
  fun A L a cd Z W s Q' lv r po => wpAny_isTrue_Compare1 (h A L a cd Z W s _ lv r fun W₁ v x S₁ s₁ e₁ r₁ rr₁ h₁ =>
    h₁ A L a cd Z W₁ s₁ _ lv rr₁ fun W₂ u y S₂ s₂ e₂ r₂ rr₂ h₂ => h₂ A L Z W₂ s₂ _ v u lv rr₂ (r₁.mono e₂.up) r₂ fun W₃ z vz S₃ s₃ e₃ r₃ rr₃ h₃ => by
      obtain ⟨b, hb, hq⟩ := h₃
      exact truthy_V r₃ hb (po _ _ _ _ _ ((e₁.trans e₂).trans e₃) rfl rr₃ hq)) hm

theorem wT_not {e : Expr} {pos : Pos} {Q : Bool → St → Prop} (h : WT g c e S (fun b S' => Q (!b) S')) : WT g c (.UnaryOp .Not e pos) S Q :=
  fun A L a cd Z W s Q' lv r po => isTrue_not (h A L a cd Z W s _ lv r fun W₁ v x S₁ s₁ e₁ r₁ rr₁ h₁ => by cases r₁; exact po _ _ _ _ _ e₁ rfl rr₁ h₁)
theorem wT_and_nil {pos : Pos} {Q : Bool → St → Prop} (h : Q true S) : WT g c (.BoolOp .And [] pos) S Q :=
  fun _ _ _ _ _ _ _ _ _ r po => isTrue_and_nil (po.here rfl r h)
theorem wT_or_nil {pos : Pos} {Q : Bool → St → Prop} (h : Q false S) : WT g c (.BoolOp .Or [] pos) S Q :=
  fun _ _ _ _ _ _ _ _ _ r po => isTrue_or_nil (po.here rfl r h)
theorem wT_and {e : Expr} {rest : List Expr} {pos : Pos} {Q : Bool → St → Prop} (h : WT g c e S (fun b S' => if b = true then WT g c (.BoolOp .And rest pos) S' Q else Q false S')) :
    WT g c (.BoolOp .And (e :: rest) pos) S Q :=
  fun A L a cd Z W s Q' lv r po => isTrue_and (h A L a cd Z W s _ lv r fun W₁ v x S₁ s₁ e₁ r₁ rr₁ h₁ => by
    cases r₁
    cases v with
    | true => exact h₁ A L a cd Z W₁ s₁ Q' lv rr₁ (po.ext e₁)
    | false => exact po _ _ _ _ _ e₁ rfl rr₁ h₁)
theorem wT_or {e : Expr} {rest : List Expr} {pos : Pos} {Q : Bool → St → Prop} (h : WT g c e S (fun b S' => if b = true then Q true S' else WT g c (.BoolOp .Or rest pos) S' Q)) :
    WT g c (.BoolOp .Or (e :: rest) pos) S Q :=
  fun A L a cd Z W s Q' lv r po => isTrue_or (h A L a cd Z W s _ lv r fun W₁ v x S₁ s₁ e₁ r₁ rr₁ h₁ => by
    cases r₁
    cases v with
    | false => exact h₁ A L a cd Z W₁ s₁ Q' lv rr₁ (po.ext e₁)
    | true => exact po _ _ _ _ _ e₁ rfl rr₁ h₁)

theorem wE_ifexp {test body orelse : Expr} {pos : Pos} {Q : V → St → Prop}
    (h : WT g c test S (fun b S' => if b = true then WE g c body S' Q else WE g c orelse S' Q)) : WE g c (.IfExp test body orelse pos) S Q :=
  fun A L a cd Z W s Q' lv r po => IfExp_ (h A L a cd Z W s _ lv r fun W' x b S' s' e r' rr q => by
    cases r'
    cases x with
    | true => exact q A L a cd Z W' s' Q' lv rr (po.ext e)
    | false => exact q A L a cd Z W' s' Q' lv rr (po.ext e))

theorem wE_unop {e : Expr} {op : UnaryOp} {pos : Pos} {Q : V → St → Prop} (h : WE g c e S (fun x S₁ => Op1 g c Rep (unaryOp op) x S₁ Q)) : WE g c (.UnaryOp op e pos) S Q :=
  fun A L a cd Z W s Q' lv r po => UnaryOp_ (h A L a cd Z W s _ lv r fun W₁ v x S₁ s₁ e₁ r₁ rr₁ h₁ => h₁ A L Z W₁ s₁ Q' v lv rr₁ r₁ (po.ext e₁))

theorem wE_boolop_one {op : BoolOp} {e : Expr} {pos : Pos} {Q : V → St → Prop} (h : WE g c e S Q) : WE g c (.BoolOp op [e] pos) S Q := 
  fun A L a cd Z W s Q' lv r po => BoolOp_one (h A L a cd Z W s Q' lv r po)
theorem wE_boolop_and {e₁ e₂ : Expr} {rest : List Expr} {pos : Pos} {Q : V → St → Prop}
    (h : WE g c e₁ S (fun x S' => ∃ b, truthV x = some b ∧ if b = true then WE g c (.BoolOp .And (e₂ :: rest) pos) S' Q else Q x S')) : WE g c (.BoolOp .And (e₁ :: e₂ :: rest) pos) S Q :=
  fun A L a cd Z W s Q' lv r po => BoolOp_and (h A L a cd Z W s _ lv r fun W₁ v x S₁ s₁ e₁ r₁ rr₁ h₁ => by
    obtain ⟨b, hb, hq⟩ := h₁
    refine truthy_V r₁ hb ?_
    cases b with
    | true => exact hq A L a cd Z W₁ s₁ Q' lv rr₁ (po.ext e₁)
    | false => exact po _ _ _ _ _ e₁ r₁ rr₁ hq)

-- items in a row
theorem wA_nil {pos : Pos} {Q : List V → St → Prop} (h : Q [] S) : WA g c pos [] S Q := fun _ _ _ _ _ _ _ _ _ r po => Calls.spliced_nil (po.here .nil r h)
theorem wA_cons {pos : Pos} {e : Expr} {es : List Expr} {Q : List V → St → Prop} (h : WE g c e S (fun x S₁ => WA g c pos es S₁ (fun xs S₂ => Q (x :: xs) S₂)))
    (hs : ∀ env, backTo pos (starEach (e :: es) env) = (false, eval e env) :: backTo pos (starEach es env) := by intro _; rfl) : WA g c pos (e :: es) S Q :=
  fun A L a cd Z W s Q' lv r po => by
    show wpAny _ _ (spliced (backTo pos (starEach (e :: es) (c.env L a cd)))) _ _ _
    rw [hs]
    exact Calls.spliced_cons (h A L a cd Z W s _ lv r fun W₁ v x S₁ s₁ e₁ r₁ rr₁ h₁ => h₁ A L a cd Z W₁ s₁ _ lv rr₁ fun W₂ vs xs S₂ s₂ e₂ r₂ rr₂ h₂ =>
      po _ _ _ _ _ (e₁.trans e₂) (.cons (r₁.mono e₂.up) r₂) rr₂ h₂)
end
end Mine

namespace Mine
section
variable {p : Program} {g : G p} {c : Cx} {α β : Type} {ρ : Fz → α → β → Prop} {S : St}

-- ints
theorem o_add {x y : Int} {Q : V → St → Prop} (h : Q (.int (x + y)) S) : Op2 g c Rep (binaryOp .Add) (.int x) (.int y) S Q :=
  fun _ _ _ _ _ _ _ _ lv r rv ru po => by cases rv; cases ru; exact add_int (po.here (.int _ _) r.tk h)
theorem o_sub {x y : Int} {Q : V → St → Prop} (h : Q (.int (x - y)) S) : Op2 g c Rep (binaryOp .Sub) (.int x) (.int y) S Q :=
  fun _ _ _ _ _ _ _ _ lv r rv ru po => by cases rv; cases ru; exact sub_int (po.here (.int _ _) r.tk h)
theorem o_mul {x y : Int} {Q : V → St → Prop} (h : Q (.int (x * y)) S) (hm : IntMulOk x y) : Op2 g c Rep (binaryOp .Mult) (.int x) (.int y) S Q :=
  fun _ _ _ _ _ _ _ _ lv r rv ru po => by cases rv; cases ru; exact PyProof.Rows.mul_int (po.here (.int _ _) r.tk h) hm
theorem o_floordiv {x y : Int} {Q : V → St → Prop} (hy : y ≠ 0) (hb : y.natAbs < 1073741824) (h : Q (.int (x.fdiv y)) S) : Op2 g c Rep (binaryOp .FloorDiv) (.int x) (.int y) S Q :=
  fun _ _ _ _ _ _ _ _ lv r rv ru po => by cases rv; cases ru; exact floordiv_int hy (po.here (.int _ _) r.tk h) (.inl (PyProof.noPylong_small hb))
theorem o_mod {x y : Int} {Q : V → St → Prop} (hy : y ≠ 0) (h : Q (.int (x.fmod y)) S) : Op2 g c Rep (binaryOp .Mod) (.int x) (.int y) S Q :=
  fun _ _ _ _ _ _ _ _ lv r rv ru po => by cases rv; cases ru; exact mod_int' hy (po.here (.int _ _) r.tk h)
theorem o_pow {x y : Int} {Q : V → St → Prop} (hn : 0 ≤ y) (hsz : (Builtin.Int.intBits x : Int) * y ≤ 2 ^ 27) (h : Q (.int (x ^ y.toNat)) S) : Op2 g c Rep (binaryOp .Pow) (.int x) (.int y) S Q :=
  fun _ _ _ _ _ _ _ _ lv r rv ru po => by cases rv; cases ru; exact pow_int hn hsz (po.here (.int _ _) r.tk h)
theorem o_lshift {x y : Int} {Q : V → St → Prop} (hn : 0 ≤ y) (hn2 : y ≤ 1000000) (ha : x.natAbs < 2 ^ 64) (h : Q (.int (x * 2 ^ y.toNat)) S) : Op2 g c Rep (binaryOp .LShift) (.int x) (.int y) S Q :=
  fun _ _ _ _ _ _ _ _ lv r rv ru po => by cases rv; cases ru; exact lshift_int_small hn hn2 ha (po.here (.int _ _) r.tk h)
theorem o_rshift {x y : Int} {Q : V → St → Prop} (hn : 0 ≤ y) (h : Q (.int (x.fdiv (2 ^ y.toNat))) S) : Op2 g c Rep (binaryOp .RShift) (.int x) (.int y) S Q :=
  fun _ _ _ _ _ _ _ _ lv r rv ru po => by cases rv; cases ru; exact rshift_int hn (po.here (.int _ _) r.tk h)
theorem o_and {x y : Int} {Q : V → St → Prop} (h : Q (.int (Builtin.bitAnd x y)) S) : Op2 g c Rep (binaryOp .BitAnd) (.int x) (.int y) S Q :=
  fun _ _ _ _ _ _ _ _ lv r rv ru po => by cases rv; cases ru; exact and_int (po.here (.int _ _) r.tk h)
theorem o_or {x y : Int} {Q : V → St → Prop} (h : Q (.int (Builtin.bitOr x y)) S) : Op2 g c Rep (binaryOp .BitOr) (.int x) (.int y) S Q :=
  fun _ _ _ _ _ _ _ _ lv r rv ru po => by cases rv; cases ru; exact or_int (po.here (.int _ _) r.tk h)
theorem i_add {x y : Int} {Q : V → St → Prop} (h : Q (.int (x + y)) S) : Op2 g c Rep (inplaceOp .Add) (.int x) (.int y) S Q :=
  fun _ _ _ _ _ _ _ _ lv r rv ru po => by cases rv; cases ru; exact iadd_int (po.here (.int _ _) r.tk h)
theorem i_sub {x y : Int} {Q : V → St → Prop} (h : Q (.int (x - y)) S) : Op2 g c Rep (inplaceOp .Sub) (.int x) (.int y) S Q :=
  fun _ _ _ _ _ _ _ _ lv r rv ru po => by cases rv; cases ru; exact isub_int (po.here (.int _ _) r.tk h)
theorem i_mod {x y : Int} {Q : V → St → Prop} (hy : y ≠ 0) (h : Q (.int (x.fmod y)) S) : Op2 g c Rep (inplaceOp .Mod) (.int x) (.int y) S Q :=
  fun _ _ _ _ _ _ _ _ lv r rv ru po => by cases rv; cases ru; exact imod_int hy (po.here (.int _ _) r.tk h)
theorem i_rshift {x y : Int} {Q : V → St → Prop} (hn : 0 ≤ y) (h : Q (.int (x.fdiv (2 ^ y.toNat))) S) : Op2 g c Rep (inplaceOp .RShift) (.int x) (.int y) S Q :=
  fun _ _ _ _ _ _ _ _ lv r rv ru po => by cases rv; cases ru; exact irshift_int hn (po.here (.int _ _) r.tk h)
theorem i_or {x y : Int} {Q : V → St → Prop} (h : Q (.int (Builtin.bitOr x y)) S) : Op2 g c Rep (inplaceOp .BitOr) (.int x) (.int y) S Q :=
  fun _ _ _ _ _ _ _ _ lv r rv ru po => by cases rv; cases ru; exact ior_int (po.here (.int _ _) r.tk h)
theorem o_neg {x : Int} {Q : V → St → Prop} (h : Q (.int (-x)) S) : Op1 g c Rep (unaryOp .USub) (.int x) S Q :=
  fun _ _ _ _ _ _ _ lv r rv po => by cases rv; exact neg_int (po.here (.int _ _) r.tk h)
theorem o_not {x : V} {b : Bool} {Q : V → St → Prop} (hb : truthV x = some b) (h : Q (.bool (!b)) S) : Op1 g c Rep (unaryOp .Not) x S Q :=
  fun _ _ _ _ _ _ _ lv r rv po => not_of (truthy_V rv hb (po.here (.bool _) r h))

-- comparisons of ints and bools
theorem c_eq {x y : Int} {Q : V → St → Prop} (h : Q (.bool (x == y)) S) : Op2 g c Rep (compareOp .Eq) (.int x) (.int y) S Q :=
  fun _ _ _ _ _ _ _ _ lv r rv ru po => by cases rv; cases ru; exact eq_int (po.here (.bool _) r h)
theorem c_ne {x y : Int} {Q : V → St → Prop} (h : Q (.bool (x != y)) S) : Op2 g c Rep (compareOp .NotEq) (.int x) (.int y) S Q :=
  fun _ _ _ _ _ _ _ _ lv r rv ru po => by cases rv; cases ru; exact ne_int (po.here (.bool _) r h)
theorem c_lt {x y : Int} {Q : V → St → Prop} (h : Q (.bool (decide (x < y))) S) : Op2 g c Rep (compareOp .Lt) (.int x) (.int y) S Q :=
  fun _ _ _ _ _ _ _ _ lv r rv ru po => by cases rv; cases ru; exact lt_int (po.here (.bool _) r h)
theorem c_le {x y : Int} {Q : V → St → Prop} (h : Q (.bool (decide (x ≤ y))) S) : Op2 g c Rep (compareOp .LtE) (.int x) (.int y) S Q :=
  fun _ _ _ _ _ _ _ _ lv r rv ru po => by cases rv; cases ru; exact PyProof.Rows.le_int (po.here (.bool _) r h)
theorem c_gt {x y : Int} {Q : V → St → Prop} (h : Q (.bool (decide (y < x))) S) : Op2 g c Rep (compareOp .Gt) (.int x) (.int y) S Q :=
  fun _ _ _ _ _ _ _ _ lv r rv ru po => by cases rv; cases ru; exact gt_int (po.here (.bool _) r h)
theorem c_ge {x y : Int} {Q : V → St → Prop} (h : Q (.bool (decide (y ≤ x))) S) : Op2 g c Rep (compareOp .GtE) (.int x) (.int y) S Q :=
  fun _ _ _ _ _ _ _ _ lv r rv ru po => by cases rv; cases ru; exact PyProof.Rows.ge_int (po.here (.bool _) r h)
theorem c_eqb {x y : Bool} {Q : V → St → Prop} (h : Q (.bool (x == y)) S) : Op2 g c Rep (compareOp .Eq) (.bool x) (.bool y) S Q :=
  fun _ _ _ _ _ _ _ _ lv r rv ru po => by cases rv; cases ru; exact eq_bool (po.here (.bool _) r h)

-- comparisons of data
mutual
def V.py : V → Option PyData
  | .bool b => some (.bool b)
  | .int i => some (.int i)
  | .list l => (V.pyAll l).map PyData.list
  | .tup l => (V.pyAll l).map PyData.tuple
  | .lit .none => some .none
  | _ => none
def V.pyAll : List V → Option (List PyData)
  | [] => some []
  | x :: l => match V.py x, V.pyAll l with
    | some d, some ds => some (d :: ds)
    | _, _ => none
end
mutual
theorem Rep.reads {W : Fz} {h : Heap} (hw : ∀ a o, W a = some o → h.get? a = some o) : ∀ {v : Value} {x : V}, Rep W v x → ∀ d, x.py = some d → ∃ as, Reads h v d as
  | _, _, .lit v, d, e => by cases v <;> first | (simp [V.py] at e; done) | (simp [V.py] at e; subst e; exact ⟨_, .none⟩)
  | _, _, .bool b, d, e => by simp [V.py] at e; subst e; exact ⟨_, .bool b⟩
  | _, _, .int i t, d, e => by simp [V.py] at e; subst e; exact ⟨_, .int i t⟩
  | _, _, .ref a, d, e => by simp [V.py] at e
  | _, _, .list (l := l) ha r, d, e => by
    simp only [V.py, Option.map_eq_some_iff] at e
    obtain ⟨ds, e1, rfl⟩ := e
    obtain ⟨as, ra⟩ := RepL.reads hw r ds e1
    exact ⟨_, .list (hw _ _ ha) rfl rfl ra⟩
  | _, _, .tup (l := l) ha r, d, e => by
    simp only [V.py, Option.map_eq_some_iff] at e
    obtain ⟨ds, e1, rfl⟩ := e
    obtain ⟨as, ra⟩ := RepL.reads hw r ds e1
    exact ⟨_, .tuple (hw _ _ ha) rfl rfl ra⟩
theorem RepL.reads {W : Fz} {h : Heap} (hw : ∀ a o, W a = some o → h.get? a = some o) : ∀ {vs : List Value} {l : List V}, RepL W vs l → ∀ ds, V.pyAll l = some ds → ∃ as, ReadsAll h vs ds as
  | _, _, .nil, d, e => by simp [V.pyAll] at e; subst e; exact ⟨_, .nil⟩
  | _, _, .cons (x := x) (l := l) a r, d, e => by
    simp only [V.pyAll] at e
    split at e
    · rename_i d1 ds e1 e2
      cases e
      obtain ⟨as, ra⟩ := Rep.reads hw a _ e1
      obtain ⟨bs, rb⟩ := RepL.reads hw r _ e2
      exact ⟨_, .cons ra rb⟩
    · cases e
end

theorem c_eqd {x y : V} {dx dy : PyData} {Q : V → St → Prop} (hx : x.py = some dx) (hy : y.py = some dy) (sx : SeqAt.shaped dx = true) (sy : SeqAt.shaped dy = true)
    (h : Q (.bool (PyData.eqv dx dy)) S) : Op2 g c Rep (compareOp .Eq) x y S Q :=
  fun _ _ _ _ _ _ _ _ lv r rv ru po => by
    obtain ⟨_, rx⟩ := rv.reads r.w _ hx
    obtain ⟨_, ry⟩ := ru.reads r.w _ hy
    exact eq_dataH rx ry sx sy (by have := lv.un; have := cLine_is; omega) (po.here (.bool _) r h)
theorem c_ned {x y : V} {dx dy : PyData} {Q : V → St → Prop} (hx : x.py = some dx) (hy : y.py = some dy) (sx : SeqAt.shaped dx = true) (sy : SeqAt.shaped dy = true)
    (h : Q (.bool (!PyData.eqv dx dy)) S) : Op2 g c Rep (compareOp .NotEq) x y S Q :=
  fun _ _ _ _ _ _ _ _ lv r rv ru po => by
    obtain ⟨_, rx⟩ := rv.reads r.w _ hx
    obtain ⟨_, ry⟩ := ru.reads r.w _ hy
    exact ne_dataH rx ry sx sy (by have := lv.un; have := cLine_is; omega) (po.here (.bool _) r h)

-- stores
def St.set (S : St) (x : Str) (v : V) : St := { S with m := fun y => if y = x then some v else S.m y }
theorem R.store {L : Addr} {Z W : Fz} {s : Shared} {x : Str} {v : V} {rv : Value} {mr : Str → Option Value} (r : R g L Z W S s) (hm : ∀ y u, S.m y = some u → ∃ q, mr y = some q ∧ Rep W q u) (hv : Rep W rv v) {h' : Heap} {tk' : Nat}
    (hn : h'.Ns L (fun y => if y = x then some rv else mr y)) (hs : Heap.SameBut L s.heap h') : R g L Z W (S.set x v) { s with heap := h', toks := tk' } where
  rest := by obtain ⟨h, tk, rfl⟩ := r.rest; exact ⟨h', tk', rfl⟩
  base := fun b o e => (hs.2 b (fun q => by rw [q, r.lb] at e; cases e)).trans (r.base b o e)
  z := fun b o e => (hs.2 b (fun q => by rw [q, r.lz] at e; cases e)).trans (r.z b o e)
  w := fun b o e => (hs.2 b (fun q => by rw [q, r.lw] at e; cases e)).trans (r.w b o e)
  mu := fun a l e => by
    obtain ⟨arr, n, h1, h2⟩ := r.mu a l e
    exact ⟨arr, n, (hs.2 a (fun q => by rw [q] at e; rw [show (S.set x v).σ = S.σ from rfl, r.lm] at e; cases e)).trans h1, h2⟩
  ns := ⟨_, hn, fun y u e => by
    simp only [St.set] at e
    by_cases q : y = x
    · rw [if_pos q] at e; cases e
      exact ⟨rv, by simp only [if_pos q], hv⟩
    · rw [if_neg q] at e
      obtain ⟨z, e1, e2⟩ := hm y u e
      exact ⟨z, by simp only [if_neg q]; exact e1, e2⟩⟩
  lz := r.lz
  lw := r.lw
  lb := r.lb
  lm := r.lm

theorem store_ {M : Model} {A : Around} {L a : Addr} {cd : Value} {Z W : Fz} {s : Shared} {x : Str} {v : V} {rv : Value} {Q' : Unit → Shared → Prop} {E : Value → Shared → Prop} (r : R g L Z W S s) (hv : Rep W rv v)
    (hl : c.scope.names.lookup x = some .local) (h : ∀ s', R g L Z W (S.set x v) s' → Q' () s') : wpAny M A (storeName (c.env L a cd) x rv) Q' E s := by
  obtain ⟨mr, hn, hm⟩ := r.ns
  exact wpAny_storeName_local (env := c.env L a cd) hl hn (fun h' hn' hs => h _ (r.store hm hv hn' hs))
    (by show (c.scope.kind == .class || (c.scope.kind == .module && L != mainGlobals)) = false; rw [c.fn]; rfl)

theorem wX_assign {x : Str} {pos' pos : Pos} {e : Expr} {Q : F → St → Prop} (h : WE g c e S (fun v S' => Q .next (S'.set x v)))
    (hl : c.scope.names.lookup x = some .local := by rfl) (hs : ∀ L a cd, swapsWith e (some (.Name x pos')) pos.line (c.env L a cd) = pure false := by intro _ _ _; rfl) :
    WX g c (.Assign [.Name x pos'] e pos) S Q :=
  fun A L a cd Z W s Q' lv r po => wpAny_Assign_Name (h A L a cd Z W s _ lv r fun W₁ v x S₁ s₁ e₁ r₁ rr₁ h₁ =>
    store_ rr₁ r₁ hl fun s' r' => po _ _ _ _ _ e₁ .next r' h₁) (hs L a cd)

theorem wX_aug {x : Str} {pos' pos : Pos} {op : Operator} {e : Expr} {v : V} {Q : F → St → Prop} (hv : S.m x = some v)
    (h : WE g c e S (fun y S₁ => Op2 g c Rep (inplaceOp op) v y S₁ (fun z S₂ => Q .next (S₂.set x z)))) (hl : c.scope.names.lookup x = some .local := by rfl) :
    WX g c (.AugAssign (.Name x pos') op e pos) S Q :=
  fun A L a cd Z W s Q' lv r po => by
    obtain ⟨mr, hn, hm⟩ := r.ns
    obtain ⟨rv, e, rp⟩ := hm x v hv
    refine wpAny_AugAssign_Name (wpAny_loadName_local (env := c.env L a cd) c.fn hl hn e ?_)
    exact h A L a cd Z W s _ lv r fun W₁ u y S₁ s₁ e₁ r₁ rr₁ h₁ => h₁ A L Z W₁ s₁ _ rv u lv rr₁ (rp.mono e₁.up) r₁ fun W₂ u2 z S₂ s₂ e₂ r₂ rr₂ h₂ =>
      store_ rr₂ r₂ hl fun s' r' => po _ _ _ _ _ (e₁.trans e₂) .next r' h₂

-- new lists, new tuples
def upd (σ : Addr → Option (List V)) (a : Addr) (l : List V) : Addr → Option (List V) := fun b => if b = a then some l else σ b
def wadd (W : Fz) (a : Addr) (o : Obj) : Fz := fun b => if b = a then some o else W b

theorem R.none_size {L : Addr} {Z W : Fz} {s : Shared} (r : R g L Z W S s) : Z s.heap.objs.size = none ∧ W s.heap.objs.size = none ∧ g.hB.get? s.heap.objs.size = none ∧ S.σ s.heap.objs.size = none ∧ s.heap.objs.size ≠ L := by
  have key : s.heap.get? s.heap.objs.size = none := Heap.get?_none_of_le (Nat.le_refl _)
  refine ⟨?_, ?_, ?_, ?_, ?_⟩
  · cases q : Z s.heap.objs.size with
    | none => rfl
    | some o => rw [r.z _ _ q] at key; cases key
  · cases q : W s.heap.objs.size with
    | none => rfl
    | some o => rw [r.w _ _ q] at key; cases key
  · cases q : g.hB.get? s.heap.objs.size with
    | none => rfl
    | some o => rw [r.base _ _ q] at key; cases key
  · cases q : S.σ s.heap.objs.size with
    | none => rfl
    | some o => obtain ⟨_, _, h1, _⟩ := r.mu _ _ q; rw [h1] at key; cases key
  · obtain ⟨mr, hn, _⟩ := r.ns
    exact Nat.ne_of_gt hn.lt

/-- a thing put upon the heap, kept for good -/
theorem R.pushF {L : Addr} {Z W : Fz} {s : Shared} (r : R g L Z W S s) (o : Obj) (hf : o.isFreed = false) {tk' : Nat} :
    R g L Z (wadd W s.heap.objs.size o) S { s with heap := s.heap.push o, toks := tk' } ∧ Ext Z W (wadd W s.heap.objs.size o) := by
  obtain ⟨n1, n2, n3, n4, n5⟩ := r.none_size
  have up : ∀ a q, W a = some q → wadd W s.heap.objs.size o a = some q := fun a q e => by
    unfold wadd
    rw [if_neg (fun h => by rw [h, n2] at e; cases e)]; exact e
  have k : ∀ b q, s.heap.get? b = some q → (s.heap.push o).get? b = some q := fun b q e => Heap.get?_push_of_some _ e
  refine ⟨{ rest := ?_, base := fun b q e => k _ _ (r.base b q e), z := fun b q e => k _ _ (r.z b q e), w := fun b q e => ?_, mu := fun a l e => ?_, ns := ?_, lz := r.lz, lw := ?_, lb := r.lb, lm := r.lm }, up, fun a q e => ?_⟩
  · obtain ⟨h, tk, rfl⟩ := r.rest; exact ⟨_, tk', rfl⟩
  · unfold wadd at e
    by_cases h : b = s.heap.objs.size
    · rw [if_pos h] at e; cases e; rw [h]; exact Heap.get?_push_size _ hf
    · rw [if_neg h] at e; exact k _ _ (r.w b q e)
  · obtain ⟨arr, n, h1, h2, h3, h4, h5⟩ := r.mu a l e
    refine ⟨arr, n, k _ _ h1, h2.mono up, h3, ?_, h5⟩
    unfold wadd
    rw [if_neg (fun h => by rw [h, n4] at e; cases e)]; exact h4
  · obtain ⟨mr, hn, hm⟩ := r.ns
    exact ⟨mr, hn.keeps k, fun x v e => let ⟨q, e1, e2⟩ := hm x v e; ⟨q, e1, e2.mono up⟩⟩
  · unfold wadd
    rw [if_neg (fun h => n5 h.symm)]; exact r.lw
  · unfold wadd at e
    by_cases h : a = s.heap.objs.size
    · rw [h]; exact .inr n1
    · rw [if_neg h] at e; exact .inl e

/-- a list put upon the heap, to be changed -/
theorem R.pushM {L : Addr} {Z W : Fz} {s : Shared} (r : R g L Z W S s) {arr : Array Value} {n : Nat} {l : List V} (hl : RepL W arr.toList l) {tk' : Nat} :
    R g L Z W { S with σ := upd S.σ s.heap.objs.size l } { s with heap := s.heap.push (lobj arr n), toks := tk' } := by
  obtain ⟨n1, n2, n3, n4, n5⟩ := r.none_size
  have k : ∀ b q, s.heap.get? b = some q → (s.heap.push (lobj arr n)).get? b = some q := fun b q e => Heap.get?_push_of_some _ e
  refine { rest := ?_, base := fun b q e => k _ _ (r.base b q e), z := fun b q e => k _ _ (r.z b q e), w := fun b q e => k _ _ (r.w b q e), mu := fun a l' e => ?_, ns := ?_, lz := r.lz, lw := r.lw, lb := r.lb, lm := ?_ }
  · obtain ⟨h, tk, rfl⟩ := r.rest; exact ⟨_, tk', rfl⟩
  · simp only [upd] at e
    by_cases h : a = s.heap.objs.size
    · rw [if_pos h] at e; cases e
      rw [h]
      exact ⟨arr, n, Heap.get?_push_size _ rfl, hl, n1, n2, n3⟩
    · rw [if_neg h] at e
      obtain ⟨arr, n, h1, h2⟩ := r.mu a l' e
      exact ⟨arr, n, k _ _ h1, h2⟩
  · obtain ⟨mr, hn, hm⟩ := r.ns
    exact ⟨mr, hn.keeps k, hm⟩
  · simp only [upd]; rw [if_neg (fun h => n5 h.symm)]; exact r.lm

/-- a list that is changed -/
theorem R.turn {L : Addr} {Z W : Fz} {s : Shared} (r : R g L Z W S s) {a : Addr} {l₀ : List V} (ha : S.σ a = some l₀) {arr' : Array Value} {n' : Nat} {l : List V} (hl : RepL W arr'.toList l) {h' : Heap} {tk' : Nat}
    (hn : h'.get? a = some (lobj arr' n')) (hs : ∀ b, b ≠ a → h'.get? b = s.heap.get? b) : R g L Z W { S with σ := upd S.σ a l } { s with heap := h', toks := tk' } := by
  obtain ⟨arr₀, n₀, h1, h2, h3, h4, h5⟩ := r.mu a l₀ ha
  have hLa : L ≠ a := fun q => by rw [← q, r.lm] at ha; cases ha
  refine { rest := ?_, base := fun b q e => (hs b fun h => by rw [h, h5] at e; cases e).trans (r.base b q e), z := fun b q e => (hs b fun h => by rw [h, h3] at e; cases e).trans (r.z b q e), w := fun b q e => (hs b fun h => by rw [h, h4] at e; cases e).trans (r.w b q e), mu := fun b l' e => ?_, ns := ?_, lz := r.lz, lw := r.lw, lb := r.lb, lm := ?_ }
  · obtain ⟨h, tk, rfl⟩ := r.rest; exact ⟨_, tk', rfl⟩
  · simp only [upd] at e
    by_cases h : b = a
    · rw [if_pos h] at e; cases e
      rw [h]
      exact ⟨arr', n', hn, hl, h3, h4, h5⟩
    · rw [if_neg h] at e
      obtain ⟨arr, n, q1, q2⟩ := r.mu b l' e
      exact ⟨arr, n, (hs b h).trans q1, q2⟩
  · obtain ⟨mr, hn, hm⟩ := r.ns
    exact ⟨mr, hn.at' (fun o e => (hs L hLa).trans e), hm⟩
  · simp only [upd]; rw [if_neg hLa]; exact r.lm

theorem wE_tuple {es : List Expr} {k : Nat} {pos : Pos} {Q : V → St → Prop} (h : WA g c pos es S (fun xs S' => xs.length ≤ 2 ^ 24 ∧ Q (.tup xs) S')) : WE g c (.Tuple es k pos) S Q :=
  fun A L a cd Z W s Q' lv r po => Tuple_ (h A L a cd Z W s _ lv r fun W₁ vs xs S₁ s₁ e₁ r₁ rr₁ h₁ => by
    obtain ⟨hsz, hq⟩ := h₁
    obtain ⟨rr, ex⟩ := rr₁.pushF (tobj vs.toArray 0) rfl (tk' := s₁.toks)
    refine wpAny_newObj_type ?_ (by show vs.toArray.size ≤ sizeLine; rw [List.size_toArray, r₁.length]; exact hsz)
    exact po _ _ _ _ _ (e₁.trans ex) (.tup (n := 0) (arr := vs.toArray) (by simp [wadd]) (by simpa using r₁.mono ex.up)) rr hq)
/-- a list display that nothing changes later -/
theorem wE_listF {es : List Expr} {pos : Pos} {Q : V → St → Prop} (h : WA g c pos es S (fun xs S' => xs.length ≤ 2 ^ 24 ∧ Q (.list xs) S')) : WE g c (.List es pos) S Q :=
  fun A L a cd Z W s Q' lv r po => List_ (h A L a cd Z W s _ lv r fun W₁ vs xs S₁ s₁ e₁ r₁ rr₁ h₁ => by
    obtain ⟨hsz, hq⟩ := h₁
    obtain ⟨rr, ex⟩ := rr₁.pushF (lobj vs.toArray 0) rfl (tk' := s₁.toks)
    refine wpAny_newObj_type ?_ (by show vs.toArray.size ≤ sizeLine; rw [List.size_toArray, r₁.length]; exact hsz)
    exact po _ _ _ _ _ (e₁.trans ex) (.list (n := 0) (arr := vs.toArray) (by simp [wadd]) (by simpa using r₁.mono ex.up)) rr hq)
/-- a list display to be changed -/
theorem wE_listM {es : List Expr} {pos : Pos} {Q : V → St → Prop} (h : WA g c pos es S (fun xs S' => xs.length ≤ 2 ^ 24 ∧ ∀ a, S'.σ a = none → Q (.ref a) { S' with σ := upd S'.σ a xs })) : WE g c (.List es pos) S Q :=
  fun A L a cd Z W s Q' lv r po => List_ (h A L a cd Z W s _ lv r fun W₁ vs xs S₁ s₁ e₁ r₁ rr₁ h₁ => by
    obtain ⟨hsz, hq⟩ := h₁
    have rr := rr₁.pushM (arr := vs.toArray) (n := 0) (l := xs) (by simpa using r₁) (tk' := s₁.toks)
    refine wpAny_newObj_type ?_ (by show vs.toArray.size ≤ sizeLine; rw [List.size_toArray, r₁.length]; exact hsz)
    exact po _ _ _ _ _ e₁ (.ref _) rr (hq _ rr₁.none_size.2.2.2.1))
end
end Mine

namespace Mine
section
variable {p : Program} {g : G p} {c : Cx} {α β : Type} {ρ : Fz → α → β → Prop} {S : St}

theorem R.next {L : Addr} {Z W : Fz} {s : Shared} {wr : List Addr} (r : R g L Z W S s) {h' : Heap} {tk' : Nat} (hk : ∀ b o, b ∉ wr → s.heap.get? b = some o → h'.get? b = some o)
    (hL : L ∉ wr) (hw : ∀ b ∈ wr, Z b = none ∧ W b = none ∧ g.hB.get? b = none ∧ S.σ b = none) : R g L Z W S { s with heap := h', toks := tk' } where
  rest := by obtain ⟨h, tk, rfl⟩ := r.rest; exact ⟨h', tk', rfl⟩
  base := fun b o e => hk b o (fun q => by rw [(hw b q).2.2.1] at e; cases e) (r.base b o e)
  z := fun b o e => hk b o (fun q => by rw [(hw b q).1] at e; cases e) (r.z b o e)
  w := fun b o e => hk b o (fun q => by rw [(hw b q).2.1] at e; cases e) (r.w b o e)
  mu := fun a l e => by
    obtain ⟨arr, n, h1, h2⟩ := r.mu a l e
    exact ⟨arr, n, hk a _ (fun q => by rw [(hw a q).2.2.2] at e; cases e) h1, h2⟩
  ns := by
    obtain ⟨mr, hn, hm⟩ := r.ns
    exact ⟨mr, hn.at' fun o e => hk L o hL e, hm⟩
  lz := r.lz
  lw := r.lw
  lb := r.lb
  lm := r.lm

/-- more is kept -/
theorem R.more {L : Addr} {Z W : Fz} {s : Shared} (r : R g L Z W S s) {fp : List Addr} (hL : L ∉ fp) (hs : ∀ b ∈ fp, S.σ b = none) : R g L (fun b => if b ∈ fp then s.heap.get? b else Z b) W S s where
  rest := r.rest
  base := r.base
  z := fun b o e => by
    have e' : (if b ∈ fp then s.heap.get? b else Z b) = some o := e
    by_cases h : b ∈ fp
    · rw [if_pos h] at e'; exact e'
    · rw [if_neg h] at e'; exact r.z b o e'
  w := r.w
  mu := fun a l e => by
    obtain ⟨arr, n, h1, h2, h3, h4⟩ := r.mu a l e
    refine ⟨arr, n, h1, h2, ?_, h4⟩
    show (if a ∈ fp then s.heap.get? a else Z a) = none
    rw [if_neg (fun q => by rw [hs a q] at e; cases e)]; exact h3
  ns := r.ns
  lz := by show (if L ∈ fp then s.heap.get? L else Z L) = none; rw [if_neg hL]; exact r.lz
  lw := r.lw
  lb := r.lb
  lm := r.lm
/-- less is kept -/
theorem R.less {L : Addr} {Z Z' W : Fz} {s : Shared} (r : R g L Z' W S s) (hz : ∀ a o, Z a = some o → Z' a = some o) : R g L Z W S s where
  rest := r.rest
  base := r.base
  z := fun b o e => r.z b o (hz b o e)
  w := r.w
  mu := fun a l e => by
    obtain ⟨arr, n, h1, h2, h3, h4⟩ := r.mu a l e
    refine ⟨arr, n, h1, h2, ?_, h4⟩
    cases q : Z a with
    | none => rfl
    | some o => rw [hz a o q] at h3; cases h3
  ns := r.ns
  lz := by
    cases q : Z L with
    | none => rfl
    | some o => have := hz L o q; rw [r.lz] at this; cases this
  lw := r.lw
  lb := r.lb
  lm := r.lm
theorem Ext.less {Z Z' W W' : Fz} (x : Ext Z' W W') (hz : ∀ a o, Z a = some o → Z' a = some o) : Ext Z W W' :=
  ⟨x.up, fun a o e => (x.fresh a o e).imp id fun h => by
    cases q : Z a with
    | none => rfl
    | some o => rw [hz a o q] at h; cases h⟩

/-- what an iterator yields -/
def ItAt (g : G p) (A : Around) (L : Addr) (Z W : Fz) (S : St) (it : Value) (xs : List V) (s : Shared) : Prop :=
  ∃ (I : Addr) (fp wr : List Addr) (P : Nat → Value → Prop) (T : Nat → Heap → Prop), it = .ref I ∧ Walks g.prog g.w A I fp wr xs.length P T ∧ T 0 s.heap ∧ (∀ i v, i < xs.length → P i v → ∃ x, xs[i]? = some x ∧ Rep W v x) ∧
    L ∉ fp ∧ (∀ b ∈ wr, Z b = none ∧ W b = none ∧ g.hB.get? b = none) ∧ (∀ b ∈ fp, S.σ b = none) ∧ (∀ i h, T i h → ∀ b ∈ fp, ∃ o, h.get? b = some o)

def WI (g : G p) (c : Cx) (e : Expr) (S : St) (Q : List V → St → Prop) : Prop :=
  ∀ (A : Around) (L a : Addr) (cd : Value) (Z W : Fz) (s : Shared) (Q' : Value → Shared → Prop), LvC c A L → R g L Z W S s →
    (∀ W' it xs S' s', Ext Z W W' → ItAt g A L Z W' S' it xs s' → R g L Z W' S' s' → Q xs S' → Q' it s') →
    wpAny (model g.prog g.w) A (eval e (c.env L a cd)) (fun v s₁ => wpAny (model g.prog g.w) A (pyIter v) Q' (fun _ _ => False) s₁) (fun _ _ => False) s

def LoopW (g : G p) (c : Cx) (x : Str) (body : List Stmt) : List V → St → (F → St → Prop) → Prop
  | [], S, Q => Q .next S
  | v :: vs, S, Q => WS g c body (S.set x v) (fun f S' => match f with
      | .next => LoopW g c x body vs S' Q
      | .cont => LoopW g c x body vs S' Q
      | .brk => Q .next S'
      | .ret u => Q (.ret u) S')

theorem wX_for {x : Str} {px pos : Pos} {iter : Expr} {body : List Stmt} {Q : F → St → Prop} (h : WI g c iter S (fun xs S₁ => LoopW g c x body xs S₁ Q))
    (hl : c.scope.names.lookup x = some .local := by rfl) (hs : ∀ L a cd x, foldedSetIterable iter (c.env L a cd) x = pure x := by intro _ _ _ _; rfl) :
    WX g c (.For (.Name x px) iter body [] pos) S Q :=
  fun A L a cd Z W s Q' lv r po => by
    refine wpAny_For (wpAny_mono (h A L a cd Z W s (fun it s₂ => codeAny (model g.prog g.w) A (.forLoop (.Name x px) it body [] (c.env L a cd)) (fun r s' => match r with | .ok f => Q' f s' | .error e => False) s₂) lv r ?_)
      (fun v s₁ h₁ => wpAny_mono h₁ (fun it s₂ h₂ => codeAny_mono h₂ fun r s' h' => by cases r with | ok f => exact h' | error e => exact h'.elim) fun _ _ e => e.elim) fun _ _ e => e.elim) (hs L a cd)
    intro W₁ it xs S₁ s₁ e₁ hit r₁ hq
    obtain ⟨I, fp, wr, P, T, rfl, Wk, hT, hP, hLf, hwr, hfs, hob⟩ := hit
    have hLw : L ∉ wr := fun q => hLf (Wk.sub _ q)
    refine codeAny_forLoop (fun k s' => ∃ (i : Nat) (W' : Fz) (S' : St), Ext Z W₁ W' ∧ T i s'.heap ∧ R g L Z W' S' s' ∧ (∀ b ∈ wr, W' b = none) ∧ (∀ b ∈ fp, S'.σ b = none) ∧ LoopW g c x body (xs.drop i) S' Q ∧ i ≤ xs.length ∧ k = xs.length + 1 - i) ?_ (xs.length + 1)
      ⟨0, W₁, S₁, .refl, hT, r₁, fun b hb => (hwr b hb).2.1, hfs, by simpa using hq, Nat.zero_le _, rfl⟩
    rintro k s' ⟨i, W', S', ex, hT', rr, hw', hf', hq', hi, rfl⟩
    have hnext : ∀ b ∈ wr, Z b = none ∧ W' b = none ∧ g.hB.get? b = none ∧ S'.σ b = none := fun b hb => ⟨(hwr b hb).1, hw' b hb, (hwr b hb).2.2, hf' b (Wk.sub _ hb)⟩
    by_cases hlt : i < xs.length
    · refine Wk.item i _ _ _ hlt hT' fun v h₁ tk₁ hPv hT₁ hk₁ => ?_
      obtain ⟨y, hy, ry⟩ := hP i v hlt hPv
      have rr₁ := rr.next (tk' := tk₁) hk₁ hLw hnext
      have hd : xs.drop i = y :: xs.drop (i + 1) := by
        rw [List.drop_eq_getElem_cons hlt]
        have : xs[i] = y := by rw [List.getElem?_eq_getElem hlt] at hy; exact Option.some.inj hy
        rw [this]
      rw [hd] at hq'
      have step : ∀ (E : Value → Shared → Prop), wpAny (model g.prog g.w) A (assign (.Name x px) (c.env L a cd) v) (fun _ s₂ => wpAny (model g.prog g.w) A (execs body (c.env L a cd)) (fun f s₃ => match f with
          | .next | .cont => ∃ m, m < xs.length + 1 - i ∧ ∃ (i : Nat) (W' : Fz) (S' : St), Ext Z W₁ W' ∧ T i s₃.heap ∧ R g L Z W' S' s₃ ∧ (∀ b ∈ wr, W' b = none) ∧ (∀ b ∈ fp, S'.σ b = none) ∧ LoopW g c x body (xs.drop i) S' Q ∧ i ≤ xs.length ∧ m = xs.length + 1 - i
          | .brk => Q' .next s₃
          | .ret v => Q' (.ret v) s₃) E s₂) E { s' with heap := h₁, toks := tk₁ } := by
        intro E
        have r2 : R g L (fun b => if b ∈ fp then h₁.get? b else Z b) W' S' { s' with heap := h₁, toks := tk₁ } := rr₁.more hLf hf'
        have hzz : ∀ a o, Z a = some o → (if a ∈ fp then h₁.get? a else Z a) = some o := fun a o e => by
          by_cases q : a ∈ fp
          · rw [if_pos q]; exact rr₁.z a o e
          · rw [if_neg q]; exact e
        refine wpAny_assign_Name (store_ r2 (ry.mono ex.up) hl fun s₂ r₂ => ?_)
        refine wpAny_mono (hq' A L a cd _ W' s₂ (fun f s₃ => match f with
          | .next | .cont => ∃ m, m < xs.length + 1 - i ∧ ∃ (i : Nat) (W' : Fz) (S' : St), Ext Z W₁ W' ∧ T i s₃.heap ∧ R g L Z W' S' s₃ ∧ (∀ b ∈ wr, W' b = none) ∧ (∀ b ∈ fp, S'.σ b = none) ∧ LoopW g c x body (xs.drop i) S' Q ∧ i ≤ xs.length ∧ m = xs.length + 1 - i
          | .brk => Q' .next s₃
          | .ret v => Q' (.ret v) s₃) lv r₂ ?_) (fun _ _ h => h) fun _ _ h => h.elim
        intro W₃ f b S₃ s₃ e₃ rf rr₃ h₃
        have ez := e₃.less hzz
        have goOn : LoopW g c x body (xs.drop (i + 1)) S₃ Q → ∃ m, m < xs.length + 1 - i ∧ ∃ (i : Nat) (W' : Fz) (S' : St), Ext Z W₁ W' ∧ T i s₃.heap ∧ R g L Z W' S' s₃ ∧ (∀ b ∈ wr, W' b = none) ∧ (∀ b ∈ fp, S'.σ b = none) ∧ LoopW g c x body (xs.drop i) S' Q ∧ i ≤ xs.length ∧ m = xs.length + 1 - i := fun hl₃ => by
          refine ⟨_, ?_, i + 1, W₃, S₃, ex.trans ez, ?_, rr₃.less hzz, ?_, ?_, hl₃, hlt, rfl⟩
          · omega
          · refine Wk.frame _ _ _ hT₁ fun b hb o e => rr₃.z b o ?_
            simp only [if_pos hb]; exact e
          · intro b hb
            cases q : W₃ b with
            | none => rfl
            | some o =>
              rcases e₃.fresh b o q with h | h
              · rw [hw' b hb] at h; cases h
              · simp only [if_pos (Wk.sub _ hb)] at h
                obtain ⟨o', ho'⟩ := hob _ _ hT₁ b (Wk.sub _ hb)
                rw [ho'] at h; cases h
          · intro b hb
            cases q : S₃.σ b with
            | none => rfl
            | some l =>
              obtain ⟨arr, n, h1, _, h3, _⟩ := rr₃.mu b l q
              simp only [if_pos hb] at h3
              obtain ⟨o', ho'⟩ := hob _ _ hT₁ b hb
              rw [ho'] at h3; cases h3
        cases rf with
        | next => exact goOn h₃
        | cont => exact goOn h₃
        | brk => exact po _ _ _ _ _ ((e₁.trans ex).trans ez) .next (rr₃.less hzz) h₃
        | ret hr => exact po _ _ _ _ _ ((e₁.trans ex).trans ez) (.ret hr) (rr₃.less hzz) h₃
      exact step _
    · have hin : i = xs.length := by omega
      subst hin
      refine Wk.done _ _ _ hT' fun h₁ tk₁ hk₁ => wpAny_execs_nil ?_
      rw [List.drop_length] at hq'
      exact po _ _ _ _ _ (e₁.trans ex) .next (rr.next (tk' := tk₁) hk₁ hLw hnext) hq'
end
end Mine

namespace Mine
section
variable {p : Program} {g : G p} {c : Cx} {α β : Type} {ρ : Fz → α → β → Prop} {S : St}

-- while
def WhileW (g : G p) (c : Cx) (test : Expr) (body : List Stmt) : Nat → St → (F → St → Prop) → Prop
  | 0, _, _ => False
  | n + 1, S, Q => WT g c test S (fun b S₁ => if b = true then WS g c body S₁ (fun f S' => match f with
      | .next => WhileW g c test body n S' Q
      | .cont => WhileW g c test body n S' Q
      | .brk => Q .next S'
      | .ret u => Q (.ret u) S') else Q .next S₁)

theorem wX_while {test : Expr} {body : List Stmt} {pos : Pos} {Q : F → St → Prop} (n : Nat) (h : WhileW g c test body n S Q) : WX g c (.While test body [] pos) S Q :=
  fun A L a cd Z W s Q' lv r po => by
    refine wpAny_While (codeAny_mono (R := fun r s' => match r with | .ok f => Q' f s' | .error e => False) ?_ fun r s' h' => by cases r with | ok f => exact h' | error e => exact h'.elim)
    refine codeAny_whileLoop (fun k s' => ∃ (W' : Fz) (S' : St), Ext Z W W' ∧ R g L Z W' S' s' ∧ WhileW g c test body k S' Q) ?_ n ⟨W, S, .refl, r, h⟩
    rintro k s' ⟨W', S', ex, rr, hk⟩
    cases k with
    | zero => exact hk.elim
    | succ k =>
      refine wpAny_mono (hk A L a cd Z W' s' _ lv rr ?_) (fun _ _ h => h) fun _ _ h => h.elim
      intro W₁ x b S₁ s₁ e₁ rb rr₁ h₁
      cases rb
      cases x with
      | false => exact wpAny_execs_nil (po _ _ _ _ _ (ex.trans e₁) .next rr₁ h₁)
      | true =>
        refine wpAny_mono (h₁ A L a cd Z W₁ s₁ (fun f s₃ => match f with
            | .next | .cont => ∃ m, m < k + 1 ∧ ∃ (W' : Fz) (S' : St), Ext Z W W' ∧ R g L Z W' S' s₃ ∧ WhileW g c test body m S' Q
            | .brk => Q' .next s₃
            | .ret v => Q' (.ret v) s₃) lv rr₁ ?_) (fun _ _ h => h) fun _ _ h => h.elim
        intro W₂ f b S₂ s₂ e₂ rf rr₂ h₂
        have e3 := (ex.trans e₁).trans e₂
        cases rf with
        | next => exact ⟨k, Nat.lt_succ_self _, W₂, S₂, e3, rr₂, h₂⟩
        | cont => exact ⟨k, Nat.lt_succ_self _, W₂, S₂, e3, rr₂, h₂⟩
        | brk => exact po _ _ _ _ _ e3 .next rr₂ h₂
        | ret hr => exact po _ _ _ _ _ e3 (.ret hr) rr₂ h₂

-- calls
theorem call_name {M : Model} {A : Around} {E : Value → Shared → Prop} {s : Shared} {env : Env} {func : Expr} {args : List Expr} {pos : Pos} {Q : Value → Shared → Prop}
    (hc : eval (.Call func args [] pos) env = (do callWith pos (← eval func env) [] (backTo pos (starEach args env)) []))
    (h : wpAny M A (eval func env) (fun f s₁ => wpAny M A (callWith pos f [] (backTo pos (starEach args env)) []) Q E s₁) E s) : wpAny M A (eval (.Call func args [] pos) env) Q E s := by
  rw [hc]; exact wpAny_bind h

/-- a call that is no method's -/
def PlainCall (func : Expr) (args : List Expr) (pos : Pos) : Prop :=
  ∀ env, eval (.Call func args [] pos) env = (do callWith pos (← eval func env) [] (backTo pos (starEach args env)) [])
/-- one argument at least, none starred -/
def SomeArgs (args : List Expr) (pos : Pos) : Prop := ∀ env, ∃ x r, backTo pos (starEach args env) = (false, x) :: r ∧ r.any (·.1) = false

theorem wE_callB {id : String} {func : Expr} {args : List Expr} {pos : Pos} {Q : V → St → Prop}
    (h : WE g c func S (fun fv S₁ => fv = .lit (.builtin id) ∧ WA g c pos args S₁ (fun xs S₂ => OpN g c Rep (fun vs => call (.builtin id) vs) xs S₂ Q)))
    (hc : PlainCall func args pos := by intro _; rfl) (hs : SomeArgs args pos := by intro _; exact ⟨_, _, rfl, rfl⟩) : WE g c (.Call func args [] pos) S Q :=
  fun A L a cd Z W s Q' lv r po => call_name (hc _) (h A L a cd Z W s _ lv r fun W₁ f fv S₁ s₁ e₁ rf rr₁ h₁ => by
    obtain ⟨rfl, h₁⟩ := h₁
    cases rf
    obtain ⟨x, q, hx, hq⟩ := hs (c.env L a cd)
    refine Calls.callWith_builtin (by rw [hx]; simpa using hq) ?_
    have := h₁ A L a cd Z W₁ s₁ (fun vs s₂ => wpAny (model g.prog g.w) A (call (.builtin id) vs) Q' (fun _ _ => False) s₂) lv rr₁ fun W₂ vs xs S₂ s₂ e₂ r₂ rr₂ h₂ => h₂ A L Z W₂ s₂ Q' vs lv rr₂ r₂ (po.ext (e₁.trans e₂))
    change wpAny _ _ (spliced (backTo pos (starEach args (c.env L a cd)))) _ _ _ at this
    rw [hx] at this ⊢
    exact Calls.evalArgs_plain (wpAny_mono this (fun vs s₂ h => h) fun _ _ h => h))
theorem wE_callT {T : String} {func : Expr} {args : List Expr} {pos : Pos} {Q : V → St → Prop}
    (h : WE g c func S (fun fv S₁ => fv = .lit (.type T) ∧ WA g c pos args S₁ (fun xs S₂ => OpN g c Rep (fun vs => call (.type T) vs) xs S₂ Q)))
    (hc : PlainCall func args pos := by intro _; rfl) (hs : SomeArgs args pos := by intro _; exact ⟨_, _, rfl, rfl⟩) : WE g c (.Call func args [] pos) S Q :=
  fun A L a cd Z W s Q' lv r po => call_name (hc _) (h A L a cd Z W s _ lv r fun W₁ f fv S₁ s₁ e₁ rf rr₁ h₁ => by
    obtain ⟨rfl, h₁⟩ := h₁
    cases rf
    obtain ⟨x, q, hx, hq⟩ := hs (c.env L a cd)
    refine PySem.callWith_type (by rw [hx]; simpa using hq) ?_
    have := h₁ A L a cd Z W₁ s₁ (fun vs s₂ => wpAny (model g.prog g.w) A (call (.type T) vs) Q' (fun _ _ => False) s₂) lv rr₁ fun W₂ vs xs S₂ s₂ e₂ r₂ rr₂ h₂ => h₂ A L Z W₂ s₂ Q' vs lv rr₂ r₂ (po.ext (e₁.trans e₂))
    change wpAny _ _ (spliced (backTo pos (starEach args (c.env L a cd)))) _ _ _ at this
    rw [hx] at this ⊢
    exact Calls.evalArgs_plain (wpAny_mono this (fun vs s₂ h => h) fun _ _ h => h))
def IsFn (g : G p) (f : Addr) : Prop := ∃ o fd, g.hB.get? f = some o ∧ o.data = .func fd
theorem wE_callD {f : Addr} (hf : IsFn g f) {func : Expr} {args : List Expr} {pos : Pos} {Q : V → St → Prop}
    (h : WE g c func S (fun fv S₁ => fv = .lit (.ref f) ∧ WA g c pos args S₁ (fun xs S₂ => OpN g c Rep (fun vs => call (.ref f) vs) xs S₂ Q)))
    (hc : PlainCall func args pos := by intro _; rfl) (hs : SomeArgs args pos := by intro _; exact ⟨_, _, rfl, rfl⟩) : WE g c (.Call func args [] pos) S Q :=
  fun A L a cd Z W s Q' lv r po => call_name (hc _) (h A L a cd Z W s _ lv r fun W₁ fr fv S₁ s₁ e₁ rf rr₁ h₁ => by
    obtain ⟨rfl, h₁⟩ := h₁
    cases rf
    obtain ⟨o, fd, ho, hd⟩ := hf
    obtain ⟨x, q, hx, hq⟩ := hs (c.env L a cd)
    refine Calls.callWith_function (o := o) (fd := fd) ?_
    have := h₁ A L a cd Z W₁ s₁ (fun vs s₂ => (s₂.heap.get? f = some o ∧ o.data = .func fd) ∧ wpAny (model g.prog g.w) A (call (.ref f) vs) Q' (fun _ _ => False) s₂) lv rr₁ fun W₂ vs xs S₂ s₂ e₂ r₂ rr₂ h₂ =>
      ⟨⟨rr₂.base _ _ ho, hd⟩, h₂ A L Z W₂ s₂ Q' vs lv rr₂ r₂ (po.ext (e₁.trans e₂))⟩
    change wpAny _ _ (spliced (backTo pos (starEach args (c.env L a cd)))) _ _ _ at this
    rw [hx] at this ⊢
    exact Calls.evalArgs_plain (wpAny_mono this (fun vs s₂ h => h) fun _ _ h => h))

/-- the contract of a def: from a state that tells σ alone, the call ends in what P tells -/
def GCall (g : G p) (f : Addr) (n : Nat) (xs : List V) (σ : Addr → Option (List V)) (P : V → (Addr → Option (List V)) → Prop) : Prop :=
  ∀ (A : Around) (Z W : Fz) (s : Shared) (vs : List Value) (Q' : Value → Shared → Prop), Lv n A → R0 g Z W σ s → RepL W vs xs →
    (∀ W' v x σ' s', Ext Z W W' → Rep W' v x → R0 g Z W' σ' s' → P x σ' → Q' v s') → wpAny (model g.prog g.w) A (call (.ref f) vs) Q' (fun _ _ => False) s

theorem GCall.mono {f : Addr} {n : Nat} {xs : List V} {σ : Addr → Option (List V)} {P P' : V → (Addr → Option (List V)) → Prop} (h : GCall g f n xs σ P) (k : ∀ x σ', P x σ' → P' x σ') : GCall g f n xs σ P' :=
  fun A Z W s vs Q' lv r rv q => h A Z W s vs Q' lv r rv fun W' v x σ' s' e1 e2 e3 e4 => q W' v x σ' s' e1 e2 e3 (k _ _ e4)

theorem repL_lookup {W : Fz} : ∀ {names : List Str} {vs : List Value} {xs : List V}, RepL W vs xs → ∀ y u, ((names.zip xs).reverse.lookup y) = some u → ∃ q, ((names.zip vs).reverse.lookup y) = some q ∧ Rep W q u := by
  intro names
  induction names with
  | nil => intro vs xs h y u e; simp at e
  | cons n r ih =>
    intro vs xs h y u e
    cases h with
    | nil => simp at e
    | cons a b =>
      rename_i v x vs xs
      simp only [List.zip_cons_cons, List.reverse_cons, List.lookup_append, List.lookup_cons, List.lookup_nil] at e ⊢
      cases hq : ((r.zip xs).reverse.lookup y) with
      | some z =>
        rw [hq] at e
        simp only [Option.some_or, Option.some.injEq] at e
        subst e
        obtain ⟨q, e1, e2⟩ := ih b y _ hq
        exact ⟨q, by rw [e1]; rfl, e2⟩
      | none =>
        rw [hq] at e
        simp only [Option.none_or] at e
        have hn : ((r.zip vs).reverse.lookup y) = none := by
          have hl : vs.length = xs.length := b.length
          clear ih e
          rw [List.lookup_eq_none_iff] at hq ⊢
          intro q hm
          rw [List.mem_reverse] at hm
          obtain ⟨i, hi, he⟩ := List.mem_iff_getElem.mp hm
          have hi' : i < r.length ∧ i < vs.length := by simp only [List.length_zip] at hi; omega
          have h1 : (r[i], xs[i]'(by omega)) ∈ (r.zip xs).reverse := by
            rw [List.mem_reverse]
            exact List.mem_iff_getElem.mpr ⟨i, by simp; omega, by simp⟩
          have h2 := hq _ h1
          rw [← he]
          simpa using h2
        rw [hn]
        simp only [Option.none_or]
        split at e
        · rename_i heq
          cases e
          exact ⟨v, rfl, a⟩
        · cases e

theorem gcall_of {d : DefRec} (hd : d ∈ recsOf p) {f : Addr} (hf : g.mg d.name = some (.ref f)) {n : Nat} {xs : List V} {σ : Addr → Option (List V)} {P : V → (Addr → Option (List V)) → Prop} (names : List Str)
    (hbind : ∀ pm code doc vs, vs.length = xs.length → bindArgs (docDef d.name d.params d.body d.scope pm code doc) ⟨vs, []⟩ = pure (names.zip vs))
    (hloc : ∀ x ∈ names, d.scope.names.lookup x = some .local) (hk : d.scope.kind = .function)
    (h : WS g ⟨n, d.name, d.scope, hk, fun _ _ => True⟩ d.body ⟨fun y => (names.zip xs).reverse.lookup y, σ⟩ (fun fl S' => ∃ x, fl = .ret x ∧ P x S'.σ))
    (hco : d.scope.isCoroutine = false := by rfl) (hgen : d.scope.isGenerator = false := by rfl) (hcell : ∀ x ∈ d.scope.names, x.2 ≠ .cell := by decide) :
    GCall g f (n + 1) xs σ P := by
  intro A Z W s vs Q' lv r rv po
  obtain ⟨a, o, pm, code, doc, h1, h2, h3, h4⟩ := g.T.fn d hd
  rw [hf] at h1
  obtain rfl : f = a := by cases h1; rfl
  refine wpAny_call (call_plain_ret (by have := lv.dep; show A.depth < 1000; omega) (r.base _ _ h2) h3 (g.T.nolimit.keeps r.base) (h4.keeps r.base) (hbind pm code doc vs rv.length) ?_ (fun h₁ F₁ => ?_) hco hgen hk hcell)
  · intro x hx
    exact hloc _ (List.of_mem_zip hx).1
  · have key : s.heap.get? s.heap.objs.size = none := Heap.get?_none_of_le (Nat.le_refl _)
    have r' : R g s.heap.objs.size Z W ⟨fun y => (names.zip xs).reverse.lookup y, σ⟩ { s with heap := h₁, toks := s.toks + (names.zip vs).length } := by
      refine { toR0 := r.keeps F₁.keep, ns := ⟨_, F₁.ns, fun y u e => repL_lookup rv y u e⟩, lz := ?_, lw := ?_, lb := ?_, lm := ?_ }
      · cases q : Z s.heap.objs.size with
        | none => rfl
        | some o => rw [r.z _ _ q] at key; cases key
      · cases q : W s.heap.objs.size with
        | none => rfl
        | some o => rw [r.w _ _ q] at key; cases key
      · cases q : g.hB.get? s.heap.objs.size with
        | none => rfl
        | some o => rw [r.base _ _ q] at key; cases key
      · show σ s.heap.objs.size = none
        cases q : σ s.heap.objs.size with
        | none => rfl
        | some o => obtain ⟨_, _, h1, _⟩ := r.mu _ _ q; rw [h1] at key; cases key
    refine h _ _ _ _ Z W _ _ ⟨⟨lv.hh, ?_, ?_⟩, trivial⟩ r' ?_
    · show A.depth + 1 + n ≤ 900
      have := lv.dep; omega
    · show A.units + 3 + 40 * n ≤ 9000
      have := lv.un; omega
    · intro W' fl b S' s' e rf rr hq
      obtain ⟨x, rfl, hP⟩ := hq
      cases rf with
      | ret hr => exact po W' _ x S'.σ s' e hr rr.toR0 hP

/-- a call that changes nothing -/
theorem op_pure {f : Addr} {n : Nat} {xs : List V} {P : V → Prop} {Q : V → St → Prop} (h : GCall g f n xs (fun _ => none) (fun x _ => P x)) (hn : n ≤ c.lv) (hq : ∀ x, P x → Q x S) :
    OpN g c Rep (fun vs => call (.ref f) vs) xs S Q := by
  intro A L Z W s Q' vs lv r rv po
  refine h A (fun a => s.heap.get? a) W s vs Q' (lv.le hn) ⟨r.rest, r.base, fun _ _ e => e, r.w, fun _ _ e => by cases e⟩ rv fun W' v x σ' s' ex hv r' hP => ?_
  have fr : ∀ a o, W' a = some o → W a = some o ∨ s.heap.get? a = none := fun a o e => ex.fresh a o e
  have ez : Ext Z W W' := ⟨ex.up, fun a o e => (fr a o e).imp id fun h => by
    cases q : Z a with
    | none => rfl
    | some o => rw [r.z _ _ q] at h; cases h⟩
  refine po W' v x S s' ez hv ?_ (hq x hP)
  have off : ∀ a, W a = none → s.heap.get? a ≠ none → W' a = none := fun a h1 h2 => by
    cases q : W' a with
    | none => rfl
    | some o => rcases fr a o q with h | h
                · rw [h1] at h; cases h
                · exact absurd h h2
  obtain ⟨mr, hn, hm⟩ := r.ns
  refine { rest := r'.rest, base := r'.base, z := fun a o e => r'.z a o (r.z a o e), w := r'.w, mu := fun a l e => ?_, ns := ⟨mr, hn.keeps r'.z, fun y u e => let ⟨q, e1, e2⟩ := hm y u e; ⟨q, e1, e2.mono ex.up⟩⟩, lz := r.lz, lw := ?_, lb := r.lb, lm := r.lm }
  · obtain ⟨arr, k, h1, h2, h3, h4, h5⟩ := r.mu a l e
    exact ⟨arr, k, r'.z _ _ h1, h2.mono ex.up, h3, off a h4 (by rw [h1]; exact fun h => nomatch h), h5⟩
  · obtain ⟨oL, _, _, hL, _⟩ := hn
    exact off L r.lw (by rw [hL]; exact fun h => nomatch h)

/-- a call that is lent one list -/
theorem op_lend {f : Addr} {n : Nat} {xs : List V} {P : V → List V → Prop} {Q : V → St → Prop} {a : Addr} {l : List V} (ha : S.σ a = some l)
    (h : GCall g f n xs (fun b => if b = a then some l else none) (fun x σ' => ∃ l', σ' a = some l' ∧ P x l')) (hn : n ≤ c.lv) (hq : ∀ x l', P x l' → Q x { S with σ := upd S.σ a l' }) :
    OpN g c Rep (fun vs => call (.ref f) vs) xs S Q := by
  intro A L Z W s Q' vs lv r rv po
  obtain ⟨arr₀, n₀, m1, m2, m3, m4, m5⟩ := r.mu a l ha
  have hLa : L ≠ a := fun q => by rw [← q, r.lm] at ha; cases ha
  refine h A (fun b => if b = a then none else s.heap.get? b) W s vs Q' (lv.le hn) ⟨r.rest, r.base, fun b o e => ?_, r.w, fun b l' e => ?_⟩ rv fun W' v x σ' s' ex hv r' hP => ?_
  · have e' : (if b = a then none else s.heap.get? b) = some o := e
    by_cases q : b = a
    · rw [if_pos q] at e'; cases e'
    · rw [if_neg q] at e'; exact e'
  · have e' : (if b = a then some l else none) = some l' := e
    by_cases q : b = a
    · rw [if_pos q] at e'; cases e'
      rw [q]
      exact ⟨arr₀, n₀, m1, m2, if_pos rfl, m4, m5⟩
    · rw [if_neg q] at e'; cases e'
  · obtain ⟨l', hl', hP⟩ := hP
    have fr : ∀ b o, W' b = some o → W b = some o ∨ b = a ∨ s.heap.get? b = none := fun b o e => (ex.fresh b o e).imp id fun h => by
      have h' : (if b = a then none else s.heap.get? b) = none := h
      by_cases q : b = a
      · exact .inl q
      · rw [if_neg q] at h'; exact .inr h'
    obtain ⟨arr', n', p1, p2, p3, p4, p5⟩ := r'.mu a l' hl'
    have ez : Ext Z W W' := ⟨ex.up, fun b o e => (fr b o e).imp id fun h => by
      rcases h with h | h
      · rw [h]; exact m3
      · cases q : Z b with
        | none => rfl
        | some o => rw [r.z _ _ q] at h; cases h⟩
    refine po W' v x _ s' ez hv ?_ (hq x l' hP)
    have off : ∀ b, W b = none → b ≠ a → s.heap.get? b ≠ none → W' b = none := fun b h1 hb h2 => by
      cases q : W' b with
      | none => rfl
      | some o => rcases fr b o q with h | h | h
                  · rw [h1] at h; cases h
                  · exact absurd h hb
                  · exact absurd h h2
    have kz : ∀ b o, b ≠ a → s.heap.get? b = some o → s'.heap.get? b = some o := fun b o hb e => r'.z b o (by show (if b = a then none else s.heap.get? b) = some o; rw [if_neg hb]; exact e)
    obtain ⟨mr, hn, hm⟩ := r.ns
    refine { rest := r'.rest, base := r'.base, z := fun b o e => kz b o (fun q => by rw [q, m3] at e; cases e) (r.z b o e), w := r'.w, mu := fun b k e => ?_, ns := ⟨mr, hn.at' fun o e => kz L o hLa e, fun y u e => let ⟨q, e1, e2⟩ := hm y u e; ⟨q, e1, e2.mono ex.up⟩⟩, lz := r.lz, lw := ?_, lb := r.lb, lm := ?_ }
    · simp only [upd] at e
      by_cases q : b = a
      · rw [if_pos q] at e; cases e
        rw [q]
        exact ⟨arr', n', p1, p2, m3, p4, m5⟩
      · rw [if_neg q] at e
        obtain ⟨arr, k', h1, h2, h3, h4, h5⟩ := r.mu b k e
        exact ⟨arr, k', kz _ _ q h1, h2.mono ex.up, h3, off b h4 q (by rw [h1]; exact fun h => nomatch h), h5⟩
    · obtain ⟨oL, _, _, hL, _⟩ := hn
      exact off L r.lw hLa (by rw [hL]; exact fun h => nomatch h)
    · simp only [upd]; rw [if_neg hLa]; exact r.lm
end
end Mine

namespace Mine

def noHeap : Heap := {}
theorem noHeap_get (a : Addr) : noHeap.get? a = none := by simp [noHeap, Heap.get?]
def allNews (h : Heap) (L : Addr) : List (Addr × Obj) := (List.range h.objs.size).filterMap fun a => if a = L then none else (h.get? a).map fun o => (a, o)
theorem mem_allNews {h : Heap} {L a : Addr} {o : Obj} : (a, o) ∈ allNews h L ↔ a ≠ L ∧ h.get? a = some o := by
  unfold allNews
  rw [List.mem_filterMap]
  constructor
  · rintro ⟨b, _, e⟩
    by_cases hb : b = L
    · rw [if_pos hb] at e; cases e
    · rw [if_neg hb, Option.map_eq_some_iff] at e
      obtain ⟨o', h1, h2⟩ := e
      cases h2
      exact ⟨hb, h1⟩
  · rintro ⟨h1, h2⟩
    exact ⟨a, List.mem_range.mpr (Heap.lt_size h2), by rw [if_neg h1, h2]; rfl⟩
theorem fr_no {h : Heap} {L : Addr} {m : Str → Option Value} (hn : h.Ns L m) : Fr noHeap L h m := ⟨hn, fun b o e => (by rw [noHeap_get] at e; cases e), Nat.zero_le _⟩
theorem news_all (h : Heap) (L : Addr) : News noHeap L h (allNews h L) := fun p hp => by
  obtain ⟨h1, h2⟩ := mem_allNews.mp hp
  exact ⟨h2, h1, noHeap_get _⟩

section
variable {p : Program} {g : G p} {c : Cx} {α β : Type} {ρ : Fz → α → β → Prop} {S : St}

theorem R.of_all {L : Addr} {Z W : Fz} {s : Shared} {mr : Str → Option Value} (r : R g L Z W S s) (hm : ∀ x v, S.m x = some v → ∃ q, mr x = some q ∧ Rep W q v) {h' : Heap} {tk' : Nat}
    (F : Fr noHeap L h' mr) (N : News noHeap L h' (allNews s.heap L)) : R g L Z W S { s with heap := h', toks := tk' } := by
  have k : ∀ b o, b ≠ L → s.heap.get? b = some o → h'.get? b = some o := fun b o hb e => (N _ (mem_allNews.mpr ⟨hb, e⟩)).1
  refine { rest := ?_, base := fun b o e => k b o (fun q => by rw [q, r.lb] at e; cases e) (r.base b o e), z := fun b o e => k b o (fun q => by rw [q, r.lz] at e; cases e) (r.z b o e), w := fun b o e => k b o (fun q => by rw [q, r.lw] at e; cases e) (r.w b o e), mu := fun a l e => ?_, ns := ⟨mr, F.ns, hm⟩, lz := r.lz, lw := r.lw, lb := r.lb, lm := r.lm }
  · obtain ⟨h, tk, rfl⟩ := r.rest; exact ⟨_, tk', rfl⟩
  · obtain ⟨arr, n, h1, h2⟩ := r.mu a l e
    exact ⟨arr, n, k a _ (fun q => by rw [q, r.lm] at e; cases e) h1, h2⟩

theorem R.weak {L : Addr} {Z W : Fz} {S' : St} {s : Shared} (r : R g L Z W S s) (hm : ∀ x v, S'.m x = some v → S.m x = some v) (hs : ∀ a l, S'.σ a = some l → S.σ a = some l) : R g L Z W S' s where
  rest := r.rest
  base := r.base
  z := r.z
  w := r.w
  mu := fun a l e => r.mu a l (hs a l e)
  ns := let ⟨mr, h1, h2⟩ := r.ns; ⟨mr, h1, fun x v e => h2 x v (hm x v e)⟩
  lz := r.lz
  lw := r.lw
  lb := r.lb
  lm := by
    cases q : S'.σ L with
    | none => rfl
    | some l => have := hs L l q; rw [r.lm] at this; cases this

/-- from here on less is told of the state -/
theorem w_weak {t : Env → Sem α} {S' : St} {Q : β → St → Prop} (hm : ∀ x v, S'.m x = some v → S.m x = some v) (hs : ∀ a l, S'.σ a = some l → S.σ a = some l) (h : Wp g c ρ t S' Q) : Wp g c ρ t S Q :=
  fun A L a cd Z W s Q' lv r po => h A L a cd Z W s Q' lv (r.weak hm hs) po

def St.freeze (S : St) (x : Str) (a : Addr) (l : List V) : St := ⟨fun y => if y = x then some (.list l) else S.m y, fun b => if b = a then none else S.σ b⟩
theorem R.freeze {L : Addr} {Z W : Fz} {s : Shared} {x : Str} {a : Addr} {l : List V} (r : R g L Z W S s) (hx : S.m x = some (.ref a)) (ha : S.σ a = some l) :
    ∃ W', Ext Z W W' ∧ R g L Z W' (S.freeze x a l) s := by
  obtain ⟨arr, n, h1, h2, h3, h4, h5⟩ := r.mu a l ha
  have hLa : L ≠ a := fun q => by rw [← q, r.lm] at ha; cases ha
  have up : ∀ b o, W b = some o → wadd W a (lobj arr n) b = some o := fun b o e => by
    unfold wadd
    rw [if_neg (fun q => by rw [q, h4] at e; cases e)]; exact e
  refine ⟨wadd W a (lobj arr n), ⟨up, fun b o e => ?_⟩, { rest := r.rest, base := r.base, z := r.z, w := fun b o e => ?_, mu := fun b l' e => ?_, ns := ?_, lz := r.lz, lw := ?_, lb := r.lb, lm := ?_ }⟩
  · unfold wadd at e
    by_cases q : b = a
    · rw [q]; exact .inr h3
    · rw [if_neg q] at e; exact .inl e
  · unfold wadd at e
    by_cases q : b = a
    · rw [if_pos q] at e; cases e; rw [q]; exact h1
    · rw [if_neg q] at e; exact r.w b o e
  · have e' : (if b = a then none else S.σ b) = some l' := e
    by_cases q : b = a
    · rw [if_pos q] at e'; cases e'
    · rw [if_neg q] at e'
      obtain ⟨arr', n', k1, k2, k3, k4, k5⟩ := r.mu b l' e'
      exact ⟨arr', n', k1, k2.mono up, k3, by unfold wadd; rw [if_neg q]; exact k4, k5⟩
  · obtain ⟨mr, hn, hm⟩ := r.ns
    refine ⟨mr, hn, fun y v e => ?_⟩
    have e' : (if y = x then some (.list l) else S.m y) = some v := e
    by_cases q : y = x
    · rw [if_pos q] at e'; cases e'
      obtain ⟨rv, e1, e2⟩ := hm x _ hx
      cases e2
      exact ⟨_, by rw [q]; exact e1, .list (by unfold wadd; exact if_pos rfl) (h2.mono up)⟩
    · rw [if_neg q] at e'
      obtain ⟨rv, e1, e2⟩ := hm y _ e'
      exact ⟨rv, e1, e2.mono up⟩
  · unfold wadd; rw [if_neg hLa]; exact r.lw
  · show (if L = a then none else S.σ L) = none
    rw [if_neg hLa]; exact r.lm
/-- a list of the frame is changed no more -/
theorem w_freeze {t : Env → Sem α} {Q : β → St → Prop} (x : Str) {a : Addr} {l : List V} (hx : S.m x = some (.ref a)) (ha : S.σ a = some l) (h : Wp g c ρ t (S.freeze x a l) Q) : Wp g c ρ t S Q :=
  fun A L k cd Z W s Q' lv r po => by
    obtain ⟨W', ex, r'⟩ := r.freeze hx ha
    exact h A L k cd Z W' s Q' lv r' (po.ext ex)

-- truth by the value
theorem wT_plain {e : Expr} {Q : Bool → St → Prop} (h : WE g c e S (fun v S' => ∃ b, truthV v = some b ∧ Q b S'))
    (he : ∀ env whole, isTrue e env whole = (do let v ← whole; standAt e.pos; holding [v] (truthy v)) := by intros; rfl) : WT g c e S Q :=
  fun A L a cd Z W s Q' lv r po => isTrue_plain (h A L a cd Z W s _ lv r fun W₁ v x S₁ s₁ e₁ r₁ rr₁ h₁ => by
    obtain ⟨b, hb, hq⟩ := h₁
    exact truthy_V r₁ hb (po _ _ _ _ _ e₁ rfl rr₁ hq)) (he _ _)

theorem wT_chain {l q₁ q₂ : Expr} {op₁ op₂ : CmpOp} {pos : Pos} {Q : Bool → St → Prop}
    (h : WE g c l S (fun x S₁ => WE g c q₁ S₁ (fun y S₂ => Op2 g c Rep (compareOp op₁) x y S₂ (fun v S₃ => ∃ b, truthV v = some b ∧
      if b = true then WE g c q₂ S₃ (fun z S₄ => Op2 g c Rep (compareOp op₂) y z S₄ (fun v S₅ => ∃ b, truthV v = some b ∧ Q b S₅)) else Q false S₃))))
    (hm : lastMarks [op₁, op₂] [q₁, q₂] = false := by with_unfolding_all rfl) : WT g c (.Compare l [op₁, op₂] [q₁, q₂] pos) S Q :=
  fun A L a cd Z W s Q' lv r po => by
    refine isTrue_chain (h A L a cd Z W s _ lv r fun W₁ v x S₁ s₁ e₁ r₁ rr₁ h₁ => ?_) hm
    refine test_link (h₁ A L a cd Z W₁ s₁ _ lv rr₁ fun W₂ u y S₂ s₂ e₂ r₂ rr₂ h₂ => h₂ A L Z W₂ s₂ _ v u lv rr₂ (r₁.mono e₂.up) r₂ fun W₃ z vz S₃ s₃ e₃ r₃ rr₃ h₃ => ?_)
    obtain ⟨b, hb, hq⟩ := h₃
    refine truthy_V r₃ hb ?_
    have e123 := (e₁.trans e₂).trans e₃
    cases b with
    | false => exact po _ _ _ _ _ e123 rfl rr₃ hq
    | true =>
      refine test_last (hq A L a cd Z W₃ s₃ _ lv rr₃ fun W₄ z4 y4 S₄ s₄ e₄ r₄ rr₄ h₄ => h₄ A L Z W₄ s₄ _ u z4 lv rr₄ (r₂.mono (fun b o e => e₄.up b o (e₃.up b o e))) r₄ fun W₅ z5 y5 S₅ s₅ e₅ r₅ rr₅ h₅ => ?_)
      obtain ⟨b, hb, hq⟩ := h₅
      exact truthy_V r₅ hb (po _ _ _ _ _ ((e123.trans e₄).trans e₅) rfl rr₅ hq)

-- subscripts
theorem sub_tail {M : Model} {A : Around} {s : Shared} {prog : Program} {w : World} {value slice : Expr} {o i : Value} {T id : String} {E : Value → Shared → Prop} {Q : Value → Shared → Prop} (hT : s.TypeIs o T)
    (hl : typeLookup (.type T) "__getitem__" = pure (some (.builtin id))) (h : wpAny (model prog w) A (getItem o i) Q E s)
    (hs : subscripted slice false o i = operate [o, i] (getItem o i)) : wpAny (model prog w) A (subscriptTail value slice o i) Q E s := by
  unfold subscriptTail
  refine wpAny_bind ?_
  rw [getitemInPython_of_ne hT.not_modules]
  refine wpAny_bind (wpAny_specialOf hT hl ?_)
  refine wpAny_pure (wpAny_bind ?_)
  rw [hs]
  exact wpAny_operating (wpAny_mono h (fun r s₃ h₃ => wpAny_bind (wpAny_letTemporaryGo (wpAny_pure h₃))) fun _ _ x => x)

def NoSlice (slice : Expr) : Prop := ∀ o i, subscripted slice false o i = operate [o, i] (getItem o i)

theorem wE_sub {value slice : Expr} {pos : Pos} {Q : V → St → Prop} (h : WE g c value S (fun x S₁ => WE g c slice S₁ (fun y S₂ => Op2 g c Rep (subscriptTail value slice) x y S₂ Q))) :
    WE g c (.Subscript value slice pos) S Q :=
  fun A L a cd Z W s Q' lv r po => Subscript_ (h A L a cd Z W s _ lv r fun W₁ v x S₁ s₁ e₁ r₁ rr₁ h₁ =>
    h₁ A L a cd Z W₁ s₁ _ lv rr₁ fun W₂ u y S₂ s₂ e₂ r₂ rr₂ h₂ => h₂ A L Z W₂ s₂ Q' v u lv rr₂ (r₁.mono e₂.up) r₂ (po.ext (e₁.trans e₂)))

/-- the place an index names -/
def place (k : Int) (n : Nat) : Nat := if k < 0 then (k + n).toNat else k.toNat

theorem getItem_any {A : Around} {s : Shared} {l : Addr} {items : Array Value} {k : Int} {t : Tok} {x : Value} {Q : Value → Shared → Prop} {E : Value → Shared → Prop} (hl : s.heap.IsList l items)
    (h1 : -(items.size : Int) ≤ k) (hsz : items.size < 2 ^ 63) (hx : items[place k items.size]? = some x) (h : Q x s) : wpAny (model g.prog g.w) A (getItem (.ref l) (.int k t)) Q E s := by
  have hlt := (Array.getElem?_eq_some_iff.mp hx).1
  by_cases h0 : k < 0
  · rw [place, if_pos h0] at hx hlt
    exact wpAny_getItem_list_neg hl h0 h1 (by omega) hx h
  · rw [place, if_neg h0] at hx hlt
    exact wpAny_getItem_list hl (by omega) (by omega) hx h

/-- an item of a list that is kept -/
theorem s_list {value slice : Expr} {l : List V} {k : Int} {x : V} {Q : V → St → Prop} (hx : l[place k l.length]? = some x) (h1 : -(l.length : Int) ≤ k) (hsz : l.length < 2 ^ 63) (h : Q x S)
    (hs : NoSlice slice := by intro _ _; rfl) : Op2 g c Rep (subscriptTail value slice) (.list l) (.int k) S Q :=
  fun A L Z W s Q' v u lv r rv ru po => by
    cases rv with
    | list ha hr =>
      cases ru
      have hl : s.heap.IsList _ _ := PySem.IsL.isList (r.w _ _ ha)
      have len := hr.length
      rw [Array.length_toList] at len
      obtain ⟨rx, e1, e2⟩ := hr.get hx
      refine sub_tail (M := model g.prog g.w) hl.typeIs slot_list_getitem.lookup (getItem_any hl (by rw [len]; exact h1) (by rw [len]; exact hsz) (by rw [len]; simpa using e1) (po.here e2 r h)) (hs _ _)
/-- an item of a list that may be changed -/
theorem s_ref {value slice : Expr} {a : Addr} {l : List V} {k : Int} {x : V} {Q : V → St → Prop} (ha : S.σ a = some l) (hx : l[place k l.length]? = some x) (h1 : -(l.length : Int) ≤ k) (hsz : l.length < 2 ^ 63) (h : Q x S)
    (hs : NoSlice slice := by intro _ _; rfl) : Op2 g c Rep (subscriptTail value slice) (.ref a) (.int k) S Q :=
  fun A L Z W s Q' v u lv r rv ru po => by
    cases rv; cases ru
    obtain ⟨arr, n, h1', hr, _⟩ := r.mu a l ha
    have hl : s.heap.IsList a arr := PySem.IsL.isList h1'
    have len := hr.length
    rw [Array.length_toList] at len
    obtain ⟨rx, e1, e2⟩ := hr.get hx
    exact sub_tail (M := model g.prog g.w) hl.typeIs slot_list_getitem.lookup (getItem_any hl (by rw [len]; exact h1) (by rw [len]; exact hsz) (by rw [len]; simpa using e1) (po.here e2 r h)) (hs _ _)
/-- an item of a tuple -/
theorem s_tup {value slice : Expr} {l : List V} {k : Int} {x : V} {Q : V → St → Prop} (h0 : 0 ≤ k) (hx : l[k.toNat]? = some x) (hsz : l.length < 2 ^ 63) (h : Q x S)
    (hs : NoSlice slice := by intro _ _; rfl) : Op2 g c Rep (subscriptTail value slice) (.tup l) (.int k) S Q :=
  fun A L Z W s Q' v u lv r rv ru po => by
    cases rv with
    | tup ha hr =>
      rename_i a arr n
      cases ru
      have len := hr.length
      rw [Array.length_toList] at len
      obtain ⟨rx, e1, e2⟩ := hr.get hx
      have hlt := (List.getElem?_eq_some_iff.mp hx).1
      have ho := r.w _ _ ha
      refine sub_tail (M := model g.prog g.w) (T := "tuple") ⟨_, ho, rfl⟩ slot_tuple_getitem.lookup (PySem.P.getItem_tuple (n := n) (items := arr) ho (by omega) (by omega) (seqIndex_of h0 (by omega)) (by simpa using e1) (po.here e2 r h)) (hs _ _)

-- slices
def RepP (_ : Fz) (v : Value) (o : Option Int) : Prop := IsPart v o
abbrev WP (g : G p) (c : Cx) (e : Option Expr) (S : St) (Q : Option Int → St → Prop) : Prop := Wp g c RepP (fun env => evalPart e env) S Q
theorem wP_none {Q : Option Int → St → Prop} (h : Q none S) : WP g c none S Q := fun A L a cd Z W s Q' lv r po => by
  show wpAny _ _ (evalPart none _) _ _ _
  rw [evalPart_none]; exact wpAny_pure (po.here .none r h)
theorem wP_some {e : Expr} {Q : Option Int → St → Prop} (h : WE g c e S (fun v S' => ∃ i, v = .int i ∧ Q (some i) S')) : WP g c (some e) S Q := fun A L a cd Z W s Q' lv r po => by
  show wpAny _ _ (evalPart (some e) _) _ _ _
  rw [evalPart_some]
  refine h A L a cd Z W s _ lv r fun W₁ v x S₁ s₁ e₁ r₁ rr₁ h₁ => ?_
  obtain ⟨i, rfl, hq⟩ := h₁
  cases r₁
  exact po _ _ _ _ _ e₁ (.int _ _) rr₁ hq
def pick (l : List V) (lo hi : Option Int) : List V := (l.drop (kms_lo lo l.length)).take (kms_hi hi l.length - kms_lo lo l.length)

theorem wE_slice {x : Str} {px pp pos : Pos} {lo hi : Option Expr} {l : List V} {Q : V → St → Prop} (hx : S.m x = some (.list l) ∨ ∃ a, S.m x = some (.ref a) ∧ S.σ a = some l) (hsz : l.length ≤ 2 ^ 24)
    (h : WP g c lo S (fun vl S₂ => WP g c hi S₂ (fun vh S₃ => S₃ = S ∧ Q (.list (pick l vl vh)) S)))
    (hl : c.scope.names.lookup x = some .local := by rfl) (hd : (x == ("__debug__" : Str)) = false := by decide) :
    WE g c (.Subscript (.Name x px) (.Slice lo hi none pp) pos) S Q :=
  fun A L a cd Z W s Q' lv r po => by
    obtain ⟨mr, hn, hm⟩ := r.ns
    have nm : ∃ la, mr x = some (.ref la) := by
      rcases hx with hx | ⟨a', hx, _⟩
      · obtain ⟨rv, e, rp⟩ := hm x _ hx
        cases rp; exact ⟨_, e⟩
      · obtain ⟨rv, e, rp⟩ := hm x _ hx
        cases rp; exact ⟨_, e⟩
    obtain ⟨la, hla⟩ := nm
    refine wpAny_Subscript_list_slice (wpAny_Name (wpAny_loadName_local (env := c.env L a cd) c.fn hl hn hla ?_) hd)
    refine h A L a cd Z W s _ lv r fun W₂ v2 x2 S₂ s₂ e₂ r₂ rr₂ h₂ => h₂ A L a cd Z W₂ s₂ _ lv rr₂ fun W₃ v3 x3 S₃ s₃ e₃ r₃ rr₃ h₃ => ?_
    obtain ⟨rfl, hq⟩ := h₃
    have here : ∃ arr n, s₃.heap.get? la = some (lobj arr n) ∧ RepL W₃ arr.toList l := by
      rcases hx with hx | ⟨a', hx, ha'⟩
      · obtain ⟨rv, e, rp⟩ := hm x _ hx
        rw [hla] at e; cases e
        cases rp with
        | list ha hr => exact ⟨_, _, rr₃.w _ _ (e₃.up _ _ (e₂.up _ _ ha)), hr.mono fun b o q => e₃.up _ _ (e₂.up _ _ q)⟩
      · obtain ⟨rv, e, rp⟩ := hm x _ hx
        rw [hla] at e; cases e
        cases rp
        obtain ⟨arr, n, h1, h2, _⟩ := rr₃.mu _ _ ha'
        exact ⟨arr, n, h1, h2⟩
    obtain ⟨arr, n, h1, hr⟩ := here
    have len := hr.length
    rw [Array.length_toList] at len
    have k1 := rr₃.push { cls := .type "slice", data := .fields #[v2, v3, .none] } (tk' := s₃.toks)
    obtain ⟨k2, ex⟩ := k1.pushF (lobj (kms_pick arr.toList x2 x3).toArray 0) rfl (tk' := s₃.toks)
    refine ⟨la, arr, x2, x3, rfl, PySem.IsL.isList h1, by rw [len]; exact hsz, r₂, r₃, ?_⟩
    rw [kms_pick_eq]
    have e23 := e₂.trans e₃
    have hs1 : (s₃.heap.push { cls := .type "slice", data := .fields #[v2, v3, .none] }).objs.size = s₃.heap.objs.size + 1 := Heap.size_push ..
    refine po _ _ _ _ _ (e23.trans ex) (.list (n := 0) (arr := (kms_pick arr.toList x2 x3).toArray) ?_ ?_) k2 hq
    · show wadd W₃ (s₃.heap.push _).objs.size _ _ = _
      rw [hs1]; unfold wadd; exact if_pos rfl
    · have : RepL W₃ (kms_pick arr.toList x2 x3) (pick l x2 x3) := by
        unfold kms_pick pick
        rw [← hr.length]
        exact (hr.drop _).take _
      simpa using this.mono ex.up

-- len
theorem b_len_list {l : List V} {Q : V → St → Prop} (hsz : l.length < 2 ^ 63) (h : Q (.int l.length) S) : OpN g c Rep (fun vs => call (.builtin "len") vs) [.list l] S Q :=
  fun A L Z W s Q' vs lv r rv po => by
    cases rv with
    | cons ra rb =>
      cases rb
      cases ra with
      | list ha hr =>
        have len := hr.length
        rw [Array.length_toList] at len
        refine call_len_list (PySem.IsL.isList (r.w _ _ ha)) (by rw [len]; omega) ?_
        rw [len]
        exact po.here (.int _ _) r.tk h
theorem b_len_ref {a : Addr} {l : List V} {Q : V → St → Prop} (hal : S.σ a = some l) (hsz : l.length < 2 ^ 63) (h : Q (.int l.length) S) : OpN g c Rep (fun vs => call (.builtin "len") vs) [.ref a] S Q :=
  fun A L Z W s Q' vs lv r rv po => by
    cases rv with
    | cons ra rb =>
      cases rb
      cases ra
      obtain ⟨arr, n, h1, hr, _⟩ := r.mu a l hal
      have len := hr.length
      rw [Array.length_toList] at len
      refine call_len_list (PySem.IsL.isList h1) (by rw [len]; omega) ?_
      rw [len]
      exact po.here (.int _ _) r.tk h
theorem b_abs {x : Int} {Q : V → St → Prop} (h : Q (.int (if x < 0 then -x else x)) S) : OpN g c Rep (fun vs => call (.builtin "abs") vs) [.int x] S Q :=
  fun A L Z W s Q' vs lv r rv po => by
    cases rv with
    | cons ra rb =>
      cases rb; cases ra
      exact call_abs_int fun u tk => po.here (.int _ _) r.tk h
theorem b_int {x : Int} {Q : V → St → Prop} (h : Q (.int x) S) : OpN g c Rep (fun vs => call (.type "int") vs) [.int x] S Q :=
  fun A L Z W s Q' vs lv r rv po => by
    cases rv with
    | cons ra rb =>
      cases rb; cases ra
      exact call_int_int (po.here (.int _ _) r h)
theorem b_min {x y : Int} {Q : V → St → Prop} (h : Q (.int (if y < x then y else x)) S) : OpN g c Rep (fun vs => call (.builtin "min") vs) [.int x, .int y] S Q :=
  fun A L Z W s Q' vs lv r rv po => by
    cases rv with
    | cons ra rb =>
      cases rb with
      | cons rb rc =>
        cases rc; cases ra; cases rb
        obtain ⟨mr, hn, hm⟩ := r.ns
        exact min_two_N lv.hh (fr_no hn) (news_all s.heap L) fun h' tk F N => po.here (.int _ _) (r.of_all hm F N) h

-- list + list, list * int
theorem o_catF {l k : List V} {Q : V → St → Prop} (hsz : l.length + k.length ≤ 2 ^ 24) (h : Q (.list (l ++ k)) S) : Op2 g c Rep (binaryOp .Add) (.list l) (.list k) S Q :=
  fun A L Z W s Q' v u lv r rv ru po => by
    cases rv with
    | list ha hr =>
      cases ru with
      | list hb hq =>
        rename_i a arr n b arr2 n2
        have len := hr.length
        rw [Array.length_toList] at len
        have len2 := hq.length
        rw [Array.length_toList] at len2
        obtain ⟨k2, ex⟩ := r.pushF (lobj (arr ++ arr2) 0) rfl (tk' := s.toks)
        refine PySem.P.add_list (n := n) (n2 := n2) (r.w _ _ ha) (r.w _ _ hb) ?_ (by rw [len, len2]; exact hsz)
        exact po _ _ _ _ _ ex (.list (n := 0) (arr := arr ++ arr2) (by unfold wadd; exact if_pos rfl) (by simpa using (hr.append hq).mono ex.up)) k2 h
theorem o_catM {l k : List V} {Q : V → St → Prop} (hsz : l.length + k.length ≤ 2 ^ 24) (h : ∀ a, S.σ a = none → Q (.ref a) { S with σ := upd S.σ a (l ++ k) }) : Op2 g c Rep (binaryOp .Add) (.list l) (.list k) S Q :=
  fun A L Z W s Q' v u lv r rv ru po => by
    cases rv with
    | list ha hr =>
      cases ru with
      | list hb hq =>
        rename_i a arr n b arr2 n2
        have len := hr.length
        rw [Array.length_toList] at len
        have len2 := hq.length
        rw [Array.length_toList] at len2
        have k2 := r.pushM (arr := arr ++ arr2) (n := 0) (l := l ++ k) (by simpa using hr.append hq) (tk' := s.toks)
        refine PySem.P.add_list (n := n) (n2 := n2) (r.w _ _ ha) (r.w _ _ hb) ?_ (by rw [len, len2]; exact hsz)
        exact po _ _ _ _ _ .refl (.ref _) k2 (h _ r.none_size.2.2.2.1)

theorem foldl_one (v : Value) : ∀ (n : Nat) (acc : Array Value), (List.foldl (fun x1 x2 => x1 ++ x2) acc (List.replicate n #[v])).toList = acc.toList ++ List.replicate n v
  | 0, acc => by simp
  | n + 1, acc => by
    rw [List.replicate_succ, List.foldl_cons, foldl_one v n, List.replicate_succ]
    simp

theorem R.newAll {L : Addr} {Z W : Fz} {s : Shared} {mr : Str → Option Value} (r : R g L Z W S s) (hm : ∀ x v, S.m x = some v → ∃ q, mr x = some q ∧ Rep W q v) {h' : Heap} {tk' : Nat} {arr : Array Value} {l : List V} {o : Obj}
    (F : Fr noHeap L h' mr) (N : News noHeap L h' ((s.heap.objs.size, o) :: allNews s.heap L)) (ho : o = lobj arr 0) (hr : RepL W arr.toList l) :
    (∃ W', Ext Z W W' ∧ Rep W' (.ref s.heap.objs.size) (.list l) ∧ R g L Z W' S { s with heap := h', toks := tk' }) ∧ R g L Z W { S with σ := upd S.σ s.heap.objs.size l } { s with heap := h', toks := tk' } := by
  subst ho
  have r1 : R g L Z W S { s with heap := h', toks := tk' } := r.of_all hm F (fun p hp => N p (.tail _ hp))
  have hget : h'.get? s.heap.objs.size = some (lobj arr 0) := (N _ (.head _)).1
  obtain ⟨n1, n2, n3, n4, n5⟩ := r.none_size
  have up : ∀ a q, W a = some q → wadd W s.heap.objs.size (lobj arr 0) a = some q := fun a q e => by
    unfold wadd
    rw [if_neg (fun h => by rw [h, n2] at e; cases e)]; exact e
  refine ⟨⟨wadd W s.heap.objs.size (lobj arr 0), ⟨up, fun b o e => ?_⟩, .list (n := 0) (arr := arr) (by unfold wadd; exact if_pos rfl) (hr.mono up), { rest := r1.rest, base := r1.base, z := r1.z, w := fun b o e => ?_, mu := fun b l' e => ?_, ns := ?_, lz := r.lz, lw := ?_, lb := r.lb, lm := r.lm }⟩, { rest := r1.rest, base := r1.base, z := r1.z, w := r1.w, mu := fun b l' e => ?_, ns := r1.ns, lz := r.lz, lw := r.lw, lb := r.lb, lm := ?_ }⟩
  · unfold wadd at e
    by_cases q : b = s.heap.objs.size
    · rw [q]; exact .inr n1
    · rw [if_neg q] at e; exact .inl e
  · unfold wadd at e
    by_cases q : b = s.heap.objs.size
    · rw [if_pos q] at e; cases e; rw [q]; exact hget
    · rw [if_neg q] at e; exact r1.w b o e
  · obtain ⟨arr', n', k1, k2, k3, k4, k5⟩ := r1.mu b l' e
    exact ⟨arr', n', k1, k2.mono up, k3, by unfold wadd; rw [if_neg (fun q => by rw [q, n4] at e; cases e)]; exact k4, k5⟩
  · obtain ⟨mr', hn, hm'⟩ := r1.ns
    exact ⟨mr', hn, fun y v e => let ⟨q, e1, e2⟩ := hm' y v e; ⟨q, e1, e2.mono up⟩⟩
  · unfold wadd; rw [if_neg (fun h => n5 h.symm)]; exact r.lw
  · simp only [upd] at e
    by_cases q : b = s.heap.objs.size
    · rw [if_pos q] at e; cases e
      rw [q]
      exact ⟨arr, 0, hget, hr, n1, n2, n3⟩
    · rw [if_neg q] at e; exact r1.mu b l' e
  · simp only [upd]; rw [if_neg (fun h => n5 h.symm)]; exact r.lm

theorem o_repF {x : V} {k : Int} {Q : V → St → Prop} (hlo : -(2 ^ 63 : Int) ≤ k) (hsz : k.toNat ≤ 2 ^ 24) (h : Q (.list (List.replicate k.toNat x)) S) : Op2 g c Rep (binaryOp .Mult) (.list [x]) (.int k) S Q :=
  fun A L Z W s Q' v u lv r rv ru po => by
    cases ru
    cases rv with
    | list ha hr =>
      rename_i a arr n
      obtain ⟨mr, hn, hm⟩ := r.ns
      have len := hr.length
      rw [Array.length_toList] at len
      obtain ⟨rx, e1, e2⟩ := hr.get (i := 0) (x := x) rfl
      have harr : arr = #[rx] := by
        apply Array.toList_inj.mp
        cases hq : arr.toList with
        | nil => rw [hq] at e1; simp at e1
        | cons y r =>
          rw [hq] at e1 hr
          have : r = [] := by
            have := hr.length; simp at this; exact this
          subst this
          simp at e1; subst e1; rfl
      refine mul_list (k := n) (fr_no hn) (news_all s.heap L) (r.w _ _ ha) hlo (by omega) (by rw [len]; simpa using hsz) fun h' F N => ?_
      obtain ⟨⟨W', ex, rp, rr⟩, _⟩ := r.newAll hm (tk' := s.toks) (l := List.replicate k.toNat x) F N rfl (by
        rw [harr, if_neg (by simp), foldl_one]; simpa using RepL.replicate e2 k.toNat)
      exact po _ _ _ _ _ ex rp rr h
theorem o_repM {x : V} {k : Int} {Q : V → St → Prop} (hlo : -(2 ^ 63 : Int) ≤ k) (hsz : k.toNat ≤ 2 ^ 24) (h : ∀ a, S.σ a = none → Q (.ref a) { S with σ := upd S.σ a (List.replicate k.toNat x) }) : Op2 g c Rep (binaryOp .Mult) (.list [x]) (.int k) S Q :=
  fun A L Z W s Q' v u lv r rv ru po => by
    cases ru
    cases rv with
    | list ha hr =>
      rename_i a arr n
      obtain ⟨mr, hn, hm⟩ := r.ns
      have len := hr.length
      rw [Array.length_toList] at len
      obtain ⟨rx, e1, e2⟩ := hr.get (i := 0) (x := x) rfl
      have harr : arr = #[rx] := by
        apply Array.toList_inj.mp
        cases hq : arr.toList with
        | nil => rw [hq] at e1; simp at e1
        | cons y r =>
          rw [hq] at e1 hr
          have : r = [] := by
            have := hr.length; simp at this; exact this
          subst this
          simp at e1; subst e1; rfl
      refine mul_list (k := n) (fr_no hn) (news_all s.heap L) (r.w _ _ ha) hlo (by omega) (by rw [len]; simpa using hsz) fun h' F N => ?_
      obtain ⟨_, rr⟩ := r.newAll hm (tk' := s.toks) (l := List.replicate k.toNat x) F N rfl (by
        rw [harr, if_neg (by simp), foldl_one]; simpa using RepL.replicate e2 k.toNat)
      exact po _ _ _ _ _ .refl (.ref _) rr (h _ r.none_size.2.2.2.1)

-- append, item store
theorem wX_append {o elt : Expr} {apos pos pos2 : Pos} {Q : F → St → Prop}
    (h : WE g c o S (fun x S₁ => ∃ a l, x = .ref a ∧ S₁.σ a = some l ∧ WE g c elt S₁ (fun y S₂ => ∃ l, S₂.σ a = some l ∧ l.length ≤ 2 ^ 24 ∧ Q .next { S₂ with σ := upd S₂.σ a (l ++ [y]) })))
    (hbase : ∀ env, attributeBase o "append" env (eval o env) = eval o env := by intro _; rfl)
    (hline : (apos.endLine == pos.line) = true := by rfl)
    (htrees : ∀ env, backTo pos (starEach [elt] env) = [(false, eval elt env)] := by intro _; rfl)
    (hs : ∀ L a cd, swapsWith (.Call (.Attribute o "append" apos) [elt] [] pos) none pos2.line (c.env L a cd) = pure false := by intro _ _ _; rfl)
    (hi : ∀ L a cd, interactive (c.env L a cd) = false := by intro _ _ _; rfl) :
    WX g c (.Expr (.Call (.Attribute o "append" apos) [elt] [] pos) pos2) S Q :=
  fun A L a cd Z W s Q' lv r po => by
    refine wpAny_Expr_any (wpAny_Call_append (hbase _) (by rw [htrees]; rfl) hline (htrees _) ?_) (hi _ _ _) (hs _ _ _)
    refine h A L a cd Z W s _ lv r fun W₁ v x S₁ s₁ e₁ r₁ rr₁ h₁ => ?_
    obtain ⟨D, l, rfl, hD, h₁⟩ := h₁
    cases r₁
    obtain ⟨arr, n, m1, m2, _⟩ := rr₁.mu D l hD
    refine ⟨D, arr, rfl, ⟨_, n, m1, rfl, rfl, rfl⟩, ?_⟩
    refine h₁ A L a cd Z W₁ s₁ _ lv rr₁ fun W₂ y vy S₂ s₂ e₂ r₂ rr₂ h₂ => ?_
    obtain ⟨l2, hD2, hsz, hq⟩ := h₂
    obtain ⟨arr2, n2, k1, k2, _⟩ := rr₂.mu D l2 hD2
    have len := k2.length
    rw [Array.length_toList] at len
    refine call_meets F.slot_list_append ⟨_, k1, rfl⟩ F.entry_list_append (F.args_list_append_2 _ _) (list_append D arr2 n2 y (by rw [len]; exact hsz)) ⟨k1, ?_⟩
    have hup := PySem.IsL.update (h := s₂.heap) (l := D) (items := arr2) (n := n2) k1 (·.push y)
    have r3 := rr₂.turn hD2 (l := l2 ++ [vy]) (arr' := arr2.push y) (tk' := s₂.toks) (by simpa using k2.append (.cons r₂ .nil)) hup (fun b hb => Heap.get?_update_other s₂.heap _ (Ne.symm hb))
    exact po _ _ _ _ _ (e₁.trans e₂) .next r3 hq

theorem wX_setitem {o i value : Expr} {pos' pos : Pos} {Q : F → St → Prop}
    (h : WE g c value S (fun y S₁ => WE g c o S₁ (fun x S₂ => WE g c i S₂ (fun k S₃ => ∃ a l j, x = .ref a ∧ k = .int j ∧ S₃.σ a = some l ∧ 0 ≤ j ∧ j < l.length ∧ l.length < 2 ^ 63 ∧ Q .next { S₃ with σ := upd S₃.σ a (l.set j.toNat y) }))))
    (hs : ∀ L a cd, swapsWith value (some (.Subscript o i pos')) pos.line (c.env L a cd) = pure false := by intro _ _ _; rfl) :
    WX g c (.Assign [.Subscript o i pos'] value pos) S Q :=
  fun A L a cd Z W s Q' lv r po => by
    refine wpAny_Assign_Subscript (h A L a cd Z W s _ lv r fun W₁ v y S₁ s₁ e₁ r₁ rr₁ h₁ => h₁ A L a cd Z W₁ s₁ _ lv rr₁ fun W₂ ov x S₂ s₂ e₂ r₂ rr₂ h₂ =>
      h₂ A L a cd Z W₂ s₂ _ lv rr₂ fun W₃ iv k S₃ s₃ e₃ r₃ rr₃ h₃ => ?_) (hs _ _ _)
    obtain ⟨D, l, j, rfl, rfl, hD, h0, hlt, hsz, hq⟩ := h₃
    cases r₂; cases r₃
    obtain ⟨arr, n, k1, k2, _⟩ := rr₃.mu D l hD
    have len := k2.length
    rw [Array.length_toList] at len
    refine ki_setAt (n := n) k1 h0 (by omega) (by rw [len]; exact hlt) ?_
    have hup := PySem.IsL.update (h := s₃.heap) (l := D) (items := arr) (n := n) k1 (·.setIfInBounds j.toNat v)
    have r3 := rr₃.turn hD (l := l.set j.toNat y) (arr' := arr.setIfInBounds j.toNat v) (tk' := s₃.toks) (by rw [Array.toList_setIfInBounds]; exact k2.set _ (r₁.mono fun b o e => e₃.up _ _ (e₂.up _ _ e))) hup (fun b hb => Heap.get?_update_other s₃.heap _ (Ne.symm hb))
    exact po _ _ _ _ _ ((e₁.trans e₂).trans e₃) .next r3 hq
end
end Mine

namespace Mine
section
variable {p : Program} {g : G p} {c : Cx} {α β : Type} {ρ : Fz → α → β → Prop} {S : St}

/-- an int of the machine's size -/
def Fit (n : Int) : Prop := -(2 ^ 61) ≤ n ∧ n ≤ 2 ^ 61

-- iterators
theorem wI_list {e : Expr} {Q : List V → St → Prop} (h : WE g c e S (fun v S₁ => ∃ l, v = .list l ∧ Q l S₁)) : WI g c e S Q :=
  fun A L a cd Z W s Q' lv r k => h A L a cd Z W s _ lv r fun W₁ v x S₁ s₁ e₁ r₁ rr₁ h₁ => by
    obtain ⟨l, rfl, hq⟩ := h₁
    cases r₁ with
    | list ha hr =>
      rename_i ax arr n
      have ho := rr₁.w _ _ ha
      have hl : s₁.heap.IsList ax arr := PySem.IsL.isList ho
      have len := hr.length
      rw [Array.length_toList] at len
      obtain ⟨n1, n2, n3, n4, n5⟩ := rr₁.none_size
      have hne : ax ≠ s₁.heap.objs.size := Nat.ne_of_lt (Heap.lt_size ho)
      refine wpAny_pyIter_list hl ?_
      have rr2 := rr₁.push { cls := .type "list_iterator", data := .fields #[.ref ax, .int 0 0] } (tk' := s₁.toks)
      refine k W₁ _ l S₁ _ e₁ ⟨s₁.heap.objs.size, [s₁.heap.objs.size, ax], [s₁.heap.objs.size], (fun i v => arr[i]? = some v), (fun i h => h.IsListIter s₁.heap.objs.size ax i ∧ h.IsList ax arr), rfl, by rw [← len]; exact Walks.list lv.hh s₁.heap.objs.size ax hne arr, ⟨⟨_, Heap.get?_push_size _ rfl, rfl, rfl⟩, hl.push _⟩, ?_, ?_, ?_, ?_, ?_⟩ rr2 hq
      · intro i v _ hv
        have hv' : arr.toList[i]? = some v := by simpa using hv
        have hlt : i < l.length := by
          have := (List.getElem?_eq_some_iff.mp hv').1; rw [Array.length_toList] at this; omega
        refine ⟨l[i], List.getElem?_eq_getElem hlt, ?_⟩
        obtain ⟨v', e1, e2⟩ := hr.get (List.getElem?_eq_getElem hlt)
        rw [hv'] at e1; cases e1; exact e2
      · intro hm
        rcases List.mem_cons.mp hm with q | q
        · exact n5 q.symm
        · have := List.mem_singleton.mp q
          rw [← this] at ha
          rw [rr₁.lw] at ha; cases ha
      · intro b hb
        rw [List.mem_singleton.mp hb]; exact ⟨n1, n2, n3⟩
      · intro b hb
        rcases List.mem_cons.mp hb with q | q
        · rw [q]; exact n4
        · rw [List.mem_singleton.mp q]
          cases q : S₁.σ ax with
          | none => rfl
          | some l => obtain ⟨_, _, _, _, _, h4, _⟩ := rr₁.mu _ _ q; rw [h4] at ha; cases ha
      · intro i h hT b hb
        rcases List.mem_cons.mp hb with q | q
        · rw [q]; obtain ⟨o, ho, _⟩ := hT.1; exact ⟨o, ho⟩
        · rw [List.mem_singleton.mp q]; obtain ⟨o, ho, _⟩ := hT.2; exact ⟨o, ho⟩

def rangeL (a c : Int) (n : Nat) : List V := (List.range n).map fun (i : Nat) => V.int (a + i * c)

theorem rangeIt {A : Around} {L : Addr} {Z W : Fz} {s : Shared} {S' : St} {rg : Addr} {a b c : Int} {t u v : Tok} {Q' : Value → Shared → Prop} {E : Value → Shared → Prop} (lvh : A.handled = none) (rr : R g L Z W S' s) (hr : IsRange s.heap rg a b c t u v) (hsm : Builtin.Range.small a b c = true) (hn : 0 ≤ Builtin.Range.rangeSize a b c)
    (k : ∀ it s', ItAt g A L Z W S' it (rangeL a c (Builtin.Range.rangeSize a b c).toNat) s' → R g L Z W S' s' → Q' it s') : wpAny (model g.prog g.w) A (pyIter (.ref rg)) Q' E s := by
  obtain ⟨n1, n2, n3, n4, n5⟩ := rr.none_size
  refine wpAny_pyIter_range hr hsm ?_
  have rr2 := rr.push { cls := .type "range_iterator", data := .fields #[rawInt a, rawInt (Builtin.Range.rangeSize a b c), rawInt c] } (tk' := s.toks)
  have len : (rangeL a c (Builtin.Range.rangeSize a b c).toNat).length = (Builtin.Range.rangeSize a b c).toNat := by simp [rangeL]
  refine k _ _ ⟨s.heap.objs.size, [s.heap.objs.size], [s.heap.objs.size], _, _, rfl, by rw [len]; exact Walks.range lvh s.heap.objs.size a c _, ?_, ?_, ?_, ?_, ?_, ?_⟩ rr2
  · show IsRangeIter _ _ (a + ((0 : Nat) : Int) * c) (((Builtin.Range.rangeSize a b c).toNat : Int) - ((0 : Nat) : Int)) c
    have e : a + ((0 : Nat) : Int) * c = a := by simp
    have e2 : ((Builtin.Range.rangeSize a b c).toNat : Int) - ((0 : Nat) : Int) = Builtin.Range.rangeSize a b c := by omega
    rw [e, e2]
    exact Heap.get?_push_size _ rfl
  · intro i v hi hP
    obtain ⟨t, rfl⟩ := hP
    rw [len] at hi
    exact ⟨_, by rw [rangeL, List.getElem?_map, List.getElem?_range hi]; rfl, .int _ _⟩
  · intro hm; exact n5 (List.mem_singleton.mp hm).symm
  · intro b hb; rw [List.mem_singleton.mp hb]; exact ⟨n1, n2, n3⟩
  · intro b hb; rw [List.mem_singleton.mp hb]; exact n4
  · intro i h hT b hb
    rw [List.mem_singleton.mp hb]; exact ⟨_, hT⟩
end
end Mine

namespace Mine
def upTo (a : Int) (k : Nat) : List V := (List.range k).map fun (i : Nat) => V.int (a + i)
def downFrom (a : Int) (k : Nat) : List V := (List.range k).map fun (i : Nat) => V.int (a - i)
theorem upTo_zero (a : Int) : upTo a 0 = [] := rfl
theorem upTo_succ (a : Int) (k : Nat) : upTo a (k + 1) = .int a :: upTo (a + 1) k := by
  unfold upTo
  rw [List.range_succ_eq_map, List.map_cons, List.map_map]
  congr 1
  · simp
  · apply List.map_congr_left
    intro i _
    simp only [Function.comp, V.int.injEq]
    omega
theorem downFrom_zero (a : Int) : downFrom a 0 = [] := rfl
theorem downFrom_succ (a : Int) (k : Nat) : downFrom a (k + 1) = .int a :: downFrom (a - 1) k := by
  unfold downFrom
  rw [List.range_succ_eq_map, List.map_cons, List.map_map]
  congr 1
  · simp
  · apply List.map_congr_left
    intro i _
    simp only [Function.comp, V.int.injEq]
    omega
theorem upTo_length (a : Int) (k : Nat) : (upTo a k).length = k := by simp [upTo]
theorem downFrom_length (a : Int) (k : Nat) : (downFrom a k).length = k := by simp [downFrom]

theorem rangeSize_down (a b : Int) : Builtin.Range.rangeSize a b (-1) = if b < a then a - b else 0 := by
  unfold Builtin.Range.rangeSize
  rw [if_neg (by decide)]
  by_cases h : b < a
  · rw [if_pos h, if_pos h, show (-(-1) : Int) = 1 by decide, Int.ediv_one]; omega
  · rw [if_neg h, if_neg (show ¬ a > b from h)]
theorem small_down {a b : Int} (ha : Fit a) (hb : Fit b) : Builtin.Range.small a b (-1) = true := by
  unfold Fit at ha hb
  unfold Builtin.Range.small
  rw [rangeSize_down]
  simp only [Builtin.Range.rangeFitsLong, Bool.and_eq_true, Bool.or_eq_true, decide_eq_true_eq, beq_iff_eq]
  simp only [show ¬ ((-1 : Int) > 0) by decide, if_false, Bool.and_eq_true, decide_eq_true_eq]
  refine ⟨⟨⟨⟨by omega, by omega⟩, by omega⟩, by split <;> omega⟩, .inr (by omega)⟩
theorem small_up {a b : Int} (ha : Fit a) (hb : Fit b) : Builtin.Range.small a b 1 = true := by
  unfold Fit at ha hb
  unfold Builtin.Range.small
  rw [rangeSize_one]
  simp only [Builtin.Range.rangeFitsLong, Bool.and_eq_true, Bool.or_eq_true, decide_eq_true_eq, beq_iff_eq]
  simp only [show ((1 : Int) > 0) by decide, if_true, Bool.and_eq_true, decide_eq_true_eq]
  refine ⟨⟨⟨⟨by omega, by omega⟩, by omega⟩, by split <;> omega⟩, .inr (by omega)⟩

section
variable {p : Program} {g : G p} {c : Cx} {α β : Type} {ρ : Fz → α → β → Prop} {S : St}

theorem boot_range : bootBuiltins "range" = some (.type "range") := by decide +kernel
theorem boot_len : bootBuiltins "len" = some (.builtin "len") := by decide +kernel
theorem boot_abs : bootBuiltins "abs" = some (.builtin "abs") := by decide +kernel
theorem boot_min : bootBuiltins "min" = some (.builtin "min") := by decide +kernel
theorem boot_int : bootBuiltins "int" = some (.type "int") := by decide +kernel
theorem boot_enumerate : bootBuiltins "enumerate" = some (.type "enumerate") := by decide +kernel

inductive RArgs : List V → Int → Int → Int → Prop
  | one (b : Int) : RArgs [.int b] 0 b 1
  | two (a b : Int) : RArgs [.int a, .int b] a b 1
  | down (a b : Int) : RArgs [.int a, .int b, .int (-1)] a b (-1)

theorem wI_range {np pos : Pos} {args : List Expr} {Q : List V → St → Prop} (hf : g.mg "range" = none)
    (h : WA g c pos args S (fun xs S₁ => ∃ a b d, RArgs xs a b d ∧ Fit a ∧ Fit b ∧ (d = 1 → Q (upTo a (b - a).toNat) S₁) ∧ (d = -1 → Q (downFrom a (a - b).toNat) S₁)))
    (hl : c.scope.names.lookup ("range" : Str) = some .globalImplicit := by rfl)
    (hc : PlainCall (.Name "range" np) args pos := by intro _; rfl) (hs : SomeArgs args pos := by intro _; exact ⟨_, _, rfl, rfl⟩) : WI g c (.Call (.Name "range" np) args [] pos) S Q :=
  fun A L a cd Z W s Q' lv r k => by
    refine call_name (hc _) ((wE_builtin (c := c) (S := S) (pos := np) (Q := fun v S' => v = .lit (.type "range") ∧ S' = S) hf boot_range ⟨rfl, rfl⟩ hl) A L a cd Z W s _ lv r fun W₁ f fv S₁ s₁ e₁ rf rr₁ h₁ => ?_)
    obtain ⟨rfl, rfl⟩ := h₁
    cases rf
    obtain ⟨x, q, hx, hq⟩ := hs (c.env L a cd)
    refine PySem.callWith_type (by rw [hx]; simpa using hq) ?_
    have := h A L a cd Z W₁ s₁ (fun vs s₂ => wpAny (model g.prog g.w) A (call (.type "range") vs) (fun v s₃ => wpAny (model g.prog g.w) A (pyIter v) Q' (fun _ _ => False) s₃) (fun _ _ => False) s₂) lv rr₁ fun W₂ vs xs S₂ s₂ e₂ r₂ rr₂ h₂ => by
      obtain ⟨lo, hi, st, ra, fa, fb, hu, hd⟩ := h₂
      have fin : ∀ (rg : Addr) (st : Int) (t u v : Tok) (s₃ : Shared), (st = 1 ∨ st = -1) → (st = 1 → Q (upTo lo (hi - lo).toNat) S₂) → (st = -1 → Q (downFrom lo (lo - hi).toNat) S₂) → R g L Z W₂ S₂ s₃ → IsRange s₃.heap rg lo hi st t u v → wpAny (model g.prog g.w) A (pyIter (.ref rg)) Q' (fun _ _ => False) s₃ := by
        intro rg st t u v s₃ hst hu hd r3 hr
        rcases hst with rfl | rfl
        · refine rangeIt lv.hh r3 hr (small_up fa fb) (by rw [rangeSize_one]; split <;> omega) fun it s' hit r' => ?_
          have e : rangeL lo 1 (Builtin.Range.rangeSize lo hi 1).toNat = upTo lo (hi - lo).toNat := by
            unfold rangeL upTo
            have : (Builtin.Range.rangeSize lo hi 1).toNat = (hi - lo).toNat := by rw [rangeSize_one]; split <;> omega
            rw [this]
            apply List.map_congr_left
            intro i _
            simp
          rw [e] at hit
          exact k W₂ it _ S₂ s' (e₁.trans e₂) hit r' (hu rfl)
        · refine rangeIt lv.hh r3 hr (small_down fa fb) (by rw [rangeSize_down]; split <;> omega) fun it s' hit r' => ?_
          have e : rangeL lo (-1) (Builtin.Range.rangeSize lo hi (-1)).toNat = downFrom lo (lo - hi).toNat := by
            unfold rangeL downFrom
            have : (Builtin.Range.rangeSize lo hi (-1)).toNat = (lo - hi).toNat := by rw [rangeSize_down]; split <;> omega
            rw [this]
            apply List.map_congr_left
            intro i _
            simp only [V.int.injEq]
            omega
          rw [e] at hit
          exact k W₂ it _ S₂ s' (e₁.trans e₂) hit r' (hd rfl)
      cases ra with
      | one b =>
        cases r₂ with
        | cons q1 q2 =>
          cases q2; cases q1
          exact call_range_1 (fin _ 1 _ _ _ _ (.inl rfl) hu hd (rr₂.push _) (IsRange.new ..))
      | two a b =>
        cases r₂ with
        | cons q1 q2 =>
          cases q2 with
          | cons q2 q3 =>
            cases q3; cases q1; cases q2
            exact call_range_2 (fin _ 1 _ _ _ _ (.inl rfl) hu hd (rr₂.push _) (IsRange.new ..))
      | down a b =>
        cases r₂ with
        | cons q1 q2 =>
          cases q2 with
          | cons q2 q3 =>
            cases q3 with
            | cons q3 q4 =>
              cases q4; cases q1; cases q2; cases q3
              exact call_range_3 (by decide) (fin _ (-1) _ _ _ _ (.inr rfl) hu hd (rr₂.push _) (IsRange.new ..)) (.inl (PyProof.noPylong_small (by decide)))
    change wpAny _ _ (spliced (backTo pos (starEach args (c.env L a cd)))) _ _ _ at this
    rw [hx] at this ⊢
    exact Calls.evalArgs_plain (wpAny_mono this (fun vs s₂ h => h) fun _ _ h => h)

-- enumerate
def LoopE (g : G p) (c : Cx) (x y : Str) (body : List Stmt) : Nat → List V → St → (F → St → Prop) → Prop
  | _, [], S, Q => Q .next S
  | i, v :: vs, S, Q => WS g c body ((S.set x (.int i)).set y v) (fun f S' => match f with
      | .next => LoopE g c x y body (i + 1) vs S' Q
      | .cont => LoopE g c x y body (i + 1) vs S' Q
      | .brk => Q .next S'
      | .ret u => Q (.ret u) S')

theorem wX_enum {x y : Str} {px py pt np cpos pos : Pos} {k : Nat} {e : Expr} {body : List Stmt} {Q : F → St → Prop} (hf : g.mg "enumerate" = none)
    (h : WE g c e S (fun v S₁ => ∃ l, v = .list l ∧ LoopE g c x y body 0 l S₁ Q))
    (hlx : c.scope.names.lookup x = some .local := by rfl) (hly : c.scope.names.lookup y = some .local := by rfl)
    (hle : c.scope.names.lookup ("enumerate" : Str) = some .globalImplicit := by rfl)
    (hc : PlainCall (.Name "enumerate" np) [e] cpos := by intro _; rfl) (hs : ∀ env, backTo cpos (starEach [e] env) = [(false, eval e env)] := by intro _; rfl)
    (hfs : ∀ L a cd v, foldedSetIterable (.Call (.Name "enumerate" np) [e] [] cpos) (c.env L a cd) v = pure v := by intro _ _ _ _; rfl) :
    WX g c (.For (.Tuple [.Name x px, .Name y py] k pt) (.Call (.Name "enumerate" np) [e] [] cpos) body [] pos) S Q :=
  fun A L a cd Z W s Q' lv r po => by
    refine wpAny_For ?_ (hfs L a cd)
    refine call_name (hc _) ((wE_builtin (c := c) (S := S) (pos := np) (Q := fun v S' => v = .lit (.type "enumerate") ∧ S' = S) hf boot_enumerate ⟨rfl, rfl⟩ hle) A L a cd Z W s _ lv r fun W₁ f fv S₁ s₁ e₁ rf rr₁ h₁ => ?_)
    obtain ⟨rfl, rfl⟩ := h₁
    cases rf
    rw [hs]
    refine PySem.callWith_type rfl (Calls.evalArgs_plain (Calls.spliced_cons (wpAny_mono (h A L a cd Z W₁ s₁ (fun v s₂ => wpAny (model g.prog g.w) A (call (.type "enumerate") [v]) (fun it s₃ => wpAny (model g.prog g.w) A (pyIter it) (fun it s₂ => codeAny (model g.prog g.w) A (.forLoop (.Tuple [.Name x px, .Name y py] k pt) it body [] (c.env L a cd)) (fun r s' => match r with | .ok f => Q' f s' | .error e => False) s₂) (fun _ _ => False) s₃) (fun _ _ => False) s₂) lv rr₁ ?_)
      (fun v s₂ h₂ => Calls.spliced_nil (wpAny_mono h₂ (fun it s₃ h₃ => wpAny_mono h₃ (fun it s₄ h₄ => codeAny_mono h₄ fun r s' h' => by cases r with | ok f => exact h' | error e => exact h'.elim) fun _ _ e => e.elim) fun _ _ e => e.elim)) fun _ _ e => e.elim)))
    intro W₂ v xv S₂ s₂ e₂ r₂ rr₂ h₂
    obtain ⟨l, rfl, hq⟩ := h₂
    cases r₂ with
    | list ha hr =>
    rename_i ax arr n
    have ho := rr₂.w _ _ ha
    have len := hr.length
    rw [Array.length_toList] at len
    refine call_enumerate_1 (n := n) ho fun h' hE hI hsz hk => ?_
    have rr3 : R g L Z W₂ S₂ { s₂ with heap := h' } := rr₂.keeps (tk' := s₂.toks) hk
    refine wpAny_pyIter_enum (it := s₂.heap.objs.size) (i := 0) (old := .none) hE ?_
    obtain ⟨n1, n2, n3, n4, n5⟩ := rr₂.none_size
    have kk : ∀ b, s₂.heap.objs.size ≤ b → Z b = none ∧ W₂ b = none ∧ g.hB.get? b = none ∧ S₂.σ b = none ∧ b ≠ L := fun b hb => by
      have key : s₂.heap.get? b = none := Heap.get?_none_of_le hb
      refine ⟨?_, ?_, ?_, ?_, ?_⟩
      · cases q : Z b with
        | none => rfl
        | some o => rw [rr₂.z _ _ q] at key; cases key
      · cases q : W₂ b with
        | none => rfl
        | some o => rw [rr₂.w _ _ q] at key; cases key
      · cases q : g.hB.get? b with
        | none => rfl
        | some o => rw [rr₂.base _ _ q] at key; cases key
      · cases q : S₂.σ b with
        | none => rfl
        | some o => obtain ⟨_, _, h1, _⟩ := rr₂.mu _ _ q; rw [h1] at key; cases key
      · intro q
        obtain ⟨mr, hn, _⟩ := rr₂.ns
        have := hn.lt
        rw [← q] at this
        exact absurd this (Nat.not_lt.mpr hb)
    have haxlt : ax < s₂.heap.objs.size := Heap.lt_size ho
    generalize hit : s₂.heap.objs.size = it at *
    have Wk := WalksT.enumerate (prog := g.prog) (w := g.w) lv.hh (it + 1) it ax (Nat.succ_ne_self it) (Nat.ne_of_lt (Nat.lt_succ_of_lt haxlt)) (Nat.ne_of_lt haxlt) arr
    have hLf : L ∉ [it + 1, it, ax] := by
      intro hm
      rcases List.mem_cons.mp hm with q | hm
      · exact (kk (it + 1) (Nat.le_succ it)).2.2.2.2 q.symm
      · rcases List.mem_cons.mp hm with q | hm
        · exact n5 q.symm
        · have := List.mem_singleton.mp hm
          rw [← this, rr₂.lw] at ha; cases ha
    have hwr : ∀ b ∈ [it + 1, it], Z b = none ∧ W₂ b = none ∧ g.hB.get? b = none := by
      intro b hb
      rcases List.mem_cons.mp hb with q | hb
      · rw [q]; have := kk (it + 1) (Nat.le_succ it); exact ⟨this.1, this.2.1, this.2.2.1⟩
      · rw [List.mem_singleton.mp hb]; exact ⟨n1, n2, n3⟩
    have hfs0 : ∀ b ∈ [it + 1, it, ax], S₂.σ b = none := by
      intro b hb
      rcases List.mem_cons.mp hb with q | hb
      · rw [q]; exact (kk (it + 1) (Nat.le_succ it)).2.2.2.1
      · rcases List.mem_cons.mp hb with q | hb
        · rw [q]; exact n4
        · rw [List.mem_singleton.mp hb]
          cases q : S₂.σ ax with
          | none => rfl
          | some l => obtain ⟨_, _, _, _, _, h4, _⟩ := rr₂.mu _ _ q; rw [h4] at ha; cases ha
    have hLw : L ∉ [it + 1, it] := fun q => hLf (Wk.sub _ q)
    have hob : ∀ (i : Nat) (h : Heap), ((∃ old, IsEnum h (it + 1) it i old) ∧ h.IsListIter it ax i ∧ h.IsList ax arr) → ∀ b ∈ [it + 1, it, ax], ∃ o, h.get? b = some o := by
      intro i h hT b hb
      obtain ⟨⟨old, h1⟩, ⟨o2, h2, _⟩, ⟨o3, h3, _⟩⟩ := hT
      rcases List.mem_cons.mp hb with q | hb
      · rw [q]; exact ⟨_, h1⟩
      · rcases List.mem_cons.mp hb with q | hb
        · rw [q]; exact ⟨_, h2⟩
        · rw [List.mem_singleton.mp hb]; exact ⟨_, h3⟩
    rw [show it = it from rfl] at Wk
    refine codeAny_forLoop_any (fun k s' => ∃ (i : Nat) (W' : Fz) (S' : St), Ext Z W₂ W' ∧ ((∃ old, IsEnum s'.heap (it + 1) it i old) ∧ s'.heap.IsListIter it ax i ∧ s'.heap.IsList ax arr) ∧ R g L Z W' S' s' ∧ (∀ b ∈ [it + 1, it], W' b = none) ∧ (∀ b ∈ [it + 1, it, ax], S'.σ b = none) ∧ LoopE g c x y body i (l.drop i) S' Q ∧ i ≤ l.length ∧ k = l.length + 1 - i) ?_ (l.length + 1)
      ⟨0, W₂, S₂, .refl, ⟨⟨_, hE⟩, hI, (PySem.IsL.isList ho).at fun o e => hk _ _ e⟩, rr3, fun b hb => (hwr b hb).2.1, hfs0, by simpa using hq, Nat.zero_le _, rfl⟩
    rintro k s' ⟨i, W', S', ex, hT', rr, hw', hf', hq', hi, rfl⟩
    have hnext : ∀ b ∈ [it + 1, it], Z b = none ∧ W' b = none ∧ g.hB.get? b = none ∧ S'.σ b = none := fun b hb => ⟨(hwr b hb).1, hw' b hb, (hwr b hb).2.2, hf' b (Wk.sub _ hb)⟩
    by_cases hlt : i < l.length
    · refine Wk.item i _ _ _ (by rw [len]; exact hlt) hT' fun T vals h₁ tk₁ hPv hTge hTup hMid hk₁ => ?_
      obtain ⟨t, rx, hrx, rfl⟩ := hPv
      have rr₁ := rr.next (tk' := tk₁) hk₁ hLw hnext
      have hd : l.drop i = l[i] :: l.drop (i + 1) := List.drop_eq_getElem_cons hlt
      rw [hd] at hq'
      have ry : Rep W₂ rx l[i] := by
        obtain ⟨v', e1, e2⟩ := hr.get (List.getElem?_eq_getElem hlt)
        have hrx' : arr.toList[i]? = some rx := by simpa using hrx
        rw [hrx'] at e1; cases e1; exact e2
      refine Wk.go _ _ _ i T _ _ _ hMid fun h₂ hT₂ hk₂ => ?_
      have rr₂ := rr₁.next (tk' := tk₁) hk₂ hLw hnext
      have hTup2 : h₂.IsTuple T #[.int i t, rx] := hTup.at fun o e => hk₂ T o (Wk.apart _ _ _ hMid) e
      have hzz : ∀ a o, Z a = some o → (if a ∈ [it + 1, it, ax] then h₂.get? a else Z a) = some o := fun a o e => by
        by_cases q : a ∈ [it + 1, it, ax]
        · rw [if_pos q]; exact rr₂.z a o e
        · rw [if_neg q]; exact e
      have r2 : R g L (fun b => if b ∈ [it + 1, it, ax] then h₂.get? b else Z b) W' S' { s' with heap := h₂, toks := tk₁ } := rr₂.more hLf hf'
      refine wpAny_assign_Tuple lv.hh hTup2 rfl rfl fun h₃ hex => ?_
      have r3 : R g L (fun b => if b ∈ [it + 1, it, ax] then h₂.get? b else Z b) W' S' { s' with heap := h₃, toks := tk₁ } := r2.keeps (tk' := tk₁) fun b o e => hex b o (Nat.ne_of_lt (Heap.lt_size e)) e
      show wpAny _ _ (assignInOrder [assign (.Name x px) (c.env L a cd), assign (.Name y py) (c.env L a cd)] [.int i t, rx]) _ _ _
      refine wpAny_bind (wpAny_holding (wpAny_assign_Name (store_ r3 (.int i t) hlx fun s₄ r4 => ?_)))
      refine wpAny_bind (wpAny_holding (wpAny_assign_Name (store_ r4 (ry.mono ex.up) hly fun s₅ r5 => ?_)))
      refine wpAny_pure ?_
      refine wpAny_mono (hq' A L a cd _ W' s₅ (fun f s₃ => match f with
          | .next | .cont => ∃ m, m < l.length + 1 - i ∧ ∃ (i : Nat) (W' : Fz) (S' : St), Ext Z W₂ W' ∧ ((∃ old, IsEnum s₃.heap (it + 1) it i old) ∧ s₃.heap.IsListIter it ax i ∧ s₃.heap.IsList ax arr) ∧ R g L Z W' S' s₃ ∧ (∀ b ∈ [it + 1, it], W' b = none) ∧ (∀ b ∈ [it + 1, it, ax], S'.σ b = none) ∧ LoopE g c x y body i (l.drop i) S' Q ∧ i ≤ l.length ∧ m = l.length + 1 - i
          | .brk => Q' .next s₃
          | .ret v => Q' (.ret v) s₃) lv r5 ?_) (fun _ _ h => h) fun _ _ h => h.elim
      intro W₃ f b S₃ s₃ e₃ rf rr₃ h₃
      have ez := e₃.less hzz
      have goOn : LoopE g c x y body (i + 1) (l.drop (i + 1)) S₃ Q → ∃ m, m < l.length + 1 - i ∧ ∃ (i : Nat) (W' : Fz) (S' : St), Ext Z W₂ W' ∧ ((∃ old, IsEnum s₃.heap (it + 1) it i old) ∧ s₃.heap.IsListIter it ax i ∧ s₃.heap.IsList ax arr) ∧ R g L Z W' S' s₃ ∧ (∀ b ∈ [it + 1, it], W' b = none) ∧ (∀ b ∈ [it + 1, it, ax], S'.σ b = none) ∧ LoopE g c x y body i (l.drop i) S' Q ∧ i ≤ l.length ∧ m = l.length + 1 - i := fun hl₃ => by
        refine ⟨_, ?_, i + 1, W₃, S₃, ex.trans ez, ?_, rr₃.less hzz, ?_, ?_, hl₃, hlt, rfl⟩
        · omega
        · refine Wk.frame _ _ _ hT₂ fun b hb o e => rr₃.z b o ?_
          show (if b ∈ [it + 1, it, ax] then h₂.get? b else Z b) = some o
          rw [if_pos hb]; exact e
        · intro b hb
          cases q : W₃ b with
          | none => rfl
          | some o =>
            rcases e₃.fresh b o q with h | h
            · rw [hw' b hb] at h; cases h
            · have h' : (if b ∈ [it + 1, it, ax] then h₂.get? b else Z b) = none := h
              rw [if_pos (Wk.sub _ hb)] at h'
              obtain ⟨o', ho'⟩ := hob _ _ hT₂ b (Wk.sub _ hb)
              rw [ho'] at h'; cases h'
        · intro b hb
          cases q : S₃.σ b with
          | none => rfl
          | some l =>
            obtain ⟨arr, n, h1, _, h3, _⟩ := rr₃.mu b l q
            have h3' : (if b ∈ [it + 1, it, ax] then h₂.get? b else Z b) = none := h3
            rw [if_pos hb] at h3'
            obtain ⟨o', ho'⟩ := hob _ _ hT₂ b hb
            rw [ho'] at h3'; cases h3'
      cases rf with
      | next => exact goOn h₃
      | cont => exact goOn h₃
      | brk => exact po _ _ _ _ _ (((e₁.trans e₂).trans ex).trans ez) .next (rr₃.less hzz) h₃
      | ret hr => exact po _ _ _ _ _ (((e₁.trans e₂).trans ex).trans ez) (.ret hr) (rr₃.less hzz) h₃
    · have hin : i = l.length := by omega
      subst hin
      rw [← len] at hT'
      refine Wk.done _ _ _ hT' fun h₁ tk₁ hk₁ => wpAny_execs_nil ?_
      rw [List.drop_length] at hq'
      exact po _ _ _ _ _ ((e₁.trans e₂).trans ex) .next (rr.next (tk' := tk₁) hk₁ hLw hnext) hq'
end
end Mine

namespace Mine
section
variable {p : Program} {g : G p} {c : Cx} {α β : Type} {ρ : Fz → α → β → Prop} {S : St}

theorem inOrder_ {M : Model} {A : Around} {L a : Addr} {cd : Value} {Z W : Fz} {E : Value → Shared → Prop} : ∀ {xs : List Str} {vs : List Value} {ys : List V} {S : St} {s : Shared} {Q' : Unit → Shared → Prop} {sts : List (Value → Sem Unit)},
    R g L Z W S s → RepL W vs ys → xs.length = ys.length → (∀ x ∈ xs, c.scope.names.lookup x = some .local) →
    sts.length = xs.length → (∀ (i : Nat) (x : Str) (t : Value → Sem Unit), xs[i]? = some x → sts[i]? = some t → ∀ (v : Value) (s : Shared) (Q : Unit → Shared → Prop), wpAny M A (storeName (c.env L a cd) x v) Q E s → wpAny M A (t v) Q E s) →
    (∀ s', R g L Z W ((xs.zip ys).foldl (fun S q => S.set q.1 q.2) S) s' → Q' () s') → wpAny M A (assignInOrder sts vs) Q' E s
  | [], vs, ys, S, s, Q', sts, r, rv, hl, hk, hs, ht, po => by
    have : sts = [] := List.length_eq_zero_iff.mp hs
    subst this
    exact wpAny_pure (po s (by simpa using r))
  | x :: xs, vs, ys, S, s, Q', sts, r, rv, hl, hk, hs, ht, po => by
    cases rv with
    | nil => simp at hl
    | cons ra rb =>
      rename_i v y vs ys
      cases sts with
      | nil => simp at hs
      | cons t sts =>
        show wpAny _ _ (do holding vs (t v); assignInOrder sts vs) _ _ _
        refine wpAny_bind (wpAny_holding (ht 0 x t rfl rfl v s _ (store_ r ra (hk x (.head _)) fun s' r' => ?_)))
        exact inOrder_ (xs := xs) r' rb (by simpa using hl) (fun z hz => hk z (.tail _ hz)) (by simpa using hs) (fun i z t' h1 h2 => ht (i + 1) z t' (by simpa using h1) (by simpa using h2)) (fun s'' r'' => po s'' r'')

theorem wX_unpack2 {x₁ x₂ : Str} {p₁ p₂ tp pos : Pos} {k : Nat} {value : Expr} {Q : F → St → Prop}
    (h : WE g c value S (fun v S₁ => ∃ a b, v = .tup [a, b] ∧ Q .next ((S₁.set x₁ a).set x₂ b)))
    (hl₁ : c.scope.names.lookup x₁ = some .local := by rfl) (hl₂ : c.scope.names.lookup x₂ = some .local := by rfl)
    (hs : ∀ L a cd, swapsWithSole [.Tuple [.Name x₁ p₁, .Name x₂ p₂] k tp] value pos.line (c.env L a cd) = pure false := by intro _ _ _; rfl)
    (hw : ∀ L a cd, swappedStores [.Tuple [.Name x₁ p₁, .Name x₂ p₂] k tp] value (c.env L a cd) = pure none := by intro _ _ _; rfl) :
    WX g c (.Assign [.Tuple [.Name x₁ p₁, .Name x₂ p₂] k tp] value pos) S Q :=
  fun A L a cd Z W s Q' lv r po => Assign_Tuple (h A L a cd Z W s _ lv r fun W₁ v x S₁ s₁ e₁ r₁ rr₁ h₁ => by
    obtain ⟨y, z, rfl, hq⟩ := h₁
    cases r₁ with
    | tup ha hr =>
      rename_i ax arr n
      have len := hr.length
      rw [Array.length_toList] at len
      refine wpAny_assign_Tuple lv.hh ⟨_, rr₁.w _ _ ha, rfl, n, rfl⟩ (by rw [len]; rfl) rfl fun h₃ hex => ?_
      have r3 := rr₁.keeps (tk' := s₁.toks) fun b o e => hex b o (Nat.ne_of_lt (Heap.lt_size e)) e
      refine inOrder_ (a := a) (cd := cd) (xs := [x₁, x₂]) r3 hr rfl (fun q hq => by rcases List.mem_cons.mp hq with e | hq; exact e ▸ hl₁; rw [List.mem_singleton.mp hq]; exact hl₂) rfl ?_ fun s' r' => po _ _ _ _ _ e₁ .next r' hq
      intro i q t h1 h2 v s Q hh
      rcases i with _ | _ | i
      · cases h1; cases h2; exact wpAny_assign_Name hh
      · cases h1; cases h2; exact wpAny_assign_Name hh
      · simp at h1) (hs _ _ _) (hw _ _ _)
theorem wX_unpack3 {x₁ x₂ x₃ : Str} {p₁ p₂ p₃ tp pos : Pos} {k : Nat} {value : Expr} {Q : F → St → Prop}
    (h : WE g c value S (fun v S₁ => ∃ a b d, v = .tup [a, b, d] ∧ Q .next (((S₁.set x₁ a).set x₂ b).set x₃ d)))
    (hl₁ : c.scope.names.lookup x₁ = some .local := by rfl) (hl₂ : c.scope.names.lookup x₂ = some .local := by rfl) (hl₃ : c.scope.names.lookup x₃ = some .local := by rfl)
    (hs : ∀ L a cd, swapsWithSole [.Tuple [.Name x₁ p₁, .Name x₂ p₂, .Name x₃ p₃] k tp] value pos.line (c.env L a cd) = pure false := by intro _ _ _; rfl)
    (hw : ∀ L a cd, swappedStores [.Tuple [.Name x₁ p₁, .Name x₂ p₂, .Name x₃ p₃] k tp] value (c.env L a cd) = pure none := by intro _ _ _; rfl) :
    WX g c (.Assign [.Tuple [.Name x₁ p₁, .Name x₂ p₂, .Name x₃ p₃] k tp] value pos) S Q :=
  fun A L a cd Z W s Q' lv r po => Assign_Tuple (h A L a cd Z W s _ lv r fun W₁ v x S₁ s₁ e₁ r₁ rr₁ h₁ => by
    obtain ⟨y, z, u, rfl, hq⟩ := h₁
    cases r₁ with
    | tup ha hr =>
      rename_i ax arr n
      have len := hr.length
      rw [Array.length_toList] at len
      refine wpAny_assign_Tuple lv.hh ⟨_, rr₁.w _ _ ha, rfl, n, rfl⟩ (by rw [len]; rfl) rfl fun h₃ hex => ?_
      have r3 := rr₁.keeps (tk' := s₁.toks) fun b o e => hex b o (Nat.ne_of_lt (Heap.lt_size e)) e
      refine inOrder_ (a := a) (cd := cd) (xs := [x₁, x₂, x₃]) r3 hr rfl (fun q hq => by rcases List.mem_cons.mp hq with e | hq; exact e ▸ hl₁; rcases List.mem_cons.mp hq with e | hq; exact e ▸ hl₂; rw [List.mem_singleton.mp hq]; exact hl₃) rfl ?_ fun s' r' => po _ _ _ _ _ e₁ .next r' hq
      intro i q t h1 h2 v s Q hh
      rcases i with _ | _ | _ | i
      · cases h1; cases h2; exact wpAny_assign_Name hh
      · cases h1; cases h2; exact wpAny_assign_Name hh
      · cases h1; cases h2; exact wpAny_assign_Name hh
      · simp at h1) (hs _ _ _) (hw _ _ _)

theorem wX_swap2 {x₁ x₂ : Str} {p₁ p₂ tp pos : Pos} {k : Nat} {value : Expr} {Q : F → St → Prop}
    (h : WE g c value S (fun v S₁ => ∃ a b, v = .tup [a, b] ∧ Q .next ((S₁.set x₂ b).set x₁ a)))
    (hl₁ : c.scope.names.lookup x₁ = some .local := by rfl) (hl₂ : c.scope.names.lookup x₂ = some .local := by rfl)
    (hs : ∀ L a cd, swapsWithSole [.Tuple [.Name x₁ p₁, .Name x₂ p₂] k tp] value pos.line (c.env L a cd) = pure false := by intro _ _ _; rfl)
    (hw : ∀ L a cd, swappedStores [.Tuple [.Name x₁ p₁, .Name x₂ p₂] k tp] value (c.env L a cd) = pure (some [x₁, x₂]) := by intro _ _ _; rfl) :
    WX g c (.Assign [.Tuple [.Name x₁ p₁, .Name x₂ p₂] k tp] value pos) S Q :=
  fun A L a cd Z W s Q' lv r po => Assign_Tuple_swapped (h A L a cd Z W s _ lv r fun W₁ v x S₁ s₁ e₁ r₁ rr₁ h₁ => by
    obtain ⟨y, z, rfl, hq⟩ := h₁
    cases r₁ with
    | tup ha hr =>
      rename_i ax arr n
      have len := hr.length
      rw [Array.length_toList] at len
      show wpAny _ _ (unpackItems (.ref ax) 2 none) _ _ _
      rw [show (2 : Nat) = arr.size from len.symm]
      refine wpAny_unpackItems_tuple lv.hh ⟨_, rr₁.w _ _ ha, rfl, n, rfl⟩ fun h₃ hex => ?_
      have r3 := rr₁.keeps (tk' := s₁.toks) fun b o e => hex b o (Nat.ne_of_lt (Heap.lt_size e)) e
      cases hat : arr.toList with
      | nil => rw [hat] at hr; cases hr
      | cons v1 t1 =>
        rw [hat] at hr
        cases hr with
        | cons q1 hr =>
          cases hr with
          | cons q2 hr =>
            cases hr
            refine inOrder_ (a := a) (cd := cd) (xs := [x₂, x₁]) (ys := [z, y]) r3 (.cons q2 (.cons q1 .nil)) rfl (fun q hq => by rcases List.mem_cons.mp hq with e | hq; exact e ▸ hl₂; rw [List.mem_singleton.mp hq]; exact hl₁) rfl ?_ fun s' r' => po _ _ _ _ _ e₁ .next r' hq
            intro i q t h1 h2 v s Q hh
            rcases i with _ | _ | i
            · cases h1; cases h2; exact wpAny_bindName hh
            · cases h1; cases h2; exact wpAny_bindName hh
            · simp at h1) (hs _ _ _) (hw _ _ _)
theorem wX_swap3 {x₁ x₂ x₃ : Str} {p₁ p₂ p₃ tp pos : Pos} {k : Nat} {value : Expr} {Q : F → St → Prop}
    (h : WE g c value S (fun v S₁ => ∃ a b d, v = .tup [a, b, d] ∧ Q .next (((S₁.set x₃ d).set x₂ b).set x₁ a)))
    (hl₁ : c.scope.names.lookup x₁ = some .local := by rfl) (hl₂ : c.scope.names.lookup x₂ = some .local := by rfl) (hl₃ : c.scope.names.lookup x₃ = some .local := by rfl)
    (hs : ∀ L a cd, swapsWithSole [.Tuple [.Name x₁ p₁, .Name x₂ p₂, .Name x₃ p₃] k tp] value pos.line (c.env L a cd) = pure false := by intro _ _ _; rfl)
    (hw : ∀ L a cd, swappedStores [.Tuple [.Name x₁ p₁, .Name x₂ p₂, .Name x₃ p₃] k tp] value (c.env L a cd) = pure (some [x₁, x₂, x₃]) := by intro _ _ _; rfl) :
    WX g c (.Assign [.Tuple [.Name x₁ p₁, .Name x₂ p₂, .Name x₃ p₃] k tp] value pos) S Q :=
  fun A L a cd Z W s Q' lv r po => Assign_Tuple_swapped (h A L a cd Z W s _ lv r fun W₁ v x S₁ s₁ e₁ r₁ rr₁ h₁ => by
    obtain ⟨y, z, u, rfl, hq⟩ := h₁
    cases r₁ with
    | tup ha hr =>
      rename_i ax arr n
      have len := hr.length
      rw [Array.length_toList] at len
      show wpAny _ _ (unpackItems (.ref ax) 3 none) _ _ _
      rw [show (3 : Nat) = arr.size from len.symm]
      refine wpAny_unpackItems_tuple lv.hh ⟨_, rr₁.w _ _ ha, rfl, n, rfl⟩ fun h₃ hex => ?_
      have r3 := rr₁.keeps (tk' := s₁.toks) fun b o e => hex b o (Nat.ne_of_lt (Heap.lt_size e)) e
      cases hat : arr.toList with
      | nil => rw [hat] at hr; cases hr
      | cons v1 t1 =>
        rw [hat] at hr
        cases hr with
        | cons q1 hr =>
          cases hr with
          | cons q2 hr =>
            cases hr with
            | cons q3 hr =>
            cases hr
            refine inOrder_ (a := a) (cd := cd) (xs := [x₃, x₂, x₁]) (ys := [u, z, y]) r3 (.cons q3 (.cons q2 (.cons q1 .nil))) rfl (fun q hq => by rcases List.mem_cons.mp hq with e | hq; exact e ▸ hl₃; rcases List.mem_cons.mp hq with e | hq; exact e ▸ hl₂; rw [List.mem_singleton.mp hq]; exact hl₁) rfl ?_ fun s' r' => po _ _ _ _ _ e₁ .next r' hq
            intro i q t h1 h2 v s Q hh
            rcases i with _ | _ | _ | i
            · cases h1; cases h2; exact wpAny_bindName hh
            · cases h1; cases h2; exact wpAny_bindName hh
            · cases h1; cases h2; exact wpAny_bindName hh
            · simp at h1) (hs _ _ _) (hw _ _ _)

theorem wE_bitlen {o : Expr} {apos pos : Pos} {Q : V → St → Prop} (h : WE g c o S (fun v S₁ => ∃ i, v = .int i ∧ Q (.int (Builtin.Int.intBits i)) S₁))
    (hbase : ∀ env, attributeBase o "bit_length" env (eval o env) = eval o env := by intro _; rfl) (hline : (apos.endLine == pos.line) = true := by rfl) :
    WE g c (.Call (.Attribute o "bit_length" apos) [] [] pos) S Q :=
  fun A L a cd Z W s Q' lv r po => Call_method0 (hbase _) hline (h A L a cd Z W s _ lv r fun W₁ v x S₁ s₁ e₁ r₁ rr₁ h₁ => by
    obtain ⟨i, rfl, hq⟩ := h₁
    cases r₁
    refine ⟨"int", "int.bit_length", F.plainAttrs_int, F.slot_int_bit_length, F.type_int_bit_length, typeIs_int _ _ _, (fun _ e => nomatch e), ?_⟩
    exact seqMethod0_meets F.slot_int_bit_length F.entry_int_bit_length (typeIs_int _ _ _) (F.args_int_bit_length_1 _) ((AutoIntG2.int_bit_length_int_0 i _).meets) (po _ _ _ _ _ e₁ (.int _ _) rr₁.tk hq))
end
end Mine

namespace Mine
section
variable {p : Program} {g : G p} {c : Cx} {α β : Type} {ρ : Fz → α → β → Prop} {S : St}

theorem look_same {x : Str} {v : V} : (S.set x v).m x = some v := if_pos rfl
theorem look_i {x : Str} {a b : Int} (h : a = b) : (S.set x (.int a)).m x = some (.int b) := by rw [h]; exact if_pos rfl
theorem iteF {A B : Prop} (h : B) : if false = true then A else B := by simpa using h
theorem iteT {A B : Prop} (h : A) : if true = true then A else B := by simpa using h
theorem exTB {b : Bool} {Q : Bool → Prop} (h : Q b) : ∃ b', truthV (.bool b) = some b' ∧ Q b' := ⟨b, rfl, h⟩
theorem exTI {i : Int} {Q : Bool → Prop} (h : Q (i != 0)) : ∃ b', truthV (.int i) = some b' ∧ Q b' := ⟨_, rfl, h⟩
theorem exI {i : Int} {Q : Int → Prop} (h : Q i) : ∃ j, V.int i = .int j ∧ Q j := ⟨i, rfl, h⟩
theorem exL {l : List V} {Q : List V → Prop} (h : Q l) : ∃ k, V.list l = .list k ∧ Q k := ⟨l, rfl, h⟩
theorem exT2 {a b : V} {Q : V → V → Prop} (h : Q a b) : ∃ x y, V.tup [a, b] = .tup [x, y] ∧ Q x y := ⟨a, b, rfl, h⟩
theorem exT3 {a b d : V} {Q : V → V → V → Prop} (h : Q a b d) : ∃ x y z, V.tup [a, b, d] = .tup [x, y, z] ∧ Q x y z := ⟨a, b, d, rfl, h⟩
theorem exR {v : V} {Q : V → Prop} (h : Q v) : ∃ x, F.ret v = .ret x ∧ Q x := ⟨v, rfl, h⟩
theorem andLit {v : Value} {Q : Prop} (h : Q) : V.lit v = .lit v ∧ Q := ⟨rfl, h⟩
theorem andSt {S : St} {Q : Prop} (h : Q) : S = S ∧ Q := ⟨rfl, h⟩
theorem andLen {xs : List V} {Q : Prop} (h1 : xs.length ≤ 2 ^ 24) (h : Q) : xs.length ≤ 2 ^ 24 ∧ Q := ⟨h1, h⟩
theorem sig_set {x : Str} {v : V} {a : Addr} {o : Option (List V)} (h : S.σ a = o) : (S.set x v).σ a = o := h
theorem look_ne {x y : Str} {v : V} {o : Option V} (h : y ≠ x) (h2 : S.m y = o) : (S.set x v).m y = o := (if_neg h).trans h2
theorem look_froze {x : Str} {a : Addr} {l : List V} : (S.freeze x a l).m x = some (.list l) := if_pos rfl
theorem look_froze_ne {x y : Str} {a : Addr} {l : List V} {o : Option V} (h : y ≠ x) (h2 : S.m y = o) : (S.freeze x a l).m y = o := (if_neg h).trans h2
theorem sig_freeze {x : Str} {a b : Addr} {l : List V} {o : Option (List V)} (h : a ≠ b) (h2 : S.σ a = o) : (S.freeze x b l).σ a = o := (if_neg h).trans h2
theorem upd_same {σ : Addr → Option (List V)} {a : Addr} {l : List V} : upd σ a l a = some l := if_pos rfl
theorem upd_ne {σ : Addr → Option (List V)} {a b : Addr} {l : List V} {o : Option (List V)} (h : b ≠ a) (h2 : σ b = o) : upd σ a l b = o := (if_neg h).trans h2
theorem upd_upd {σ : Addr → Option (List V)} {a : Addr} {l k : List V} : upd (upd σ a l) a k = upd σ a k := by
  funext b
  unfold upd
  by_cases h : b = a <;> simp [h]

theorem iteD {P : Prop} [Decidable P] {A B : Prop} (h1 : P → A) (h2 : ¬ P → B) : if decide P = true then A else B := by
  by_cases h : P
  · rw [if_pos (decide_eq_true h)]; exact h1 h
  · rw [if_neg (by simpa using h)]; exact h2 h
theorem iteB {b : Bool} {A B : Prop} (h1 : b = true → A) (h2 : b = false → B) : if b = true then A else B := by
  cases b
  · simpa using h2 rfl
  · simpa using h1 rfl
theorem iteEq {x y : Int} {A B : Prop} (h1 : x = y → A) (h2 : x ≠ y → B) : if (x == y) = true then A else B := by
  by_cases h : x = y
  · rw [if_pos (by simpa using h)]; exact h1 h
  · rw [if_neg (by simpa using h)]; exact h2 h
theorem iteNe {x y : Int} {A B : Prop} (h1 : x ≠ y → A) (h2 : x = y → B) : if (x != y) = true then A else B := by
  by_cases h : x = y
  · rw [if_neg (by simpa using h)]; exact h2 h
  · rw [if_pos (by simpa using h)]; exact h1 h
theorem iteNot {b : Bool} {A B : Prop} (h : if b = true then B else A) : if (!b) = true then A else B := by
  cases b <;> simpa using h

/-- how a turn of a loop ends -/
abbrev Turn (next : St → Prop) (Q : F → St → Prop) (f : F) (S : St) : Prop := match f with
  | .next => next S
  | .cont => next S
  | .brk => Q .next S
  | .ret u => Q (.ret u) S

theorem loop_inv {x : Str} {body : List Stmt} {Q : F → St → Prop} (I : List V → St → Prop) (step : ∀ v vs S, I (v :: vs) S → WS g c body (S.set x v) (Turn (I vs) Q)) (done : ∀ S, I [] S → Q .next S) :
    ∀ {xs : List V} {S : St}, I xs S → LoopW g c x body xs S Q
  | [], S, h => done S h
  | v :: vs, S, h => Wp.mono (step v vs S h) fun f S' hf => by
    cases f with
    | next => exact loop_inv I step done hf
    | cont => exact loop_inv I step done hf
    | brk => exact hf
    | ret u => exact hf
theorem loopE_inv {x y : Str} {body : List Stmt} {Q : F → St → Prop} (I : Nat → List V → St → Prop) (step : ∀ i v vs S, I i (v :: vs) S → WS g c body ((S.set x (.int i)).set y v) (Turn (I (i + 1) vs) Q)) (done : ∀ i S, I i [] S → Q .next S) :
    ∀ {i : Nat} {xs : List V} {S : St}, I i xs S → LoopE g c x y body i xs S Q
  | i, [], S, h => done i S h
  | i, v :: vs, S, h => Wp.mono (step i v vs S h) fun f S' hf => by
    cases f with
    | next => exact loopE_inv I step done hf
    | cont => exact loopE_inv I step done hf
    | brk => exact hf
    | ret u => exact hf
theorem whileW_inv {test : Expr} {body : List Stmt} {Q : F → St → Prop} (I : Nat → St → Prop) (step : ∀ n S, I n S → WT g c test S (fun b S₁ => if b = true then WS g c body S₁ (Turn (fun S' => ∃ m, m < n ∧ I m S') Q) else Q .next S₁)) :
    ∀ (n : Nat) {S : St}, I n S → ∀ k, n < k → WhileW g c test body k S Q := by
  intro n
  induction n using Nat.strongRecOn with
  | _ n ih =>
    intro S h k hk
    cases k with
    | zero => exact absurd hk (Nat.not_lt_zero _)
    | succ k =>
      refine Wp.mono (step n S h) fun b S₁ hb => ?_
      cases b with
      | false => simpa using hb
      | true =>
        simp only [if_true] at hb ⊢
        refine Wp.mono hb fun f S' hf => ?_
        cases f with
        | next => obtain ⟨m, h1, h2⟩ := hf; exact ih m h1 h2 k (by omega)
        | cont => obtain ⟨m, h1, h2⟩ := hf; exact ih m h1 h2 k (by omega)
        | brk => exact hf
        | ret u => exact hf
theorem wX_while_inv {test : Expr} {body : List Stmt} {pos : Pos} {Q : F → St → Prop} (I : Nat → St → Prop) (n : Nat) (h : I n S)
    (step : ∀ n S, I n S → WT g c test S (fun b S₁ => if b = true then WS g c body S₁ (Turn (fun S' => ∃ m, m < n ∧ I m S') Q) else Q .next S₁)) : WX g c (.While test body [] pos) S Q :=
  wX_while (n + 1) (whileW_inv I step n h _ (Nat.lt_succ_self _))

theorem op1_int {t : Value → Sem Value} {x : V} {Q : V → St → Prop} (h : Op1 g c Rep t x S Q) : Op1 g c Rep t x S Q := h
def zints (l : List Int) : List V := l.map V.int
theorem zints_length (l : List Int) : (zints l).length = l.length := List.length_map ..
theorem zints_get {l : List Int} {i : Nat} {x : Int} (h : l[i]? = some x) : (zints l)[i]? = some (.int x) := by rw [zints, List.getElem?_map, h]; rfl
theorem zints_append (l k : List Int) : zints (l ++ k) = zints l ++ zints k := List.map_append
theorem zints_set (l : List Int) (i : Nat) (x : Int) : (zints l).set i (.int x) = zints (l.set i x) := by simp [zints, List.map_set]
theorem zints_take (l : List Int) (n : Nat) : (zints l).take n = zints (l.take n) := by simp [zints, List.map_take]
theorem zints_drop (l : List Int) (n : Nat) : (zints l).drop n = zints (l.drop n) := by simp [zints, List.map_drop]
theorem zints_replicate (n : Nat) (x : Int) : List.replicate n (V.int x) = zints (List.replicate n x) := by simp [zints]
/-- the function's address -/
def G.fa (g : G p) (n : Str) : Addr := match g.mg n with
  | some (.ref a) => a
  | _ => 0
theorem G.fa_of {d : DefRec} (hd : d ∈ recsOf p) : g.mg d.name = some (.ref (g.fa d.name)) ∧ IsFn g (g.fa d.name) := by
  obtain ⟨a, o, pm, code, doc, h1, h2, h3, h4⟩ := g.T.fn d hd
  have : g.fa d.name = a := by unfold G.fa; rw [h1]
  rw [this]
  exact ⟨h1, _, _, h2, h3⟩
theorem pick_to (l : List V) (k : Int) (h0 : 0 ≤ k) : pick l none (some k) = l.take k.toNat := by
  unfold pick kms_lo kms_hi
  simp only [if_neg (show ¬ k < 0 by omega), List.drop_zero, Nat.sub_zero]
  rw [List.take_eq_take_iff]
  omega
theorem pick_all (l : List V) : pick l none none = l := by
  unfold pick kms_lo kms_hi
  simp
theorem pick_run (l : List V) (j k : Int) (h0 : 0 ≤ j) (h1 : j ≤ k) (h2 : k ≤ l.length) : pick l (some j) (some k) = (l.drop j.toNat).take (k.toNat - j.toNat) := by
  unfold pick kms_lo kms_hi
  simp only [if_neg (show ¬ k < 0 by omega), if_neg (show ¬ j < 0 by omega)]
  rw [show min j.toNat l.length = j.toNat by omega, show min k.toNat l.length = k.toNat by omega]
end
end Mine

namespace Mine

/-- the number that limbs spell, the least first -/
def val (B : Int) : List Int → Int
  | [] => 0
  | x :: l => x + B * val B l
def Limbs (B : Int) (l : List Int) : Prop := ∀ x ∈ l, 0 ≤ x ∧ x < B
/-- limbs in least form that spell n -/
structure Can (B : Int) (l : List Int) (n : Int) : Prop where
  limbs : Limbs B l
  val : val B l = n
  top : l.getLast? ≠ some 0

theorem Limbs.nil {B : Int} : Limbs B [] := fun _ h => nomatch h
theorem Limbs.tail {B x : Int} {l : List Int} (h : Limbs B (x :: l)) : Limbs B l := fun y hy => h y (.tail _ hy)
theorem Limbs.head {B x : Int} {l : List Int} (h : Limbs B (x :: l)) : 0 ≤ x ∧ x < B := h x (.head _)
theorem Limbs.cons {B x : Int} {l : List Int} (hx : 0 ≤ x ∧ x < B) (h : Limbs B l) : Limbs B (x :: l) := fun y hy => by
  rcases List.mem_cons.mp hy with rfl | hy
  · exact hx
  · exact h y hy
theorem Limbs.append {B : Int} {l k : List Int} (h : Limbs B l) (h' : Limbs B k) : Limbs B (l ++ k) := fun y hy => (List.mem_append.mp hy).elim (h y) (h' y)
theorem Limbs.snoc {B x : Int} {l : List Int} (h : Limbs B l) (hx : 0 ≤ x ∧ x < B) : Limbs B (l ++ [x]) := h.append (Limbs.nil.cons hx)
theorem Limbs.get {B : Int} {l : List Int} (h : Limbs B l) {i : Nat} {x : Int} (e : l[i]? = some x) : 0 ≤ x ∧ x < B := h x (List.mem_of_getElem? e)
theorem Limbs.take {B : Int} {l : List Int} (h : Limbs B l) (n : Nat) : Limbs B (l.take n) := fun y hy => h y (List.mem_of_mem_take hy)
theorem Limbs.drop {B : Int} {l : List Int} (h : Limbs B l) (n : Nat) : Limbs B (l.drop n) := fun y hy => h y (List.mem_of_mem_drop hy)
theorem Limbs.set {B : Int} {l : List Int} (h : Limbs B l) (n : Nat) {x : Int} (hx : 0 ≤ x ∧ x < B) : Limbs B (l.set n x) := fun y hy => by
  rcases List.mem_or_eq_of_mem_set hy with hy | rfl
  · exact h y hy
  · exact hx
theorem Limbs.replicate {B : Int} (hB : 0 < B) (n : Nat) : Limbs B (List.replicate n 0) := fun y hy => by
  rw [(List.mem_replicate.mp hy).2]; omega

theorem val_append (B : Int) : ∀ l k : List Int, val B (l ++ k) = val B l + B ^ l.length * val B k
  | [], k => by simp [val]
  | x :: l, k => by
    simp only [List.cons_append, val, val_append B l k, List.length_cons, Int.pow_succ]
    rw [Int.mul_add, ← Int.mul_assoc, Int.mul_comm B (B ^ l.length)]
    omega
theorem val_snoc (B : Int) (l : List Int) (x : Int) : val B (l ++ [x]) = val B l + B ^ l.length * x := by
  rw [val_append]; simp [val]
theorem pow_pos' {B : Int} (hB : 0 < B) (n : Nat) : 0 < B ^ n := Int.pow_pos hB
theorem val_nonneg {B : Int} (hB : 0 < B) : ∀ {l : List Int}, Limbs B l → 0 ≤ val B l
  | [], _ => Int.le_refl _
  | x :: l, h => by
    have h1 := val_nonneg hB h.tail
    have h2 := h.head
    have := Int.mul_nonneg (Int.le_of_lt hB) h1
    simp only [val]; omega
theorem val_lt {B : Int} (hB : 0 < B) : ∀ {l : List Int}, Limbs B l → val B l < B ^ l.length
  | [], _ => by simp [val]
  | x :: l, h => by
    have h1 := val_lt hB h.tail
    have h2 := h.head
    simp only [val, List.length_cons, Int.pow_succ]
    have : B * (val B l + 1) ≤ B * B ^ l.length := Int.mul_le_mul_of_nonneg_left h1 (Int.le_of_lt hB)
    rw [Int.mul_add, Int.mul_one] at this
    rw [Int.mul_comm (B ^ l.length) B]
    omega
theorem val_take_succ {B : Int} {l : List Int} {i : Nat} {x : Int} (e : l[i]? = some x) : val B (l.take (i + 1)) = val B (l.take i) + B ^ i * x := by
  have hi := (List.getElem?_eq_some_iff.mp e).1
  rw [List.take_add_one, e]
  simp only [Option.toList]
  rw [val_snoc, List.length_take, Nat.min_eq_left (Nat.le_of_lt hi)]
theorem val_replicate (B : Int) : ∀ n : Nat, val B (List.replicate n 0) = 0
  | 0 => rfl
  | n + 1 => by simp [List.replicate_succ, val, val_replicate B n]
theorem val_take_drop (B : Int) (l : List Int) (n : Nat) (h : n ≤ l.length) : val B l = val B (l.take n) + B ^ n * val B (l.drop n) := by
  conv => lhs; rw [← List.take_append_drop n l]
  rw [val_append, List.length_take, Nat.min_eq_left h]
theorem val_inj {B : Int} (hB : 0 < B) : ∀ {l k : List Int}, Limbs B l → Limbs B k → l.length = k.length → val B l = val B k → l = k
  | [], [], _, _, _, _ => rfl
  | x :: l, y :: k, h1, h2, hl, hv => by
    simp only [val] at hv
    have a := h1.head
    have b := h2.head
    have e : x = y := by
      have hx : (x + B * val B l) % B = x := by rw [Int.add_mul_emod_self_left]; exact Int.emod_eq_of_lt a.1 a.2
      have hy : (y + B * val B k) % B = y := by rw [Int.add_mul_emod_self_left]; exact Int.emod_eq_of_lt b.1 b.2
      rw [← hx, ← hy, hv]
    subst e
    have e2 : val B l = val B k := Int.eq_of_mul_eq_mul_left (Int.ne_of_gt hB) (by omega)
    rw [val_inj hB h1.tail h2.tail (by simpa using hl) e2]

theorem Can.nil {B : Int} : Can B [] 0 := ⟨.nil, rfl, by simp⟩
theorem Can.nonneg {B n : Int} {l : List Int} (hB : 0 < B) (h : Can B l n) : 0 ≤ n := h.val ▸ val_nonneg hB h.limbs
theorem top_le {B : Int} (hB : 1 < B) {l : List Int} (h : Limbs B l) (ht : l.getLast? ≠ some 0) (hl : l ≠ []) : B ^ (l.length - 1) ≤ val B l := by
  obtain ⟨k, x, rfl⟩ : ∃ k x, l = k ++ [x] := ⟨l.dropLast, l.getLast hl, (List.dropLast_concat_getLast hl).symm⟩
  have hx : x ≠ 0 := fun e => ht (by simp [e])
  have h1 := h x (by simp)
  have h2 : Limbs B k := fun y hy => h y (List.mem_append_left _ hy)
  have h3 := val_nonneg (by omega) h2
  rw [val_snoc]
  simp only [List.length_append, List.length_cons, List.length_nil, Nat.zero_add, Nat.add_sub_cancel]
  have h4 := pow_pos' (B := B) (by omega) k.length
  have : B ^ k.length * 1 ≤ B ^ k.length * x := Int.mul_le_mul_of_nonneg_left (by omega) (Int.le_of_lt h4)
  omega
theorem top_of {B : Int} (hB : 1 < B) {l : List Int} (h : Limbs B l) (hv : l ≠ [] → B ^ (l.length - 1) ≤ val B l) : l.getLast? ≠ some 0 := by
  intro e
  have hl : l ≠ [] := fun q => by rw [q] at e; cases e
  obtain ⟨k, x, rfl⟩ : ∃ k x, l = k ++ [x] := ⟨l.dropLast, l.getLast hl, (List.dropLast_concat_getLast hl).symm⟩
  have hx : x = 0 := by simpa using e
  subst hx
  have h2 : Limbs B k := fun y hy => h y (List.mem_append_left _ hy)
  have h3 := val_lt (by omega) h2
  have := hv hl
  rw [val_snoc] at this
  simp only [List.length_append, List.length_cons, List.length_nil, Nat.zero_add, Nat.add_sub_cancel] at this
  omega
theorem Can.low {B n : Int} {l : List Int} (hB : 1 < B) (h : Can B l n) (hl : l ≠ []) : B ^ (l.length - 1) ≤ n := h.val ▸ top_le hB h.limbs h.top hl
theorem Can.lt {B n : Int} {l : List Int} (hB : 1 < B) (h : Can B l n) : n < B ^ l.length := h.val ▸ val_lt (by omega) h.limbs
theorem pow_mono' {B : Int} (hB : 1 < B) {m n : Nat} (h : m ≤ n) : B ^ m ≤ B ^ n := by
  obtain ⟨k, rfl⟩ := Nat.exists_eq_add_of_le h
  rw [Int.pow_add]
  have h1 := pow_pos' (B := B) (by omega) m
  have h2 := pow_pos' (B := B) (by omega) k
  have : B ^ m * 1 ≤ B ^ m * B ^ k := Int.mul_le_mul_of_nonneg_left (by omega) (Int.le_of_lt h1)
  omega
theorem Can.len_le {B n : Int} {l : List Int} (hB : 1 < B) (h : Can B l n) {k : Nat} (hn : n < B ^ k) : l.length ≤ k := by
  by_cases hl : l = []
  · subst hl; simp
  · apply Nat.le_of_not_lt
    intro hk
    have h1 := h.low hB hl
    have h2 := pow_mono' hB (show k ≤ l.length - 1 by omega)
    omega
theorem Can.len_lt {B n m : Int} {l k : List Int} (hB : 1 < B) (h : Can B l n) (h' : Can B k m) (hl : l.length < k.length) : n < m := by
  have h1 := h.lt hB
  have h2 := h'.low hB (fun e => by subst e; simp at hl)
  have h3 := pow_mono' hB (show l.length ≤ k.length - 1 by omega)
  omega
theorem Can.uniq {B n : Int} {l k : List Int} (hB : 1 < B) (h : Can B l n) (h' : Can B k n) : l = k := by
  have e : l.length = k.length := by
    rcases Nat.lt_trichotomy l.length k.length with q | q | q
    · exact absurd (h.len_lt hB h' q) (Int.lt_irrefl _)
    · exact q
    · exact absurd (h'.len_lt hB h q) (Int.lt_irrefl _)
  exact val_inj (by omega) h.limbs h'.limbs e (h.val.trans h'.val.symm)
theorem Can.zero {B n : Int} {l : List Int} (hB : 1 < B) (h : Can B l n) : l = [] ↔ n = 0 := by
  constructor
  · intro e; subst e; exact h.val.symm
  · intro e
    subst e
    exact h.uniq hB Can.nil

/-- no noughts at the end -/
def normL (l : List Int) : List Int := (l.reverse.dropWhile (· == 0)).reverse
theorem normL_nil : normL [] = [] := rfl
theorem normL_snoc_zero (l : List Int) : normL (l ++ [0]) = normL l := by simp [normL]
theorem normL_snoc {x : Int} (hx : x ≠ 0) (l : List Int) : normL (l ++ [x]) = l ++ [x] := by simp [normL, hx]
theorem normL_can {B : Int} (hB : 0 < B) {l : List Int} (h : Limbs B l) : Can B (normL l) (val B l) := by
  generalize hn : l.length = n
  induction n generalizing l with
  | zero => rw [List.length_eq_zero_iff.mp hn]; exact Can.nil
  | succ n ih =>
    have hl : l ≠ [] := fun e => by subst e; cases hn
    obtain ⟨k, x, rfl⟩ : ∃ k x, l = k ++ [x] := ⟨l.dropLast, l.getLast hl, (List.dropLast_concat_getLast hl).symm⟩
    have h2 : Limbs B k := fun y hy => h y (List.mem_append_left _ hy)
    by_cases hx : x = 0
    · subst hx
      rw [normL_snoc_zero, val_snoc]
      have := ih h2 (by simpa using hn)
      simpa using this
    · rw [normL_snoc hx]
      exact ⟨h, rfl, by simpa using hx⟩
theorem normL_length (l : List Int) : (normL l).length ≤ l.length := by
  unfold normL
  have h := (List.dropWhile_suffix (· == (0:Int)) (l := l.reverse)).length_le
  simpa using h
theorem normL_can' {B n : Int} {l : List Int} (h : Can B l n) : normL l = l := by
  by_cases hl : l = []
  · subst hl; rfl
  · obtain ⟨k, x, rfl⟩ : ∃ k x, l = k ++ [x] := ⟨l.dropLast, l.getLast hl, (List.dropLast_concat_getLast hl).symm⟩
    exact normL_snoc (fun e => h.top (by simp [e])) k

-- bits
theorem bitOr_nat (a b : Nat) : Builtin.bitOr (a : Int) (b : Int) = ((a ||| b : Nat) : Int) := by
  unfold Builtin.bitOr
  have e : ∀ z : Int, Builtin.bitNot (Builtin.bitNot z) = z := fun z => by unfold Builtin.bitNot; omega
  rw [bitAnd_nn (by unfold Builtin.bitNot; omega) (by unfold Builtin.bitNot; omega), e, e, e]
  simp
theorem or_add {x y : Int} (k : Nat) (h0 : 0 ≤ x) (h1 : x < 2 ^ k) (hy : 0 ≤ y) : Builtin.bitOr x (y * 2 ^ k) = x + y * 2 ^ k := by
  obtain ⟨a, rfl⟩ := Int.eq_ofNat_of_zero_le h0
  obtain ⟨b, rfl⟩ := Int.eq_ofNat_of_zero_le hy
  have h1' : a < 2 ^ k := by exact_mod_cast h1
  have e : ((b : Int) * 2 ^ k) = ((b * 2 ^ k : Nat) : Int) := by push_cast; rfl
  rw [e]
  have := Nat.two_pow_add_eq_or_of_lt h1' b
  have hor : Builtin.bitOr ((a : Nat) : Int) ((b * 2 ^ k : Nat) : Int) = ((a ||| b * 2 ^ k : Nat) : Int) := by
    exact bitOr_nat _ _
  rw [hor, Nat.or_comm, Nat.mul_comm b, ← this]
  push_cast
  omega
theorem or_add' {x y : Int} (k : Nat) (h0 : 0 ≤ x) (h1 : x < 2 ^ k) (hy : 0 ≤ y) : Builtin.bitOr (y * 2 ^ k) x = y * 2 ^ k + x := by
  obtain ⟨a, rfl⟩ := Int.eq_ofNat_of_zero_le h0
  obtain ⟨b, rfl⟩ := Int.eq_ofNat_of_zero_le hy
  have h1' : a < 2 ^ k := by exact_mod_cast h1
  have e : ((b : Int) * 2 ^ k) = ((b * 2 ^ k : Nat) : Int) := by push_cast; rfl
  rw [e]
  have := Nat.two_pow_add_eq_or_of_lt h1' b
  have hor : Builtin.bitOr ((b * 2 ^ k : Nat) : Int) ((a : Nat) : Int) = ((b * 2 ^ k ||| a : Nat) : Int) := by
    exact bitOr_nat _ _
  rw [hor, Nat.mul_comm b, ← this]
  push_cast
  omega
end Mine

namespace Mine
section
variable {p : Program} {g : G p} {c : Cx} {S : St}
theorem zints_at {l : List Int} {k : Int} (h0 : 0 ≤ k) (h1 : k < l.length) : (zints l)[place k (zints l).length]? = some (.int (l.getD k.toNat 0)) := by
  rw [place, if_neg (by omega), zints, List.getElem?_map]
  have : k.toNat < l.length := by omega
  rw [List.getElem?_eq_getElem this, List.getD_eq_getElem?_getD, List.getElem?_eq_getElem this]
  rfl
theorem getD_get {l : List Int} {k : Nat} (h : k < l.length) : l[k]? = some (l.getD k 0) := by
  rw [List.getD_eq_getElem?_getD, List.getElem?_eq_getElem h]; rfl
theorem b_len_z {l : List Int} {Q : V → St → Prop} (hsz : l.length < 2 ^ 63) (h : Q (.int l.length) S) : OpN g c Rep (fun vs => call (.builtin "len") vs) [.list (zints l)] S Q :=
  b_len_list (by rw [zints_length]; exact hsz) (by rw [zints_length]; exact h)
theorem b_len_zr {a : Addr} {l : List Int} {Q : V → St → Prop} (ha : S.σ a = some (zints l)) (hsz : l.length < 2 ^ 63) (h : Q (.int l.length) S) : OpN g c Rep (fun vs => call (.builtin "len") vs) [.ref a] S Q :=
  b_len_ref ha (by rw [zints_length]; exact hsz) (by rw [zints_length]; exact h)
theorem s_z {value slice : Expr} {l : List Int} {k : Int} {Q : V → St → Prop} (h0 : 0 ≤ k) (h1 : k < l.length) (hsz : l.length < 2 ^ 63) (h : Q (.int (l.getD k.toNat 0)) S)
    (hs : NoSlice slice := by intro _ _; rfl) : Op2 g c Rep (subscriptTail value slice) (.list (zints l)) (.int k) S Q :=
  s_list (zints_at h0 h1) (by rw [zints_length]; omega) (by rw [zints_length]; exact hsz) h hs
theorem s_zr {value slice : Expr} {a : Addr} {l : List Int} {k : Int} {Q : V → St → Prop} (ha : S.σ a = some (zints l)) (h0 : 0 ≤ k) (h1 : k < l.length) (hsz : l.length < 2 ^ 63) (h : Q (.int (l.getD k.toNat 0)) S)
    (hs : NoSlice slice := by intro _ _; rfl) : Op2 g c Rep (subscriptTail value slice) (.ref a) (.int k) S Q :=
  s_ref ha (zints_at h0 h1) (by rw [zints_length]; omega) (by rw [zints_length]; exact hsz) h hs

theorem s_zN {value slice : Expr} {l : List Int} {k : Nat} {Q : V → St → Prop} (h1 : k < l.length) (hsz : l.length < 2 ^ 63) (h : Q (.int (l.getD k 0)) S)
    (hs : NoSlice slice := by intro _ _; rfl) : Op2 g c Rep (subscriptTail value slice) (.list (zints l)) (.int (k : Int)) S Q :=
  s_z (by omega) (by omega) hsz h hs
theorem s_zrN {value slice : Expr} {a : Addr} {l : List Int} {k : Nat} {Q : V → St → Prop} (ha : S.σ a = some (zints l)) (h1 : k < l.length) (hsz : l.length < 2 ^ 63) (h : Q (.int (l.getD k 0)) S)
    (hs : NoSlice slice := by intro _ _; rfl) : Op2 g c Rep (subscriptTail value slice) (.ref a) (.int (k : Int)) S Q :=
  s_zr ha (by omega) (by omega) hsz h hs
theorem o_shl1 {w : Nat} {Q : V → St → Prop} (hw : w ≤ 1000000) (h : Q (.int (2 ^ w)) S) : Op2 g c Rep (binaryOp .LShift) (.int 1) (.int (w : Int)) S Q :=
  o_lshift (by omega) (by omega) (by decide) (by simpa using h)
theorem o_shl {x : Int} {k : Nat} {Q : V → St → Prop} (hk : k ≤ 1000000) (hx : x.natAbs < 2 ^ 64) (h : Q (.int (x * 2 ^ k)) S) : Op2 g c Rep (binaryOp .LShift) (.int x) (.int (k : Int)) S Q :=
  o_lshift (by omega) (by omega) hx (by simpa using h)
theorem pow2_nonneg (k : Nat) : (0 : Int) ≤ 2 ^ k := Int.le_of_lt (Int.pow_pos (by decide))
theorem o_shr {x : Int} {k : Nat} {Q : V → St → Prop} (h : Q (.int (x / 2 ^ k)) S) : Op2 g c Rep (binaryOp .RShift) (.int x) (.int (k : Int)) S Q :=
  o_rshift (by omega) (by rw [Int.fdiv_eq_ediv_of_nonneg _ (by simpa using pow2_nonneg k)]; simpa using h)
theorem i_shr {x : Int} {k : Nat} {Q : V → St → Prop} (h : Q (.int (x / 2 ^ k)) S) : Op2 g c Rep (inplaceOp .RShift) (.int x) (.int (k : Int)) S Q :=
  i_rshift (by omega) (by rw [Int.fdiv_eq_ediv_of_nonneg _ (by simpa using pow2_nonneg k)]; simpa using h)
theorem o_mask {x : Int} {k : Nat} {Q : V → St → Prop} (h : Q (.int (x % 2 ^ k)) S) : Op2 g c Rep (binaryOp .BitAnd) (.int x) (.int (2 ^ k - 1)) S Q :=
  o_and (by rw [kbt_mask]; exact h)
theorem intBits_le {x : Int} {k : Nat} (h : x.natAbs < 2 ^ k) : Builtin.Int.intBits x ≤ k := by
  unfold Builtin.Int.intBits
  by_cases hx : x = 0
  · subst hx; simp
  · have hb : (x == 0) = false := by simpa using hx
    rw [hb]
    simp only [Bool.false_eq_true, if_false]
    have := (Nat.log2_lt (by omega : x.natAbs ≠ 0)).mpr h
    omega
theorem o_mulS {x y : Int} {Q : V → St → Prop} (hx : x.natAbs < 2 ^ 64) (h : Q (.int (x * y)) S) : Op2 g c Rep (binaryOp .Mult) (.int x) (.int y) S Q :=
  o_mul h (IntMulOk.of_left (intBits_le hx))
theorem o_mulR {x y : Int} {Q : V → St → Prop} (hy : y.natAbs < 2 ^ 64) (h : Q (.int (x * y)) S) : Op2 g c Rep (binaryOp .Mult) (.int x) (.int y) S Q :=
  o_mul h (IntMulOk.of_right (intBits_le hy))
theorem o_div {x y : Int} {Q : V → St → Prop} (h0 : 0 < y) (h1 : y < 1073741824) (h : Q (.int (x / y)) S) : Op2 g c Rep (binaryOp .FloorDiv) (.int x) (.int y) S Q :=
  o_floordiv (by omega) (by omega) (by rw [Int.fdiv_eq_ediv_of_nonneg _ (by omega)]; exact h)
theorem o_md {x y : Int} {Q : V → St → Prop} (h0 : 0 < y) (h : Q (.int (x % y)) S) : Op2 g c Rep (binaryOp .Mod) (.int x) (.int y) S Q :=
  o_mod (by omega) (by rw [Int.fmod_eq_emod_of_nonneg _ (by omega)]; exact h)
theorem i_md {x y : Int} {Q : V → St → Prop} (h0 : 0 < y) (h : Q (.int (x % y)) S) : Op2 g c Rep (inplaceOp .Mod) (.int x) (.int y) S Q :=
  i_mod (by omega) (by rw [Int.fmod_eq_emod_of_nonneg _ (by omega)]; exact h)
theorem o_pow2 {w : Nat} {Q : V → St → Prop} (hw : w ≤ 1000000) (h : Q (.int (2 ^ w)) S) : Op2 g c Rep (binaryOp .Pow) (.int 2) (.int (w : Int)) S Q :=
  o_pow (by omega) (by have : Builtin.Int.intBits 2 = 2 := by decide +kernel
                       rw [this]; omega) (by simpa using h)
theorem wE_sliceZ {x : Str} {px pp pos : Pos} {lo hi : Option Expr} {l : List Int} {Q : V → St → Prop} (hx : S.m x = some (.list (zints l))) (hsz : l.length ≤ 2 ^ 24)
    (h : WP g c lo S (fun vl S₂ => WP g c hi S₂ (fun vh S₃ => S₃ = S ∧ Q (.list (pick (zints l) vl vh)) S)))
    (hl : c.scope.names.lookup x = some .local := by rfl) (hd : (x == ("__debug__" : Str)) = false := by decide) :
    WE g c (.Subscript (.Name x px) (.Slice lo hi none pp) pos) S Q := wE_slice (.inl hx) (by rw [zints_length]; exact hsz) h hl hd
theorem wE_boolop_or {e₁ e₂ : Expr} {rest : List Expr} {pos : Pos} {Q : V → St → Prop}
    (h : WE g c e₁ S (fun x S' => ∃ b, truthV x = some b ∧ if b = true then Q x S' else WE g c (.BoolOp .Or (e₂ :: rest) pos) S' Q)) : WE g c (.BoolOp .Or (e₁ :: e₂ :: rest) pos) S Q :=
  fun A L a cd Z W s Q' lv r po => BoolOp_or (h A L a cd Z W s _ lv r fun W₁ v x S₁ s₁ e₁ r₁ rr₁ h₁ => by
    obtain ⟨b, hb, hq⟩ := h₁
    refine truthy_V r₁ hb ?_
    cases b with
    | false => exact hq A L a cd Z W₁ s₁ Q' lv rr₁ (po.ext e₁)
    | true => exact po _ _ _ _ _ e₁ r₁ rr₁ hq)
theorem o_divN {a b : Nat} {Q : V → St → Prop} (h0 : 0 < b) (h1 : b < 1073741824) (h : Q (.int ((a / b : Nat) : Int)) S) : Op2 g c Rep (binaryOp .FloorDiv) (.int (a : Int)) (.int (b : Int)) S Q :=
  o_div (by omega) (by omega) (by rw [← Int.natCast_ediv]; exact h)
theorem o_mdN {a b : Nat} {Q : V → St → Prop} (h0 : 0 < b) (h : Q (.int ((a % b : Nat) : Int)) S) : Op2 g c Rep (binaryOp .Mod) (.int (a : Int)) (.int (b : Int)) S Q :=
  o_md (by omega) (by rw [← Int.natCast_emod]; exact h)
theorem o_subN {a b : Nat} {Q : V → St → Prop} (h0 : b ≤ a) (h : Q (.int ((a - b : Nat) : Int)) S) : Op2 g c Rep (binaryOp .Sub) (.int (a : Int)) (.int (b : Int)) S Q :=
  o_sub (by rw [← Int.natCast_sub h0]; exact h)
theorem o_orL {x y : Int} {k : Nat} {Q : V → St → Prop} (h0 : 0 ≤ x) (h1 : x < 2 ^ k) (hy : 0 ≤ y) (h : Q (.int (y * 2 ^ k + x)) S) : Op2 g c Rep (binaryOp .BitOr) (.int (y * 2 ^ k)) (.int x) S Q :=
  o_or (by rw [or_add' k h0 h1 hy]; exact h)
theorem o_orR {x y : Int} {k : Nat} {Q : V → St → Prop} (h0 : 0 ≤ x) (h1 : x < 2 ^ k) (hy : 0 ≤ y) (h : Q (.int (x + y * 2 ^ k)) S) : Op2 g c Rep (binaryOp .BitOr) (.int x) (.int (y * 2 ^ k)) S Q :=
  o_or (by rw [or_add k h0 h1 hy]; exact h)
theorem i_orR {x y : Int} {k : Nat} {Q : V → St → Prop} (h0 : 0 ≤ x) (h1 : x < 2 ^ k) (hy : 0 ≤ y) (h : Q (.int (x + y * 2 ^ k)) S) : Op2 g c Rep (inplaceOp .BitOr) (.int x) (.int (y * 2 ^ k)) S Q :=
  i_or (by rw [or_add k h0 h1 hy]; exact h)
theorem o_repMZ {x k : Int} {Q : V → St → Prop} (h0 : 0 ≤ k) (hsz : k ≤ 2 ^ 24) (h : ∀ a, S.σ a = none → Q (.ref a) { S with σ := upd S.σ a (zints (List.replicate k.toNat x)) }) : Op2 g c Rep (binaryOp .Mult) (.list [.int x]) (.int k) S Q :=
  o_repM (by omega) (by omega) fun a ha => by rw [zints_replicate]; exact h a ha
theorem o_repMN {x : Int} {k : Nat} {Q : V → St → Prop} (hsz : k ≤ 2 ^ 24) (h : ∀ a, S.σ a = none → Q (.ref a) { S with σ := upd S.σ a (zints (List.replicate k x)) }) : Op2 g c Rep (binaryOp .Mult) (.list [.int x]) (.int (k : Int)) S Q :=
  o_repMZ (by omega) (by omega) (by simpa using h)
theorem o_repFN {x : Int} {k : Nat} {Q : V → St → Prop} (hsz : k ≤ 2 ^ 24) (h : Q (.list (zints (List.replicate k x))) S) : Op2 g c Rep (binaryOp .Mult) (.list [.int x]) (.int (k : Int)) S Q :=
  o_repF (by omega) (by omega) (by rw [zints_replicate]; simpa using h)
theorem exRng1 {b : Int} {P R : Int → Int → Prop} (hb : Fit b) (h : P 0 b) : ∃ x y d, RArgs [.int b] x y d ∧ Fit x ∧ Fit y ∧ (d = 1 → P x y) ∧ (d = -1 → R x y) :=
  ⟨0, b, 1, .one b, by unfold Fit; omega, hb, fun _ => h, fun q => by cases q⟩
theorem exRng2 {a b : Int} {P R : Int → Int → Prop} (ha : Fit a) (hb : Fit b) (h : P a b) : ∃ x y d, RArgs [.int a, .int b] x y d ∧ Fit x ∧ Fit y ∧ (d = 1 → P x y) ∧ (d = -1 → R x y) :=
  ⟨a, b, 1, .two a b, ha, hb, fun _ => h, fun q => by cases q⟩
theorem exRngD {a b e : Int} {P R : Int → Int → Prop} (he : e = -1) (ha : Fit a) (hb : Fit b) (h : R a b) : ∃ x y d, RArgs [.int a, .int b, .int e] x y d ∧ Fit x ∧ Fit y ∧ (d = 1 → P x y) ∧ (d = -1 → R x y) := by
  subst he
  exact ⟨a, b, -1, .down a b, ha, hb, fun q => (by cases q), fun _ => h⟩
theorem wX_retRef {x : Str} {px pos : Pos} {a : Addr} {l : List V} {Q : F → St → Prop} (hx : S.m x = some (.ref a)) (ha : S.σ a = some l) (h : Q (.ret (.list l)) (S.freeze x a l))
    (hl : c.scope.names.lookup x = some .local := by rfl) (hd : (x == ("__debug__" : Str)) = false := by decide) : WX g c (.Return (some (.Name x px)) pos) S Q :=
  w_freeze x hx ha (wX_return (wE_local look_froze h hl hd))
theorem upd_nil {σ : Addr → Option (List V)} {a : Addr} : upd σ a [] a = some (zints []) := if_pos rfl
theorem exApp {a : Addr} {l : List V} {P : Addr → Prop} (h1 : S.σ a = some l) (h : P a) : ∃ x l, V.ref a = .ref x ∧ S.σ x = some l ∧ P x := ⟨a, l, rfl, h1, h⟩
theorem exAppZ {a : Addr} {l : List Int} {P : List V → Prop} (h1 : S.σ a = some (zints l)) (hsz : l.length ≤ 2 ^ 24) (h : P (zints l)) : ∃ k, S.σ a = some k ∧ k.length ≤ 2 ^ 24 ∧ P k := ⟨_, h1, by rw [zints_length]; exact hsz, h⟩
theorem exAppV {a : Addr} {l : List V} {P : List V → Prop} (h1 : S.σ a = some l) (hsz : l.length ≤ 2 ^ 24) (h : P l) : ∃ k, S.σ a = some k ∧ k.length ≤ 2 ^ 24 ∧ P k := ⟨_, h1, hsz, h⟩
theorem upd_app {σ : Addr → Option (List V)} {a : Addr} {l : List Int} {i j : Int} (h : i = j) : upd σ a (zints l ++ [V.int i]) a = some (zints (l ++ [j])) := by
  subst h
  rw [zints_append]; exact if_pos rfl
theorem exSetZ {a : Addr} {l : List Int} {j : Int} {P : Addr → List V → Int → Prop} (h1 : S.σ a = some (zints l)) (h0 : 0 ≤ j) (hj : j < l.length) (hsz : l.length < 2 ^ 63) (h : P a (zints l) j) :
    ∃ x k i, V.ref a = .ref x ∧ V.int j = .int i ∧ S.σ x = some k ∧ 0 ≤ i ∧ i < k.length ∧ k.length < 2 ^ 63 ∧ P x k i :=
  ⟨a, _, j, rfl, rfl, h1, h0, by rw [zints_length]; exact hj, by rw [zints_length]; exact hsz, h⟩
theorem upd_set {σ : Addr → Option (List V)} {a : Addr} {l : List Int} {n m : Nat} {i j : Int} (hn : n = m) (h : i = j) : upd σ a ((zints l).set n (V.int i)) a = some (zints (l.set m j)) := by
  subst h hn
  rw [zints_set]; exact if_pos rfl
theorem wE_listNew {pos : Pos} {Q : V → St → Prop} (h : ∀ a, S.σ a = none → Q (.ref a) { S with σ := upd S.σ a [] }) : WE g c (.List [] pos) S Q :=
  wE_listM (wA_nil ⟨by simp, h⟩)
theorem wE_listEmp {pos : Pos} {Q : V → St → Prop} (h : Q (.list (zints [])) S) : WE g c (.List [] pos) S Q :=
  wE_listF (wA_nil ⟨by simp, h⟩)
theorem wE_listOf {e : Expr} {es : List Expr} {pos : Pos} {Q : V → St → Prop} (h : WA g c pos (e :: es) S (fun xs S' => xs.length ≤ 2 ^ 24 ∧ Q (.list xs) S')) : WE g c (.List (e :: es) pos) S Q := wE_listF h
/-- one statement, then the others: what holds between -/
theorem wS_seq {st : Stmt} {rest : List Stmt} {Q : F → St → Prop} (J : St → Prop) (h : WX g c st S (fun f S' => f = .next ∧ J S')) (k : ∀ S', J S' → WS g c rest S' Q) : WS g c (st :: rest) S Q :=
  wS_cons (h.mono fun f S' hh => by
    obtain ⟨rfl, hj⟩ := hh
    exact k S' hj)
theorem andNext {Q : Prop} (h : Q) : F.next = .next ∧ Q := ⟨rfl, h⟩
end
theorem upTo_cons {a : Int} {k : Nat} {v : V} {vs : List V} (h : v :: vs = upTo a k) : ∃ q, k = q + 1 ∧ v = .int a ∧ vs = upTo (a + 1) q := by
  cases k with
  | zero => cases h
  | succ q => rw [upTo_succ] at h; exact ⟨q, rfl, (List.cons.inj h).1, (List.cons.inj h).2⟩
theorem upTo_nil {a : Int} {k : Nat} (h : [] = upTo a k) : k = 0 := by
  cases k with
  | zero => rfl
  | succ q => rw [upTo_succ] at h; cases h
theorem downFrom_cons {a : Int} {k : Nat} {v : V} {vs : List V} (h : v :: vs = downFrom a k) : ∃ q, k = q + 1 ∧ v = .int a ∧ vs = downFrom (a - 1) q := by
  cases k with
  | zero => cases h
  | succ q => rw [downFrom_succ] at h; exact ⟨q, rfl, (List.cons.inj h).1, (List.cons.inj h).2⟩
theorem downFrom_nil {a : Int} {k : Nat} (h : [] = downFrom a k) : k = 0 := by
  cases k with
  | zero => rfl
  | succ q => rw [downFrom_succ] at h; cases h
theorem carry_step {B c : Int} {i : Nat} {f : List Int} (hf : f.length = i) : val B (f ++ [c % B]) + B ^ (i + 1) * (c / B) = val B f + B ^ i * c := by
  rw [val_snoc, hf, Int.pow_succ, Int.mul_assoc, Int.add_assoc, ← Int.mul_add, Int.emod_add_mul_ediv]
end Mine

open_top hd for PySem.Challenge.rw_sj0082_01
namespace Mine
noncomputable abbrev PP : Program := hd.view_39
noncomputable def dNull : DefRec := ⟨Str.ofString "", ⟨[],[],none,[],[],none,[]⟩, [], ⟨.function, [], false, false, []⟩, ⟨0,0,0,0⟩⟩
noncomputable def dOf (i : Nat) : DefRec := ((recsOf PP)[i]?).getD dNull
theorem dOf_len : (recsOf PP).length = 37 := rfl
theorem dOf_mem (i : Nat) (h : i < 37) : dOf i ∈ recsOf PP := by
  have hl := dOf_len
  unfold dOf
  rw [List.getElem?_eq_getElem (by omega)]
  exact List.getElem_mem _
noncomputable def isDef (x : Str) : Bool := (recsOf PP).any fun d => d.name == x
section
variable {g : G PP} {c : Cx} {S : St}
theorem fa_def {x : Str} (h : isDef x = true) : g.mg x = some (.ref (g.fa x)) ∧ IsFn g (g.fa x) := by
  obtain ⟨d, hd, e⟩ := List.any_eq_true.mp h
  have := g.fa_of hd
  rw [beq_iff_eq.mp e] at this
  exact this
theorem wE_def {f : Str} {np pos : Pos} {args : List Expr} {Q : V → St → Prop} (h : WA g c pos args S (fun xs S₂ => OpN g c Rep (fun vs => call (.ref (g.fa f)) vs) xs S₂ Q))
    (hd : isDef f = true := by decide +kernel) (hl : c.scope.names.lookup f = some .globalImplicit := by rfl) (hdb : (f == ("__debug__" : Str)) = false := by decide +kernel)
    (hc : PlainCall (.Name f np) args pos := by intro _; rfl) (hs : SomeArgs args pos := by intro _; exact ⟨_, _, rfl, rfl⟩) : WE g c (.Call (.Name f np) args [] pos) S Q :=
  wE_callD (fa_def hd).2 (wE_global (fa_def hd).1 ⟨rfl, h⟩ hl hdb) hc hs
theorem wE_fn {f : Str} {pos : Pos} {Q : V → St → Prop} (h : Q (.lit (.ref (g.fa f))) S)
    (hd : isDef f = true := by decide +kernel) (hl : c.scope.names.lookup f = some .globalImplicit := by rfl) (hdb : (f == ("__debug__" : Str)) = false := by decide +kernel) : WE g c (.Name f pos) S Q :=
  wE_global (fa_def hd).1 h hl hdb
theorem wE_len {np pos : Pos} {e : Expr} {Q : V → St → Prop} (h : WE g c e S (fun x S₁ => OpN g c Rep (fun vs => call (.builtin "len") vs) [x] S₁ Q))
    (hl : c.scope.names.lookup ("len" : Str) = some .globalImplicit := by rfl) (hc : PlainCall (.Name "len" np) [e] pos := by intro _; rfl) (hs : SomeArgs [e] pos := by intro _; exact ⟨_, _, rfl, rfl⟩)
    (hs' : ∀ env, backTo pos (starEach (e :: []) env) = (false, eval e env) :: backTo pos (starEach [] env) := by intro _; rfl) : WE g c (.Call (.Name "len" np) [e] [] pos) S Q :=
  wE_callB (wE_builtin (g.bi _ (by decide +kernel)) boot_len ⟨rfl, wA_cons (h.mono fun x S₁ q => wA_nil q) hs'⟩ hl) hc hs
theorem wE_abs {np pos : Pos} {e : Expr} {Q : V → St → Prop} (h : WE g c e S (fun x S₁ => OpN g c Rep (fun vs => call (.builtin "abs") vs) [x] S₁ Q))
    (hl : c.scope.names.lookup ("abs" : Str) = some .globalImplicit := by rfl) (hc : PlainCall (.Name "abs" np) [e] pos := by intro _; rfl) (hs : SomeArgs [e] pos := by intro _; exact ⟨_, _, rfl, rfl⟩)
    (hs' : ∀ env, backTo pos (starEach (e :: []) env) = (false, eval e env) :: backTo pos (starEach [] env) := by intro _; rfl) : WE g c (.Call (.Name "abs" np) [e] [] pos) S Q :=
  wE_callB (wE_builtin (g.bi _ (by decide +kernel)) boot_abs ⟨rfl, wA_cons (h.mono fun x S₁ q => wA_nil q) hs'⟩ hl) hc hs
theorem wE_min {np pos : Pos} {es : List Expr} {Q : V → St → Prop} (h : WA g c pos es S (fun xs S₁ => OpN g c Rep (fun vs => call (.builtin "min") vs) xs S₁ Q))
    (hl : c.scope.names.lookup ("min" : Str) = some .globalImplicit := by rfl) (hc : PlainCall (.Name "min" np) es pos := by intro _; rfl) (hs : SomeArgs es pos := by intro _; exact ⟨_, _, rfl, rfl⟩) : WE g c (.Call (.Name "min" np) es [] pos) S Q :=
  wE_callB (wE_builtin (g.bi _ (by decide +kernel)) boot_min ⟨rfl, h⟩ hl) hc hs
theorem wI_rng {np pos : Pos} {args : List Expr} {Q : List V → St → Prop}
    (h : WA g c pos args S (fun xs S₁ => ∃ a b d, RArgs xs a b d ∧ Fit a ∧ Fit b ∧ (d = 1 → Q (upTo a (b - a).toNat) S₁) ∧ (d = -1 → Q (downFrom a (a - b).toNat) S₁)))
    (hl : c.scope.names.lookup ("range" : Str) = some .globalImplicit := by rfl)
    (hc : PlainCall (.Name "range" np) args pos := by intro _; rfl) (hs : SomeArgs args pos := by intro _; exact ⟨_, _, rfl, rfl⟩) : WI g c (.Call (.Name "range" np) args [] pos) S Q :=
  wI_range (g.bi _ (by decide +kernel)) h hl hc hs

theorem gcall {d : DefRec} (hd : d ∈ recsOf PP) {f : Str} {n : Nat} {xs : List V} {σ : Addr → Option (List V)} {P : V → (Addr → Option (List V)) → Prop} {body : List Stmt} {names : List Str} {scope : Scope} {params : Arguments}
    (hname : d.name = f) (hbody : d.body = body) (hscope : d.scope = scope) (hparams : d.params = params) (hk : scope.kind = .function)
    (hbind : ∀ pm code doc vs, vs.length = xs.length → bindArgs (docDef f params body scope pm code doc) ⟨vs, []⟩ = pure (names.zip vs))
    (hloc : ∀ x ∈ names, scope.names.lookup x = some .local)
    (h : WS g ⟨n, f, scope, hk, fun _ _ => True⟩ body ⟨fun y => (names.zip xs).reverse.lookup y, σ⟩ (fun fl S' => ∃ x, fl = .ret x ∧ P x S'.σ))
    (hco : scope.isCoroutine = false) (hgen : scope.isGenerator = false) (hcell : ∀ x ∈ scope.names, x.2 ≠ .cell) :
    GCall g (g.fa f) (n + 1) xs σ P := by
  subst hname hbody hscope hparams
  exact gcall_of hd (g.fa_of hd).1 names hbind hloc hk h hco hgen hcell
end
end Mine

namespace Mine
local macro_rules | `(tactic| tb_start) => `(tactic| first
  | with_reducible exact look_same
  | with_reducible exact look_froze
  | ((with_reducible refine' look_i ?nn); (case nn => omega))
  | ((with_reducible refine' look_ne ?nn ?tt); (case nn => decide +kernel); (case tt => tb_start))
  | ((with_reducible refine' look_froze_ne ?nn ?tt); (case nn => decide +kernel); (case tt => tb_start))
  | ((with_reducible refine' sig_set ?tt); (case tt => tb_start))
  | ((with_reducible refine' sig_freeze ?nn ?tt); (case nn => assumption); (case tt => tb_start))
  | ((with_reducible refine' upd_app ?nn); (case nn => first | rfl | omega))
  | ((with_reducible refine' upd_set ?n1 ?n2); (case n1 => first | rfl | omega); (case n2 => first | rfl | omega))
  | with_reducible exact upd_nil
  | with_reducible exact upd_same
  | ((with_reducible refine' upd_ne ?nn ?tt); (case nn => assumption); (case tt => tb_start))
  | assumption
  | exact rfl
  | fail "no look")
local macro_rules | `(tactic| tb_rel) => `(tactic| first
  | with_reducible refine' iteF ?_
  | with_reducible refine' iteT ?_
  | with_reducible refine' wS_nil ?_
  | with_reducible refine' wS_cons ?_
  | ((with_reducible refine' wX_retRef ?h1 ?h2 ?h ?hl ?hd); (case hl => exact rfl); (case hd => decide +kernel); (case h1 => tb_start); (case h2 => tb_start))
  | with_reducible refine' wX_return ?_
  | ((with_reducible refine' wX_assign ?h ?hl ?hs); (case hl => exact rfl); (case hs => (intros; exact rfl)))
  | ((with_reducible refine' wX_aug ?hv ?h ?hl); (case hl => exact rfl); (case hv => tb_start))
  | with_reducible refine' wX_if ?_
  | ((with_reducible refine' wX_append ?h ?h1 ?h2 ?h3 ?h4 ?h5); (case h1 => (intros; exact rfl)); (case h2 => exact rfl); (case h3 => (intros; exact rfl)); (case h4 => (intros; exact rfl)); (case h5 => (intros; exact rfl)))
  | ((with_reducible refine' wX_setitem ?h ?h1); (case h1 => (intros; exact rfl)))
  | ((with_reducible refine' wX_swap2 ?h ?h1 ?h2 ?h3 ?h4); (case h4 => (intros; exact rfl)); (case h1 => exact rfl); (case h2 => exact rfl); (case h3 => (intros; exact rfl)))
  | ((with_reducible refine' wX_swap3 ?h ?h1 ?h2 ?h5 ?h3 ?h4); (case h4 => (intros; exact rfl)); (case h1 => exact rfl); (case h2 => exact rfl); (case h5 => exact rfl); (case h3 => (intros; exact rfl)))
  | ((with_reducible refine' wX_unpack2 ?h ?h1 ?h2 ?h3 ?h4); (case h4 => (intros; exact rfl)); (case h1 => exact rfl); (case h2 => exact rfl); (case h3 => (intros; exact rfl)))
  | ((with_reducible refine' wX_unpack3 ?h ?h1 ?h2 ?h5 ?h3 ?h4); (case h4 => (intros; exact rfl)); (case h1 => exact rfl); (case h2 => exact rfl); (case h5 => exact rfl); (case h3 => (intros; exact rfl)))
  | ((with_reducible refine' wX_for ?h ?h1 ?h2); (case h1 => exact rfl); (case h2 => (intros; exact rfl)))
  | ((with_reducible refine' wI_rng ?h ?h1 ?h2 ?h3); (case h1 => exact rfl); (case h2 => (intro _; exact rfl)); (case h3 => (intro _; exact ⟨_, _, rfl, rfl⟩)))
  | with_reducible refine' wI_list ?_
  | with_reducible refine' wE_int ?_
  | with_reducible refine' wE_bool ?_
  | with_reducible refine' wE_none ?_
  | ((with_reducible refine' wE_local ?hv ?h ?hl ?hd); (case hl => exact rfl); (case hd => decide +kernel); (case hv => tb_start))
  | ((with_reducible refine' wE_fn ?h ?h1 ?h2 ?h3); (case h2 => exact rfl); (case h1 => decide +kernel); (case h3 => decide +kernel))
  | with_reducible refine' wE_binop ?_
  | ((with_reducible refine' wE_cmp ?h ?hm); (case hm => with_unfolding_all exact rfl))
  | with_reducible refine' wE_ifexp ?_
  | with_reducible refine' wE_unop ?_
  | with_reducible refine' wE_boolop_and ?_
  | with_reducible refine' wE_boolop_or ?_
  | with_reducible refine' wE_boolop_one ?_
  | with_reducible refine' wE_tuple ?_
  | ((with_reducible refine' wE_len ?h ?h1 ?h2 ?h3 ?h4); (case h1 => exact rfl); (case h2 => (intro _; exact rfl)); (case h3 => (intro _; exact ⟨_, _, rfl, rfl⟩)); (case h4 => (intro _; exact rfl)))
  | ((with_reducible refine' wE_abs ?h ?h1 ?h2 ?h3 ?h4); (case h1 => exact rfl); (case h2 => (intro _; exact rfl)); (case h3 => (intro _; exact ⟨_, _, rfl, rfl⟩)); (case h4 => (intro _; exact rfl)))
  | ((with_reducible refine' wE_min ?h ?h1 ?h2 ?h3); (case h1 => exact rfl); (case h2 => (intro _; exact rfl)); (case h3 => (intro _; exact ⟨_, _, rfl, rfl⟩)))
  | ((with_reducible refine' wE_def ?h ?h1 ?h2 ?h3 ?h4 ?h5); (case h1 => decide +kernel); (case h2 => exact rfl); (case h3 => decide +kernel); (case h4 => (intro _; exact rfl)); (case h5 => (intro _; exact ⟨_, _, rfl, rfl⟩)))
  | ((with_reducible refine' wE_bitlen ?h ?h1 ?h2); (case h1 => (intro _; exact rfl)); (case h2 => exact rfl))
  | ((with_reducible refine' wT_cmp ?h ?hm); (case hm => with_unfolding_all exact rfl))
  | ((with_reducible refine' wT_chain ?h ?hm); (case hm => with_unfolding_all exact rfl))
  | with_reducible refine' wT_not ?_
  | with_reducible refine' wT_and_nil ?_
  | with_reducible refine' wT_and ?_
  | with_reducible refine' wT_or_nil ?_
  | with_reducible refine' wT_or ?_
  | ((with_reducible refine' wT_plain ?h ?he); (case he => (intros; exact rfl)))
  | with_reducible refine' wA_nil ?_
  | ((with_reducible refine' wA_cons ?h ?hs); (case hs => (intro _; exact rfl)))
  | with_reducible refine' wP_none ?_
  | with_reducible refine' wP_some ?_
  | ((with_reducible refine' wE_sliceZ ?hx ?hsz ?h ?hl ?hd); (case hl => exact rfl); (case hd => decide +kernel); (case hx => tb_start); (case hsz => omega))
  | with_reducible refine' wE_sub ?_
  | ((with_reducible refine' b_len_z ?h1 ?h); (case h1 => omega))
  | ((with_reducible refine' b_len_zr ?h0 ?h1 ?h); (case h0 => tb_start); (case h1 => omega))
  | ((with_reducible refine' s_zN ?h1 ?h2 ?h ?hs); (case hs => (intro _ _; exact rfl)); (case h1 => omega); (case h2 => omega))
  | ((with_reducible refine' s_zrN ?ha ?h1 ?h2 ?h ?hs); (case hs => (intro _ _; exact rfl)); (case ha => tb_start); (case h1 => omega); (case h2 => omega))
  | ((with_reducible refine' s_z ?h0 ?h1 ?h2 ?h ?hs); (case hs => (intro _ _; exact rfl)); (case h0 => omega); (case h1 => omega); (case h2 => omega))
  | ((with_reducible refine' s_zr ?ha ?h0 ?h1 ?h2 ?h ?hs); (case hs => (intro _ _; exact rfl)); (case ha => tb_start); (case h0 => omega); (case h1 => omega); (case h2 => omega))
  | ((with_reducible refine' o_shl1 ?h1 ?h); (case h1 => omega))
  | with_reducible refine' o_shr ?_
  | with_reducible refine' i_shr ?_
  | with_reducible refine' o_mask ?_
  | ((with_reducible refine' o_pow2 ?h1 ?h); (case h1 => omega))
  | ((with_reducible refine' o_divN ?h1 ?h2 ?h); (case h1 => omega); (case h2 => omega))
  | ((with_reducible refine' o_mdN ?h1 ?h); (case h1 => omega))
  | ((with_reducible refine' o_div ?h1 ?h2 ?h); (case h1 => omega); (case h2 => omega))
  | ((with_reducible refine' o_md ?h1 ?h); (case h1 => omega))
  | ((with_reducible refine' i_md ?h1 ?h); (case h1 => omega))
  | ((with_reducible refine' o_shl ?h1 ?h2 ?h); (case h1 => omega); (case h2 => omega))
  | ((with_reducible refine' o_orL ?h1 ?h2 ?h3 ?h); (case h1 => omega); (case h2 => omega); (case h3 => omega))
  | ((with_reducible refine' o_orR ?h1 ?h2 ?h3 ?h); (case h1 => omega); (case h2 => omega); (case h3 => omega))
  | ((with_reducible refine' i_orR ?h1 ?h2 ?h3 ?h); (case h1 => omega); (case h2 => omega); (case h3 => omega))
  | with_reducible refine' o_add ?_
  | with_reducible refine' o_sub ?_
  | with_reducible refine' i_add ?_
  | with_reducible refine' i_sub ?_
  | with_reducible refine' o_neg ?_
  | with_reducible refine' c_eq ?_
  | with_reducible refine' c_ne ?_
  | with_reducible refine' c_lt ?_
  | with_reducible refine' c_le ?_
  | with_reducible refine' c_gt ?_
  | with_reducible refine' c_ge ?_
  | with_reducible refine' c_eqb ?_
  | with_reducible refine' exTB ?_
  | with_reducible refine' exTI ?_
  | with_reducible refine' exI ?_
  | with_reducible refine' exL ?_
  | with_reducible refine' exT2 ?_
  | with_reducible refine' exT3 ?_
  | with_reducible refine' exR ?_
  | with_reducible refine' andLit ?_
  | with_reducible refine' andSt ?_
  | ((with_reducible refine' andLen ?h1 ?h); (case h1 => (simp; done)))
  | ((with_reducible refine' exRng1 ?h1 ?h); (case h1 => (unfold Fit; omega)))
  | ((with_reducible refine' exRng2 ?h1 ?h2 ?h); (case h1 => (unfold Fit; omega)); (case h2 => (unfold Fit; omega)))
  | ((with_reducible refine' exRngD ?he ?h1 ?h2 ?h); (case he => omega); (case h1 => (unfold Fit; omega)); (case h2 => (unfold Fit; omega)))
  | ((with_reducible refine' exApp ?h1 ?h); (case h1 => tb_start))
  | ((with_reducible refine' exAppZ ?h1 ?h2 ?h); (case h1 => tb_start); (case h2 => omega))
  | ((with_reducible refine' exSetZ ?h1 ?h2 ?h3 ?h4 ?h); (case h1 => tb_start); (case h2 => omega); (case h3 => ((try simp only [List.length_set, List.length_replicate, List.length_append, List.length_cons, List.length_nil]); omega)); (case h4 => ((try simp only [List.length_set, List.length_replicate, List.length_append, List.length_cons, List.length_nil]); omega)))
  | with_reducible refine' wE_listOf ?_
  | with_reducible refine' andNext ?_
  | fail "no step")

section
variable {g : G PP}
theorem t_normal (l : List Int) (hl : l.length ≤ 2 ^ 20) : GCall g (g.fa "normal") 1 [.list (zints l)] (fun _ => none) (fun x _ => x = .list (zints (normL l))) := by
  refine' gcall (d := dOf 0) (dOf_mem 0 (by decide)) (hbody := ?enB) (hscope := ?enS) (hparams := ?enP) (hname := rfl) (names := ["a"]) (hk := ?enK) (hbind := ?enI) (hloc := ?enL) (h := ?enH) (hco := ?enC) (hgen := ?enG) (hcell := ?enE)
  case enB => (conv => lhs; whnf)
  case enS => (conv => lhs; whnf)
  case enP => (conv => lhs; whnf)
  case enK => rfl
  case enI => (intro pm code doc vs h; match vs, h with | [v0], _ => rfl)
  case enL => decide +kernel
  case enC => rfl
  case enG => rfl
  case enE => decide +kernel
  repeat' tb_rel
  refine wX_while_inv (fun n S => ∃ k : Nat, n = k ∧ k ≤ l.length ∧ S.m "a" = some (.list (zints l)) ∧ S.m "end" = some (.int k) ∧ normL (l.take k) = normL l) l.length ⟨l.length, rfl, Nat.le_refl _, by tb_start, by tb_start, by rw [List.take_length]⟩ ?_
  rintro n S ⟨k, rfl, hk, ha, he, hn⟩
  repeat' tb_rel
  refine iteD (fun h => ?_) (fun h => ?_)
  · repeat' tb_rel
    have h1 : (n : Int).toNat - 1 < l.length := by omega
    have e : l.take n = l.take (n - 1) ++ [l.getD ((n : Int) - 1).toNat 0] := by
      have : (((n : Int) - 1).toNat) = n - 1 := by omega
      rw [this]
      have hg := getD_get (l := l) (k := n - 1) (by omega)
      conv => lhs; rw [show n = (n - 1) + 1 by omega, List.take_add_one, hg]
      rfl
    refine iteEq (fun h2 => ?_) (fun h2 => ?_)
    · repeat' tb_rel
      refine ⟨n - 1, by omega, n - 1, rfl, by omega, by tb_start, by tb_start, ?_⟩
      rw [e, h2, normL_snoc_zero] at hn
      exact hn
    · repeat' tb_rel
      rw [pick_to _ _ (by omega), zints_take]
      rw [← hn, e, normL_snoc h2]
      simp [e]
  · repeat' tb_rel
    have : n = 0 := by omega
    subst this
    rw [pick_to _ _ (by omega)]
    rw [← hn]
    rfl
end
end Mine

namespace Mine
local macro_rules | `(tactic| tb_start) => `(tactic| first
  | with_reducible exact look_same
  | with_reducible exact look_froze
  | ((with_reducible refine' look_i ?nn); (case nn => omega))
  | ((with_reducible refine' look_ne ?nn ?tt); (case nn => decide +kernel); (case tt => tb_start))
  | ((with_reducible refine' look_froze_ne ?nn ?tt); (case nn => decide +kernel); (case tt => tb_start))
  | ((with_reducible refine' sig_set ?tt); (case tt => tb_start))
  | ((with_reducible refine' sig_freeze ?nn ?tt); (case nn => assumption); (case tt => tb_start))
  | ((with_reducible refine' upd_app ?nn); (case nn => first | rfl | omega))
  | ((with_reducible refine' upd_set ?n1 ?n2); (case n1 => first | rfl | omega); (case n2 => first | rfl | omega))
  | with_reducible exact upd_nil
  | with_reducible exact upd_same
  | ((with_reducible refine' upd_ne ?nn ?tt); (case nn => assumption); (case tt => tb_start))
  | assumption
  | exact rfl
  | fail "no look")
local macro_rules | `(tactic| tb_rel) => `(tactic| first
  | with_reducible refine' iteF ?_
  | with_reducible refine' iteT ?_
  | with_reducible refine' wS_nil ?_
  | with_reducible refine' wS_cons ?_
  | ((with_reducible refine' wX_retRef ?h1 ?h2 ?h ?hl ?hd); (case hl => exact rfl); (case hd => decide +kernel); (case h1 => tb_start); (case h2 => tb_start))
  | with_reducible refine' wX_return ?_
  | ((with_reducible refine' wX_assign ?h ?hl ?hs); (case hl => exact rfl); (case hs => (intros; exact rfl)))
  | ((with_reducible refine' wX_aug ?hv ?h ?hl); (case hl => exact rfl); (case hv => tb_start))
  | with_reducible refine' wX_if ?_
  | ((with_reducible refine' wX_append ?h ?h1 ?h2 ?h3 ?h4 ?h5); (case h1 => (intros; exact rfl)); (case h2 => exact rfl); (case h3 => (intros; exact rfl)); (case h4 => (intros; exact rfl)); (case h5 => (intros; exact rfl)))
  | ((with_reducible refine' wX_setitem ?h ?h1); (case h1 => (intros; exact rfl)))
  | ((with_reducible refine' wX_swap2 ?h ?h1 ?h2 ?h3 ?h4); (case h4 => (intros; exact rfl)); (case h1 => exact rfl); (case h2 => exact rfl); (case h3 => (intros; exact rfl)))
  | ((with_reducible refine' wX_swap3 ?h ?h1 ?h2 ?h5 ?h3 ?h4); (case h4 => (intros; exact rfl)); (case h1 => exact rfl); (case h2 => exact rfl); (case h5 => exact rfl); (case h3 => (intros; exact rfl)))
  | ((with_reducible refine' wX_unpack2 ?h ?h1 ?h2 ?h3 ?h4); (case h4 => (intros; exact rfl)); (case h1 => exact rfl); (case h2 => exact rfl); (case h3 => (intros; exact rfl)))
  | ((with_reducible refine' wX_unpack3 ?h ?h1 ?h2 ?h5 ?h3 ?h4); (case h4 => (intros; exact rfl)); (case h1 => exact rfl); (case h2 => exact rfl); (case h5 => exact rfl); (case h3 => (intros; exact rfl)))
  | ((with_reducible refine' wX_for ?h ?h1 ?h2); (case h1 => exact rfl); (case h2 => (intros; exact rfl)))
  | ((with_reducible refine' wI_rng ?h ?h1 ?h2 ?h3); (case h1 => exact rfl); (case h2 => (intro _; exact rfl)); (case h3 => (intro _; exact ⟨_, _, rfl, rfl⟩)))
  | with_reducible refine' wI_list ?_
  | with_reducible refine' wE_int ?_
  | with_reducible refine' wE_bool ?_
  | with_reducible refine' wE_none ?_
  | ((with_reducible refine' wE_local ?hv ?h ?hl ?hd); (case hl => exact rfl); (case hd => decide +kernel); (case hv => tb_start))
  | ((with_reducible refine' wE_fn ?h ?h1 ?h2 ?h3); (case h2 => exact rfl); (case h1 => decide +kernel); (case h3 => decide +kernel))
  | with_reducible refine' wE_binop ?_
  | ((with_reducible refine' wE_cmp ?h ?hm); (case hm => with_unfolding_all exact rfl))
  | with_reducible refine' wE_ifexp ?_
  | with_reducible refine' wE_unop ?_
  | with_reducible refine' wE_boolop_and ?_
  | with_reducible refine' wE_boolop_or ?_
  | with_reducible refine' wE_boolop_one ?_
  | with_reducible refine' wE_tuple ?_
  | ((with_reducible refine' wE_len ?h ?h1 ?h2 ?h3 ?h4); (case h1 => exact rfl); (case h2 => (intro _; exact rfl)); (case h3 => (intro _; exact ⟨_, _, rfl, rfl⟩)); (case h4 => (intro _; exact rfl)))
  | ((with_reducible refine' wE_abs ?h ?h1 ?h2 ?h3 ?h4); (case h1 => exact rfl); (case h2 => (intro _; exact rfl)); (case h3 => (intro _; exact ⟨_, _, rfl, rfl⟩)); (case h4 => (intro _; exact rfl)))
  | ((with_reducible refine' wE_min ?h ?h1 ?h2 ?h3); (case h1 => exact rfl); (case h2 => (intro _; exact rfl)); (case h3 => (intro _; exact ⟨_, _, rfl, rfl⟩)))
  | ((with_reducible refine' wE_def ?h ?h1 ?h2 ?h3 ?h4 ?h5); (case h1 => decide +kernel); (case h2 => exact rfl); (case h3 => decide +kernel); (case h4 => (intro _; exact rfl)); (case h5 => (intro _; exact ⟨_, _, rfl, rfl⟩)))
  | ((with_reducible refine' wE_bitlen ?h ?h1 ?h2); (case h1 => (intro _; exact rfl)); (case h2 => exact rfl))
  | ((with_reducible refine' wT_cmp ?h ?hm); (case hm => with_unfolding_all exact rfl))
  | ((with_reducible refine' wT_chain ?h ?hm); (case hm => with_unfolding_all exact rfl))
  | with_reducible refine' wT_not ?_
  | with_reducible refine' wT_and_nil ?_
  | with_reducible refine' wT_and ?_
  | with_reducible refine' wT_or_nil ?_
  | with_reducible refine' wT_or ?_
  | ((with_reducible refine' wT_plain ?h ?he); (case he => (intros; exact rfl)))
  | with_reducible refine' wA_nil ?_
  | ((with_reducible refine' wA_cons ?h ?hs); (case hs => (intro _; exact rfl)))
  | with_reducible refine' wP_none ?_
  | with_reducible refine' wP_some ?_
  | ((with_reducible refine' wE_sliceZ ?hx ?hsz ?h ?hl ?hd); (case hl => exact rfl); (case hd => decide +kernel); (case hx => tb_start); (case hsz => omega))
  | with_reducible refine' wE_sub ?_
  | ((with_reducible refine' b_len_z ?h1 ?h); (case h1 => omega))
  | ((with_reducible refine' b_len_zr ?h0 ?h1 ?h); (case h0 => tb_start); (case h1 => omega))
  | ((with_reducible refine' s_zN ?h1 ?h2 ?h ?hs); (case hs => (intro _ _; exact rfl)); (case h1 => omega); (case h2 => omega))
  | ((with_reducible refine' s_zrN ?ha ?h1 ?h2 ?h ?hs); (case hs => (intro _ _; exact rfl)); (case ha => tb_start); (case h1 => omega); (case h2 => omega))
  | ((with_reducible refine' s_z ?h0 ?h1 ?h2 ?h ?hs); (case hs => (intro _ _; exact rfl)); (case h0 => omega); (case h1 => omega); (case h2 => omega))
  | ((with_reducible refine' s_zr ?ha ?h0 ?h1 ?h2 ?h ?hs); (case hs => (intro _ _; exact rfl)); (case ha => tb_start); (case h0 => omega); (case h1 => omega); (case h2 => omega))
  | ((with_reducible refine' o_shl1 ?h1 ?h); (case h1 => omega))
  | with_reducible refine' o_shr ?_
  | with_reducible refine' i_shr ?_
  | with_reducible refine' o_mask ?_
  | ((with_reducible refine' o_pow2 ?h1 ?h); (case h1 => omega))
  | ((with_reducible refine' o_divN ?h1 ?h2 ?h); (case h1 => omega); (case h2 => omega))
  | ((with_reducible refine' o_mdN ?h1 ?h); (case h1 => omega))
  | ((with_reducible refine' o_div ?h1 ?h2 ?h); (case h1 => omega); (case h2 => omega))
  | ((with_reducible refine' o_md ?h1 ?h); (case h1 => omega))
  | ((with_reducible refine' i_md ?h1 ?h); (case h1 => omega))
  | ((with_reducible refine' o_shl ?h1 ?h2 ?h); (case h1 => omega); (case h2 => omega))
  | ((with_reducible refine' o_orL ?h1 ?h2 ?h3 ?h); (case h1 => omega); (case h2 => omega); (case h3 => omega))
  | ((with_reducible refine' o_orR ?h1 ?h2 ?h3 ?h); (case h1 => omega); (case h2 => omega); (case h3 => omega))
  | ((with_reducible refine' i_orR ?h1 ?h2 ?h3 ?h); (case h1 => omega); (case h2 => omega); (case h3 => omega))
  | with_reducible refine' o_add ?_
  | with_reducible refine' o_sub ?_
  | with_reducible refine' i_add ?_
  | with_reducible refine' i_sub ?_
  | with_reducible refine' o_neg ?_
  | with_reducible refine' c_eq ?_
  | with_reducible refine' c_ne ?_
  | with_reducible refine' c_lt ?_
  | with_reducible refine' c_le ?_
  | with_reducible refine' c_gt ?_
  | with_reducible refine' c_ge ?_
  | with_reducible refine' c_eqb ?_
  | with_reducible refine' exTB ?_
  | with_reducible refine' exTI ?_
  | with_reducible refine' exI ?_
  | with_reducible refine' exL ?_
  | with_reducible refine' exT2 ?_
  | with_reducible refine' exT3 ?_
  | with_reducible refine' exR ?_
  | with_reducible refine' andLit ?_
  | with_reducible refine' andSt ?_
  | ((with_reducible refine' andLen ?h1 ?h); (case h1 => (simp; done)))
  | ((with_reducible refine' exRng1 ?h1 ?h); (case h1 => (unfold Fit; omega)))
  | ((with_reducible refine' exRng2 ?h1 ?h2 ?h); (case h1 => (unfold Fit; omega)); (case h2 => (unfold Fit; omega)))
  | ((with_reducible refine' exRngD ?he ?h1 ?h2 ?h); (case he => omega); (case h1 => (unfold Fit; omega)); (case h2 => (unfold Fit; omega)))
  | ((with_reducible refine' exApp ?h1 ?h); (case h1 => tb_start))
  | ((with_reducible refine' exAppZ ?h1 ?h2 ?h); (case h1 => tb_start); (case h2 => omega))
  | ((with_reducible refine' exSetZ ?h1 ?h2 ?h3 ?h4 ?h); (case h1 => tb_start); (case h2 => omega); (case h3 => ((try simp only [List.length_set, List.length_replicate, List.length_append, List.length_cons, List.length_nil]); omega)); (case h4 => ((try simp only [List.length_set, List.length_replicate, List.length_append, List.length_cons, List.length_nil]); omega)))
  | with_reducible refine' wE_listOf ?_
  | with_reducible refine' andNext ?_
  | fail "no step")

section
variable {g : G PP}
theorem one_lt_pow {w : Nat} (hw : 1 ≤ w) : (1 : Int) < 2 ^ w := by
  have := pow_mono' (B := 2) (by decide) hw
  rw [show (2:Int)^1 = 2 by decide] at this; omega
theorem val_split (B : Int) {l : List Int} {k : Nat} (hk : k < l.length) : val B l = val B (l.take k) + B ^ k * (l.getD k 0 + B * val B (l.drop (k + 1))) := by
  have h := val_take_drop B l k (by omega)
  rw [List.drop_eq_getElem_cons hk] at h
  simp only [val] at h
  rw [h, List.getD_eq_getElem?_getD, List.getElem?_eq_getElem hk]
  rfl
theorem cmp_lt {B : Int} (hB : 1 < B) {l k : List Int} (h1 : Limbs B l) (h2 : Limbs B k) (hlen : l.length = k.length) {i : Nat} (hi : i < l.length) (hd : l.drop (i + 1) = k.drop (i + 1)) (hlt : l.getD i 0 < k.getD i 0) : val B l < val B k := by
  rw [val_split B hi, val_split B (show i < k.length by omega), hd]
  have a := val_lt (by omega) (h1.take i)
  have b := val_nonneg (by omega) (h2.take i)
  rw [List.length_take, Nat.min_eq_left (by omega)] at a
  generalize val B (List.drop (i + 1) k) = z
  have c : B ^ i * (l.getD i 0 + B * z + 1) ≤ B ^ i * (k.getD i 0 + B * z) := Int.mul_le_mul_of_nonneg_left (by omega) (Int.le_of_lt (pow_pos' (by omega) i))
  rw [Int.mul_add _ _ 1, Int.mul_one] at c
  omega
theorem t_is_even (B : Int) (hB : ∃ k : Nat, B = 2 * k) (l : List Int) (n : Int) (hl : l.length ≤ 2 ^ 20) (hc : Can B l n) : GCall g (g.fa "is_even") 1 [.list (zints l)] (fun _ => none) (fun x _ => x = .bool (n % 2 == 0)) := by
  refine' gcall (d := dOf 1) (dOf_mem 1 (by decide)) (hbody := ?enB) (hscope := ?enS) (hparams := ?enP) (hname := rfl) (names := ["a"]) (hk := ?enK) (hbind := ?enI) (hloc := ?enL) (h := ?enH) (hco := ?enC) (hgen := ?enG) (hcell := ?enE)
  case enB => (conv => lhs; whnf)
  case enS => (conv => lhs; whnf)
  case enP => (conv => lhs; whnf)
  case enK => rfl
  case enI => (intro pm code doc vs h; match vs, h with | [v0], _ => rfl)
  case enL => decide +kernel
  case enC => rfl
  case enG => rfl
  case enE => decide +kernel
  repeat' tb_rel
  have hev : l ≠ [] → n % 2 = l.getD 0 0 % 2 := by
    intro hne
    cases l with
    | nil => exact absurd rfl hne
    | cons x r =>
      obtain ⟨k, rfl⟩ := hB
      have := hc.val
      simp only [val] at this
      rw [← this, Int.mul_assoc]
      simp only [List.getD_cons_zero]
      omega
  refine iteEq (fun h => ?_) (fun h => ?_)
  · repeat' tb_rel
    have : l = [] := List.length_eq_zero_iff.mp (by omega)
    subst this
    have : n = 0 := hc.val.symm
    subst this
    rfl
  · repeat' tb_rel
    refine o_and ?_
    repeat' tb_rel
    rw [bitAnd_m1, hev (fun e => h (by rw [e]; rfl))]
    rfl
theorem t_compare (w : Nat) (hw : 1 ≤ w) (l k : List Int) (n m : Int) (hl : l.length ≤ 2 ^ 20) (hk : k.length ≤ 2 ^ 20) (h1 : Can (2 ^ w) l n) (h2 : Can (2 ^ w) k m) :
    GCall g (g.fa "compare") 1 [.list (zints l), .list (zints k)] (fun _ => none) (fun x _ => ∃ c, x = .int c ∧ (c < 0 ↔ n < m)) := by
  have hB := one_lt_pow hw
  refine' gcall (d := dOf 2) (dOf_mem 2 (by decide)) (hbody := ?enB) (hscope := ?enS) (hparams := ?enP) (hname := rfl) (names := ["a", "b"]) (hk := ?enK) (hbind := ?enI) (hloc := ?enL) (h := ?enH) (hco := ?enC) (hgen := ?enG) (hcell := ?enE)
  case enB => (conv => lhs; whnf)
  case enS => (conv => lhs; whnf)
  case enP => (conv => lhs; whnf)
  case enK => rfl
  case enI => (intro pm code doc vs h; match vs, h with | [v0, v1], _ => rfl)
  case enL => decide +kernel
  case enC => rfl
  case enG => rfl
  case enE => decide +kernel
  repeat' tb_rel
  refine iteNe (fun h => ?_) (fun h => ?_)
  · repeat' tb_rel
    refine iteD (fun h3 => ?_) (fun h3 => ?_)
    · repeat' tb_rel
      have := h1.len_lt hB h2 (by omega)
      omega
    · repeat' tb_rel
      have := h2.len_lt hB h1 (by omega)
      omega
  · repeat' tb_rel
    refine loop_inv (fun vs S => ∃ i : Nat, i ≤ l.length ∧ vs = downFrom ((i : Int) - 1) i ∧ S.m "a" = some (.list (zints l)) ∧ S.m "b" = some (.list (zints k)) ∧ l.drop i = k.drop i) ?_ ?_ ?_
    · rintro v vs S ⟨i, hi, hvs, ha, hb, hd⟩
      cases i with
      | zero => simp [downFrom] at hvs
      | succ i =>
        rw [downFrom_succ] at hvs
        obtain ⟨rfl, rfl⟩ := List.cons.inj hvs
        repeat' tb_rel
        have e : (((i + 1 : Nat) : Int) - 1).toNat = i := by omega
        refine iteNe (fun h => ?_) (fun h => ?_)
        · rw [e] at h
          repeat' tb_rel
          rw [e]
          refine iteD (fun h3 => ?_) (fun h3 => ?_)
          · repeat' tb_rel
            have := cmp_lt hB h1.limbs h2.limbs (by omega) (show i < l.length by omega) hd h3
            rw [h1.val, h2.val] at this
            omega
          · repeat' tb_rel
            have := cmp_lt hB h2.limbs h1.limbs (by omega) (show i < k.length by omega) hd.symm (by omega)
            rw [h1.val, h2.val] at this
            omega
        · rw [e] at h
          repeat' tb_rel
          refine ⟨i, by omega, by congr 1; omega, by tb_start, by tb_start, ?_⟩
          have q1 : i < l.length := by omega
          have q2 : i < k.length := by omega
          rw [List.drop_eq_getElem_cons q1, List.drop_eq_getElem_cons q2, hd]
          rw [List.getD_eq_getElem?_getD, List.getElem?_eq_getElem q1, List.getD_eq_getElem?_getD, List.getElem?_eq_getElem q2] at h
          simp only [Option.getD_some] at h
          rw [h]
    · rintro S ⟨i, hi, hvs, ha, hb, hd⟩
      have : i = 0 := by
        cases i with
        | zero => rfl
        | succ i => rw [downFrom_succ] at hvs; cases hvs
      subst this
      repeat' tb_rel
      have : l = k := by simpa using hd
      have e : n = m := by rw [← h1.val, ← h2.val, this]
      omega
    · refine ⟨l.length, Nat.le_refl _, by congr 1; omega, by tb_start, by tb_start, ?_⟩
      rw [List.drop_length, List.drop_eq_nil_of_le (by omega)]
end
end Mine

namespace Mine
local macro_rules | `(tactic| tb_start) => `(tactic| first
  | with_reducible exact look_same
  | with_reducible exact look_froze
  | ((with_reducible refine' look_i ?nn); (case nn => omega))
  | ((with_reducible refine' look_ne ?nn ?tt); (case nn => decide +kernel); (case tt => tb_start))
  | ((with_reducible refine' look_froze_ne ?nn ?tt); (case nn => decide +kernel); (case tt => tb_start))
  | ((with_reducible refine' sig_set ?tt); (case tt => tb_start))
  | ((with_reducible refine' sig_freeze ?nn ?tt); (case nn => assumption); (case tt => tb_start))
  | ((with_reducible refine' upd_app ?nn); (case nn => first | rfl | omega))
  | ((with_reducible refine' upd_set ?n1 ?n2); (case n1 => first | rfl | omega); (case n2 => first | rfl | omega))
  | with_reducible exact upd_nil
  | with_reducible exact upd_same
  | ((with_reducible refine' upd_ne ?nn ?tt); (case nn => assumption); (case tt => tb_start))
  | assumption
  | exact rfl
  | fail "no look")
local macro_rules | `(tactic| tb_rel) => `(tactic| first
  | with_reducible refine' iteF ?_
  | with_reducible refine' iteT ?_
  | with_reducible refine' wS_nil ?_
  | with_reducible refine' wS_cons ?_
  | ((with_reducible refine' wX_retRef ?h1 ?h2 ?h ?hl ?hd); (case hl => exact rfl); (case hd => decide +kernel); (case h1 => tb_start); (case h2 => tb_start))
  | with_reducible refine' wX_return ?_
  | ((with_reducible refine' wX_assign ?h ?hl ?hs); (case hl => exact rfl); (case hs => (intros; exact rfl)))
  | ((with_reducible refine' wX_aug ?hv ?h ?hl); (case hl => exact rfl); (case hv => tb_start))
  | with_reducible refine' wX_if ?_
  | ((with_reducible refine' wX_append ?h ?h1 ?h2 ?h3 ?h4 ?h5); (case h1 => (intros; exact rfl)); (case h2 => exact rfl); (case h3 => (intros; exact rfl)); (case h4 => (intros; exact rfl)); (case h5 => (intros; exact rfl)))
  | ((with_reducible refine' wX_setitem ?h ?h1); (case h1 => (intros; exact rfl)))
  | ((with_reducible refine' wX_swap2 ?h ?h1 ?h2 ?h3 ?h4); (case h4 => (intros; exact rfl)); (case h1 => exact rfl); (case h2 => exact rfl); (case h3 => (intros; exact rfl)))
  | ((with_reducible refine' wX_swap3 ?h ?h1 ?h2 ?h5 ?h3 ?h4); (case h4 => (intros; exact rfl)); (case h1 => exact rfl); (case h2 => exact rfl); (case h5 => exact rfl); (case h3 => (intros; exact rfl)))
  | ((with_reducible refine' wX_unpack2 ?h ?h1 ?h2 ?h3 ?h4); (case h4 => (intros; exact rfl)); (case h1 => exact rfl); (case h2 => exact rfl); (case h3 => (intros; exact rfl)))
  | ((with_reducible refine' wX_unpack3 ?h ?h1 ?h2 ?h5 ?h3 ?h4); (case h4 => (intros; exact rfl)); (case h1 => exact rfl); (case h2 => exact rfl); (case h5 => exact rfl); (case h3 => (intros; exact rfl)))
  | ((with_reducible refine' wX_for ?h ?h1 ?h2); (case h1 => exact rfl); (case h2 => (intros; exact rfl)))
  | ((with_reducible refine' wI_rng ?h ?h1 ?h2 ?h3); (case h1 => exact rfl); (case h2 => (intro _; exact rfl)); (case h3 => (intro _; exact ⟨_, _, rfl, rfl⟩)))
  | with_reducible refine' wI_list ?_
  | with_reducible refine' wE_int ?_
  | with_reducible refine' wE_bool ?_
  | with_reducible refine' wE_none ?_
  | ((with_reducible refine' wE_local ?hv ?h ?hl ?hd); (case hl => exact rfl); (case hd => decide +kernel); (case hv => tb_start))
  | ((with_reducible refine' wE_fn ?h ?h1 ?h2 ?h3); (case h2 => exact rfl); (case h1 => decide +kernel); (case h3 => decide +kernel))
  | with_reducible refine' wE_binop ?_
  | ((with_reducible refine' wE_cmp ?h ?hm); (case hm => with_unfolding_all exact rfl))
  | with_reducible refine' wE_ifexp ?_
  | with_reducible refine' wE_unop ?_
  | with_reducible refine' wE_boolop_and ?_
  | with_reducible refine' wE_boolop_or ?_
  | with_reducible refine' wE_boolop_one ?_
  | with_reducible refine' wE_tuple ?_
  | ((with_reducible refine' wE_len ?h ?h1 ?h2 ?h3 ?h4); (case h1 => exact rfl); (case h2 => (intro _; exact rfl)); (case h3 => (intro _; exact ⟨_, _, rfl, rfl⟩)); (case h4 => (intro _; exact rfl)))
  | ((with_reducible refine' wE_abs ?h ?h1 ?h2 ?h3 ?h4); (case h1 => exact rfl); (case h2 => (intro _; exact rfl)); (case h3 => (intro _; exact ⟨_, _, rfl, rfl⟩)); (case h4 => (intro _; exact rfl)))
  | ((with_reducible refine' wE_min ?h ?h1 ?h2 ?h3); (case h1 => exact rfl); (case h2 => (intro _; exact rfl)); (case h3 => (intro _; exact ⟨_, _, rfl, rfl⟩)))
  | ((with_reducible refine' wE_def ?h ?h1 ?h2 ?h3 ?h4 ?h5); (case h1 => decide +kernel); (case h2 => exact rfl); (case h3 => decide +kernel); (case h4 => (intro _; exact rfl)); (case h5 => (intro _; exact ⟨_, _, rfl, rfl⟩)))
  | ((with_reducible refine' wE_bitlen ?h ?h1 ?h2); (case h1 => (intro _; exact rfl)); (case h2 => exact rfl))
  | ((with_reducible refine' wT_cmp ?h ?hm); (case hm => with_unfolding_all exact rfl))
  | ((with_reducible refine' wT_chain ?h ?hm); (case hm => with_unfolding_all exact rfl))
  | with_reducible refine' wT_not ?_
  | with_reducible refine' wT_and_nil ?_
  | with_reducible refine' wT_and ?_
  | with_reducible refine' wT_or_nil ?_
  | with_reducible refine' wT_or ?_
  | ((with_reducible refine' wT_plain ?h ?he); (case he => (intros; exact rfl)))
  | with_reducible refine' wA_nil ?_
  | ((with_reducible refine' wA_cons ?h ?hs); (case hs => (intro _; exact rfl)))
  | with_reducible refine' wP_none ?_
  | with_reducible refine' wP_some ?_
  | ((with_reducible refine' wE_sliceZ ?hx ?hsz ?h ?hl ?hd); (case hl => exact rfl); (case hd => decide +kernel); (case hx => tb_start); (case hsz => omega))
  | with_reducible refine' wE_sub ?_
  | ((with_reducible refine' b_len_z ?h1 ?h); (case h1 => omega))
  | ((with_reducible refine' b_len_zr ?h0 ?h1 ?h); (case h0 => tb_start); (case h1 => omega))
  | ((with_reducible refine' s_zN ?h1 ?h2 ?h ?hs); (case hs => (intro _ _; exact rfl)); (case h1 => omega); (case h2 => omega))
  | ((with_reducible refine' s_zrN ?ha ?h1 ?h2 ?h ?hs); (case hs => (intro _ _; exact rfl)); (case ha => tb_start); (case h1 => omega); (case h2 => omega))
  | ((with_reducible refine' s_z ?h0 ?h1 ?h2 ?h ?hs); (case hs => (intro _ _; exact rfl)); (case h0 => omega); (case h1 => omega); (case h2 => omega))
  | ((with_reducible refine' s_zr ?ha ?h0 ?h1 ?h2 ?h ?hs); (case hs => (intro _ _; exact rfl)); (case ha => tb_start); (case h0 => omega); (case h1 => omega); (case h2 => omega))
  | ((with_reducible refine' o_shl1 ?h1 ?h); (case h1 => omega))
  | with_reducible refine' o_shr ?_
  | with_reducible refine' i_shr ?_
  | with_reducible refine' o_mask ?_
  | ((with_reducible refine' o_pow2 ?h1 ?h); (case h1 => omega))
  | ((with_reducible refine' o_divN ?h1 ?h2 ?h); (case h1 => omega); (case h2 => omega))
  | ((with_reducible refine' o_mdN ?h1 ?h); (case h1 => omega))
  | ((with_reducible refine' o_div ?h1 ?h2 ?h); (case h1 => omega); (case h2 => omega))
  | ((with_reducible refine' o_md ?h1 ?h); (case h1 => omega))
  | ((with_reducible refine' i_md ?h1 ?h); (case h1 => omega))
  | ((with_reducible refine' o_shl ?h1 ?h2 ?h); (case h1 => omega); (case h2 => omega))
  | ((with_reducible refine' o_orL ?h1 ?h2 ?h3 ?h); (case h1 => omega); (case h2 => omega); (case h3 => omega))
  | ((with_reducible refine' o_orR ?h1 ?h2 ?h3 ?h); (case h1 => omega); (case h2 => omega); (case h3 => omega))
  | ((with_reducible refine' i_orR ?h1 ?h2 ?h3 ?h); (case h1 => omega); (case h2 => omega); (case h3 => omega))
  | with_reducible refine' o_add ?_
  | with_reducible refine' o_sub ?_
  | with_reducible refine' i_add ?_
  | with_reducible refine' i_sub ?_
  | with_reducible refine' o_neg ?_
  | with_reducible refine' c_eq ?_
  | with_reducible refine' c_ne ?_
  | with_reducible refine' c_lt ?_
  | with_reducible refine' c_le ?_
  | with_reducible refine' c_gt ?_
  | with_reducible refine' c_ge ?_
  | with_reducible refine' c_eqb ?_
  | with_reducible refine' exTB ?_
  | with_reducible refine' exTI ?_
  | with_reducible refine' exI ?_
  | with_reducible refine' exL ?_
  | with_reducible refine' exT2 ?_
  | with_reducible refine' exT3 ?_
  | with_reducible refine' exR ?_
  | with_reducible refine' andLit ?_
  | with_reducible refine' andSt ?_
  | ((with_reducible refine' andLen ?h1 ?h); (case h1 => (simp; done)))
  | ((with_reducible refine' exRng1 ?h1 ?h); (case h1 => (unfold Fit; omega)))
  | ((with_reducible refine' exRng2 ?h1 ?h2 ?h); (case h1 => (unfold Fit; omega)); (case h2 => (unfold Fit; omega)))
  | ((with_reducible refine' exRngD ?he ?h1 ?h2 ?h); (case he => omega); (case h1 => (unfold Fit; omega)); (case h2 => (unfold Fit; omega)))
  | ((with_reducible refine' exApp ?h1 ?h); (case h1 => tb_start))
  | ((with_reducible refine' exAppZ ?h1 ?h2 ?h); (case h1 => tb_start); (case h2 => omega))
  | ((with_reducible refine' exSetZ ?h1 ?h2 ?h3 ?h4 ?h); (case h1 => tb_start); (case h2 => omega); (case h3 => ((try simp only [List.length_set, List.length_replicate, List.length_append, List.length_cons, List.length_nil]); omega)); (case h4 => ((try simp only [List.length_set, List.length_replicate, List.length_append, List.length_cons, List.length_nil]); omega)))
  | with_reducible refine' wE_listOf ?_
  | with_reducible refine' andNext ?_
  | fail "no step")

section
variable {g : G PP}
/-- what is said of a list of limbs -/
def IsNat (w : Nat) (x : V) (n : Int) : Prop := ∃ l, x = .list (zints l) ∧ Can (2 ^ w) l n
theorem div_small {B c : Int} (h1 : c < 2 * B) (hB : 0 < B) (h0 : 0 ≤ c) : 0 ≤ c / B ∧ c / B ≤ 1 := by
  refine ⟨Int.ediv_nonneg h0 (by omega), ?_⟩
  have : c / B < 2 := Int.ediv_lt_of_lt_mul hB h1
  omega
theorem mod_limb {B c : Int} (hB : 0 < B) : 0 ≤ c % B ∧ c % B < B := ⟨Int.emod_nonneg _ (by omega), Int.emod_lt_of_pos _ hB⟩

theorem t_add (w : Nat) (hw : 1 ≤ w ∧ w ≤ 30) (l k : List Int) (n m : Int) (hl : l.length ≤ 2 ^ 20) (hk : k.length ≤ 2 ^ 20) (h1 : Can (2 ^ w) l n) (h2 : Can (2 ^ w) k m) :
    GCall g (g.fa "add") 1 [.list (zints l), .list (zints k), .int w] (fun _ => none) (fun x _ => IsNat w x (n + m)) := by
  have hB := one_lt_pow hw.1
  refine' gcall (d := dOf 3) (dOf_mem 3 (by decide)) (hbody := ?enB) (hscope := ?enS) (hparams := ?enP) (hname := rfl) (names := ["a", "b", "w"]) (hk := ?enK) (hbind := ?enI) (hloc := ?enL) (h := ?enH) (hco := ?enC) (hgen := ?enG) (hcell := ?enE)
  case enB => (conv => lhs; whnf)
  case enS => (conv => lhs; whnf)
  case enP => (conv => lhs; whnf)
  case enK => rfl
  case enI => (intro pm code doc vs h; match vs, h with | [v0, v1, v2], _ => rfl)
  case enL => decide +kernel
  case enC => rfl
  case enG => rfl
  case enE => decide +kernel
  refine wS_seq (fun S => S.σ = (fun _ => none) ∧ S.m "w" = some (.int w) ∧ ∃ (l' k' : List Int) (n' m' : Int), S.m "a" = some (.list (zints l')) ∧ S.m "b" = some (.list (zints k')) ∧ l'.length ≤ 2 ^ 20 ∧ k'.length ≤ l'.length ∧ Can (2 ^ w) l' n' ∧ Can (2 ^ w) k' m' ∧ n' + m' = n + m) ?_ ?_
  · repeat' tb_rel
    refine iteD (fun h => ?_) (fun h => ?_)
    · repeat' tb_rel
      exact ⟨rfl, by tb_start, k, l, m, n, by tb_start, by tb_start, hk, by omega, h2, h1, by omega⟩
    · repeat' tb_rel
      exact ⟨rfl, by tb_start, l, k, n, m, by tb_start, by tb_start, hl, by omega, h1, h2, rfl⟩
  · clear h1 h2 hl hk l k
    rintro S ⟨hσ, hww, l, k, n', m', ha, hb, hl, hk, h1, h2, hnm⟩
    rw [← hnm]
    clear hnm
    repeat' tb_rel
    refine wE_listNew fun ad had => ?_
    repeat' tb_rel
    -- both
    refine loop_inv (fun vs S => ∃ (i : Nat) (f : List Int) (cr : Int), vs = upTo i (k.length - i) ∧ i ≤ k.length ∧ S.m "a" = some (.list (zints l)) ∧ S.m "b" = some (.list (zints k)) ∧ S.m "w" = some (.int w) ∧ S.m "mask" = some (.int (2 ^ w - 1)) ∧
      S.m "found" = some (.ref ad) ∧ S.m "carry" = some (.int cr) ∧ S.σ ad = some (zints f) ∧ Limbs (2 ^ w) f ∧ f.length = i ∧ (0 ≤ cr ∧ cr ≤ 1) ∧ val (2 ^ w) f + (2 ^ w) ^ i * cr = val (2 ^ w) (l.take i) + val (2 ^ w) (k.take i)) ?_ ?_ ?_
    · rintro v vs S ⟨i, f, cr, hvs, hi, ha, hb, hww, hm, hf, hc, hs, hlf, hlen, hcr, hv⟩
      obtain ⟨q, hq, rfl, rfl⟩ := upTo_cons hvs
      repeat' tb_rel
      try simp only [Int.toNat_natCast]
      have hx := getD_get (l := l) (k := i) (by omega)
      have hy := getD_get (l := k) (k := i) (by omega)
      have bx := h1.limbs.get hx
      have bq := h2.limbs.get hy
      have hcar := div_small (B := 2 ^ w) (c := cr + (l.getD i 0 + k.getD i 0)) (by omega) (by omega) (by omega)
      refine ⟨i + 1, f ++ [(cr + (l.getD i 0 + k.getD i 0)) % 2 ^ w], (cr + (l.getD i 0 + k.getD i 0)) / 2 ^ w, by rw [show k.length - (i + 1) = q by omega]; rfl, by omega, by tb_start, by tb_start, by tb_start, by tb_start, by tb_start, by tb_start, by tb_start, hlf.snoc (mod_limb (by omega)), by simp [hlen], hcar, ?_⟩
      rw [carry_step hlen, val_take_succ hx, val_take_succ hy, Int.mul_add, Int.mul_add]
      omega
    · rintro S ⟨i, f, cr, hvs, hi, ha, hb, hww, hm, hf, hc, hs, hlf, hlen, hcr, hv⟩
      have : i = k.length := by have := upTo_nil hvs; omega
      subst this
      rw [List.take_length, h2.val] at hv
      repeat' tb_rel
      refine loop_inv (fun vs S => ∃ (i : Nat) (f : List Int) (cr : Int), vs = upTo i (l.length - i) ∧ i ≤ l.length ∧ S.m "a" = some (.list (zints l)) ∧ S.m "w" = some (.int w) ∧ S.m "mask" = some (.int (2 ^ w - 1)) ∧
        S.m "found" = some (.ref ad) ∧ S.m "carry" = some (.int cr) ∧ S.σ ad = some (zints f) ∧ Limbs (2 ^ w) f ∧ f.length = i ∧ (0 ≤ cr ∧ cr ≤ 1) ∧ val (2 ^ w) f + (2 ^ w) ^ i * cr = val (2 ^ w) (l.take i) + m') ?_ ?_ ?_
      · clear hvs hi ha hb hww hm hf hc hs hlf hlen hcr hv f cr S
        rintro v vs S ⟨i, f, cr, hvs, hi, ha, hww, hm, hf, hc, hs, hlf, hlen, hcr, hv⟩
        obtain ⟨q, hq, rfl, rfl⟩ := upTo_cons hvs
        repeat' tb_rel
        try simp only [Int.toNat_natCast]
        have hx := getD_get (l := l) (k := i) (by omega)
        have bx := h1.limbs.get hx
        have hcar := div_small (B := 2 ^ w) (c := cr + l.getD i 0) (by omega) (by omega) (by omega)
        refine ⟨i + 1, f ++ [(cr + l.getD i 0) % 2 ^ w], (cr + l.getD i 0) / 2 ^ w, by rw [show l.length - (i + 1) = q by omega]; rfl, by omega, by tb_start, by tb_start, by tb_start, by tb_start, by tb_start, by tb_start, hlf.snoc (mod_limb (by omega)), by simp [hlen], hcar, ?_⟩
        rw [carry_step hlen, val_take_succ hx, Int.mul_add]
        omega
      · clear hvs hi ha hb hww hm hf hc hs hlf hlen hcr hv f cr S
        rintro S ⟨i, f, cr, hvs, hi, ha, hww, hm, hf, hc, hs, hlf, hlen, hcr, hv⟩
        have : i = l.length := by have := upTo_nil hvs; omega
        subst this
        rw [List.take_length, h1.val] at hv
        repeat' tb_rel
        refine iteD (fun h => ?_) (fun h => ?_)
        · repeat' tb_rel
          refine ⟨f ++ [cr], rfl, hlf.snoc (by omega), ?_, by simp; omega⟩
          rw [val_snoc, hlen, hv]
        · repeat' tb_rel
          have e0 : cr = 0 := by omega
          subst e0
          rw [Int.mul_zero, Int.add_zero] at hv
          refine ⟨f, rfl, hlf, hv, top_of hB hlf fun hne => ?_⟩
          rw [hv, hlen]
          have q1 := h1.low hB (fun e => by subst e; simp at hlen; exact hne hlen)
          have q2 := h2.nonneg (by omega)
          omega
      · exact ⟨k.length, f, cr, by congr 1; omega, by omega, by tb_start, by tb_start, by tb_start, by tb_start, by tb_start, hs, hlf, hlen, hcr, hv⟩
    · exact ⟨0, [], 0, by simp, by omega, by tb_start, by tb_start, by tb_start, by tb_start, by tb_start, by tb_start, by tb_start, Limbs.nil, rfl, by omega, by simp [val]⟩
end
end Mine

namespace Mine
local macro_rules | `(tactic| tb_start) => `(tactic| first
  | with_reducible exact look_same
  | with_reducible exact look_froze
  | ((with_reducible refine' look_i ?nn); (case nn => omega))
  | ((with_reducible refine' look_ne ?nn ?tt); (case nn => decide +kernel); (case tt => tb_start))
  | ((with_reducible refine' look_froze_ne ?nn ?tt); (case nn => decide +kernel); (case tt => tb_start))
  | ((with_reducible refine' sig_set ?tt); (case tt => tb_start))
  | ((with_reducible refine' sig_freeze ?nn ?tt); (case nn => assumption); (case tt => tb_start))
  | ((with_reducible refine' upd_app ?nn); (case nn => first | rfl | omega))
  | ((with_reducible refine' upd_set ?n1 ?n2); (case n1 => first | rfl | omega); (case n2 => first | rfl | omega))
  | with_reducible exact upd_nil
  | with_reducible exact upd_same
  | ((with_reducible refine' upd_ne ?nn ?tt); (case nn => assumption); (case tt => tb_start))
  | assumption
  | exact rfl
  | fail "no look")
local macro_rules | `(tactic| tb_rel) => `(tactic| first
  | with_reducible refine' iteF ?_
  | with_reducible refine' iteT ?_
  | with_reducible refine' wS_nil ?_
  | with_reducible refine' wS_cons ?_
  | ((with_reducible refine' wX_retRef ?h1 ?h2 ?h ?hl ?hd); (case hl => exact rfl); (case hd => decide +kernel); (case h1 => tb_start); (case h2 => tb_start))
  | with_reducible refine' wX_return ?_
  | ((with_reducible refine' wX_assign ?h ?hl ?hs); (case hl => exact rfl); (case hs => (intros; exact rfl)))
  | ((with_reducible refine' wX_aug ?hv ?h ?hl); (case hl => exact rfl); (case hv => tb_start))
  | with_reducible refine' wX_if ?_
  | ((with_reducible refine' wX_append ?h ?h1 ?h2 ?h3 ?h4 ?h5); (case h1 => (intros; exact rfl)); (case h2 => exact rfl); (case h3 => (intros; exact rfl)); (case h4 => (intros; exact rfl)); (case h5 => (intros; exact rfl)))
  | ((with_reducible refine' wX_setitem ?h ?h1); (case h1 => (intros; exact rfl)))
  | ((with_reducible refine' wX_swap2 ?h ?h1 ?h2 ?h3 ?h4); (case h4 => (intros; exact rfl)); (case h1 => exact rfl); (case h2 => exact rfl); (case h3 => (intros; exact rfl)))
  | ((with_reducible refine' wX_swap3 ?h ?h1 ?h2 ?h5 ?h3 ?h4); (case h4 => (intros; exact rfl)); (case h1 => exact rfl); (case h2 => exact rfl); (case h5 => exact rfl); (case h3 => (intros; exact rfl)))
  | ((with_reducible refine' wX_unpack2 ?h ?h1 ?h2 ?h3 ?h4); (case h4 => (intros; exact rfl)); (case h1 => exact rfl); (case h2 => exact rfl); (case h3 => (intros; exact rfl)))
  | ((with_reducible refine' wX_unpack3 ?h ?h1 ?h2 ?h5 ?h3 ?h4); (case h4 => (intros; exact rfl)); (case h1 => exact rfl); (case h2 => exact rfl); (case h5 => exact rfl); (case h3 => (intros; exact rfl)))
  | ((with_reducible refine' wX_for ?h ?h1 ?h2); (case h1 => exact rfl); (case h2 => (intros; exact rfl)))
  | ((with_reducible refine' wI_rng ?h ?h1 ?h2 ?h3); (case h1 => exact rfl); (case h2 => (intro _; exact rfl)); (case h3 => (intro _; exact ⟨_, _, rfl, rfl⟩)))
  | with_reducible refine' wI_list ?_
  | with_reducible refine' wE_int ?_
  | with_reducible refine' wE_bool ?_
  | with_reducible refine' wE_none ?_
  | ((with_reducible refine' wE_local ?hv ?h ?hl ?hd); (case hl => exact rfl); (case hd => decide +kernel); (case hv => tb_start))
  | ((with_reducible refine' wE_fn ?h ?h1 ?h2 ?h3); (case h2 => exact rfl); (case h1 => decide +kernel); (case h3 => decide +kernel))
  | with_reducible refine' wE_binop ?_
  | ((with_reducible refine' wE_cmp ?h ?hm); (case hm => with_unfolding_all exact rfl))
  | with_reducible refine' wE_ifexp ?_
  | with_reducible refine' wE_unop ?_
  | with_reducible refine' wE_boolop_and ?_
  | with_reducible refine' wE_boolop_or ?_
  | with_reducible refine' wE_boolop_one ?_
  | with_reducible refine' wE_tuple ?_
  | ((with_reducible refine' wE_len ?h ?h1 ?h2 ?h3 ?h4); (case h1 => exact rfl); (case h2 => (intro _; exact rfl)); (case h3 => (intro _; exact ⟨_, _, rfl, rfl⟩)); (case h4 => (intro _; exact rfl)))
  | ((with_reducible refine' wE_abs ?h ?h1 ?h2 ?h3 ?h4); (case h1 => exact rfl); (case h2 => (intro _; exact rfl)); (case h3 => (intro _; exact ⟨_, _, rfl, rfl⟩)); (case h4 => (intro _; exact rfl)))
  | ((with_reducible refine' wE_min ?h ?h1 ?h2 ?h3); (case h1 => exact rfl); (case h2 => (intro _; exact rfl)); (case h3 => (intro _; exact ⟨_, _, rfl, rfl⟩)))
  | ((with_reducible refine' wE_def ?h ?h1 ?h2 ?h3 ?h4 ?h5); (case h1 => decide +kernel); (case h2 => exact rfl); (case h3 => decide +kernel); (case h4 => (intro _; exact rfl)); (case h5 => (intro _; exact ⟨_, _, rfl, rfl⟩)))
  | ((with_reducible refine' wE_bitlen ?h ?h1 ?h2); (case h1 => (intro _; exact rfl)); (case h2 => exact rfl))
  | ((with_reducible refine' wT_cmp ?h ?hm); (case hm => with_unfolding_all exact rfl))
  | ((with_reducible refine' wT_chain ?h ?hm); (case hm => with_unfolding_all exact rfl))
  | with_reducible refine' wT_not ?_
  | with_reducible refine' wT_and_nil ?_
  | with_reducible refine' wT_and ?_
  | with_reducible refine' wT_or_nil ?_
  | with_reducible refine' wT_or ?_
  | ((with_reducible refine' wT_plain ?h ?he); (case he => (intros; exact rfl)))
  | with_reducible refine' wA_nil ?_
  | ((with_reducible refine' wA_cons ?h ?hs); (case hs => (intro _; exact rfl)))
  | with_reducible refine' wP_none ?_
  | with_reducible refine' wP_some ?_
  | ((with_reducible refine' wE_sliceZ ?hx ?hsz ?h ?hl ?hd); (case hl => exact rfl); (case hd => decide +kernel); (case hx => tb_start); (case hsz => omega))
  | with_reducible refine' wE_sub ?_
  | ((with_reducible refine' b_len_z ?h1 ?h); (case h1 => omega))
  | ((with_reducible refine' b_len_zr ?h0 ?h1 ?h); (case h0 => tb_start); (case h1 => omega))
  | ((with_reducible refine' s_zN ?h1 ?h2 ?h ?hs); (case hs => (intro _ _; exact rfl)); (case h1 => omega); (case h2 => omega))
  | ((with_reducible refine' s_zrN ?ha ?h1 ?h2 ?h ?hs); (case hs => (intro _ _; exact rfl)); (case ha => tb_start); (case h1 => omega); (case h2 => omega))
  | ((with_reducible refine' s_z ?h0 ?h1 ?h2 ?h ?hs); (case hs => (intro _ _; exact rfl)); (case h0 => omega); (case h1 => omega); (case h2 => omega))
  | ((with_reducible refine' s_zr ?ha ?h0 ?h1 ?h2 ?h ?hs); (case hs => (intro _ _; exact rfl)); (case ha => tb_start); (case h0 => omega); (case h1 => omega); (case h2 => omega))
  | ((with_reducible refine' o_shl1 ?h1 ?h); (case h1 => omega))
  | with_reducible refine' o_shr ?_
  | with_reducible refine' i_shr ?_
  | with_reducible refine' o_mask ?_
  | ((with_reducible refine' o_pow2 ?h1 ?h); (case h1 => omega))
  | ((with_reducible refine' o_divN ?h1 ?h2 ?h); (case h1 => omega); (case h2 => omega))
  | ((with_reducible refine' o_mdN ?h1 ?h); (case h1 => omega))
  | ((with_reducible refine' o_div ?h1 ?h2 ?h); (case h1 => omega); (case h2 => omega))
  | ((with_reducible refine' o_md ?h1 ?h); (case h1 => omega))
  | ((with_reducible refine' i_md ?h1 ?h); (case h1 => omega))
  | ((with_reducible refine' o_shl ?h1 ?h2 ?h); (case h1 => omega); (case h2 => omega))
  | ((with_reducible refine' o_orL ?h1 ?h2 ?h3 ?h); (case h1 => omega); (case h2 => omega); (case h3 => omega))
  | ((with_reducible refine' o_orR ?h1 ?h2 ?h3 ?h); (case h1 => omega); (case h2 => omega); (case h3 => omega))
  | ((with_reducible refine' i_orR ?h1 ?h2 ?h3 ?h); (case h1 => omega); (case h2 => omega); (case h3 => omega))
  | with_reducible refine' o_add ?_
  | with_reducible refine' o_sub ?_
  | with_reducible refine' i_add ?_
  | with_reducible refine' i_sub ?_
  | with_reducible refine' o_neg ?_
  | with_reducible refine' c_eq ?_
  | with_reducible refine' c_ne ?_
  | with_reducible refine' c_lt ?_
  | with_reducible refine' c_le ?_
  | with_reducible refine' c_gt ?_
  | with_reducible refine' c_ge ?_
  | with_reducible refine' c_eqb ?_
  | with_reducible refine' exTB ?_
  | with_reducible refine' exTI ?_
  | with_reducible refine' exI ?_
  | with_reducible refine' exL ?_
  | with_reducible refine' exT2 ?_
  | with_reducible refine' exT3 ?_
  | with_reducible refine' exR ?_
  | with_reducible refine' andLit ?_
  | with_reducible refine' andSt ?_
  | ((with_reducible refine' andLen ?h1 ?h); (case h1 => (simp; done)))
  | ((with_reducible refine' exRng1 ?h1 ?h); (case h1 => (unfold Fit; omega)))
  | ((with_reducible refine' exRng2 ?h1 ?h2 ?h); (case h1 => (unfold Fit; omega)); (case h2 => (unfold Fit; omega)))
  | ((with_reducible refine' exRngD ?he ?h1 ?h2 ?h); (case he => omega); (case h1 => (unfold Fit; omega)); (case h2 => (unfold Fit; omega)))
  | ((with_reducible refine' exApp ?h1 ?h); (case h1 => tb_start))
  | ((with_reducible refine' exAppZ ?h1 ?h2 ?h); (case h1 => tb_start); (case h2 => omega))
  | ((with_reducible refine' exSetZ ?h1 ?h2 ?h3 ?h4 ?h); (case h1 => tb_start); (case h2 => omega); (case h3 => ((try simp only [List.length_set, List.length_replicate, List.length_append, List.length_cons, List.length_nil]); omega)); (case h4 => ((try simp only [List.length_set, List.length_replicate, List.length_append, List.length_cons, List.length_nil]); omega)))
  | with_reducible refine' wE_listOf ?_
  | with_reducible refine' andNext ?_
  | fail "no step")

section
variable {g : G PP}
theorem val_take_succ' (B : Int) (l : List Int) (i : Nat) : val B (l.take (i + 1)) = val B (l.take i) + B ^ i * l.getD i 0 := by
  by_cases h : i < l.length
  · exact val_take_succ (getD_get h)
  · rw [List.take_of_length_le (by omega), List.take_of_length_le (by omega), List.getD_eq_getElem?_getD, List.getElem?_eq_none (by omega)]
    simp
theorem getD_limb {B : Int} (hB : 0 < B) {l : List Int} (h : Limbs B l) (i : Nat) : 0 ≤ l.getD i 0 ∧ l.getD i 0 < B := by
  by_cases hi : i < l.length
  · exact h.get (getD_get hi)
  · rw [List.getD_eq_getElem?_getD, List.getElem?_eq_none (by omega)]
    exact ⟨Int.le_refl _, hB⟩
theorem getD_out {l : List Int} {i : Nat} (h : l.length ≤ i) : l.getD i 0 = 0 := by
  rw [List.getD_eq_getElem?_getD, List.getElem?_eq_none h]; rfl

theorem t_sub (w : Nat) (hw : 1 ≤ w ∧ w ≤ 30) (l k : List Int) (n m : Int) (hl : l.length ≤ 2 ^ 20) (hk : k.length ≤ 2 ^ 20) (h1 : Can (2 ^ w) l n) (h2 : Can (2 ^ w) k m) (hmn : m ≤ n) :
    GCall g (g.fa "sub") 2 [.list (zints l), .list (zints k), .int w] (fun _ => none) (fun x _ => IsNat w x (n - m)) := by
  have hB := one_lt_pow hw.1
  refine' gcall (d := dOf 4) (dOf_mem 4 (by decide)) (hbody := ?enB) (hscope := ?enS) (hparams := ?enP) (hname := rfl) (names := ["a", "b", "w"]) (hk := ?enK) (hbind := ?enI) (hloc := ?enL) (h := ?enH) (hco := ?enC) (hgen := ?enG) (hcell := ?enE)
  case enB => (conv => lhs; whnf)
  case enS => (conv => lhs; whnf)
  case enP => (conv => lhs; whnf)
  case enK => rfl
  case enI => (intro pm code doc vs h; match vs, h with | [v0, v1, v2], _ => rfl)
  case enL => decide +kernel
  case enC => rfl
  case enG => rfl
  case enE => decide +kernel
  repeat' tb_rel
  refine op_pure (t_compare w hw.1 l k n m hl hk h1 h2) (by decide) fun x hx => ?_
  obtain ⟨c, rfl, hc⟩ := hx
  repeat' tb_rel
  refine iteD (fun h => absurd (hc.mp h) (by omega)) (fun h => ?_)
  repeat' tb_rel
  refine wE_listNew fun ad had => ?_
  repeat' tb_rel
  refine loop_inv (fun vs S => ∃ (i : Nat) (f : List Int) (bw : Int), vs = upTo i (l.length - i) ∧ i ≤ l.length ∧ S.m "a" = some (.list (zints l)) ∧ S.m "b" = some (.list (zints k)) ∧ S.m "base" = some (.int (2 ^ w)) ∧
      S.m "found" = some (.ref ad) ∧ S.m "borrow" = some (.int bw) ∧ S.σ ad = some (zints f) ∧ Limbs (2 ^ w) f ∧ f.length = i ∧ (0 ≤ bw ∧ bw ≤ 1) ∧ val (2 ^ w) f - (2 ^ w) ^ i * bw = val (2 ^ w) (l.take i) - val (2 ^ w) (k.take i)) ?_ ?_ ?_
  · rintro v vs S ⟨i, f, bw, hvs, hi, ha, hb, hm, hf, hc, hs, hlf, hlen, hbw, hv⟩
    obtain ⟨q, hq, rfl, rfl⟩ := upTo_cons hvs
    have bx := getD_limb (by omega) h1.limbs i
    have bk := getD_limb (by omega) h2.limbs i
    refine wS_seq (fun S' => S'.m "a" = some (.list (zints l)) ∧ S'.m "b" = some (.list (zints k)) ∧ S'.m "base" = some (.int (2 ^ w)) ∧ S'.m "found" = some (.ref ad) ∧ S'.m "borrow" = some (.int bw) ∧ S'.σ ad = some (zints f) ∧ S'.m "limb" = some (.int (l.getD i 0 - bw - k.getD i 0))) ?_ ?_
    · repeat' tb_rel
      refine iteD (fun h => ?_) (fun h => ?_)
      · repeat' tb_rel
        try simp only [Int.toNat_natCast]
        exact ⟨by tb_start, by tb_start, by tb_start, by tb_start, by tb_start, by tb_start, by tb_start⟩
      · repeat' tb_rel
        try simp only [Int.toNat_natCast]
        exact ⟨by tb_start, by tb_start, by tb_start, by tb_start, by tb_start, by tb_start, by rw [getD_out (show k.length ≤ i by omega)]; tb_start⟩
    · clear hs hc hf hm hb ha S
      rintro S ⟨ha, hb, hm, hf, hc, hs, hlimb⟩
      repeat' tb_rel
      refine iteD (fun h => ?_) (fun h => ?_)
      · repeat' tb_rel
        refine iteD (fun h => ?_) (fun h' => absurd h h')
        repeat' tb_rel
        refine ⟨i + 1, f ++ [l.getD i 0 - bw - k.getD i 0 + 2 ^ w], 1, by rw [show l.length - (i + 1) = q by omega]; rfl, by omega, by tb_start, by tb_start, by tb_start, by tb_start, by tb_start, by tb_start, hlf.snoc (by omega), by simp [hlen], by omega, ?_⟩
        rw [val_snoc, hlen, val_take_succ', val_take_succ', Int.pow_succ, Int.mul_add, Int.mul_sub, Int.mul_sub]
        omega
      · repeat' tb_rel
        refine iteD (fun h' => absurd h' h) (fun h => ?_)
        repeat' tb_rel
        refine ⟨i + 1, f ++ [l.getD i 0 - bw - k.getD i 0], 0, by rw [show l.length - (i + 1) = q by omega]; rfl, by omega, by tb_start, by tb_start, by tb_start, by tb_start, by tb_start, by tb_start, hlf.snoc (by omega), by simp [hlen], by omega, ?_⟩
        rw [val_snoc, hlen, val_take_succ', val_take_succ', Int.mul_sub, Int.mul_sub]
        omega
  · rintro S ⟨i, f, bw, hvs, hi, ha, hb, hm, hf, hc, hs, hlf, hlen, hbw, hv⟩
    have : i = l.length := by have := upTo_nil hvs; omega
    subst this
    have hkl : k.length ≤ l.length := by
      apply Nat.le_of_not_lt
      intro hlt
      have := h1.len_lt hB h2 hlt
      omega
    rw [List.take_length, List.take_of_length_le hkl, h1.val, h2.val] at hv
    have hvl := val_lt (by omega) hlf
    rw [hlen] at hvl
    have e0 : bw = 0 := by
      rcases (show bw = 0 ∨ bw = 1 by omega) with e | e
      · exact e
      · subst e; omega
    subst e0
    refine w_freeze "found" hf hs ?_
    repeat' tb_rel
    refine op_pure (t_normal f (by omega)) (by decide) fun x hx => ?_
    subst hx
    repeat' tb_rel
    have := normL_can (by omega) hlf
    exact ⟨_, rfl, by rw [show n - m = val (2 ^ w) f by omega]; exact this⟩
  · exact ⟨0, [], 0, by simp, by omega, by tb_start, by tb_start, by tb_start, by tb_start, by tb_start, by tb_start, Limbs.nil, rfl, by omega, by simp [val]⟩

theorem t_add_limb (w : Nat) (hw : 1 ≤ w ∧ w ≤ 30) (l : List Int) (n d : Int) (hl : l.length ≤ 2 ^ 20) (h1 : Can (2 ^ w) l n) (hd : 0 ≤ d ∧ d < 2 ^ w) :
    GCall g (g.fa "add_limb") 1 [.list (zints l), .int d, .int w] (fun _ => none) (fun x _ => IsNat w x (n + d)) := by
  have hB := one_lt_pow hw.1
  refine' gcall (d := dOf 5) (dOf_mem 5 (by decide)) (hbody := ?enB) (hscope := ?enS) (hparams := ?enP) (hname := rfl) (names := ["a", "limb", "w"]) (hk := ?enK) (hbind := ?enI) (hloc := ?enL) (h := ?enH) (hco := ?enC) (hgen := ?enG) (hcell := ?enE)
  case enB => (conv => lhs; whnf)
  case enS => (conv => lhs; whnf)
  case enP => (conv => lhs; whnf)
  case enK => rfl
  case enI => (intro pm code doc vs h; match vs, h with | [v0, v1, v2], _ => rfl)
  case enL => decide +kernel
  case enC => rfl
  case enG => rfl
  case enE => decide +kernel
  repeat' tb_rel
  refine wE_listNew fun ad had => ?_
  repeat' tb_rel
  refine loop_inv (fun vs S => ∃ (i : Nat) (f : List Int) (cr : Int), vs = zints (l.drop i) ∧ i ≤ l.length ∧ S.m "w" = some (.int w) ∧ S.m "mask" = some (.int (2 ^ w - 1)) ∧
      S.m "found" = some (.ref ad) ∧ S.m "limb" = some (.int cr) ∧ S.σ ad = some (zints f) ∧ Limbs (2 ^ w) f ∧ f.length = i ∧ (0 ≤ cr ∧ cr < 2 ^ w) ∧ val (2 ^ w) f + (2 ^ w) ^ i * cr = val (2 ^ w) (l.take i) + d) ?_ ?_ ?_
  · rintro v vs S ⟨i, f, cr, hvs, hi, hww, hm, hf, hc, hs, hlf, hlen, hcr, hv⟩
    have hil : i < l.length := by
      apply Nat.lt_of_not_le
      intro hle
      rw [List.drop_eq_nil_of_le hle] at hvs; cases hvs
    have hx := getD_get hil
    rw [List.drop_eq_getElem_cons hil] at hvs
    have hv1 : v = .int (l.getD i 0) := by
      rw [List.getElem?_eq_getElem hil] at hx
      rw [← Option.some.inj hx]
      exact (List.cons.inj hvs).1
    have hv2 : vs = zints (l.drop (i + 1)) := (List.cons.inj hvs).2
    subst hv1 hv2
    repeat' tb_rel
    have bx := h1.limbs.get hx
    have hcar := div_small (B := 2 ^ w) (c := cr + l.getD i 0) (by omega) (by omega) (by omega)
    refine ⟨i + 1, f ++ [(cr + l.getD i 0) % 2 ^ w], (cr + l.getD i 0) / 2 ^ w, rfl, by omega, by tb_start, by tb_start, by tb_start, by tb_start, by tb_start, hlf.snoc (mod_limb (by omega)), by simp [hlen], by omega, ?_⟩
    rw [carry_step hlen, val_take_succ', Int.mul_add]
    omega
  · rintro S ⟨i, f, cr, hvs, hi, hww, hm, hf, hc, hs, hlf, hlen, hcr, hv⟩
    have : i = l.length := by
      have : (zints (l.drop i)).length = 0 := by rw [← hvs]; rfl
      rw [zints_length, List.length_drop] at this
      omega
    subst this
    rw [List.take_length, h1.val] at hv
    repeat' tb_rel
    refine iteD (fun h => ?_) (fun h => ?_)
    · repeat' tb_rel
      refine ⟨f ++ [cr], rfl, hlf.snoc hcr, ?_, by simp; omega⟩
      rw [val_snoc, hlen, hv]
    · repeat' tb_rel
      have e0 : cr = 0 := by omega
      subst e0
      rw [Int.mul_zero, Int.add_zero] at hv
      refine ⟨f, rfl, hlf, hv, top_of hB hlf fun hne => ?_⟩
      rw [hv, hlen]
      have q1 := h1.low hB (fun e => by subst e; simp at hlen; exact hne hlen)
      omega
  · exact ⟨0, [], d, by simp, by omega, by tb_start, by tb_start, by tb_start, by tb_start, by tb_start, Limbs.nil, rfl, hd, by simp [val]⟩
end
end Mine

namespace Mine
local macro_rules | `(tactic| tb_start) => `(tactic| first
  | with_reducible exact look_same
  | with_reducible exact look_froze
  | ((with_reducible refine' look_i ?nn); (case nn => omega))
  | ((with_reducible refine' look_ne ?nn ?tt); (case nn => decide +kernel); (case tt => tb_start))
  | ((with_reducible refine' look_froze_ne ?nn ?tt); (case nn => decide +kernel); (case tt => tb_start))
  | ((with_reducible refine' sig_set ?tt); (case tt => tb_start))
  | ((with_reducible refine' sig_freeze ?nn ?tt); (case nn => assumption); (case tt => tb_start))
  | ((with_reducible refine' upd_app ?nn); (case nn => first | rfl | omega))
  | ((with_reducible refine' upd_set ?n1 ?n2); (case n1 => first | rfl | omega); (case n2 => first | rfl | omega))
  | with_reducible exact upd_nil
  | with_reducible exact upd_same
  | ((with_reducible refine' upd_ne ?nn ?tt); (case nn => assumption); (case tt => tb_start))
  | assumption
  | exact rfl
  | fail "no look")
local macro_rules | `(tactic| tb_rel) => `(tactic| first
  | with_reducible refine' iteF ?_
  | with_reducible refine' iteT ?_
  | with_reducible refine' wS_nil ?_
  | with_reducible refine' wS_cons ?_
  | ((with_reducible refine' wX_retRef ?h1 ?h2 ?h ?hl ?hd); (case hl => exact rfl); (case hd => decide +kernel); (case h1 => tb_start); (case h2 => tb_start))
  | with_reducible refine' wX_return ?_
  | ((with_reducible refine' wX_assign ?h ?hl ?hs); (case hl => exact rfl); (case hs => (intros; exact rfl)))
  | ((with_reducible refine' wX_aug ?hv ?h ?hl); (case hl => exact rfl); (case hv => tb_start))
  | with_reducible refine' wX_if ?_
  | ((with_reducible refine' wX_append ?h ?h1 ?h2 ?h3 ?h4 ?h5); (case h1 => (intros; exact rfl)); (case h2 => exact rfl); (case h3 => (intros; exact rfl)); (case h4 => (intros; exact rfl)); (case h5 => (intros; exact rfl)))
  | ((with_reducible refine' wX_setitem ?h ?h1); (case h1 => (intros; exact rfl)))
  | ((with_reducible refine' wX_swap2 ?h ?h1 ?h2 ?h3 ?h4); (case h4 => (intros; exact rfl)); (case h1 => exact rfl); (case h2 => exact rfl); (case h3 => (intros; exact rfl)))
  | ((with_reducible refine' wX_swap3 ?h ?h1 ?h2 ?h5 ?h3 ?h4); (case h4 => (intros; exact rfl)); (case h1 => exact rfl); (case h2 => exact rfl); (case h5 => exact rfl); (case h3 => (intros; exact rfl)))
  | ((with_reducible refine' wX_unpack2 ?h ?h1 ?h2 ?h3 ?h4); (case h4 => (intros; exact rfl)); (case h1 => exact rfl); (case h2 => exact rfl); (case h3 => (intros; exact rfl)))
  | ((with_reducible refine' wX_unpack3 ?h ?h1 ?h2 ?h5 ?h3 ?h4); (case h4 => (intros; exact rfl)); (case h1 => exact rfl); (case h2 => exact rfl); (case h5 => exact rfl); (case h3 => (intros; exact rfl)))
  | ((with_reducible refine' wX_for ?h ?h1 ?h2); (case h1 => exact rfl); (case h2 => (intros; exact rfl)))
  | ((with_reducible refine' wI_rng ?h ?h1 ?h2 ?h3); (case h1 => exact rfl); (case h2 => (intro _; exact rfl)); (case h3 => (intro _; exact ⟨_, _, rfl, rfl⟩)))
  | with_reducible refine' wI_list ?_
  | with_reducible refine' wE_int ?_
  | with_reducible refine' wE_bool ?_
  | with_reducible refine' wE_none ?_
  | ((with_reducible refine' wE_local ?hv ?h ?hl ?hd); (case hl => exact rfl); (case hd => decide +kernel); (case hv => tb_start))
  | ((with_reducible refine' wE_fn ?h ?h1 ?h2 ?h3); (case h2 => exact rfl); (case h1 => decide +kernel); (case h3 => decide +kernel))
  | with_reducible refine' wE_binop ?_
  | ((with_reducible refine' wE_cmp ?h ?hm); (case hm => with_unfolding_all exact rfl))
  | with_reducible refine' wE_ifexp ?_
  | with_reducible refine' wE_unop ?_
  | with_reducible refine' wE_boolop_and ?_
  | with_reducible refine' wE_boolop_or ?_
  | with_reducible refine' wE_boolop_one ?_
  | with_reducible refine' wE_tuple ?_
  | ((with_reducible refine' wE_len ?h ?h1 ?h2 ?h3 ?h4); (case h1 => exact rfl); (case h2 => (intro _; exact rfl)); (case h3 => (intro _; exact ⟨_, _, rfl, rfl⟩)); (case h4 => (intro _; exact rfl)))
  | ((with_reducible refine' wE_abs ?h ?h1 ?h2 ?h3 ?h4); (case h1 => exact rfl); (case h2 => (intro _; exact rfl)); (case h3 => (intro _; exact ⟨_, _, rfl, rfl⟩)); (case h4 => (intro _; exact rfl)))
  | ((with_reducible refine' wE_min ?h ?h1 ?h2 ?h3); (case h1 => exact rfl); (case h2 => (intro _; exact rfl)); (case h3 => (intro _; exact ⟨_, _, rfl, rfl⟩)))
  | ((with_reducible refine' wE_def ?h ?h1 ?h2 ?h3 ?h4 ?h5); (case h1 => decide +kernel); (case h2 => exact rfl); (case h3 => decide +kernel); (case h4 => (intro _; exact rfl)); (case h5 => (intro _; exact ⟨_, _, rfl, rfl⟩)))
  | ((with_reducible refine' wE_bitlen ?h ?h1 ?h2); (case h1 => (intro _; exact rfl)); (case h2 => exact rfl))
  | ((with_reducible refine' wT_cmp ?h ?hm); (case hm => with_unfolding_all exact rfl))
  | ((with_reducible refine' wT_chain ?h ?hm); (case hm => with_unfolding_all exact rfl))
  | with_reducible refine' wT_not ?_
  | with_reducible refine' wT_and_nil ?_
  | with_reducible refine' wT_and ?_
  | with_reducible refine' wT_or_nil ?_
  | with_reducible refine' wT_or ?_
  | ((with_reducible refine' wT_plain ?h ?he); (case he => (intros; exact rfl)))
  | with_reducible refine' wA_nil ?_
  | ((with_reducible refine' wA_cons ?h ?hs); (case hs => (intro _; exact rfl)))
  | with_reducible refine' wP_none ?_
  | with_reducible refine' wP_some ?_
  | ((with_reducible refine' wE_sliceZ ?hx ?hsz ?h ?hl ?hd); (case hl => exact rfl); (case hd => decide +kernel); (case hx => tb_start); (case hsz => omega))
  | with_reducible refine' wE_sub ?_
  | ((with_reducible refine' b_len_z ?h1 ?h); (case h1 => omega))
  | ((with_reducible refine' b_len_zr ?h0 ?h1 ?h); (case h0 => tb_start); (case h1 => omega))
  | ((with_reducible refine' s_zN ?h1 ?h2 ?h ?hs); (case hs => (intro _ _; exact rfl)); (case h1 => omega); (case h2 => omega))
  | ((with_reducible refine' s_zrN ?ha ?h1 ?h2 ?h ?hs); (case hs => (intro _ _; exact rfl)); (case ha => tb_start); (case h1 => omega); (case h2 => omega))
  | ((with_reducible refine' s_z ?h0 ?h1 ?h2 ?h ?hs); (case hs => (intro _ _; exact rfl)); (case h0 => omega); (case h1 => omega); (case h2 => omega))
  | ((with_reducible refine' s_zr ?ha ?h0 ?h1 ?h2 ?h ?hs); (case hs => (intro _ _; exact rfl)); (case ha => tb_start); (case h0 => omega); (case h1 => omega); (case h2 => omega))
  | ((with_reducible refine' o_shl1 ?h1 ?h); (case h1 => omega))
  | with_reducible refine' o_shr ?_
  | with_reducible refine' i_shr ?_
  | with_reducible refine' o_mask ?_
  | ((with_reducible refine' o_pow2 ?h1 ?h); (case h1 => omega))
  | ((with_reducible refine' o_divN ?h1 ?h2 ?h); (case h1 => omega); (case h2 => omega))
  | ((with_reducible refine' o_mdN ?h1 ?h); (case h1 => omega))
  | ((with_reducible refine' o_div ?h1 ?h2 ?h); (case h1 => omega); (case h2 => omega))
  | ((with_reducible refine' o_md ?h1 ?h); (case h1 => omega))
  | ((with_reducible refine' i_md ?h1 ?h); (case h1 => omega))
  | ((with_reducible refine' o_shl ?h1 ?h2 ?h); (case h1 => omega); (case h2 => omega))
  | ((with_reducible refine' o_orL ?h1 ?h2 ?h3 ?h); (case h1 => omega); (case h2 => omega); (case h3 => omega))
  | ((with_reducible refine' o_orR ?h1 ?h2 ?h3 ?h); (case h1 => omega); (case h2 => omega); (case h3 => omega))
  | ((with_reducible refine' i_orR ?h1 ?h2 ?h3 ?h); (case h1 => omega); (case h2 => omega); (case h3 => omega))
  | with_reducible refine' o_add ?_
  | with_reducible refine' o_sub ?_
  | with_reducible refine' i_add ?_
  | with_reducible refine' i_sub ?_
  | with_reducible refine' o_neg ?_
  | with_reducible refine' c_eq ?_
  | with_reducible refine' c_ne ?_
  | with_reducible refine' c_lt ?_
  | with_reducible refine' c_le ?_
  | with_reducible refine' c_gt ?_
  | with_reducible refine' c_ge ?_
  | with_reducible refine' c_eqb ?_
  | with_reducible refine' exTB ?_
  | with_reducible refine' exTI ?_
  | with_reducible refine' exI ?_
  | with_reducible refine' exL ?_
  | with_reducible refine' exT2 ?_
  | with_reducible refine' exT3 ?_
  | with_reducible refine' exR ?_
  | with_reducible refine' andLit ?_
  | with_reducible refine' andSt ?_
  | ((with_reducible refine' andLen ?h1 ?h); (case h1 => (simp; done)))
  | ((with_reducible refine' exRng1 ?h1 ?h); (case h1 => (unfold Fit; omega)))
  | ((with_reducible refine' exRng2 ?h1 ?h2 ?h); (case h1 => (unfold Fit; omega)); (case h2 => (unfold Fit; omega)))
  | ((with_reducible refine' exRngD ?he ?h1 ?h2 ?h); (case he => omega); (case h1 => (unfold Fit; omega)); (case h2 => (unfold Fit; omega)))
  | ((with_reducible refine' exApp ?h1 ?h); (case h1 => tb_start))
  | ((with_reducible refine' exAppZ ?h1 ?h2 ?h); (case h1 => tb_start); (case h2 => omega))
  | ((with_reducible refine' exSetZ ?h1 ?h2 ?h3 ?h4 ?h); (case h1 => tb_start); (case h2 => omega); (case h3 => ((try simp only [List.length_set, List.length_replicate, List.length_append, List.length_cons, List.length_nil]); omega)); (case h4 => ((try simp only [List.length_set, List.length_replicate, List.length_append, List.length_cons, List.length_nil]); omega)))
  | with_reducible refine' wE_listOf ?_
  | with_reducible refine' andNext ?_
  | fail "no step")

section
variable {g : G PP}
theorem drop_step (B : Int) {l : List Int} {i : Nat} (h : i < l.length) : val B (l.drop i) = l.getD i 0 + B * val B (l.drop (i + 1)) := by
  rw [List.drop_eq_getElem_cons h]
  simp only [val]
  rw [List.getD_eq_getElem?_getD, List.getElem?_eq_getElem h]
  rfl
theorem pow_le30 {w : Nat} (hw : w ≤ 30) : (2 : Int) ^ w ≤ 1073741824 := by
  have := pow_mono' (B := 2) (by decide) hw
  rw [show (2 : Int) ^ 30 = 1073741824 by decide] at this
  exact this

theorem t_divrem_limb (w : Nat) (hw : 1 ≤ w ∧ w ≤ 29) (l : List Int) (n d : Int) (hl : l.length ≤ 2 ^ 20) (h1 : Can (2 ^ w) l n) (hd : 1 ≤ d ∧ d < 2 ^ w) :
    GCall g (g.fa "divrem_limb") 2 [.list (zints l), .int d, .int w] (fun _ => none) (fun x _ => ∃ q, x = .tup [q, .int (n % d)] ∧ IsNat w q (n / d)) := by
  have hB := one_lt_pow hw.1
  have hB30 := pow_le30 (w := w) (by omega)
  refine' gcall (d := dOf 6) (dOf_mem 6 (by decide)) (hbody := ?enB) (hscope := ?enS) (hparams := ?enP) (hname := rfl) (names := ["a", "limb", "w"]) (hk := ?enK) (hbind := ?enI) (hloc := ?enL) (h := ?enH) (hco := ?enC) (hgen := ?enG) (hcell := ?enE)
  case enB => (conv => lhs; whnf)
  case enS => (conv => lhs; whnf)
  case enP => (conv => lhs; whnf)
  case enK => rfl
  case enI => (intro pm code doc vs h; match vs, h with | [v0, v1, v2], _ => rfl)
  case enL => decide +kernel
  case enC => rfl
  case enG => rfl
  case enE => decide +kernel
  repeat' tb_rel
  refine iteEq (fun h => absurd h (by omega)) (fun h => ?_)
  repeat' tb_rel
  refine o_repMN (by omega) fun ad had => ?_
  repeat' tb_rel
  refine loop_inv (fun vs S => ∃ (i : Nat) (f : List Int) (rs : Int), vs = downFrom ((i : Int) - 1) i ∧ i ≤ l.length ∧ S.m "a" = some (.list (zints l)) ∧ S.m "w" = some (.int w) ∧ S.m "limb" = some (.int d) ∧
      S.m "found" = some (.ref ad) ∧ S.m "rest" = some (.int rs) ∧ S.σ ad = some (zints f) ∧ Limbs (2 ^ w) f ∧ f.length = l.length ∧ rs = val (2 ^ w) (l.drop i) % d ∧ val (2 ^ w) (f.drop i) = val (2 ^ w) (l.drop i) / d) ?_ ?_ ?_
  · rintro v vs S ⟨i, f, rs, hvs, hi, ha, hww, hm, hf, hc, hs, hlf, hlen, hrs, hv⟩
    obtain ⟨j, rfl, rfl, rfl⟩ := downFrom_cons hvs
    have ej : ((j + 1 : Nat) : Int) - 1 = (j : Int) := by omega
    rw [ej]
    have bx := getD_limb (by omega) h1.limbs j
    have br : 0 ≤ rs ∧ rs < d := by rw [hrs]; exact mod_limb (by omega)
    repeat' tb_rel
    try simp only [Int.toNat_natCast]
    have hV := drop_step (2 ^ w) (l := l) (i := j) (by omega)
    generalize hVd : val (2 ^ w) (l.drop (j + 1)) = Vn at *
    have hdm := Int.mul_ediv_add_emod Vn d
    have e1 : val (2 ^ w) (l.drop j) = (rs * 2 ^ w + l.getD j 0) + d * (2 ^ w * (Vn / d)) := by
      rw [hV, hrs]
      have : (2 : Int) ^ w * Vn = 2 ^ w * (d * (Vn / d)) + 2 ^ w * (Vn % d) := by rw [← Int.mul_add, hdm]
      rw [this, Int.mul_comm (Vn % d), Int.mul_left_comm]
      omega
    have e2 : val (2 ^ w) (l.drop j) / d = (rs * 2 ^ w + l.getD j 0) / d + 2 ^ w * (Vn / d) := by
      rw [e1, Int.add_mul_ediv_left _ _ (by omega)]
    have e3 : val (2 ^ w) (l.drop j) % d = (rs * 2 ^ w + l.getD j 0) % d := by
      rw [e1, Int.add_mul_emod_self_left]
    have bq : 0 ≤ (rs * 2 ^ w + l.getD j 0) / d ∧ (rs * 2 ^ w + l.getD j 0) / d < 2 ^ w := by
      have h0 : 0 ≤ rs * 2 ^ w := Int.mul_nonneg br.1 (by omega)
      refine ⟨Int.ediv_nonneg (by omega) (by omega), Int.ediv_lt_of_lt_mul (by omega) ?_⟩
      have : (rs + 1) * 2 ^ w ≤ d * 2 ^ w := Int.mul_le_mul_of_nonneg_right (by omega) (by omega)
      rw [Int.add_mul, Int.one_mul] at this
      rw [Int.mul_comm (2 ^ w) d]
      omega
    refine ⟨j, f.set j ((rs * 2 ^ w + l.getD j 0) / d), (rs * 2 ^ w + l.getD j 0) % d, by congr 1 <;> omega, by omega, by tb_start, by tb_start, by tb_start, by tb_start, by tb_start, by tb_start, hlf.set _ bq, by simp [hlen], e3.symm, ?_⟩
    rw [e2, drop_step (2 ^ w) (by simp; omega)]
    have g1 : (f.set j ((rs * 2 ^ w + l.getD j 0) / d)).getD j 0 = (rs * 2 ^ w + l.getD j 0) / d := by
      rw [List.getD_eq_getElem?_getD, List.getElem?_set_self (by omega)]; rfl
    have g2 : (f.set j ((rs * 2 ^ w + l.getD j 0) / d)).drop (j + 1) = f.drop (j + 1) := by
      rw [List.drop_set_of_lt (by omega)]
    rw [g1, g2, hv]
  · rintro S ⟨i, f, rs, hvs, hi, ha, hww, hm, hf, hc, hs, hlf, hlen, hrs, hv⟩
    have : i = 0 := downFrom_nil hvs
    subst this
    simp only [List.drop_zero] at hrs hv
    rw [h1.val] at hrs hv
    refine w_freeze "found" hf hs ?_
    repeat' tb_rel
    refine op_pure (t_normal f (by omega)) (by decide) fun x hx => ?_
    subst hx
    repeat' tb_rel
    have := normL_can (by omega) hlf
    rw [hv] at this
    exact ⟨_, by rw [hrs], _, rfl, this⟩
  · refine ⟨l.length, List.replicate l.length 0, 0, by congr 1; omega, by omega, by tb_start, by tb_start, by tb_start, by tb_start, by tb_start, by tb_start, Limbs.replicate (by omega) _, by simp, ?_, ?_⟩
    · rw [List.drop_length]; simp [val]
    · rw [List.drop_length, List.drop_eq_nil_of_le (by simp)]; simp [val]

theorem t_bits (w : Nat) (hw : 1 ≤ w ∧ w ≤ 29) (x : Int) : GCall g (g.fa "bits") 1 [.list (zints [x]), .int w] (fun _ => none) (fun v _ => v = .int (Builtin.Int.intBits x)) := by
  refine' gcall (d := dOf 9) (dOf_mem 9 (by decide)) (hbody := ?enB) (hscope := ?enS) (hparams := ?enP) (hname := rfl) (names := ["a", "w"]) (hk := ?enK) (hbind := ?enI) (hloc := ?enL) (h := ?enH) (hco := ?enC) (hgen := ?enG) (hcell := ?enE)
  case enB => (conv => lhs; whnf)
  case enS => (conv => lhs; whnf)
  case enP => (conv => lhs; whnf)
  case enK => rfl
  case enI => (intro pm code doc vs h; match vs, h with | [v0, v1], _ => rfl)
  case enL => decide +kernel
  case enC => rfl
  case enG => rfl
  case enE => decide +kernel
  repeat' tb_rel
  refine b_len_z (by simp) ?_
  repeat' tb_rel
  refine iteD (fun h => ?_) (fun h => absurd (show (0:Int) < ([x].length : Nat) by simp) h)
  repeat' tb_rel
  refine b_len_z (by simp) ?_
  repeat' tb_rel
  refine o_mulS (by simp) ?_
  repeat' tb_rel
  refine s_list (x := .int x) (by rfl) (by simp [zints]) (by simp [zints]) ?_
  repeat' tb_rel
  simp
end
end Mine

namespace Mine
section
variable {p : Program} {g : G p} {c : Cx} {S : St}
theorem wE_sliceAll {x : Str} {px pp pos : Pos} {l : List Int} {Q : V → St → Prop} (hx : S.m x = some (.list (zints l))) (hsz : l.length ≤ 2 ^ 24) (h : Q (.list (zints l)) S)
    (hl : c.scope.names.lookup x = some .local := by rfl) (hd : (x == ("__debug__" : Str)) = false := by decide) :
    WE g c (.Subscript (.Name x px) (.Slice none none none pp) pos) S Q := wE_sliceZ hx hsz (wP_none (wP_none ⟨rfl, by rw [pick_all]; exact h⟩)) hl hd
theorem wE_sliceTo {x : Str} {px pp pos : Pos} {e : Expr} {l : List Int} {Q : V → St → Prop} (hx : S.m x = some (.list (zints l))) (hsz : l.length ≤ 2 ^ 24)
    (h : WE g c e S (fun v S' => ∃ k : Nat, v = .int k ∧ S' = S ∧ Q (.list (zints (l.take k))) S))
    (hl : c.scope.names.lookup x = some .local := by rfl) (hd : (x == ("__debug__" : Str)) = false := by decide) :
    WE g c (.Subscript (.Name x px) (.Slice none (some e) none pp) pos) S Q :=
  wE_sliceZ hx hsz (wP_none (wP_some (h.mono fun v S' hh => by
    obtain ⟨k, rfl, rfl, hq⟩ := hh
    exact ⟨k, rfl, rfl, by rw [pick_to _ _ (by omega), zints_take]; simpa using hq⟩))) hl hd
theorem exNat {k : Nat} {Q : Nat → Prop} (h : Q k) : ∃ j : Nat, V.int (k : Int) = .int j ∧ Q j := ⟨k, rfl, h⟩
theorem o_catZ {l : List Int} {x : Int} {Q : V → St → Prop} (hsz : l.length + 1 ≤ 2 ^ 24) (h : Q (.list (zints (l ++ [x]))) S) : Op2 g c Rep (binaryOp .Add) (.list (zints l)) (.list [.int x]) S Q :=
  o_catF (by rw [zints_length]; exact hsz) (by rw [zints_append] at h; exact h)
end
theorem pow_pow (w k : Nat) : ((2 : Int) ^ w) ^ k = 2 ^ (w * k) := Int.pow_mul.symm
theorem zints_cons {v : V} {vs : List V} {l : List Int} {i : Nat} (h : v :: vs = zints (l.drop i)) : i < l.length ∧ v = .int (l.getD i 0) ∧ vs = zints (l.drop (i + 1)) := by
  have hil : i < l.length := by
    apply Nat.lt_of_not_le
    intro hle
    rw [List.drop_eq_nil_of_le hle] at h; cases h
  have hx := getD_get hil
  rw [List.drop_eq_getElem_cons hil] at h
  refine ⟨hil, ?_, (List.cons.inj h).2⟩
  rw [List.getElem?_eq_getElem hil] at hx
  rw [← Option.some.inj hx]
  exact (List.cons.inj h).1
theorem zints_nil {l : List Int} {i : Nat} (h : [] = zints (l.drop i)) : l.length ≤ i := by
  have : (zints (l.drop i)).length = 0 := by rw [← h]; rfl
  rw [zints_length, List.length_drop] at this
  omega
theorem ediv_ediv_pos {a b c : Int} (hb : 0 < b) (hc : 0 < c) : a / b / c = a / (b * c) := by
  rw [Int.ediv_ediv_of_nonneg (by omega)]
/-- a number and its limbs from a place on -/
theorem val_drop_div {B : Int} (hB : 1 < B) {l : List Int} (h : Limbs B l) (k : Nat) : val B (l.drop k) = val B l / B ^ k := by
  have hp := pow_pos' (B := B) (by omega) k
  by_cases hk : k ≤ l.length
  · have e := val_take_drop B l k hk
    have a := val_nonneg (by omega) (h.take k)
    have b := val_lt (by omega) (h.take k)
    rw [List.length_take, Nat.min_eq_left hk] at b
    rw [e, Int.add_mul_ediv_left _ _ (by omega), Int.ediv_eq_zero_of_lt a b, Int.zero_add]
  · rw [List.drop_eq_nil_of_le (by omega)]
    have a := val_nonneg (by omega) h
    have b := val_lt (by omega) h
    have := pow_mono' hB (show l.length ≤ k by omega)
    rw [Int.ediv_eq_zero_of_lt a (by omega)]; rfl
end Mine

namespace Mine
local macro_rules | `(tactic| tb_start) => `(tactic| first
  | with_reducible exact look_same
  | with_reducible exact look_froze
  | ((with_reducible refine' look_i ?nn); (case nn => omega))
  | ((with_reducible refine' look_ne ?nn ?tt); (case nn => decide +kernel); (case tt => tb_start))
  | ((with_reducible refine' look_froze_ne ?nn ?tt); (case nn => decide +kernel); (case tt => tb_start))
  | ((with_reducible refine' sig_set ?tt); (case tt => tb_start))
  | ((with_reducible refine' sig_freeze ?nn ?tt); (case nn => assumption); (case tt => tb_start))
  | ((with_reducible refine' upd_app ?nn); (case nn => first | rfl | omega))
  | ((with_reducible refine' upd_set ?n1 ?n2); (case n1 => first | rfl | omega); (case n2 => first | rfl | omega))
  | with_reducible exact upd_nil
  | with_reducible exact upd_same
  | ((with_reducible refine' upd_ne ?nn ?tt); (case nn => assumption); (case tt => tb_start))
  | assumption
  | exact rfl
  | fail "no look")
local macro_rules | `(tactic| tb_rel) => `(tactic| first
  | with_reducible refine' iteF ?_
  | with_reducible refine' iteT ?_
  | with_reducible refine' wS_nil ?_
  | with_reducible refine' wS_cons ?_
  | ((with_reducible refine' wX_retRef ?h1 ?h2 ?h ?hl ?hd); (case hl => exact rfl); (case hd => decide +kernel); (case h1 => tb_start); (case h2 => tb_start))
  | with_reducible refine' wX_return ?_
  | ((with_reducible refine' wX_assign ?h ?hl ?hs); (case hl => exact rfl); (case hs => (intros; exact rfl)))
  | ((with_reducible refine' wX_aug ?hv ?h ?hl); (case hl => exact rfl); (case hv => tb_start))
  | with_reducible refine' wX_if ?_
  | ((with_reducible refine' wX_append ?h ?h1 ?h2 ?h3 ?h4 ?h5); (case h1 => (intros; exact rfl)); (case h2 => exact rfl); (case h3 => (intros; exact rfl)); (case h4 => (intros; exact rfl)); (case h5 => (intros; exact rfl)))
  | ((with_reducible refine' wX_setitem ?h ?h1); (case h1 => (intros; exact rfl)))
  | ((with_reducible refine' wX_swap2 ?h ?h1 ?h2 ?h3 ?h4); (case h4 => (intros; exact rfl)); (case h1 => exact rfl); (case h2 => exact rfl); (case h3 => (intros; exact rfl)))
  | ((with_reducible refine' wX_swap3 ?h ?h1 ?h2 ?h5 ?h3 ?h4); (case h4 => (intros; exact rfl)); (case h1 => exact rfl); (case h2 => exact rfl); (case h5 => exact rfl); (case h3 => (intros; exact rfl)))
  | ((with_reducible refine' wX_unpack2 ?h ?h1 ?h2 ?h3 ?h4); (case h4 => (intros; exact rfl)); (case h1 => exact rfl); (case h2 => exact rfl); (case h3 => (intros; exact rfl)))
  | ((with_reducible refine' wX_unpack3 ?h ?h1 ?h2 ?h5 ?h3 ?h4); (case h4 => (intros; exact rfl)); (case h1 => exact rfl); (case h2 => exact rfl); (case h5 => exact rfl); (case h3 => (intros; exact rfl)))
  | ((with_reducible refine' wX_for ?h ?h1 ?h2); (case h1 => exact rfl); (case h2 => (intros; exact rfl)))
  | ((with_reducible refine' wI_rng ?h ?h1 ?h2 ?h3); (case h1 => exact rfl); (case h2 => (intro _; exact rfl)); (case h3 => (intro _; exact ⟨_, _, rfl, rfl⟩)))
  | with_reducible refine' wI_list ?_
  | with_reducible refine' wE_int ?_
  | with_reducible refine' wE_bool ?_
  | with_reducible refine' wE_none ?_
  | ((with_reducible refine' wE_local ?hv ?h ?hl ?hd); (case hl => exact rfl); (case hd => decide +kernel); (case hv => tb_start))
  | ((with_reducible refine' wE_fn ?h ?h1 ?h2 ?h3); (case h2 => exact rfl); (case h1 => decide +kernel); (case h3 => decide +kernel))
  | with_reducible refine' wE_binop ?_
  | ((with_reducible refine' wE_cmp ?h ?hm); (case hm => with_unfolding_all exact rfl))
  | with_reducible refine' wE_ifexp ?_
  | with_reducible refine' wE_unop ?_
  | with_reducible refine' wE_boolop_and ?_
  | with_reducible refine' wE_boolop_or ?_
  | with_reducible refine' wE_boolop_one ?_
  | with_reducible refine' wE_tuple ?_
  | ((with_reducible refine' wE_len ?h ?h1 ?h2 ?h3 ?h4); (case h1 => exact rfl); (case h2 => (intro _; exact rfl)); (case h3 => (intro _; exact ⟨_, _, rfl, rfl⟩)); (case h4 => (intro _; exact rfl)))
  | ((with_reducible refine' wE_abs ?h ?h1 ?h2 ?h3 ?h4); (case h1 => exact rfl); (case h2 => (intro _; exact rfl)); (case h3 => (intro _; exact ⟨_, _, rfl, rfl⟩)); (case h4 => (intro _; exact rfl)))
  | ((with_reducible refine' wE_min ?h ?h1 ?h2 ?h3); (case h1 => exact rfl); (case h2 => (intro _; exact rfl)); (case h3 => (intro _; exact ⟨_, _, rfl, rfl⟩)))
  | ((with_reducible refine' wE_def ?h ?h1 ?h2 ?h3 ?h4 ?h5); (case h1 => decide +kernel); (case h2 => exact rfl); (case h3 => decide +kernel); (case h4 => (intro _; exact rfl)); (case h5 => (intro _; exact ⟨_, _, rfl, rfl⟩)))
  | ((with_reducible refine' wE_bitlen ?h ?h1 ?h2); (case h1 => (intro _; exact rfl)); (case h2 => exact rfl))
  | ((with_reducible refine' wT_cmp ?h ?hm); (case hm => with_unfolding_all exact rfl))
  | ((with_reducible refine' wT_chain ?h ?hm); (case hm => with_unfolding_all exact rfl))
  | with_reducible refine' wT_not ?_
  | with_reducible refine' wT_and_nil ?_
  | with_reducible refine' wT_and ?_
  | with_reducible refine' wT_or_nil ?_
  | with_reducible refine' wT_or ?_
  | ((with_reducible refine' wT_plain ?h ?he); (case he => (intros; exact rfl)))
  | with_reducible refine' wA_nil ?_
  | ((with_reducible refine' wA_cons ?h ?hs); (case hs => (intro _; exact rfl)))
  | with_reducible refine' wP_none ?_
  | with_reducible refine' wP_some ?_
  | ((with_reducible refine' wE_sliceAll ?hx ?hsz ?h ?hl ?hd); (case hl => exact rfl); (case hd => decide +kernel); (case hx => tb_start); (case hsz => omega))
  | ((with_reducible refine' wE_sliceTo ?hx ?hsz ?h ?hl ?hd); (case hl => exact rfl); (case hd => decide +kernel); (case hx => tb_start); (case hsz => omega))
  | ((with_reducible refine' wE_sliceZ ?hx ?hsz ?h ?hl ?hd); (case hl => exact rfl); (case hd => decide +kernel); (case hx => tb_start); (case hsz => omega))
  | with_reducible refine' wE_sub ?_
  | ((with_reducible refine' b_len_z ?h1 ?h); (case h1 => omega))
  | ((with_reducible refine' b_len_zr ?h0 ?h1 ?h); (case h0 => tb_start); (case h1 => omega))
  | ((with_reducible refine' s_zN ?h1 ?h2 ?h ?hs); (case hs => (intro _ _; exact rfl)); (case h1 => omega); (case h2 => omega))
  | ((with_reducible refine' s_zrN ?ha ?h1 ?h2 ?h ?hs); (case hs => (intro _ _; exact rfl)); (case ha => tb_start); (case h1 => omega); (case h2 => omega))
  | ((with_reducible refine' s_z ?h0 ?h1 ?h2 ?h ?hs); (case hs => (intro _ _; exact rfl)); (case h0 => omega); (case h1 => omega); (case h2 => omega))
  | ((with_reducible refine' s_zr ?ha ?h0 ?h1 ?h2 ?h ?hs); (case hs => (intro _ _; exact rfl)); (case ha => tb_start); (case h0 => omega); (case h1 => omega); (case h2 => omega))
  | ((with_reducible refine' o_shl1 ?h1 ?h); (case h1 => omega))
  | with_reducible refine' o_shr ?_
  | with_reducible refine' i_shr ?_
  | with_reducible refine' o_mask ?_
  | ((with_reducible refine' o_pow2 ?h1 ?h); (case h1 => omega))
  | ((with_reducible refine' o_divN ?h1 ?h2 ?h); (case h1 => omega); (case h2 => omega))
  | ((with_reducible refine' o_mdN ?h1 ?h); (case h1 => omega))
  | ((with_reducible refine' o_div ?h1 ?h2 ?h); (case h1 => omega); (case h2 => omega))
  | ((with_reducible refine' o_md ?h1 ?h); (case h1 => omega))
  | ((with_reducible refine' i_md ?h1 ?h); (case h1 => omega))
  | ((with_reducible refine' o_shl ?h1 ?h2 ?h); (case h1 => omega); (case h2 => omega))
  | ((with_reducible refine' o_orL ?h1 ?h2 ?h3 ?h); (case h1 => omega); (case h2 => omega); (case h3 => omega))
  | ((with_reducible refine' o_orR ?h1 ?h2 ?h3 ?h); (case h1 => omega); (case h2 => omega); (case h3 => omega))
  | ((with_reducible refine' i_orR ?h1 ?h2 ?h3 ?h); (case h1 => omega); (case h2 => omega); (case h3 => omega))
  | with_reducible refine' o_add ?_
  | ((with_reducible refine' o_subN ?h1 ?h); (case h1 => omega))
  | with_reducible refine' o_sub ?_
  | with_reducible refine' i_add ?_
  | with_reducible refine' i_sub ?_
  | with_reducible refine' o_neg ?_
  | with_reducible refine' c_eq ?_
  | with_reducible refine' c_ne ?_
  | with_reducible refine' c_lt ?_
  | with_reducible refine' c_le ?_
  | with_reducible refine' c_gt ?_
  | with_reducible refine' c_ge ?_
  | with_reducible refine' c_eqb ?_
  | with_reducible refine' exTB ?_
  | with_reducible refine' exTI ?_
  | with_reducible refine' exI ?_
  | with_reducible refine' exNat ?_
  | with_reducible refine' exL ?_
  | with_reducible refine' exT2 ?_
  | with_reducible refine' exT3 ?_
  | with_reducible refine' exR ?_
  | with_reducible refine' andLit ?_
  | with_reducible refine' andSt ?_
  | ((with_reducible refine' andLen ?h1 ?h); (case h1 => (simp; done)))
  | ((with_reducible refine' exRng1 ?h1 ?h); (case h1 => (unfold Fit; omega)))
  | ((with_reducible refine' exRng2 ?h1 ?h2 ?h); (case h1 => (unfold Fit; omega)); (case h2 => (unfold Fit; omega)))
  | ((with_reducible refine' exRngD ?he ?h1 ?h2 ?h); (case he => omega); (case h1 => (unfold Fit; omega)); (case h2 => (unfold Fit; omega)))
  | ((with_reducible refine' exApp ?h1 ?h); (case h1 => tb_start))
  | ((with_reducible refine' exAppZ ?h1 ?h2 ?h); (case h1 => tb_start); (case h2 => omega))
  | ((with_reducible refine' exSetZ ?h1 ?h2 ?h3 ?h4 ?h); (case h1 => tb_start); (case h2 => omega); (case h3 => ((try simp only [List.length_set, List.length_replicate, List.length_append, List.length_cons, List.length_nil]); omega)); (case h4 => ((try simp only [List.length_set, List.length_replicate, List.length_append, List.length_cons, List.length_nil]); omega)))
  | with_reducible refine' wE_listOf ?_
  | with_reducible refine' andNext ?_
  | fail "no step")

section
variable {g : G PP}
theorem t_shift_left (w : Nat) (hw : 1 ≤ w ∧ w ≤ 29) (l : List Int) (n : Int) (s : Nat) (hl : l.length ≤ 2 ^ 20) (hs : s ≤ 1000) (h1 : Can (2 ^ w) l n) :
    GCall g (g.fa "shift_left") 1 [.list (zints l), .int s, .int w] (fun _ => none) (fun x _ => IsNat w x (n * 2 ^ s)) := by
  have hB := one_lt_pow hw.1
  have hB30 := pow_le30 (w := w) (by omega)
  refine' gcall (d := dOf 7) (dOf_mem 7 (by decide)) (hbody := ?enB) (hscope := ?enS) (hparams := ?enP) (hname := rfl) (names := ["a", "n", "w"]) (hk := ?enK) (hbind := ?enI) (hloc := ?enL) (h := ?enH) (hco := ?enC) (hgen := ?enG) (hcell := ?enE)
  case enB => (conv => lhs; whnf)
  case enS => (conv => lhs; whnf)
  case enP => (conv => lhs; whnf)
  case enK => rfl
  case enI => (intro pm code doc vs h; match vs, h with | [v0, v1, v2], _ => rfl)
  case enL => decide +kernel
  case enC => rfl
  case enG => rfl
  case enE => decide +kernel
  repeat' tb_rel
  refine iteEq (fun h => ?_) (fun h => ?_)
  · repeat' tb_rel
    refine wE_listEmp ?_
    repeat' tb_rel
    have : l = [] := List.length_eq_zero_iff.mp (by omega)
    subst this
    have : n = 0 := h1.val.symm
    subst this
    exact ⟨[], rfl, by rw [Int.zero_mul]; exact Can.nil⟩
  · repeat' tb_rel
    refine o_repMN (by have := Nat.div_le_self s w; omega) fun ad had => ?_
    repeat' tb_rel
    have hfew : s % w < w := Nat.mod_lt _ (by omega)
    generalize hsp : s / w = sp at *
    generalize hfe : s % w = fe at *
    have hspl : sp ≤ 1000 := by have := Nat.div_le_self s w; omega
    have hsum : s = w * sp + fe := by rw [← hsp, ← hfe]; exact (Nat.div_add_mod s w).symm
    have hfp := pow2_nonneg fe
    have hfp1 : (0 : Int) < 2 ^ fe := Int.pow_pos (by decide)
    refine loop_inv (fun vs S => ∃ (i : Nat) (f : List Int) (cr : Int), vs = zints (l.drop i) ∧ i ≤ l.length ∧ S.m "few" = some (.int fe) ∧ S.m "w" = some (.int w) ∧ S.m "mask" = some (.int (2 ^ w - 1)) ∧
        S.m "found" = some (.ref ad) ∧ S.m "carry" = some (.int cr) ∧ S.σ ad = some (zints f) ∧ Limbs (2 ^ w) f ∧ f.length = sp + i ∧ (0 ≤ cr ∧ cr < 2 ^ fe) ∧ val (2 ^ w) f + (2 ^ w) ^ (sp + i) * cr = (2 ^ w) ^ sp * (val (2 ^ w) (l.take i) * 2 ^ fe)) ?_ ?_ ?_
    · rintro v vs S ⟨i, f, cr, hvs, hi, hfw, hww, hm, hf, hc, hs', hlf, hlen, hcr, hv⟩
      obtain ⟨hil, rfl, rfl⟩ := zints_cons hvs
      have bx := getD_limb (by omega) h1.limbs i
      repeat' tb_rel
      have hc0 : 0 ≤ l.getD i 0 * 2 ^ fe := Int.mul_nonneg bx.1 hfp
      have hc1 : cr + l.getD i 0 * 2 ^ fe < 2 ^ w * 2 ^ fe := by
        have : (l.getD i 0 + 1) * 2 ^ fe ≤ 2 ^ w * 2 ^ fe := Int.mul_le_mul_of_nonneg_right (by omega) hfp
        rw [Int.add_mul, Int.one_mul] at this
        omega
      refine ⟨i + 1, f ++ [(cr + l.getD i 0 * 2 ^ fe) % 2 ^ w], (cr + l.getD i 0 * 2 ^ fe) / 2 ^ w, rfl, by omega, by tb_start, by tb_start, by tb_start, by tb_start, by tb_start, by tb_start, hlf.snoc (mod_limb (by omega)), by simp [hlen]; omega, ⟨Int.ediv_nonneg (by omega) (by omega), Int.ediv_lt_of_lt_mul (by omega) (by rw [Int.mul_comm (2 ^ fe) (2 ^ w)]; exact hc1)⟩, ?_⟩
      rw [show sp + (i + 1) = (sp + i) + 1 by omega, carry_step hlen, val_take_succ', Int.mul_add, Int.add_mul, Int.mul_add, Int.pow_add]
      rw [Int.pow_add] at hv
      rw [← Int.add_assoc, hv]
      simp only [Int.mul_assoc]
    · rintro S ⟨i, f, cr, hvs, hi, hfw, hww, hm, hf, hc, hs', hlf, hlen, hcr, hv⟩
      have : i = l.length := by have := zints_nil hvs; omega
      subst this
      rw [List.take_length, h1.val] at hv
      have hgoal : n * 2 ^ s = (2 ^ w) ^ sp * (n * 2 ^ fe) := by
        rw [hsum, Int.pow_add, ← pow_pow, Int.mul_left_comm]
      rw [hgoal]
      have hpw : (2 : Int) ^ fe ≤ 2 ^ w := pow_mono' (by decide) (by omega)
      repeat' tb_rel
      refine iteD (fun h => ?_) (fun h => ?_)
      · repeat' tb_rel
        refine ⟨f ++ [cr], rfl, hlf.snoc (by omega), ?_, by simp; omega⟩
        rw [val_snoc, hlen, hv]
      · repeat' tb_rel
        have e0 : cr = 0 := by omega
        subst e0
        rw [Int.mul_zero, Int.add_zero] at hv
        refine ⟨f, rfl, hlf, hv, top_of hB hlf fun hne => ?_⟩
        rw [hv, hlen]
        have hlne : l ≠ [] := fun e => by subst e; exact h rfl
        have q1 := h1.low hB hlne
        have q2 : sp + l.length - 1 = sp + (l.length - 1) := by
          have : l.length ≠ 0 := fun e => hlne (List.length_eq_zero_iff.mp e)
          omega
        rw [q2, Int.pow_add]
        refine Int.mul_le_mul_of_nonneg_left ?_ (Int.le_of_lt (pow_pos' (by omega) sp))
        have q3 := h1.nonneg (by omega)
        have : n * 1 ≤ n * 2 ^ fe := Int.mul_le_mul_of_nonneg_left (by omega) q3
        omega
    · refine ⟨0, List.replicate sp 0, 0, by simp, by omega, by tb_start, by tb_start, by tb_start, by tb_start, by tb_start, by tb_start, Limbs.replicate (by omega) _, by simp, by omega, ?_⟩
      rw [val_replicate]; simp [val]
end
end Mine

namespace Mine
local macro_rules | `(tactic| tb_start) => `(tactic| first
  | with_reducible exact look_same
  | with_reducible exact look_froze
  | ((with_reducible refine' look_i ?nn); (case nn => omega))
  | ((with_reducible refine' look_ne ?nn ?tt); (case nn => decide +kernel); (case tt => tb_start))
  | ((with_reducible refine' look_froze_ne ?nn ?tt); (case nn => decide +kernel); (case tt => tb_start))
  | ((with_reducible refine' sig_set ?tt); (case tt => tb_start))
  | ((with_reducible refine' sig_freeze ?nn ?tt); (case nn => assumption); (case tt => tb_start))
  | ((with_reducible refine' upd_app ?nn); (case nn => first | rfl | omega))
  | ((with_reducible refine' upd_set ?n1 ?n2); (case n1 => first | rfl | omega); (case n2 => first | rfl | omega))
  | with_reducible exact upd_nil
  | with_reducible exact upd_same
  | ((with_reducible refine' upd_ne ?nn ?tt); (case nn => assumption); (case tt => tb_start))
  | assumption
  | exact rfl
  | fail "no look")
local macro_rules | `(tactic| tb_rel) => `(tactic| first
  | with_reducible refine' iteF ?_
  | with_reducible refine' iteT ?_
  | with_reducible refine' wS_nil ?_
  | with_reducible refine' wS_cons ?_
  | ((with_reducible refine' wX_retRef ?h1 ?h2 ?h ?hl ?hd); (case hl => exact rfl); (case hd => decide +kernel); (case h1 => tb_start); (case h2 => tb_start))
  | with_reducible refine' wX_return ?_
  | ((with_reducible refine' wX_assign ?h ?hl ?hs); (case hl => exact rfl); (case hs => (intros; exact rfl)))
  | ((with_reducible refine' wX_aug ?hv ?h ?hl); (case hl => exact rfl); (case hv => tb_start))
  | with_reducible refine' wX_if ?_
  | ((with_reducible refine' wX_append ?h ?h1 ?h2 ?h3 ?h4 ?h5); (case h1 => (intros; exact rfl)); (case h2 => exact rfl); (case h3 => (intros; exact rfl)); (case h4 => (intros; exact rfl)); (case h5 => (intros; exact rfl)))
  | ((with_reducible refine' wX_setitem ?h ?h1); (case h1 => (intros; exact rfl)))
  | ((with_reducible refine' wX_swap2 ?h ?h1 ?h2 ?h3 ?h4); (case h4 => (intros; exact rfl)); (case h1 => exact rfl); (case h2 => exact rfl); (case h3 => (intros; exact rfl)))
  | ((with_reducible refine' wX_swap3 ?h ?h1 ?h2 ?h5 ?h3 ?h4); (case h4 => (intros; exact rfl)); (case h1 => exact rfl); (case h2 => exact rfl); (case h5 => exact rfl); (case h3 => (intros; exact rfl)))
  | ((with_reducible refine' wX_unpack2 ?h ?h1 ?h2 ?h3 ?h4); (case h4 => (intros; exact rfl)); (case h1 => exact rfl); (case h2 => exact rfl); (case h3 => (intros; exact rfl)))
  | ((with_reducible refine' wX_unpack3 ?h ?h1 ?h2 ?h5 ?h3 ?h4); (case h4 => (intros; exact rfl)); (case h1 => exact rfl); (case h2 => exact rfl); (case h5 => exact rfl); (case h3 => (intros; exact rfl)))
  | ((with_reducible refine' wX_for ?h ?h1 ?h2); (case h1 => exact rfl); (case h2 => (intros; exact rfl)))
  | ((with_reducible refine' wI_rng ?h ?h1 ?h2 ?h3); (case h1 => exact rfl); (case h2 => (intro _; exact rfl)); (case h3 => (intro _; exact ⟨_, _, rfl, rfl⟩)))
  | with_reducible refine' wI_list ?_
  | with_reducible refine' wE_int ?_
  | with_reducible refine' wE_bool ?_
  | with_reducible refine' wE_none ?_
  | ((with_reducible refine' wE_local ?hv ?h ?hl ?hd); (case hl => exact rfl); (case hd => decide +kernel); (case hv => tb_start))
  | ((with_reducible refine' wE_fn ?h ?h1 ?h2 ?h3); (case h2 => exact rfl); (case h1 => decide +kernel); (case h3 => decide +kernel))
  | with_reducible refine' wE_binop ?_
  | ((with_reducible refine' wE_cmp ?h ?hm); (case hm => with_unfolding_all exact rfl))
  | with_reducible refine' wE_ifexp ?_
  | with_reducible refine' wE_unop ?_
  | with_reducible refine' wE_boolop_and ?_
  | with_reducible refine' wE_boolop_or ?_
  | with_reducible refine' wE_boolop_one ?_
  | with_reducible refine' wE_tuple ?_
  | ((with_reducible refine' wE_len ?h ?h1 ?h2 ?h3 ?h4); (case h1 => exact rfl); (case h2 => (intro _; exact rfl)); (case h3 => (intro _; exact ⟨_, _, rfl, rfl⟩)); (case h4 => (intro _; exact rfl)))
  | ((with_reducible refine' wE_abs ?h ?h1 ?h2 ?h3 ?h4); (case h1 => exact rfl); (case h2 => (intro _; exact rfl)); (case h3 => (intro _; exact ⟨_, _, rfl, rfl⟩)); (case h4 => (intro _; exact rfl)))
  | ((with_reducible refine' wE_min ?h ?h1 ?h2 ?h3); (case h1 => exact rfl); (case h2 => (intro _; exact rfl)); (case h3 => (intro _; exact ⟨_, _, rfl, rfl⟩)))
  | ((with_reducible refine' wE_def ?h ?h1 ?h2 ?h3 ?h4 ?h5); (case h1 => decide +kernel); (case h2 => exact rfl); (case h3 => decide +kernel); (case h4 => (intro _; exact rfl)); (case h5 => (intro _; exact ⟨_, _, rfl, rfl⟩)))
  | ((with_reducible refine' wE_bitlen ?h ?h1 ?h2); (case h1 => (intro _; exact rfl)); (case h2 => exact rfl))
  | ((with_reducible refine' wT_cmp ?h ?hm); (case hm => with_unfolding_all exact rfl))
  | ((with_reducible refine' wT_chain ?h ?hm); (case hm => with_unfolding_all exact rfl))
  | with_reducible refine' wT_not ?_
  | with_reducible refine' wT_and_nil ?_
  | with_reducible refine' wT_and ?_
  | with_reducible refine' wT_or_nil ?_
  | with_reducible refine' wT_or ?_
  | ((with_reducible refine' wT_plain ?h ?he); (case he => (intros; exact rfl)))
  | with_reducible refine' wA_nil ?_
  | ((with_reducible refine' wA_cons ?h ?hs); (case hs => (intro _; exact rfl)))
  | with_reducible refine' wP_none ?_
  | with_reducible refine' wP_some ?_
  | ((with_reducible refine' wE_sliceAll ?hx ?hsz ?h ?hl ?hd); (case hl => exact rfl); (case hd => decide +kernel); (case hx => tb_start); (case hsz => omega))
  | ((with_reducible refine' wE_sliceTo ?hx ?hsz ?h ?hl ?hd); (case hl => exact rfl); (case hd => decide +kernel); (case hx => tb_start); (case hsz => omega))
  | ((with_reducible refine' wE_sliceZ ?hx ?hsz ?h ?hl ?hd); (case hl => exact rfl); (case hd => decide +kernel); (case hx => tb_start); (case hsz => omega))
  | with_reducible refine' wE_sub ?_
  | ((with_reducible refine' b_len_z ?h1 ?h); (case h1 => omega))
  | ((with_reducible refine' b_len_zr ?h0 ?h1 ?h); (case h0 => tb_start); (case h1 => omega))
  | ((with_reducible refine' s_zN ?h1 ?h2 ?h ?hs); (case hs => (intro _ _; exact rfl)); (case h1 => omega); (case h2 => omega))
  | ((with_reducible refine' s_zrN ?ha ?h1 ?h2 ?h ?hs); (case hs => (intro _ _; exact rfl)); (case ha => tb_start); (case h1 => omega); (case h2 => omega))
  | ((with_reducible refine' s_z ?h0 ?h1 ?h2 ?h ?hs); (case hs => (intro _ _; exact rfl)); (case h0 => omega); (case h1 => omega); (case h2 => omega))
  | ((with_reducible refine' s_zr ?ha ?h0 ?h1 ?h2 ?h ?hs); (case hs => (intro _ _; exact rfl)); (case ha => tb_start); (case h0 => omega); (case h1 => omega); (case h2 => omega))
  | ((with_reducible refine' o_shl1 ?h1 ?h); (case h1 => omega))
  | with_reducible refine' o_shr ?_
  | with_reducible refine' i_shr ?_
  | with_reducible refine' o_mask ?_
  | ((with_reducible refine' o_pow2 ?h1 ?h); (case h1 => omega))
  | ((with_reducible refine' o_divN ?h1 ?h2 ?h); (case h1 => omega); (case h2 => omega))
  | ((with_reducible refine' o_mdN ?h1 ?h); (case h1 => omega))
  | ((with_reducible refine' o_div ?h1 ?h2 ?h); (case h1 => omega); (case h2 => omega))
  | ((with_reducible refine' o_md ?h1 ?h); (case h1 => omega))
  | ((with_reducible refine' i_md ?h1 ?h); (case h1 => omega))
  | ((with_reducible refine' o_shl ?h1 ?h2 ?h); (case h1 => omega); (case h2 => omega))
  | ((with_reducible refine' o_orL ?h1 ?h2 ?h3 ?h); (case h1 => omega); (case h2 => omega); (case h3 => omega))
  | ((with_reducible refine' o_orR ?h1 ?h2 ?h3 ?h); (case h1 => omega); (case h2 => omega); (case h3 => omega))
  | ((with_reducible refine' i_orR ?h1 ?h2 ?h3 ?h); (case h1 => omega); (case h2 => omega); (case h3 => omega))
  | with_reducible refine' o_add ?_
  | ((with_reducible refine' o_subN ?h1 ?h); (case h1 => omega))
  | with_reducible refine' o_sub ?_
  | with_reducible refine' i_add ?_
  | with_reducible refine' i_sub ?_
  | with_reducible refine' o_neg ?_
  | with_reducible refine' c_eq ?_
  | with_reducible refine' c_ne ?_
  | with_reducible refine' c_lt ?_
  | with_reducible refine' c_le ?_
  | with_reducible refine' c_gt ?_
  | with_reducible refine' c_ge ?_
  | with_reducible refine' c_eqb ?_
  | with_reducible refine' exTB ?_
  | with_reducible refine' exTI ?_
  | with_reducible refine' exI ?_
  | with_reducible refine' exNat ?_
  | with_reducible refine' exL ?_
  | with_reducible refine' exT2 ?_
  | with_reducible refine' exT3 ?_
  | with_reducible refine' exR ?_
  | with_reducible refine' andLit ?_
  | with_reducible refine' andSt ?_
  | ((with_reducible refine' andLen ?h1 ?h); (case h1 => (simp; done)))
  | ((with_reducible refine' exRng1 ?h1 ?h); (case h1 => (unfold Fit; omega)))
  | ((with_reducible refine' exRng2 ?h1 ?h2 ?h); (case h1 => (unfold Fit; omega)); (case h2 => (unfold Fit; omega)))
  | ((with_reducible refine' exRngD ?he ?h1 ?h2 ?h); (case he => omega); (case h1 => (unfold Fit; omega)); (case h2 => (unfold Fit; omega)))
  | ((with_reducible refine' exApp ?h1 ?h); (case h1 => tb_start))
  | ((with_reducible refine' exAppZ ?h1 ?h2 ?h); (case h1 => tb_start); (case h2 => omega))
  | ((with_reducible refine' exSetZ ?h1 ?h2 ?h3 ?h4 ?h); (case h1 => tb_start); (case h2 => omega); (case h3 => ((try simp only [List.length_set, List.length_replicate, List.length_append, List.length_cons, List.length_nil]); omega)); (case h4 => ((try simp only [List.length_set, List.length_replicate, List.length_append, List.length_cons, List.length_nil]); omega)))
  | with_reducible refine' wE_listOf ?_
  | with_reducible refine' andNext ?_
  | fail "no step")

section
variable {g : G PP}
/-- one limb of a number moved down -/
theorem shr_step {w fe : Nat} (hfe : fe < w) {x y V' : Int} (hx : 0 ≤ x ∧ x < 2 ^ w) :
    (x + 2 ^ w * (y + 2 ^ w * V')) / 2 ^ fe % 2 ^ w = (x / 2 ^ fe + y * 2 ^ (w - fe)) % 2 ^ w ∧ (x + 2 ^ w * (y + 2 ^ w * V')) / 2 ^ fe / 2 ^ w = (y + 2 ^ w * V') / 2 ^ fe := by
  have e : (2 : Int) ^ w = 2 ^ fe * 2 ^ (w - fe) := by rw [← Int.pow_add]; congr 1; omega
  have hp : (0 : Int) < 2 ^ fe := Int.pow_pos (by decide)
  have hp2 : (0 : Int) < 2 ^ w := Int.pow_pos (by decide)
  constructor
  · have : x + 2 ^ w * (y + 2 ^ w * V') = x + 2 ^ fe * (2 ^ (w - fe) * (y + 2 ^ w * V')) := by rw [← Int.mul_assoc, ← e]
    rw [this, Int.add_mul_ediv_left _ _ (by omega)]
    have : x / 2 ^ fe + 2 ^ (w - fe) * (y + 2 ^ w * V') = (x / 2 ^ fe + y * 2 ^ (w - fe)) + 2 ^ w * (2 ^ (w - fe) * V') := by
      rw [Int.mul_add, Int.mul_comm y, Int.mul_left_comm]; omega
    rw [this, Int.add_mul_emod_self_left]
  · rw [ediv_ediv_pos hp hp2, Int.mul_comm ((2 : Int) ^ fe) (2 ^ w), ← ediv_ediv_pos hp2 hp]
    rw [Int.add_mul_ediv_left _ _ (by omega), Int.ediv_eq_zero_of_lt hx.1 hx.2, Int.zero_add]

theorem t_shift_right (w : Nat) (hw : 1 ≤ w ∧ w ≤ 29) (l : List Int) (n : Int) (s : Nat) (hl : l.length ≤ 2 ^ 20) (hs : s ≤ 1000) (h1 : Limbs (2 ^ w) l) (hn : val (2 ^ w) l = n) :
    GCall g (g.fa "shift_right") 2 [.list (zints l), .int s, .int w] (fun _ => none) (fun x _ => IsNat w x (n / 2 ^ s)) := by
  have hB := one_lt_pow hw.1
  have hB30 := pow_le30 (w := w) (by omega)
  refine' gcall (d := dOf 8) (dOf_mem 8 (by decide)) (hbody := ?enB) (hscope := ?enS) (hparams := ?enP) (hname := rfl) (names := ["a", "n", "w"]) (hk := ?enK) (hbind := ?enI) (hloc := ?enL) (h := ?enH) (hco := ?enC) (hgen := ?enG) (hcell := ?enE)
  case enB => (conv => lhs; whnf)
  case enS => (conv => lhs; whnf)
  case enP => (conv => lhs; whnf)
  case enK => rfl
  case enI => (intro pm code doc vs h; match vs, h with | [v0, v1, v2], _ => rfl)
  case enL => decide +kernel
  case enC => rfl
  case enG => rfl
  case enE => decide +kernel
  repeat' tb_rel
  refine wE_listNew fun ad had => ?_
  have hspl0 := Nat.div_le_self s w
  have hspl1 := Int.natCast_nonneg (s / w)
  have hspl2 : ((s / w : Nat) : Int) ≤ 1000 := by exact_mod_cast (by omega : s / w ≤ 1000)
  repeat' tb_rel
  have hfew : s % w < w := Nat.mod_lt _ (by omega)
  have hsum : s = w * (s / w) + s % w := (Nat.div_add_mod s w).symm
  generalize hsp : s / w = sp at *
  generalize hfe : s % w = fe at *
  have hfp := pow2_nonneg fe
  have hfp1 : (0 : Int) < 2 ^ fe := Int.pow_pos (by decide)
  refine loop_inv (fun vs S => ∃ (j : Nat) (f : List Int), vs = upTo ((sp + j : Nat) : Int) (l.length - (sp + j)) ∧ j ≤ l.length ∧ (j = 0 ∨ sp + j ≤ l.length) ∧ S.m "a" = some (.list (zints l)) ∧ S.m "few" = some (.int fe) ∧ S.m "w" = some (.int w) ∧ S.m "mask" = some (.int (2 ^ w - 1)) ∧
        S.m "found" = some (.ref ad) ∧ S.σ ad = some (zints f) ∧ Limbs (2 ^ w) f ∧ f.length = j ∧ val (2 ^ w) f + (2 ^ w) ^ j * (val (2 ^ w) (l.drop (sp + j)) / 2 ^ fe) = val (2 ^ w) (l.drop sp) / 2 ^ fe) ?_ ?_ ?_
  · rintro v vs S ⟨j, f, hvs, hj, hjl, ha, hfw, hww, hm, hf, hs', hlf, hlen, hv⟩
    obtain ⟨q, hq, rfl, rfl⟩ := upTo_cons hvs
    have hil : sp + j < l.length := by omega
    have bx := getD_limb (by omega) h1 (sp + j)
    have by2 := getD_limb (by omega) h1 (sp + j + 1)
    refine wS_seq (fun S' => S'.m "a" = some (.list (zints l)) ∧ S'.m "few" = some (.int fe) ∧ S'.m "w" = some (.int w) ∧ S'.m "mask" = some (.int (2 ^ w - 1)) ∧ S'.m "found" = some (.ref ad) ∧ S'.σ ad = some (zints f) ∧ S'.m "at" = some (.int ((sp + j : Nat) : Int)) ∧ S'.m "above" = some (.int (l.getD (sp + j + 1) 0))) ?_ ?_
    · repeat' tb_rel
      refine iteD (fun h => ?_) (fun h => ?_)
      · repeat' tb_rel
        have e : (((sp + j : Nat) : Int) + 1).toNat = sp + j + 1 := by omega
        rw [e]
        exact ⟨by tb_start, by tb_start, by tb_start, by tb_start, by tb_start, by tb_start, by tb_start, by tb_start⟩
      · repeat' tb_rel
        exact ⟨by tb_start, by tb_start, by tb_start, by tb_start, by tb_start, by tb_start, by tb_start, by rw [getD_out (show l.length ≤ sp + j + 1 by omega)]; tb_start⟩
    · clear hs' hf hm hww hfw ha S
      rintro S ⟨ha, hfw, hww, hm, hf, hs', hat, hab⟩
      have hx0 : 0 ≤ l.getD (sp + j) 0 / 2 ^ fe := Int.ediv_nonneg bx.1 hfp
      have e : (2 : Int) ^ w = 2 ^ fe * 2 ^ (w - fe) := by rw [← Int.pow_add]; congr 1; omega
      have hx1 : l.getD (sp + j) 0 / 2 ^ fe < 2 ^ (w - fe) := Int.ediv_lt_of_lt_mul hfp1 (by rw [Int.mul_comm, ← e]; exact bx.2)
      repeat' tb_rel
      have hV : val (2 ^ w) (l.drop (sp + j)) = l.getD (sp + j) 0 + 2 ^ w * (l.getD (sp + j + 1) 0 + 2 ^ w * val (2 ^ w) (l.drop (sp + j + 2))) := by
        rw [drop_step _ hil]
        congr 2
        by_cases h : sp + j + 1 < l.length
        · exact drop_step _ h
        · rw [List.drop_eq_nil_of_le (by omega), List.drop_eq_nil_of_le (by omega), getD_out (by omega)]; simp [val]
      have hV1 : val (2 ^ w) (l.drop (sp + (j + 1))) = l.getD (sp + j + 1) 0 + 2 ^ w * val (2 ^ w) (l.drop (sp + j + 2)) := by
        by_cases h : sp + j + 1 < l.length
        · exact drop_step _ h
        · rw [List.drop_eq_nil_of_le (by omega), List.drop_eq_nil_of_le (by omega), getD_out (by omega)]; simp [val]
      obtain ⟨st1, st2⟩ := shr_step (V' := val (2 ^ w) (l.drop (sp + j + 2))) hfew bx (y := l.getD (sp + j + 1) 0)
      refine ⟨j + 1, f ++ [(l.getD (sp + j) 0 / 2 ^ fe + l.getD (sp + j + 1) 0 * 2 ^ (w - fe)) % 2 ^ w], by rw [show l.length - (sp + (j + 1)) = q by omega]; congr 1 <;> omega, by omega, .inr (by omega), by tb_start, by tb_start, by tb_start, by tb_start, by tb_start, by tb_start, hlf.snoc (mod_limb (by omega)), by simp [hlen], ?_⟩
      rw [hV1, ← st1, ← st2, carry_step hlen, ← hV, hv]
  · rintro S ⟨j, f, hvs, hj, hjl, ha, hfw, hww, hm, hf, hs', hlf, hlen, hv⟩
    have h0 := upTo_nil hvs
    rw [List.drop_eq_nil_of_le (show l.length ≤ sp + j by omega)] at hv
    simp only [val, Int.zero_ediv, Int.mul_zero, Int.add_zero] at hv
    refine w_freeze "found" hf hs' ?_
    repeat' tb_rel
    refine op_pure (t_normal f (by omega)) (by decide) fun x hx => ?_
    subst hx
    repeat' tb_rel
    have := normL_can (by omega) hlf
    refine ⟨_, rfl, ?_⟩
    rw [hv, val_drop_div hB h1, hn, ediv_ediv_pos (pow_pos' (by omega) sp) hfp1, pow_pow, ← Int.pow_add, ← hsum] at this
    exact this
  · exact ⟨0, [], by rw [Nat.add_zero]; congr 1; omega, by omega, .inl rfl, by tb_start, by tb_start, by tb_start, by tb_start, by tb_start, by tb_start, Limbs.nil, rfl, by simp [val]⟩

theorem t_low (w : Nat) (hw : 1 ≤ w ∧ w ≤ 29) (l : List Int) (n : Int) (s : Nat) (hl : l.length ≤ 2 ^ 20) (hs : s ≤ 1000) (h1 : Can (2 ^ w) l n) :
    GCall g (g.fa "low") 2 [.list (zints l), .int s, .int w] (fun _ => none) (fun x _ => IsNat w x (n % 2 ^ s)) := by
  have hB := one_lt_pow hw.1
  have hB30 := pow_le30 (w := w) (by omega)
  refine' gcall (d := dOf 10) (dOf_mem 10 (by decide)) (hbody := ?enB) (hscope := ?enS) (hparams := ?enP) (hname := rfl) (names := ["a", "n", "w"]) (hk := ?enK) (hbind := ?enI) (hloc := ?enL) (h := ?enH) (hco := ?enC) (hgen := ?enG) (hcell := ?enE)
  case enB => (conv => lhs; whnf)
  case enS => (conv => lhs; whnf)
  case enP => (conv => lhs; whnf)
  case enK => rfl
  case enI => (intro pm code doc vs h; match vs, h with | [v0, v1, v2], _ => rfl)
  case enL => decide +kernel
  case enC => rfl
  case enG => rfl
  case enE => decide +kernel
  have hspl0 := Nat.div_le_self s w
  have hspl1 := Int.natCast_nonneg (s / w)
  have hspl2 : ((s / w : Nat) : Int) ≤ 1000 := by exact_mod_cast (by omega : s / w ≤ 1000)
  repeat' tb_rel
  have hfew : s % w < w := Nat.mod_lt _ (by omega)
  have hsum : s = w * (s / w) + s % w := (Nat.div_add_mod s w).symm
  generalize hsp : s / w = sp at *
  generalize hfe : s % w = fe at *
  have hfp := pow2_nonneg fe
  have hfp1 : (0 : Int) < 2 ^ fe := Int.pow_pos (by decide)
  have hn0 := h1.nonneg (by omega)
  refine iteD (fun h => ?_) (fun h => ?_)
  · repeat' tb_rel
    have a := h1.lt hB
    have b := pow_mono' hB (show l.length ≤ sp by omega)
    have c : ((2 : Int) ^ w) ^ sp ≤ 2 ^ s := by rw [pow_pow]; exact pow_mono' (by decide) (by omega)
    rw [Int.emod_eq_of_lt hn0 (by omega)]
    exact ⟨l, rfl, h1⟩
  · repeat' tb_rel
    refine o_catZ (by simp; omega) ?_
    repeat' tb_rel
    refine op_pure (t_normal _ ?h1) ?h2 fun x hx => ?h3
    case h1 => (simp; omega)
    case h2 => decide
    subst hx
    repeat' tb_rel
    have hil : sp < l.length := by omega
    have bx := getD_limb (by omega) h1.limbs sp
    have hpw : (2 : Int) ^ fe ≤ 2 ^ w := pow_mono' (by decide) (by omega)
    have hm := mod_limb (B := (2 : Int) ^ fe) (c := l.getD sp 0) hfp1
    have hlm : Limbs (2 ^ w) (l.take sp ++ [l.getD sp 0 % 2 ^ fe]) := (h1.limbs.take sp).snoc (by omega)
    have := normL_can (by omega) hlm
    rw [val_snoc, List.length_take, Nat.min_eq_left (by omega)] at this
    have hP := pow_pos' (B := (2 : Int) ^ w) (by omega) sp
    have e : n % 2 ^ s = val (2 ^ w) (l.take sp) + (2 ^ w) ^ sp * (l.getD sp 0 % 2 ^ fe) := by
      have hv := val_take_drop (2 ^ w) l sp (by omega)
      rw [h1.val, drop_step _ hil] at hv
      have a := val_nonneg (B := (2 : Int) ^ w) (by omega) (h1.limbs.take sp)
      have b := val_lt (B := (2 : Int) ^ w) (by omega) (h1.limbs.take sp)
      rw [List.length_take, Nat.min_eq_left (by omega)] at b
      have hw2 : (2 : Int) ^ w = 2 ^ fe * 2 ^ (w - fe) := by rw [← Int.pow_add]; congr 1; omega
      have hd := Int.mul_ediv_add_emod (l.getD sp 0) (2 ^ fe)
      have e1 : n = (val (2 ^ w) (l.take sp) + (2 ^ w) ^ sp * (l.getD sp 0 % 2 ^ fe)) + 2 ^ s * (l.getD sp 0 / 2 ^ fe + 2 ^ (w - fe) * val (2 ^ w) (l.drop (sp + 1))) := by
        rw [hv]
        have hs2 : (2 : Int) ^ s = (2 ^ w) ^ sp * 2 ^ fe := by rw [pow_pow, ← Int.pow_add, ← hsum]
        rw [hs2, Int.add_assoc]
        congr 1
        rw [Int.mul_assoc, ← Int.mul_add]
        congr 1
        rw [Int.mul_add, ← Int.mul_assoc, ← hw2]
        omega
      rw [e1, Int.add_mul_emod_self_left]
      apply Int.emod_eq_of_lt
      · have := Int.mul_nonneg (Int.le_of_lt hP) hm.1
        omega
      · have hs2 : (2 : Int) ^ s = (2 ^ w) ^ sp * 2 ^ fe := by rw [pow_pow, ← Int.pow_add, ← hsum]
        rw [hs2]
        have : (2 ^ w) ^ sp * (l.getD sp 0 % 2 ^ fe + 1) ≤ (2 ^ w) ^ sp * 2 ^ fe := Int.mul_le_mul_of_nonneg_left (by omega) (Int.le_of_lt hP)
        rw [Int.mul_add, Int.mul_one] at this
        omega
    rw [← e] at this
    exact ⟨_, rfl, this⟩
end
end Mine

namespace Mine
section
variable {p : Program} {g : G p} {c : Cx} {S : St}
theorem o_addN {a b : Nat} {Q : V → St → Prop} (h : Q (.int ((a + b : Nat) : Int)) S) : Op2 g c Rep (binaryOp .Add) (.int (a : Int)) (.int (b : Int)) S Q :=
  o_add (by rw [← Int.natCast_add]; exact h)
theorem o_addN1 {a : Nat} {Q : V → St → Prop} (h : Q (.int ((a + 1 : Nat) : Int)) S) : Op2 g c Rep (binaryOp .Add) (.int (a : Int)) (.int 1) S Q :=
  o_add (by rw [Int.natCast_add] at h; exact h)
end
theorem getD_set_self {f : List Int} {k : Nat} {v : Int} (h : k < f.length) : (f.set k v).getD k 0 = v := by
  rw [List.getD_eq_getElem?_getD, List.getElem?_set_self h]; rfl
theorem getD_set_ne {f : List Int} {k m : Nat} {v : Int} (h : k ≠ m) : (f.set k v).getD m 0 = f.getD m 0 := by
  rw [List.getD_eq_getElem?_getD, List.getElem?_set_ne h, ← List.getD_eq_getElem?_getD]
theorem val_set (B : Int) {f : List Int} {k : Nat} {v : Int} (h : k < f.length) : val B (f.set k v) = val B f + B ^ k * (v - f.getD k 0) := by
  rw [val_split B (l := f.set k v) (k := k) (by simpa using h), val_split B h, getD_set_self h, List.drop_set_of_lt (by omega), List.take_set_of_le (Nat.le_refl k)]
  rw [Int.mul_add, Int.mul_add, Int.mul_sub]
  omega
/-- the limbs above a bound are nought -/
theorem zero_above {B : Int} (hB : 1 < B) {l : List Int} (h : Limbs B l) {k : Nat} (hv : val B l < B ^ k) : ∀ j, k ≤ j → l.getD j 0 = 0 := by
  intro j hj
  by_cases hl : j < l.length
  · have e := val_split B hl
    have a := val_nonneg (by omega) (h.take j)
    have b := val_nonneg (by omega) (h.drop (j + 1))
    have c := getD_limb (by omega) h j
    have d := pow_mono' hB hj
    have hp := pow_pos' (B := B) (by omega) j
    rcases (show l.getD j 0 = 0 ∨ 1 ≤ l.getD j 0 by omega) with q | q
    · exact q
    · exfalso
      have b' := Int.mul_nonneg (show 0 ≤ B by omega) b
      have : B ^ j * 1 ≤ B ^ j * (l.getD j 0 + B * val B (l.drop (j + 1))) := Int.mul_le_mul_of_nonneg_left (by omega) (Int.le_of_lt hp)
      omega
  · exact getD_out (by omega)
theorem val_of_zero {B : Int} {l : List Int} {k : Nat} (h : ∀ j, k ≤ j → l.getD j 0 = 0) : val B l = val B (l.take k) := by
  have all : ∀ m, val B (l.take (k + m)) = val B (l.take k) := by
    intro m
    induction m with
    | zero => rfl
    | succ m ih => rw [← Nat.add_assoc, val_take_succ', h (k + m) (by omega), ih]; simp
  have := all l.length
  rw [List.take_of_length_le (by omega)] at this
  exact this
end Mine

namespace Mine
local macro_rules | `(tactic| tb_start) => `(tactic| first
  | with_reducible exact look_same
  | with_reducible exact look_froze
  | ((with_reducible refine' look_i ?nn); (case nn => omega))
  | ((with_reducible refine' look_ne ?nn ?tt); (case nn => decide +kernel); (case tt => tb_start))
  | ((with_reducible refine' look_froze_ne ?nn ?tt); (case nn => decide +kernel); (case tt => tb_start))
  | ((with_reducible refine' sig_set ?tt); (case tt => tb_start))
  | ((with_reducible refine' sig_freeze ?nn ?tt); (case nn => assumption); (case tt => tb_start))
  | ((with_reducible refine' upd_app ?nn); (case nn => first | rfl | omega))
  | ((with_reducible refine' upd_set ?n1 ?n2); (case n1 => first | rfl | omega); (case n2 => first | rfl | omega))
  | with_reducible exact upd_nil
  | with_reducible exact upd_same
  | ((with_reducible refine' upd_ne ?nn ?tt); (case nn => assumption); (case tt => tb_start))
  | assumption
  | exact rfl
  | fail "no look")
local macro_rules | `(tactic| tb_rel) => `(tactic| first
  | with_reducible refine' iteF ?_
  | with_reducible refine' iteT ?_
  | with_reducible refine' wS_nil ?_
  | with_reducible refine' wS_cons ?_
  | ((with_reducible refine' wX_retRef ?h1 ?h2 ?h ?hl ?hd); (case hl => exact rfl); (case hd => decide +kernel); (case h1 => tb_start); (case h2 => tb_start))
  | with_reducible refine' wX_return ?_
  | ((with_reducible refine' wX_assign ?h ?hl ?hs); (case hl => exact rfl); (case hs => (intros; exact rfl)))
  | ((with_reducible refine' wX_aug ?hv ?h ?hl); (case hl => exact rfl); (case hv => tb_start))
  | with_reducible refine' wX_if ?_
  | ((with_reducible refine' wX_append ?h ?h1 ?h2 ?h3 ?h4 ?h5); (case h1 => (intros; exact rfl)); (case h2 => exact rfl); (case h3 => (intros; exact rfl)); (case h4 => (intros; exact rfl)); (case h5 => (intros; exact rfl)))
  | ((with_reducible refine' wX_setitem ?h ?h1); (case h1 => (intros; exact rfl)))
  | ((with_reducible refine' wX_swap2 ?h ?h1 ?h2 ?h3 ?h4); (case h4 => (intros; exact rfl)); (case h1 => exact rfl); (case h2 => exact rfl); (case h3 => (intros; exact rfl)))
  | ((with_reducible refine' wX_swap3 ?h ?h1 ?h2 ?h5 ?h3 ?h4); (case h4 => (intros; exact rfl)); (case h1 => exact rfl); (case h2 => exact rfl); (case h5 => exact rfl); (case h3 => (intros; exact rfl)))
  | ((with_reducible refine' wX_unpack2 ?h ?h1 ?h2 ?h3 ?h4); (case h4 => (intros; exact rfl)); (case h1 => exact rfl); (case h2 => exact rfl); (case h3 => (intros; exact rfl)))
  | ((with_reducible refine' wX_unpack3 ?h ?h1 ?h2 ?h5 ?h3 ?h4); (case h4 => (intros; exact rfl)); (case h1 => exact rfl); (case h2 => exact rfl); (case h5 => exact rfl); (case h3 => (intros; exact rfl)))
  | ((with_reducible refine' wX_for ?h ?h1 ?h2); (case h1 => exact rfl); (case h2 => (intros; exact rfl)))
  | ((with_reducible refine' wI_rng ?h ?h1 ?h2 ?h3); (case h1 => exact rfl); (case h2 => (intro _; exact rfl)); (case h3 => (intro _; exact ⟨_, _, rfl, rfl⟩)))
  | with_reducible refine' wI_list ?_
  | with_reducible refine' wE_int ?_
  | with_reducible refine' wE_bool ?_
  | with_reducible refine' wE_none ?_
  | ((with_reducible refine' wE_local ?hv ?h ?hl ?hd); (case hl => exact rfl); (case hd => decide +kernel); (case hv => tb_start))
  | ((with_reducible refine' wE_fn ?h ?h1 ?h2 ?h3); (case h2 => exact rfl); (case h1 => decide +kernel); (case h3 => decide +kernel))
  | with_reducible refine' wE_binop ?_
  | ((with_reducible refine' wE_cmp ?h ?hm); (case hm => with_unfolding_all exact rfl))
  | with_reducible refine' wE_ifexp ?_
  | with_reducible refine' wE_unop ?_
  | with_reducible refine' wE_boolop_and ?_
  | with_reducible refine' wE_boolop_or ?_
  | with_reducible refine' wE_boolop_one ?_
  | with_reducible refine' wE_tuple ?_
  | ((with_reducible refine' wE_len ?h ?h1 ?h2 ?h3 ?h4); (case h1 => exact rfl); (case h2 => (intro _; exact rfl)); (case h3 => (intro _; exact ⟨_, _, rfl, rfl⟩)); (case h4 => (intro _; exact rfl)))
  | ((with_reducible refine' wE_abs ?h ?h1 ?h2 ?h3 ?h4); (case h1 => exact rfl); (case h2 => (intro _; exact rfl)); (case h3 => (intro _; exact ⟨_, _, rfl, rfl⟩)); (case h4 => (intro _; exact rfl)))
  | ((with_reducible refine' wE_min ?h ?h1 ?h2 ?h3); (case h1 => exact rfl); (case h2 => (intro _; exact rfl)); (case h3 => (intro _; exact ⟨_, _, rfl, rfl⟩)))
  | ((with_reducible refine' wE_def ?h ?h1 ?h2 ?h3 ?h4 ?h5); (case h1 => decide +kernel); (case h2 => exact rfl); (case h3 => decide +kernel); (case h4 => (intro _; exact rfl)); (case h5 => (intro _; exact ⟨_, _, rfl, rfl⟩)))
  | ((with_reducible refine' wE_bitlen ?h ?h1 ?h2); (case h1 => (intro _; exact rfl)); (case h2 => exact rfl))
  | ((with_reducible refine' wT_cmp ?h ?hm); (case hm => with_unfolding_all exact rfl))
  | ((with_reducible refine' wT_chain ?h ?hm); (case hm => with_unfolding_all exact rfl))
  | with_reducible refine' wT_not ?_
  | with_reducible refine' wT_and_nil ?_
  | with_reducible refine' wT_and ?_
  | with_reducible refine' wT_or_nil ?_
  | with_reducible refine' wT_or ?_
  | ((with_reducible refine' wT_plain ?h ?he); (case he => (intros; exact rfl)))
  | with_reducible refine' wA_nil ?_
  | ((with_reducible refine' wA_cons ?h ?hs); (case hs => (intro _; exact rfl)))
  | with_reducible refine' wP_none ?_
  | with_reducible refine' wP_some ?_
  | ((with_reducible refine' wE_sliceAll ?hx ?hsz ?h ?hl ?hd); (case hl => exact rfl); (case hd => decide +kernel); (case hx => tb_start); (case hsz => omega))
  | ((with_reducible refine' wE_sliceTo ?hx ?hsz ?h ?hl ?hd); (case hl => exact rfl); (case hd => decide +kernel); (case hx => tb_start); (case hsz => omega))
  | ((with_reducible refine' wE_sliceZ ?hx ?hsz ?h ?hl ?hd); (case hl => exact rfl); (case hd => decide +kernel); (case hx => tb_start); (case hsz => omega))
  | with_reducible refine' wE_sub ?_
  | ((with_reducible refine' b_len_z ?h1 ?h); (case h1 => omega))
  | ((with_reducible refine' b_len_zr ?h0 ?h1 ?h); (case h0 => tb_start); (case h1 => omega))
  | ((with_reducible refine' s_zN ?h1 ?h2 ?h ?hs); (case hs => (intro _ _; exact rfl)); (case h1 => omega); (case h2 => omega))
  | ((with_reducible refine' s_zrN ?ha ?h1 ?h2 ?h ?hs); (case hs => (intro _ _; exact rfl)); (case ha => tb_start); (case h1 => omega); (case h2 => omega))
  | ((with_reducible refine' s_z ?h0 ?h1 ?h2 ?h ?hs); (case hs => (intro _ _; exact rfl)); (case h0 => omega); (case h1 => omega); (case h2 => omega))
  | ((with_reducible refine' s_zr ?ha ?h0 ?h1 ?h2 ?h ?hs); (case hs => (intro _ _; exact rfl)); (case ha => tb_start); (case h0 => omega); (case h1 => omega); (case h2 => omega))
  | ((with_reducible refine' o_shl1 ?h1 ?h); (case h1 => omega))
  | with_reducible refine' o_shr ?_
  | with_reducible refine' i_shr ?_
  | with_reducible refine' o_mask ?_
  | ((with_reducible refine' o_pow2 ?h1 ?h); (case h1 => omega))
  | ((with_reducible refine' o_divN ?h1 ?h2 ?h); (case h1 => omega); (case h2 => omega))
  | ((with_reducible refine' o_mdN ?h1 ?h); (case h1 => omega))
  | ((with_reducible refine' o_div ?h1 ?h2 ?h); (case h1 => omega); (case h2 => omega))
  | ((with_reducible refine' o_md ?h1 ?h); (case h1 => omega))
  | ((with_reducible refine' i_md ?h1 ?h); (case h1 => omega))
  | ((with_reducible refine' o_shl ?h1 ?h2 ?h); (case h1 => omega); (case h2 => omega))
  | ((with_reducible refine' o_orL ?h1 ?h2 ?h3 ?h); (case h1 => omega); (case h2 => omega); (case h3 => omega))
  | ((with_reducible refine' o_orR ?h1 ?h2 ?h3 ?h); (case h1 => omega); (case h2 => omega); (case h3 => omega))
  | ((with_reducible refine' i_orR ?h1 ?h2 ?h3 ?h); (case h1 => omega); (case h2 => omega); (case h3 => omega))
  | with_reducible refine' o_addN ?_
  | with_reducible refine' o_addN1 ?_
  | with_reducible refine' o_add ?_
  | ((with_reducible refine' o_subN ?h1 ?h); (case h1 => omega))
  | with_reducible refine' o_sub ?_
  | with_reducible refine' i_add ?_
  | with_reducible refine' i_sub ?_
  | with_reducible refine' o_neg ?_
  | with_reducible refine' c_eq ?_
  | with_reducible refine' c_ne ?_
  | with_reducible refine' c_lt ?_
  | with_reducible refine' c_le ?_
  | with_reducible refine' c_gt ?_
  | with_reducible refine' c_ge ?_
  | with_reducible refine' c_eqb ?_
  | with_reducible refine' exTB ?_
  | with_reducible refine' exTI ?_
  | with_reducible refine' exI ?_
  | with_reducible refine' exNat ?_
  | with_reducible refine' exL ?_
  | with_reducible refine' exT2 ?_
  | with_reducible refine' exT3 ?_
  | with_reducible refine' exR ?_
  | with_reducible refine' andLit ?_
  | with_reducible refine' andSt ?_
  | ((with_reducible refine' andLen ?h1 ?h); (case h1 => (simp; done)))
  | ((with_reducible refine' exRng1 ?h1 ?h); (case h1 => (unfold Fit; omega)))
  | ((with_reducible refine' exRng2 ?h1 ?h2 ?h); (case h1 => (unfold Fit; omega)); (case h2 => (unfold Fit; omega)))
  | ((with_reducible refine' exRngD ?he ?h1 ?h2 ?h); (case he => omega); (case h1 => (unfold Fit; omega)); (case h2 => (unfold Fit; omega)))
  | ((with_reducible refine' exApp ?h1 ?h); (case h1 => tb_start))
  | ((with_reducible refine' exAppZ ?h1 ?h2 ?h); (case h1 => tb_start); (case h2 => omega))
  | ((with_reducible refine' exSetZ ?h1 ?h2 ?h3 ?h4 ?h); (case h1 => tb_start); (case h2 => omega); (case h3 => ((try simp only [List.length_set, List.length_replicate, List.length_append, List.length_cons, List.length_nil]); omega)); (case h4 => ((try simp only [List.length_set, List.length_replicate, List.length_append, List.length_cons, List.length_nil]); omega)))
  | with_reducible refine' wE_listOf ?_
  | with_reducible refine' andNext ?_
  | fail "no step")

section
variable {g : G PP}
theorem mul_carry {B x y c r : Int} (hB : 0 < B) (hx : 0 ≤ x ∧ x < B) (hy : 0 ≤ y ∧ y < B) (hc : 0 ≤ c ∧ c < B) (hr : 0 ≤ r ∧ r < B) : 0 ≤ x * y ∧ 0 ≤ (c + (r + x * y)) / B ∧ (c + (r + x * y)) / B < B := by
  have h0 : 0 ≤ x * y := Int.mul_nonneg hx.1 hy.1
  have h1 : x * y ≤ (B - 1) * (B - 1) := Int.mul_le_mul (by omega) (by omega) hy.1 (by omega)
  have e : (B - 1) * (B - 1) = B * B - 2 * B + 1 := by rw [Int.sub_mul, Int.mul_sub]; omega
  refine ⟨h0, Int.ediv_nonneg (by omega) (by omega), Int.ediv_lt_of_lt_mul hB (by omega)⟩

theorem t_mul_school (w : Nat) (hw : 1 ≤ w ∧ w ≤ 29) (l k : List Int) (n m : Int) (hl : l.length ≤ 2 ^ 18) (hk : k.length ≤ 2 ^ 18) (h1 : Can (2 ^ w) l n) (h2 : Can (2 ^ w) k m) :
    GCall g (g.fa "mul_school") 2 [.list (zints l), .list (zints k), .int w] (fun _ => none) (fun x _ => IsNat w x (n * m)) := by
  have hB := one_lt_pow hw.1
  have hB30 := pow_le30 (w := w) (by omega)
  refine' gcall (d := dOf 21) (dOf_mem 21 (by decide)) (hbody := ?enB) (hscope := ?enS) (hparams := ?enP) (hname := rfl) (names := ["a", "b", "w"]) (hk := ?enK) (hbind := ?enI) (hloc := ?enL) (h := ?enH) (hco := ?enC) (hgen := ?enG) (hcell := ?enE)
  case enB => (conv => lhs; whnf)
  case enS => (conv => lhs; whnf)
  case enP => (conv => lhs; whnf)
  case enK => rfl
  case enI => (intro pm code doc vs h; match vs, h with | [v0, v1, v2], _ => rfl)
  case enL => decide +kernel
  case enC => rfl
  case enG => rfl
  case enE => decide +kernel
  repeat' tb_rel
  refine o_repMN (by omega) fun ad had => ?_
  repeat' tb_rel
  refine wX_enum (g.bi _ (by decide +kernel)) ?_
  repeat' tb_rel
  refine loopE_inv (fun i vs S => ∃ (f : List Int), vs = zints (l.drop i) ∧ i ≤ l.length ∧ S.m "b" = some (.list (zints k)) ∧ S.m "w" = some (.int w) ∧ S.m "mask" = some (.int (2 ^ w - 1)) ∧
      S.m "found" = some (.ref ad) ∧ S.σ ad = some (zints f) ∧ Limbs (2 ^ w) f ∧ f.length = l.length + k.length ∧ (∀ j, i + k.length ≤ j → f.getD j 0 = 0) ∧ val (2 ^ w) f = val (2 ^ w) (l.take i) * m) ?_ ?_ ?_
  · rintro i v vs S ⟨f, hvs, hi, hb, hww, hm, hf, hs, hlf, hlen, hz, hv⟩
    obtain ⟨hil, rfl, rfl⟩ := zints_cons hvs
    have bx := getD_limb (by omega) h1.limbs i
    repeat' tb_rel
    refine wX_enum (g.bi _ (by decide +kernel)) ?_
    repeat' tb_rel
    refine loopE_inv (fun j us S => ∃ (f : List Int) (cr : Int), us = zints (k.drop j) ∧ j ≤ k.length ∧ S.m "b" = some (.list (zints k)) ∧ S.m "w" = some (.int w) ∧ S.m "mask" = some (.int (2 ^ w - 1)) ∧ S.m "at" = some (.int i) ∧ S.m "limb" = some (.int (l.getD i 0)) ∧
        S.m "found" = some (.ref ad) ∧ S.m "carry" = some (.int cr) ∧ (0 ≤ cr ∧ cr < 2 ^ w) ∧ S.σ ad = some (zints f) ∧ Limbs (2 ^ w) f ∧ f.length = l.length + k.length ∧ (∀ j, i + k.length ≤ j → f.getD j 0 = 0) ∧
        val (2 ^ w) f + (2 ^ w) ^ (i + j) * cr = val (2 ^ w) (l.take i) * m + (2 ^ w) ^ i * (l.getD i 0 * val (2 ^ w) (k.take j))) ?_ ?_ ?_
    · clear hb hww hm hf hs hlf hlen hz hv f S hvs
      rintro j u us S ⟨f, cr, hus, hj, hb, hww, hm, hat, hlimb, hf, hc, hcr, hs, hlf, hlen, hz, hv⟩
      obtain ⟨hjl, rfl, rfl⟩ := zints_cons hus
      have bk := getD_limb (by omega) h2.limbs j
      have bf := getD_limb (by omega) hlf (i + j)
      have mc := mul_carry (by omega) bx bk hcr bf
      repeat' tb_rel
      refine o_mulS (by omega) ?_
      repeat' tb_rel
      have h3 : i + j < f.length := by omega
      refine ⟨f.set (i + j) ((cr + (f.getD (i + j) 0 + l.getD i 0 * k.getD j 0)) % 2 ^ w), (cr + (f.getD (i + j) 0 + l.getD i 0 * k.getD j 0)) / 2 ^ w, rfl, by omega, by tb_start, by tb_start, by tb_start, by tb_start, by tb_start, by tb_start, by tb_start, mc.2, by tb_start, hlf.set _ (mod_limb (by omega)), by simp [hlen], ?_, ?_⟩
      · intro q hq
        rw [getD_set_ne (by omega)]
        exact hz q hq
      · rw [val_set _ h3, val_take_succ', ← Nat.add_assoc, Int.pow_succ, Int.mul_sub, Int.mul_assoc]
        have e := Int.emod_add_mul_ediv (cr + (f.getD (i + j) 0 + l.getD i 0 * k.getD j 0)) (2 ^ w)
        generalize (cr + (f.getD (i + j) 0 + l.getD i 0 * k.getD j 0)) % 2 ^ w = md at *
        generalize (cr + (f.getD (i + j) 0 + l.getD i 0 * k.getD j 0)) / 2 ^ w = dv at *
        have e2 : (2 ^ w) ^ (i + j) * md + (2 ^ w) ^ (i + j) * (2 ^ w * dv) = (2 ^ w) ^ (i + j) * cr + ((2 ^ w) ^ (i + j) * f.getD (i + j) 0 + (2 ^ w) ^ (i + j) * (l.getD i 0 * k.getD j 0)) := by
          rw [← Int.mul_add, e, Int.mul_add, Int.mul_add]
        rw [Int.mul_add, Int.mul_add, Int.mul_left_comm (l.getD i 0), ← Int.mul_assoc ((2 ^ w) ^ i) ((2 ^ w) ^ j), ← Int.pow_add]
        omega
    · clear hb hww hm hf hs hlf hlen hz hv f S hvs
      rintro j S ⟨f, cr, hus, hj, hb, hww, hm, hat, hlimb, hf, hc, hcr, hs, hlf, hlen, hz, hv⟩
      have : j = k.length := by have := zints_nil hus; omega
      subst this
      rw [List.take_length, h2.val] at hv
      repeat' tb_rel
      have h3 : i + k.length < f.length := by omega
      refine ⟨f.set (i + k.length) cr, rfl, by omega, by tb_start, by tb_start, by tb_start, by tb_start, by tb_start, hlf.set _ hcr, by simp [hlen], ?_, ?_⟩
      · intro q hq
        rw [getD_set_ne (by omega)]
        exact hz q (by omega)
      · rw [val_set _ h3, hz _ (Nat.le_refl _), Int.sub_zero, hv, val_take_succ', Int.add_mul, Int.mul_assoc]
    · exact ⟨f, 0, by simp, by omega, by tb_start, by tb_start, by tb_start, by tb_start, by tb_start, by tb_start, by tb_start, by omega, by tb_start, hlf, hlen, hz, by simp [val, hv]⟩
  · rintro i S ⟨f, hvs, hi, hb, hww, hm, hf, hs, hlf, hlen, hz, hv⟩
    have : i = l.length := by have := zints_nil hvs; omega
    subst this
    rw [List.take_length, h1.val] at hv
    refine w_freeze "found" hf hs ?_
    repeat' tb_rel
    refine op_pure (t_normal f (by omega)) (by decide) fun x hx => ?_
    subst hx
    repeat' tb_rel
    have := normL_can (by omega) hlf
    rw [hv] at this
    exact ⟨_, rfl, this⟩
  · refine ⟨List.replicate (l.length + k.length) 0, by simp, by omega, by tb_start, by tb_start, by tb_start, by tb_start, by tb_start, Limbs.replicate (by omega) _, by simp, ?_, ?_⟩
    · intro j hj
      rw [List.getD_eq_getElem?_getD, List.getElem?_replicate]; split <;> rfl
    · rw [val_replicate]; simp [val]

theorem t_divrem_small (w : Nat) (hw : 1 ≤ w ∧ w ≤ 29) (l : List Int) (n d : Int) (hl : l.length ≤ 2 ^ 20) (h1 : Can (2 ^ w) l n) (hd : 1 ≤ d ∧ d < 2 ^ w) :
    GCall g (g.fa "divrem_small") 3 [.list (zints l), .list (zints [d]), .int w] (fun _ => none) (fun x _ => ∃ q r, x = .tup [q, r] ∧ IsNat w q (n / d) ∧ IsNat w r (n % d)) := by
  have hB := one_lt_pow hw.1
  refine' gcall (d := dOf 22) (dOf_mem 22 (by decide)) (hbody := ?enB) (hscope := ?enS) (hparams := ?enP) (hname := rfl) (names := ["a", "b", "w"]) (hk := ?enK) (hbind := ?enI) (hloc := ?enL) (h := ?enH) (hco := ?enC) (hgen := ?enG) (hcell := ?enE)
  case enB => (conv => lhs; whnf)
  case enS => (conv => lhs; whnf)
  case enP => (conv => lhs; whnf)
  case enK => rfl
  case enI => (intro pm code doc vs h; match vs, h with | [v0, v1, v2], _ => rfl)
  case enL => decide +kernel
  case enC => rfl
  case enG => rfl
  case enE => decide +kernel
  repeat' tb_rel
  refine s_list (x := .int d) (by rfl) (by simp [zints]) (by simp [zints]) ?_
  repeat' tb_rel
  refine op_pure (t_divrem_limb w hw l n d hl h1 hd) (by decide) fun x hx => ?_
  obtain ⟨q, rfl, hq⟩ := hx
  have hm := mod_limb (B := d) (c := n) (by omega)
  repeat' tb_rel
  refine iteD (fun h => ?_) (fun h => ?_)
  · repeat' tb_rel
    refine ⟨hq, [n % d], rfl, Limbs.nil.cons (by omega), by simp [val], by simp; omega⟩
  · repeat' tb_rel
    refine wE_listEmp ?_
    repeat' tb_rel
    refine ⟨hq, [], rfl, ?_⟩
    rw [show n % d = 0 by omega]
    exact Can.nil
end
end Mine

namespace Mine
local macro_rules | `(tactic| tb_start) => `(tactic| first
  | with_reducible exact look_same
  | with_reducible exact look_froze
  | ((with_reducible refine' look_i ?nn); (case nn => omega))
  | ((with_reducible refine' look_ne ?nn ?tt); (case nn => decide +kernel); (case tt => tb_start))
  | ((with_reducible refine' look_froze_ne ?nn ?tt); (case nn => decide +kernel); (case tt => tb_start))
  | ((with_reducible refine' sig_set ?tt); (case tt => tb_start))
  | ((with_reducible refine' sig_freeze ?nn ?tt); (case nn => assumption); (case tt => tb_start))
  | ((with_reducible refine' upd_app ?nn); (case nn => first | rfl | omega))
  | ((with_reducible refine' upd_set ?n1 ?n2); (case n1 => first | rfl | omega); (case n2 => first | rfl | omega))
  | with_reducible exact upd_nil
  | with_reducible exact upd_same
  | ((with_reducible refine' upd_ne ?nn ?tt); (case nn => assumption); (case tt => tb_start))
  | assumption
  | exact rfl
  | fail "no look")
local macro_rules | `(tactic| tb_rel) => `(tactic| first
  | with_reducible refine' iteF ?_
  | with_reducible refine' iteT ?_
  | with_reducible refine' wS_nil ?_
  | with_reducible refine' wS_cons ?_
  | ((with_reducible refine' wX_retRef ?h1 ?h2 ?h ?hl ?hd); (case hl => exact rfl); (case hd => decide +kernel); (case h1 => tb_start); (case h2 => tb_start))
  | with_reducible refine' wX_return ?_
  | ((with_reducible refine' wX_assign ?h ?hl ?hs); (case hl => exact rfl); (case hs => (intros; exact rfl)))
  | ((with_reducible refine' wX_aug ?hv ?h ?hl); (case hl => exact rfl); (case hv => tb_start))
  | with_reducible refine' wX_if ?_
  | ((with_reducible refine' wX_append ?h ?h1 ?h2 ?h3 ?h4 ?h5); (case h1 => (intros; exact rfl)); (case h2 => exact rfl); (case h3 => (intros; exact rfl)); (case h4 => (intros; exact rfl)); (case h5 => (intros; exact rfl)))
  | ((with_reducible refine' wX_setitem ?h ?h1); (case h1 => (intros; exact rfl)))
  | ((with_reducible refine' wX_swap2 ?h ?h1 ?h2 ?h3 ?h4); (case h4 => (intros; exact rfl)); (case h1 => exact rfl); (case h2 => exact rfl); (case h3 => (intros; exact rfl)))
  | ((with_reducible refine' wX_swap3 ?h ?h1 ?h2 ?h5 ?h3 ?h4); (case h4 => (intros; exact rfl)); (case h1 => exact rfl); (case h2 => exact rfl); (case h5 => exact rfl); (case h3 => (intros; exact rfl)))
  | ((with_reducible refine' wX_unpack2 ?h ?h1 ?h2 ?h3 ?h4); (case h4 => (intros; exact rfl)); (case h1 => exact rfl); (case h2 => exact rfl); (case h3 => (intros; exact rfl)))
  | ((with_reducible refine' wX_unpack3 ?h ?h1 ?h2 ?h5 ?h3 ?h4); (case h4 => (intros; exact rfl)); (case h1 => exact rfl); (case h2 => exact rfl); (case h5 => exact rfl); (case h3 => (intros; exact rfl)))
  | ((with_reducible refine' wX_for ?h ?h1 ?h2); (case h1 => exact rfl); (case h2 => (intros; exact rfl)))
  | ((with_reducible refine' wI_rng ?h ?h1 ?h2 ?h3); (case h1 => exact rfl); (case h2 => (intro _; exact rfl)); (case h3 => (intro _; exact ⟨_, _, rfl, rfl⟩)))
  | with_reducible refine' wI_list ?_
  | with_reducible refine' wE_int ?_
  | with_reducible refine' wE_bool ?_
  | with_reducible refine' wE_none ?_
  | ((with_reducible refine' wE_local ?hv ?h ?hl ?hd); (case hl => exact rfl); (case hd => decide +kernel); (case hv => tb_start))
  | ((with_reducible refine' wE_fn ?h ?h1 ?h2 ?h3); (case h2 => exact rfl); (case h1 => decide +kernel); (case h3 => decide +kernel))
  | with_reducible refine' wE_binop ?_
  | ((with_reducible refine' wE_cmp ?h ?hm); (case hm => with_unfolding_all exact rfl))
  | with_reducible refine' wE_ifexp ?_
  | with_reducible refine' wE_unop ?_
  | with_reducible refine' wE_boolop_and ?_
  | with_reducible refine' wE_boolop_or ?_
  | with_reducible refine' wE_boolop_one ?_
  | with_reducible refine' wE_tuple ?_
  | ((with_reducible refine' wE_len ?h ?h1 ?h2 ?h3 ?h4); (case h1 => exact rfl); (case h2 => (intro _; exact rfl)); (case h3 => (intro _; exact ⟨_, _, rfl, rfl⟩)); (case h4 => (intro _; exact rfl)))
  | ((with_reducible refine' wE_abs ?h ?h1 ?h2 ?h3 ?h4); (case h1 => exact rfl); (case h2 => (intro _; exact rfl)); (case h3 => (intro _; exact ⟨_, _, rfl, rfl⟩)); (case h4 => (intro _; exact rfl)))
  | ((with_reducible refine' wE_min ?h ?h1 ?h2 ?h3); (case h1 => exact rfl); (case h2 => (intro _; exact rfl)); (case h3 => (intro _; exact ⟨_, _, rfl, rfl⟩)))
  | ((with_reducible refine' wE_def ?h ?h1 ?h2 ?h3 ?h4 ?h5); (case h1 => decide +kernel); (case h2 => exact rfl); (case h3 => decide +kernel); (case h4 => (intro _; exact rfl)); (case h5 => (intro _; exact ⟨_, _, rfl, rfl⟩)))
  | ((with_reducible refine' wE_bitlen ?h ?h1 ?h2); (case h1 => (intro _; exact rfl)); (case h2 => exact rfl))
  | ((with_reducible refine' wT_cmp ?h ?hm); (case hm => with_unfolding_all exact rfl))
  | ((with_reducible refine' wT_chain ?h ?hm); (case hm => with_unfolding_all exact rfl))
  | with_reducible refine' wT_not ?_
  | with_reducible refine' wT_and_nil ?_
  | with_reducible refine' wT_and ?_
  | with_reducible refine' wT_or_nil ?_
  | with_reducible refine' wT_or ?_
  | ((with_reducible refine' wT_plain ?h ?he); (case he => (intros; exact rfl)))
  | with_reducible refine' wA_nil ?_
  | ((with_reducible refine' wA_cons ?h ?hs); (case hs => (intro _; exact rfl)))
  | with_reducible refine' wP_none ?_
  | with_reducible refine' wP_some ?_
  | ((with_reducible refine' wE_sliceAll ?hx ?hsz ?h ?hl ?hd); (case hl => exact rfl); (case hd => decide +kernel); (case hx => tb_start); (case hsz => omega))
  | ((with_reducible refine' wE_sliceTo ?hx ?hsz ?h ?hl ?hd); (case hl => exact rfl); (case hd => decide +kernel); (case hx => tb_start); (case hsz => omega))
  | ((with_reducible refine' wE_sliceZ ?hx ?hsz ?h ?hl ?hd); (case hl => exact rfl); (case hd => decide +kernel); (case hx => tb_start); (case hsz => omega))
  | with_reducible refine' wE_sub ?_
  | ((with_reducible refine' b_len_z ?h1 ?h); (case h1 => omega))
  | ((with_reducible refine' b_len_zr ?h0 ?h1 ?h); (case h0 => tb_start); (case h1 => omega))
  | ((with_reducible refine' s_zN ?h1 ?h2 ?h ?hs); (case hs => (intro _ _; exact rfl)); (case h1 => omega); (case h2 => omega))
  | ((with_reducible refine' s_zrN ?ha ?h1 ?h2 ?h ?hs); (case hs => (intro _ _; exact rfl)); (case ha => tb_start); (case h1 => omega); (case h2 => omega))
  | ((with_reducible refine' s_z ?h0 ?h1 ?h2 ?h ?hs); (case hs => (intro _ _; exact rfl)); (case h0 => omega); (case h1 => omega); (case h2 => omega))
  | ((with_reducible refine' s_zr ?ha ?h0 ?h1 ?h2 ?h ?hs); (case hs => (intro _ _; exact rfl)); (case ha => tb_start); (case h0 => omega); (case h1 => omega); (case h2 => omega))
  | ((with_reducible refine' o_shl1 ?h1 ?h); (case h1 => omega))
  | with_reducible refine' o_shr ?_
  | with_reducible refine' i_shr ?_
  | with_reducible refine' o_mask ?_
  | ((with_reducible refine' o_pow2 ?h1 ?h); (case h1 => omega))
  | ((with_reducible refine' o_divN ?h1 ?h2 ?h); (case h1 => omega); (case h2 => omega))
  | ((with_reducible refine' o_mdN ?h1 ?h); (case h1 => omega))
  | ((with_reducible refine' o_div ?h1 ?h2 ?h); (case h1 => omega); (case h2 => omega))
  | ((with_reducible refine' o_md ?h1 ?h); (case h1 => omega))
  | ((with_reducible refine' i_md ?h1 ?h); (case h1 => omega))
  | ((with_reducible refine' o_shl ?h1 ?h2 ?h); (case h1 => omega); (case h2 => omega))
  | ((with_reducible refine' o_orL ?h1 ?h2 ?h3 ?h); (case h1 => omega); (case h2 => omega); (case h3 => omega))
  | ((with_reducible refine' o_orR ?h1 ?h2 ?h3 ?h); (case h1 => omega); (case h2 => omega); (case h3 => omega))
  | ((with_reducible refine' i_orR ?h1 ?h2 ?h3 ?h); (case h1 => omega); (case h2 => omega); (case h3 => omega))
  | with_reducible refine' o_addN ?_
  | with_reducible refine' o_addN1 ?_
  | with_reducible refine' o_add ?_
  | ((with_reducible refine' o_subN ?h1 ?h); (case h1 => omega))
  | with_reducible refine' o_sub ?_
  | with_reducible refine' i_add ?_
  | with_reducible refine' i_sub ?_
  | with_reducible refine' o_neg ?_
  | with_reducible refine' c_eq ?_
  | with_reducible refine' c_ne ?_
  | with_reducible refine' c_lt ?_
  | with_reducible refine' c_le ?_
  | with_reducible refine' c_gt ?_
  | with_reducible refine' c_ge ?_
  | with_reducible refine' c_eqb ?_
  | with_reducible refine' exTB ?_
  | with_reducible refine' exTI ?_
  | with_reducible refine' exI ?_
  | with_reducible refine' exNat ?_
  | with_reducible refine' exL ?_
  | with_reducible refine' exT2 ?_
  | with_reducible refine' exT3 ?_
  | with_reducible refine' exR ?_
  | with_reducible refine' andLit ?_
  | with_reducible refine' andSt ?_
  | ((with_reducible refine' andLen ?h1 ?h); (case h1 => (simp; done)))
  | ((with_reducible refine' exRng1 ?h1 ?h); (case h1 => (unfold Fit; omega)))
  | ((with_reducible refine' exRng2 ?h1 ?h2 ?h); (case h1 => (unfold Fit; omega)); (case h2 => (unfold Fit; omega)))
  | ((with_reducible refine' exRngD ?he ?h1 ?h2 ?h); (case he => omega); (case h1 => (unfold Fit; omega)); (case h2 => (unfold Fit; omega)))
  | ((with_reducible refine' exApp ?h1 ?h); (case h1 => tb_start))
  | ((with_reducible refine' exAppZ ?h1 ?h2 ?h); (case h1 => tb_start); (case h2 => omega))
  | ((with_reducible refine' exSetZ ?h1 ?h2 ?h3 ?h4 ?h); (case h1 => tb_start); (case h2 => omega); (case h3 => ((try simp only [List.length_set, List.length_replicate, List.length_append, List.length_cons, List.length_nil]); omega)); (case h4 => ((try simp only [List.length_set, List.length_replicate, List.length_append, List.length_cons, List.length_nil]); omega)))
  | with_reducible refine' wE_listOf ?_
  | with_reducible refine' andNext ?_
  | fail "no step")

section
variable {g : G PP}
theorem guess_eq {B b1 b0 t0 high limb : Int} : (high - limb * b1) * B + t0 - limb * b0 = (high * B + t0) - limb * (b1 * B + b0) := by
  rw [Int.sub_mul, Int.mul_add, Int.mul_assoc]; omega

theorem t_guessed_limb (w : Nat) (hw : 1 ≤ w ∧ w ≤ 29) (tp : List Int) (ht : tp.length = 3) (hl : Limbs (2 ^ w) tp) (b1 b0 : Int) (h1 : 1 ≤ b1 ∧ b1 < 2 ^ w) (h0 : 0 ≤ b0 ∧ b0 < 2 ^ w)
    (hT : (tp.getD 2 0 * 2 ^ w + tp.getD 1 0) * 2 ^ w + tp.getD 0 0 < 2 ^ w * (b1 * 2 ^ w + b0)) :
    GCall g (g.fa "guessed_limb") 1 [.list (zints tp), .int b1, .int b0, .int w] (fun _ => none)
      (fun x _ => x = .int (((tp.getD 2 0 * 2 ^ w + tp.getD 1 0) * 2 ^ w + tp.getD 0 0) / (b1 * 2 ^ w + b0))) := by
  have hB := one_lt_pow hw.1
  have hB30 := pow_le30 (w := w) (by omega)
  have l0 := getD_limb (by omega) hl 0
  have l1 := getD_limb (by omega) hl 1
  have l2 := getD_limb (by omega) hl 2
  refine' gcall (d := dOf 23) (dOf_mem 23 (by decide)) (hbody := ?enB) (hscope := ?enS) (hparams := ?enP) (hname := rfl) (names := ["top", "first", "second", "w"]) (hk := ?enK) (hbind := ?enI) (hloc := ?enL) (h := ?enH) (hco := ?enC) (hgen := ?enG) (hcell := ?enE)
  case enB => (conv => lhs; whnf)
  case enS => (conv => lhs; whnf)
  case enP => (conv => lhs; whnf)
  case enK => rfl
  case enI => (intro pm code doc vs h; match vs, h with | [v0, v1, v2, v3], _ => rfl)
  case enL => decide +kernel
  case enC => rfl
  case enG => rfl
  case enE => decide +kernel
  repeat' tb_rel
  simp only [show Int.toNat 2 = 2 from rfl]
  repeat' tb_rel
  simp only [show Int.toNat 1 = 1 from rfl]
  repeat' tb_rel
  generalize ht0 : tp.getD 0 0 = t0 at *
  generalize tp.getD 1 0 = t1 at *
  generalize tp.getD 2 0 = t2 at *
  have hm : 0 ≤ t2 * 2 ^ w := Int.mul_nonneg l2.1 (by omega)
  generalize hh : t2 * 2 ^ w + t1 = high at *
  have hD0 : 0 < b1 * 2 ^ w := Int.mul_pos (by omega) (by omega)
  have hD : 0 < b1 * 2 ^ w + b0 := by omega
  have hq0 : 0 ≤ (high * 2 ^ w + t0) / (b1 * 2 ^ w + b0) := Int.ediv_nonneg (by have := Int.mul_nonneg (show 0 ≤ high by omega) (show (0:Int) ≤ 2 ^ w by omega); omega) (by omega)
  have hq1 : (high * 2 ^ w + t0) / (b1 * 2 ^ w + b0) < 2 ^ w := Int.ediv_lt_of_lt_mul hD hT
  have hq2 : (high * 2 ^ w + t0) / (b1 * 2 ^ w + b0) ≤ high / b1 := by
    rw [Int.le_ediv_iff_mul_le (by omega)]
    have e := Int.ediv_mul_le (high * 2 ^ w + t0) (show b1 * 2 ^ w + b0 ≠ 0 by omega)
    generalize (high * 2 ^ w + t0) / (b1 * 2 ^ w + b0) = q at *
    have e2 : q * b1 * 2 ^ w ≤ high * 2 ^ w + t0 := by
      rw [Int.mul_add, ← Int.mul_assoc] at e
      have := Int.mul_nonneg hq0 h0.1
      omega
    have e3 : q * b1 * 2 ^ w < (high + 1) * 2 ^ w := by rw [Int.add_mul]; omega
    have := Int.lt_of_mul_lt_mul_right e3 (by omega)
    omega
  refine b_min ?_
  have hmin : ∃ m, (if 2 ^ w - 1 < high / b1 then 2 ^ w - 1 else high / b1) = m ∧ (high * 2 ^ w + t0) / (b1 * 2 ^ w + b0) ≤ m ∧ m ≤ 2 ^ w - 1 ∧ m * b1 ≤ high := by
    refine ⟨_, rfl, ?_, ?_, ?_⟩
    · split <;> omega
    · split <;> omega
    · have e := Int.ediv_mul_le high (show b1 ≠ 0 by omega)
      split
      · have : (2 ^ w - 1) * b1 ≤ high / b1 * b1 := Int.mul_le_mul_of_nonneg_right (by omega) (by omega)
        omega
      · exact e
  obtain ⟨m, hme, hm1, hm2, hm3⟩ := hmin
  rw [hme]
  repeat' tb_rel
  refine o_mulS (by omega) ?_
  repeat' tb_rel
  refine wX_while_inv (fun n S => ∃ limb : Int, n = limb.toNat ∧ S.m "limb" = some (.int limb) ∧ S.m "rest" = some (.int (high - limb * b1)) ∧ S.m "base" = some (.int (2 ^ w)) ∧ S.m "second" = some (.int b0) ∧ S.m "first" = some (.int b1) ∧ S.m "top" = some (.list (zints tp)) ∧ S.m "w" = some (.int w) ∧
      (high * 2 ^ w + t0) / (b1 * 2 ^ w + b0) ≤ limb ∧ limb ≤ 2 ^ w - 1 ∧ limb * b1 ≤ high) m.toNat ?_ ?_
  · exact ⟨m, rfl, by tb_start, by tb_start, by tb_start, by tb_start, by tb_start, by tb_start, by tb_start, hm1, hm2, hm3⟩
  · rintro n S ⟨limb, rfl, hli, hre, hba, hse, hfi, hto, hww, hx1, hx2, hx3⟩
    have hmb : 0 ≤ limb * b0 := Int.mul_nonneg (by omega) (by omega)
    have hmb2 : limb * b0 ≤ (2 ^ w - 1) * (2 ^ w - 1) := Int.mul_le_mul (by omega) (by omega) h0.1 (by omega)
    have e1 : ((2:Int) ^ w - 1) * (2 ^ w - 1) = 2 ^ w * 2 ^ w - 2 * 2 ^ w + 1 := by rw [Int.sub_mul, Int.mul_sub]; omega
    have ge := guess_eq (B := 2 ^ w) (b1 := b1) (b0 := b0) (t0 := t0) (high := high) (limb := limb)
    repeat' tb_rel
    refine iteD (fun h => ?_) (fun h => ?_)
    · repeat' tb_rel
      refine o_mulS (by omega) ?_
      repeat' tb_rel
      simp only [show Int.toNat 0 = 0 from rfl, ht0]
      have hr : 0 ≤ high - limb * b1 := by omega
      generalize hrr : high - limb * b1 = rr at *
      refine o_orL (by omega) (by omega) (by omega) ?_
      repeat' tb_rel
      refine iteD (fun h2 => ?_) (fun h2 => ?_)
      · repeat' tb_rel
        have hlt : (high * 2 ^ w + t0) / (b1 * 2 ^ w + b0) < limb := by
          rw [Int.ediv_lt_iff_lt_mul hD]; omega
        have e5 : (limb - 1) * b1 = limb * b1 - b1 := by rw [Int.sub_mul]; omega
        refine ⟨_, ?_, limb - 1, rfl, by tb_start, ?_, by tb_start, by tb_start, by tb_start, by tb_start, by tb_start, by omega, by omega, by omega⟩
        · omega
        · rw [show high - (limb - 1) * b1 = rr + b1 by omega]; tb_start
      · repeat' tb_rel
        have : limb = (high * 2 ^ w + t0) / (b1 * 2 ^ w + b0) := by
          have : limb ≤ (high * 2 ^ w + t0) / (b1 * 2 ^ w + b0) := by rw [Int.le_ediv_iff_mul_le hD]; omega
          omega
        rw [← this]
    · repeat' tb_rel
      have h3 : 2 ^ w * 2 ^ w ≤ (high - limb * b1) * 2 ^ w := Int.mul_le_mul_of_nonneg_right (by omega) (by omega)
      have : limb = (high * 2 ^ w + t0) / (b1 * 2 ^ w + b0) := by
        have : limb ≤ (high * 2 ^ w + t0) / (b1 * 2 ^ w + b0) := by rw [Int.le_ediv_iff_mul_le hD]; omega
        omega
      rw [← this]

theorem borrow_step {B x f c : Int} (hB : 0 < B) (hf : 0 ≤ f ∧ f < B) : ∃ n c' : Int, (if f - (x + c) % B < 0 then f - (x + c) % B + B else f - (x + c) % B) = n ∧ (x + c) / B + (if f - (x + c) % B < 0 then 1 else 0) = c' ∧ 0 ≤ n ∧ n < B ∧ n - f = B * c' - x - c := by
  have e := Int.emod_add_mul_ediv (x + c) B
  have b := mod_limb (B := B) (c := x + c) hB
  refine ⟨_, _, rfl, rfl, ?_, ?_, ?_⟩
  · split <;> omega
  · split <;> omega
  · rw [Int.mul_add]
    generalize B * ((x + c) / B) = z at *
    split <;> omega

theorem t_take_away (w : Nat) (hw : 1 ≤ w ∧ w ≤ 29) (a : Addr) (r b : List Int) (limb : Int) (at' : Nat) (hr : Limbs (2 ^ w) r) (hb : Limbs (2 ^ w) b) (hrl : r.length ≤ 2 ^ 20)
    (hlen : at' + b.length < r.length) (hq : 0 ≤ limb ∧ limb < 2 ^ w) (hle : (2 ^ w) ^ at' * (limb * val (2 ^ w) b) ≤ val (2 ^ w) r) (hhi : val (2 ^ w) r < (2 ^ w) ^ (at' + b.length + 1)) :
    GCall g (g.fa "take_away") 1 [.ref a, .list (zints b), .int limb, .int at', .int w] (fun q => if q = a then some (zints r) else none)
      (fun x σ' => ∃ l', σ' a = some l' ∧ (x = .int 0 ∧ ∃ r', l' = zints r' ∧ Limbs (2 ^ w) r' ∧ r'.length = r.length ∧ val (2 ^ w) r' = val (2 ^ w) r - (2 ^ w) ^ at' * (limb * val (2 ^ w) b))) := by
  have hB := one_lt_pow hw.1
  have hB30 := pow_le30 (w := w) (by omega)
  have hz := zero_above hB hr hhi
  have hB29 : (2:Int) ^ w * 2 ≤ 1073741824 := by have := pow_le30 (w := w+1) (by omega); rw [Int.pow_succ] at this; exact this
  refine' gcall (d := dOf 24) (dOf_mem 24 (by decide)) (hbody := ?enB) (hscope := ?enS) (hparams := ?enP) (hname := rfl) (names := ["rest", "b", "limb", "at", "w"]) (hk := ?enK) (hbind := ?enI) (hloc := ?enL) (h := ?enH) (hco := ?enC) (hgen := ?enG) (hcell := ?enE)
  case enB => (conv => lhs; whnf)
  case enS => (conv => lhs; whnf)
  case enP => (conv => lhs; whnf)
  case enK => rfl
  case enI => (intro pm code doc vs h; match vs, h with | [v0, v1, v2, v3, v4], _ => rfl)
  case enL => decide +kernel
  case enC => rfl
  case enG => rfl
  case enE => decide +kernel
  repeat' tb_rel
  refine wX_enum (g.bi _ (by decide +kernel)) ?_
  repeat' tb_rel
  refine loopE_inv (fun j us S => ∃ (f : List Int) (cr : Int), us = zints (b.drop j) ∧ j ≤ b.length ∧ S.m "b" = some (.list (zints b)) ∧ S.m "base" = some (.int (2 ^ w)) ∧ S.m "at" = some (.int at') ∧ S.m "limb" = some (.int limb) ∧
        S.m "rest" = some (.ref a) ∧ S.m "carry" = some (.int cr) ∧ (0 ≤ cr ∧ cr < 2 ^ w) ∧ S.σ a = some (zints f) ∧ Limbs (2 ^ w) f ∧ f.length = r.length ∧ (∀ j, at' + b.length + 1 ≤ j → f.getD j 0 = 0) ∧
        val (2 ^ w) f = val (2 ^ w) r - (2 ^ w) ^ at' * (limb * val (2 ^ w) (b.take j)) + (2 ^ w) ^ (at' + j) * cr) ?_ ?_ ?_
  · rintro j u us S ⟨f, cr, hus, hj, hb', hba, hat, hlimb, hrs, hc, hcr, hs, hlf, hfl, hz', hv⟩
    obtain ⟨hjl, rfl, rfl⟩ := zints_cons hus
    have bo := getD_limb (by omega) hb j
    have bf := getD_limb (by omega) hlf (at' + j)
    obtain ⟨nn, c', hn, hc', hn0, hn1, hne⟩ := borrow_step (B := 2 ^ w) (x := limb * b.getD j 0) (f := f.getD (at' + j) 0) (c := cr) (by omega) bf
    have hm0 : 0 ≤ limb * b.getD j 0 := Int.mul_nonneg hq.1 bo.1
    have hm1 : limb * b.getD j 0 ≤ (2 ^ w - 1) * (2 ^ w - 1) := Int.mul_le_mul (by omega) (by omega) bo.1 (by omega)
    have e1 : ((2:Int) ^ w - 1) * (2 ^ w - 1) = 2 ^ w * 2 ^ w - 2 * 2 ^ w + 1 := by rw [Int.sub_mul, Int.mul_sub]; omega
    have hc'1 : c' < 2 ^ w := Int.lt_of_mul_lt_mul_left (a := 2 ^ w) (by omega) (by omega)
    have hc'0 : 0 ≤ c' := by
      have := Int.ediv_nonneg (show 0 ≤ limb * b.getD j 0 + cr by omega) (show (0:Int) ≤ 2 ^ w by omega)
      rw [← hc']; split <;> omega
    have h3 : at' + j < f.length := by omega
    have fin : ∃ (f' : List Int) (cr' : Int), f' = f.set (at' + j) nn ∧ cr' = c' ∧ Limbs (2 ^ w) f' ∧ f'.length = r.length ∧ (∀ j, at' + b.length + 1 ≤ j → f'.getD j 0 = 0) ∧
        val (2 ^ w) f' = val (2 ^ w) r - (2 ^ w) ^ at' * (limb * val (2 ^ w) (b.take (j + 1))) + (2 ^ w) ^ (at' + (j + 1)) * cr' := by
      refine ⟨_, _, rfl, rfl, hlf.set _ ⟨hn0, hn1⟩, by simp [hfl], ?_, ?_⟩
      · intro q hq
        rw [getD_set_ne (by omega)]
        exact hz' q hq
      · rw [val_set _ h3, hne, hv, val_take_succ', ← Nat.add_assoc, Int.pow_succ]
        rw [Int.mul_sub, Int.mul_sub, Int.mul_add, Int.mul_add, Int.mul_left_comm limb, ← Int.mul_assoc ((2 ^ w) ^ at') ((2 ^ w) ^ j), ← Int.pow_add, Int.mul_assoc ((2 ^ w) ^ (at' + j)) (2 ^ w) c']
        omega
    obtain ⟨f', cr', rfl, rfl, g1, g2, g3, g4⟩ := fin
    repeat' tb_rel
    refine o_mulS (by omega) ?_
    repeat' tb_rel
    refine o_mulS (by omega) ?_
    repeat' tb_rel
    refine iteD (fun h => ?_) (fun h => ?_)
    · rw [if_pos h] at hn hc'
      repeat' tb_rel
      refine iteD (fun _ => ?_) (fun h' => ?_)
      rotate_left
      · exact absurd h h'
      repeat' tb_rel
      rw [hn, hc']
      exact ⟨_, _, rfl, by omega, by tb_start, by tb_start, by tb_start, by tb_start, by tb_start, by tb_start, ⟨hc'0, hc'1⟩, by tb_start, g1, g2, g3, g4⟩
    · rw [if_neg h] at hn hc'
      repeat' tb_rel
      refine iteD (fun h' => absurd h' h) (fun h' => ?_)
      repeat' tb_rel
      rw [hn, hc']
      exact ⟨_, _, rfl, by omega, by tb_start, by tb_start, by tb_start, by tb_start, by tb_start, by tb_start, ⟨hc'0, hc'1⟩, by tb_start, g1, g2, g3, g4⟩
  · rintro j S ⟨f, cr, hus, hj, hb', hba, hat, hlimb, hrs, hc, hcr, hs, hlf, hfl, hz', hv⟩
    have : j = b.length := by have := zints_nil hus; omega
    subst this
    rw [List.take_length] at hv
    have h3 : at' + b.length < f.length := by omega
    have hge : 0 ≤ f.getD (at' + b.length) 0 - cr := by
      apply Int.not_lt.mp
      intro hlt
      have e := val_of_zero (B := 2 ^ w) hz'
      rw [val_take_succ'] at e
      have e2 := val_lt (by omega) (hlf.take (at' + b.length))
      rw [List.length_take, Nat.min_eq_left (by omega)] at e2
      have hp := pow_pos' (B := 2 ^ w) (by omega) (at' + b.length)
      generalize ((2:Int) ^ w) ^ (at' + b.length) = P at *
      have e3 : P * (f.getD (at' + b.length) 0 + 1) ≤ P * cr := Int.mul_le_mul_of_nonneg_left (by omega) (by omega)
      rw [Int.mul_add] at e3
      omega
    have bf := getD_limb (by omega) hlf (at' + b.length)
    repeat' tb_rel
    refine iteD (fun h => absurd h (by omega)) (fun h => ?_)
    repeat' tb_rel
    refine iteD (fun h => absurd h (by omega)) (fun h => ?_)
    repeat' tb_rel
    refine ⟨_, by tb_start, rfl, _, rfl, hlf.set _ ?_, by simp [hfl], ?_⟩
    · exact ⟨hge, by omega⟩
    · rw [Int.toNat_natCast, val_set _ h3, Int.mul_sub, Int.mul_sub, hv]
      omega
  · exact ⟨r, 0, by simp, by omega, by tb_start, by tb_start, by tb_start, by tb_start, by tb_start, by tb_start, by omega, if_pos rfl, hr, rfl, hz, by simp [val]⟩
end
end Mine

namespace Mine
section
variable {g : G PP} {c : Cx} {S : St}
theorem wE_sliceR {x : Str} {px pp pos : Pos} {lo hi : Option Expr} {a : Addr} {l : List Int} {Q : V → St → Prop} (hx : S.m x = some (.ref a)) (ha : S.σ a = some (zints l)) (hsz : l.length ≤ 2 ^ 24)
    (h : WP g c lo S (fun vl S₂ => WP g c hi S₂ (fun vh S₃ => S₃ = S ∧ Q (.list (pick (zints l) vl vh)) S)))
    (hl : c.scope.names.lookup x = some .local := by rfl) (hd : (x == ("__debug__" : Str)) = false := by decide) :
    WE g c (.Subscript (.Name x px) (.Slice lo hi none pp) pos) S Q := wE_slice (.inr ⟨a, hx, ha⟩) (by rw [zints_length]; exact hsz) h hl hd
theorem exPart {i : Int} {Q : Option Int → St → Prop} (h : Q (some i) S) : ∃ k, V.int i = .int k ∧ Q (some k) S := ⟨i, rfl, h⟩
theorem o_catMZ {l k : List Int} {Q : V → St → Prop} (hsz : l.length + k.length ≤ 2 ^ 24) (h : ∀ a, S.σ a = none → Q (.ref a) { S with σ := upd S.σ a (zints (l ++ k)) }) : Op2 g c Rep (binaryOp .Add) (.list (zints l)) (.list (zints k)) S Q :=
  o_catM (by rw [zints_length, zints_length]; exact hsz) (by simpa only [zints_append] using h)
end
end Mine

namespace Mine
local macro_rules | `(tactic| tb_start) => `(tactic| first
  | with_reducible exact look_same
  | with_reducible exact look_froze
  | ((with_reducible refine' look_i ?nn); (case nn => omega))
  | ((with_reducible refine' look_ne ?nn ?tt); (case nn => decide +kernel); (case tt => tb_start))
  | ((with_reducible refine' look_froze_ne ?nn ?tt); (case nn => decide +kernel); (case tt => tb_start))
  | ((with_reducible refine' sig_set ?tt); (case tt => tb_start))
  | ((with_reducible refine' sig_freeze ?nn ?tt); (case nn => assumption); (case tt => tb_start))
  | ((with_reducible refine' upd_app ?nn); (case nn => first | rfl | omega))
  | ((with_reducible refine' upd_set ?n1 ?n2); (case n1 => first | rfl | omega); (case n2 => first | rfl | omega))
  | with_reducible exact upd_nil
  | with_reducible exact upd_same
  | ((with_reducible refine' upd_ne ?nn ?tt); (case nn => assumption); (case tt => tb_start))
  | assumption
  | exact rfl
  | fail "no look")
local macro_rules | `(tactic| tb_rel) => `(tactic| first
  | with_reducible refine' iteF ?_
  | with_reducible refine' iteT ?_
  | with_reducible refine' wS_nil ?_
  | with_reducible refine' wS_cons ?_
  | ((with_reducible refine' wX_retRef ?h1 ?h2 ?h ?hl ?hd); (case hl => exact rfl); (case hd => decide +kernel); (case h1 => tb_start); (case h2 => tb_start))
  | with_reducible refine' wX_return ?_
  | ((with_reducible refine' wX_assign ?h ?hl ?hs); (case hl => exact rfl); (case hs => (intros; exact rfl)))
  | ((with_reducible refine' wX_aug ?hv ?h ?hl); (case hl => exact rfl); (case hv => tb_start))
  | with_reducible refine' wX_if ?_
  | ((with_reducible refine' wX_append ?h ?h1 ?h2 ?h3 ?h4 ?h5); (case h1 => (intros; exact rfl)); (case h2 => exact rfl); (case h3 => (intros; exact rfl)); (case h4 => (intros; exact rfl)); (case h5 => (intros; exact rfl)))
  | ((with_reducible refine' wX_setitem ?h ?h1); (case h1 => (intros; exact rfl)))
  | ((with_reducible refine' wX_swap2 ?h ?h1 ?h2 ?h3 ?h4); (case h4 => (intros; exact rfl)); (case h1 => exact rfl); (case h2 => exact rfl); (case h3 => (intros; exact rfl)))
  | ((with_reducible refine' wX_swap3 ?h ?h1 ?h2 ?h5 ?h3 ?h4); (case h4 => (intros; exact rfl)); (case h1 => exact rfl); (case h2 => exact rfl); (case h5 => exact rfl); (case h3 => (intros; exact rfl)))
  | ((with_reducible refine' wX_unpack2 ?h ?h1 ?h2 ?h3 ?h4); (case h4 => (intros; exact rfl)); (case h1 => exact rfl); (case h2 => exact rfl); (case h3 => (intros; exact rfl)))
  | ((with_reducible refine' wX_unpack3 ?h ?h1 ?h2 ?h5 ?h3 ?h4); (case h4 => (intros; exact rfl)); (case h1 => exact rfl); (case h2 => exact rfl); (case h5 => exact rfl); (case h3 => (intros; exact rfl)))
  | ((with_reducible refine' wX_for ?h ?h1 ?h2); (case h1 => exact rfl); (case h2 => (intros; exact rfl)))
  | ((with_reducible refine' wI_rng ?h ?h1 ?h2 ?h3); (case h1 => exact rfl); (case h2 => (intro _; exact rfl)); (case h3 => (intro _; exact ⟨_, _, rfl, rfl⟩)))
  | with_reducible refine' wI_list ?_
  | with_reducible refine' wE_int ?_
  | with_reducible refine' wE_bool ?_
  | with_reducible refine' wE_none ?_
  | ((with_reducible refine' wE_local ?hv ?h ?hl ?hd); (case hl => exact rfl); (case hd => decide +kernel); (case hv => tb_start))
  | ((with_reducible refine' wE_fn ?h ?h1 ?h2 ?h3); (case h2 => exact rfl); (case h1 => decide +kernel); (case h3 => decide +kernel))
  | with_reducible refine' wE_binop ?_
  | ((with_reducible refine' wE_cmp ?h ?hm); (case hm => with_unfolding_all exact rfl))
  | with_reducible refine' wE_ifexp ?_
  | with_reducible refine' wE_unop ?_
  | with_reducible refine' wE_boolop_and ?_
  | with_reducible refine' wE_boolop_or ?_
  | with_reducible refine' wE_boolop_one ?_
  | with_reducible refine' wE_tuple ?_
  | ((with_reducible refine' wE_len ?h ?h1 ?h2 ?h3 ?h4); (case h1 => exact rfl); (case h2 => (intro _; exact rfl)); (case h3 => (intro _; exact ⟨_, _, rfl, rfl⟩)); (case h4 => (intro _; exact rfl)))
  | ((with_reducible refine' wE_abs ?h ?h1 ?h2 ?h3 ?h4); (case h1 => exact rfl); (case h2 => (intro _; exact rfl)); (case h3 => (intro _; exact ⟨_, _, rfl, rfl⟩)); (case h4 => (intro _; exact rfl)))
  | ((with_reducible refine' wE_min ?h ?h1 ?h2 ?h3); (case h1 => exact rfl); (case h2 => (intro _; exact rfl)); (case h3 => (intro _; exact ⟨_, _, rfl, rfl⟩)))
  | ((with_reducible refine' wE_def ?h ?h1 ?h2 ?h3 ?h4 ?h5); (case h1 => decide +kernel); (case h2 => exact rfl); (case h3 => decide +kernel); (case h4 => (intro _; exact rfl)); (case h5 => (intro _; exact ⟨_, _, rfl, rfl⟩)))
  | ((with_reducible refine' wE_bitlen ?h ?h1 ?h2); (case h1 => (intro _; exact rfl)); (case h2 => exact rfl))
  | ((with_reducible refine' wT_cmp ?h ?hm); (case hm => with_unfolding_all exact rfl))
  | ((with_reducible refine' wT_chain ?h ?hm); (case hm => with_unfolding_all exact rfl))
  | with_reducible refine' wT_not ?_
  | with_reducible refine' wT_and_nil ?_
  | with_reducible refine' wT_and ?_
  | with_reducible refine' wT_or_nil ?_
  | with_reducible refine' wT_or ?_
  | ((with_reducible refine' wT_plain ?h ?he); (case he => (intros; exact rfl)))
  | with_reducible refine' wA_nil ?_
  | ((with_reducible refine' wA_cons ?h ?hs); (case hs => (intro _; exact rfl)))
  | with_reducible refine' wP_none ?_
  | with_reducible refine' wP_some ?_
  | ((with_reducible refine' wE_sliceAll ?hx ?hsz ?h ?hl ?hd); (case hl => exact rfl); (case hd => decide +kernel); (case hx => tb_start); (case hsz => omega))
  | ((with_reducible refine' wE_sliceTo ?hx ?hsz ?h ?hl ?hd); (case hl => exact rfl); (case hd => decide +kernel); (case hx => tb_start); (case hsz => omega))
  | ((with_reducible refine' wE_sliceZ ?hx ?hsz ?h ?hl ?hd); (case hl => exact rfl); (case hd => decide +kernel); (case hx => tb_start); (case hsz => omega))
  | ((with_reducible refine' wE_sliceR ?hx ?ha ?hsz ?h ?hl ?hd); (case hl => exact rfl); (case hd => decide +kernel); (case hx => tb_start); (case ha => tb_start); (case hsz => omega))
  | with_reducible refine' wE_sub ?_
  | ((with_reducible refine' b_len_z ?h1 ?h); (case h1 => omega))
  | ((with_reducible refine' b_len_zr ?h0 ?h1 ?h); (case h0 => tb_start); (case h1 => omega))
  | ((with_reducible refine' s_zN ?h1 ?h2 ?h ?hs); (case hs => (intro _ _; exact rfl)); (case h1 => omega); (case h2 => omega))
  | ((with_reducible refine' s_zrN ?ha ?h1 ?h2 ?h ?hs); (case hs => (intro _ _; exact rfl)); (case ha => tb_start); (case h1 => omega); (case h2 => omega))
  | ((with_reducible refine' s_z ?h0 ?h1 ?h2 ?h ?hs); (case hs => (intro _ _; exact rfl)); (case h0 => omega); (case h1 => omega); (case h2 => omega))
  | ((with_reducible refine' s_zr ?ha ?h0 ?h1 ?h2 ?h ?hs); (case hs => (intro _ _; exact rfl)); (case ha => tb_start); (case h0 => omega); (case h1 => omega); (case h2 => omega))
  | ((with_reducible refine' o_shl1 ?h1 ?h); (case h1 => omega))
  | with_reducible refine' o_shr ?_
  | with_reducible refine' i_shr ?_
  | with_reducible refine' o_mask ?_
  | ((with_reducible refine' o_pow2 ?h1 ?h); (case h1 => omega))
  | ((with_reducible refine' o_divN ?h1 ?h2 ?h); (case h1 => omega); (case h2 => omega))
  | ((with_reducible refine' o_mdN ?h1 ?h); (case h1 => omega))
  | ((with_reducible refine' o_div ?h1 ?h2 ?h); (case h1 => omega); (case h2 => omega))
  | ((with_reducible refine' o_md ?h1 ?h); (case h1 => omega))
  | ((with_reducible refine' i_md ?h1 ?h); (case h1 => omega))
  | ((with_reducible refine' o_shl ?h1 ?h2 ?h); (case h1 => omega); (case h2 => omega))
  | ((with_reducible refine' o_orL ?h1 ?h2 ?h3 ?h); (case h1 => omega); (case h2 => omega); (case h3 => omega))
  | ((with_reducible refine' o_orR ?h1 ?h2 ?h3 ?h); (case h1 => omega); (case h2 => omega); (case h3 => omega))
  | ((with_reducible refine' i_orR ?h1 ?h2 ?h3 ?h); (case h1 => omega); (case h2 => omega); (case h3 => omega))
  | with_reducible refine' o_addN ?_
  | with_reducible refine' o_addN1 ?_
  | with_reducible refine' o_add ?_
  | ((with_reducible refine' o_subN ?h1 ?h); (case h1 => omega))
  | with_reducible refine' o_sub ?_
  | with_reducible refine' i_add ?_
  | with_reducible refine' i_sub ?_
  | with_reducible refine' o_neg ?_
  | with_reducible refine' c_eq ?_
  | with_reducible refine' c_ne ?_
  | with_reducible refine' c_lt ?_
  | with_reducible refine' c_le ?_
  | with_reducible refine' c_gt ?_
  | with_reducible refine' c_ge ?_
  | with_reducible refine' c_eqb ?_
  | with_reducible refine' exTB ?_
  | with_reducible refine' exTI ?_
  | with_reducible refine' exI ?_
  | with_reducible refine' exNat ?_
  | with_reducible refine' exL ?_
  | with_reducible refine' exT2 ?_
  | with_reducible refine' exT3 ?_
  | with_reducible refine' exR ?_
  | with_reducible refine' andLit ?_
  | with_reducible refine' andSt ?_
  | ((with_reducible refine' andLen ?h1 ?h); (case h1 => (simp; done)))
  | ((with_reducible refine' exRng1 ?h1 ?h); (case h1 => (unfold Fit; omega)))
  | ((with_reducible refine' exRng2 ?h1 ?h2 ?h); (case h1 => (unfold Fit; omega)); (case h2 => (unfold Fit; omega)))
  | ((with_reducible refine' exRngD ?he ?h1 ?h2 ?h); (case he => omega); (case h1 => (unfold Fit; omega)); (case h2 => (unfold Fit; omega)))
  | ((with_reducible refine' exApp ?h1 ?h); (case h1 => tb_start))
  | ((with_reducible refine' exAppZ ?h1 ?h2 ?h); (case h1 => tb_start); (case h2 => omega))
  | ((with_reducible refine' exSetZ ?h1 ?h2 ?h3 ?h4 ?h); (case h1 => tb_start); (case h2 => omega); (case h3 => ((try simp only [List.length_set, List.length_replicate, List.length_append, List.length_cons, List.length_nil]); omega)); (case h4 => ((try simp only [List.length_set, List.length_replicate, List.length_append, List.length_cons, List.length_nil]); omega)))
  | with_reducible refine' wE_listOf ?_
  | with_reducible refine' andNext ?_
  | fail "no step")

section
variable {g : G PP} {c : Cx} {S : St}
theorem pickZ (l : List Int) (j k : Nat) (h1 : j ≤ k) (h2 : k ≤ l.length) : pick (zints l) (some (j : Int)) (some (k : Int)) = zints ((l.drop j).take (k - j)) := by
  rw [pick_run _ _ _ (by omega) (by omega) (by rw [zints_length]; omega)]
  simp [zints, List.map_drop, List.map_take]
theorem bits_lt (x : Int) : x < 2 ^ Builtin.Int.intBits x := by
  by_cases h : x < 0
  · have := pow2_nonneg (Builtin.Int.intBits x); omega
  · have e : x.natAbs < 2 ^ Builtin.Int.intBits x := by
      unfold Builtin.Int.intBits
      split
      · rename_i h0; rw [beq_iff_eq.mp h0]; decide
      · exact Nat.lt_log2_self
    have e2 : ((x.natAbs : Nat) : Int) < ((2 ^ Builtin.Int.intBits x : Nat) : Int) := by exact_mod_cast e
    rw [Int.natCast_pow] at e2
    have e3 : (x.natAbs : Int) = x := by omega
    rw [e3] at e2
    exact e2
theorem bits_le_w {w : Nat} {x : Int} (h0 : 0 ≤ x) (h : x < 2 ^ w) : Builtin.Int.intBits x ≤ w := by
  apply intBits_le
  have : ((x.natAbs : Nat) : Int) < ((2 ^ w : Nat) : Int) := by
    rw [Int.natCast_pow]
    have e3 : (x.natAbs : Int) = x := by omega
    rw [e3]; exact h
  exact_mod_cast this

/-- one row of the long division -/
theorem row_step {B P D V q T v' : Int} (hP : 0 < P) (hD : 0 < D) (hT : T = V / P) (hq : q = T / D) (hv : v' = V - P * (q * D)) : P * (q * D) ≤ V ∧ v' < P * D := by
  have e1 := Int.mul_ediv_add_emod V P
  have e2 := Int.mul_ediv_add_emod T D
  have b1 := mod_limb (B := P) (c := V) hP
  have b2 := mod_limb (B := D) (c := T) hD
  rw [← hT] at e1
  rw [← hq] at e2
  have e3 : P * T = P * (q * D) + P * (T % D) := by rw [← Int.mul_add, Int.mul_comm q D, e2]
  have m1 := Int.mul_nonneg (show 0 ≤ P by omega) b2.1
  have m2 : P * (T % D + 1) ≤ P * D := Int.mul_le_mul_of_nonneg_left (by omega) (by omega)
  rw [Int.mul_add] at m2
  omega

theorem t_divide_rows (w : Nat) (hw : 1 ≤ w ∧ w ≤ 29) (a : Addr) (r : List Int) (b0 b1 : Int) (hr : Limbs (2 ^ w) r) (h0 : 0 ≤ b0 ∧ b0 < 2 ^ w) (h1 : 1 ≤ b1 ∧ b1 < 2 ^ w) (hrl : r.length ≤ 2 ^ 20)
    (hlen : 2 ≤ r.length) (hhi : val (2 ^ w) r < (2 ^ w) ^ (r.length - 2) * (b1 * 2 ^ w + b0)) :
    GCall g (g.fa "divide_rows") 2 [.ref a, .list (zints [b0, b1]), .int w] (fun q => if q = a then some (zints r) else none)
      (fun x σ' => ∃ l', σ' a = some l' ∧ ∃ qs r', x = .list (zints qs) ∧ l' = zints r' ∧ Limbs (2 ^ w) qs ∧ qs.length ≤ 2 ^ 20 ∧ Limbs (2 ^ w) r' ∧ r'.length = r.length ∧ val (2 ^ w) qs = val (2 ^ w) r / (b1 * 2 ^ w + b0) ∧ val (2 ^ w) r' = val (2 ^ w) r % (b1 * 2 ^ w + b0)) := by
  have hB := one_lt_pow hw.1
  have hB30 := pow_le30 (w := w) (by omega)
  have hD0 : 0 < b1 * 2 ^ w := Int.mul_pos (by omega) (by omega)
  have hvb : val (2 ^ w) [b0, b1] = b1 * 2 ^ w + b0 := by simp [val, Int.mul_comm]; omega
  refine' gcall (d := dOf 26) (dOf_mem 26 (by decide)) (hbody := ?enB) (hscope := ?enS) (hparams := ?enP) (hname := rfl) (names := ["rest", "b", "w"]) (hk := ?enK) (hbind := ?enI) (hloc := ?enL) (h := ?enH) (hco := ?enC) (hgen := ?enG) (hcell := ?enE)
  case enB => (conv => lhs; whnf)
  case enS => (conv => lhs; whnf)
  case enP => (conv => lhs; whnf)
  case enK => rfl
  case enI => (intro pm code doc vs h; match vs, h with | [v0, v1, v2], _ => rfl)
  case enL => decide +kernel
  case enC => rfl
  case enG => rfl
  case enE => decide +kernel
  repeat' tb_rel
  refine b_len_z (by simp) ?_
  simp only [List.length_cons, List.length_nil, Nat.reduceAdd, Nat.zero_add]
  repeat' tb_rel
  refine b_len_zr (l := r) (if_pos rfl) (by omega) ?_
  repeat' tb_rel
  refine o_repMN (by omega) fun ad had => ?_
  have hne : ad ≠ a := by
    intro h
    rw [h] at had
    have had' : (if a = a then some (zints r) else none) = none := had
    simp at had'
  have hne' : a ≠ ad := fun h => hne h.symm
  repeat' tb_rel
  refine b_len_zr (l := r) ((upd_ne hne' (if_pos rfl))) (by omega) ?_
  repeat' tb_rel
  refine loop_inv (fun vs S => ∃ (k : Nat) (f qs : List Int), vs = downFrom ((k : Int) - 1) k ∧ k + 2 ≤ r.length ∧ S.m "b" = some (.list (zints [b0, b1])) ∧ S.m "w" = some (.int w) ∧ S.m "size" = some (.int ((2 : Nat) : Int)) ∧
      S.m "rest" = some (.ref a) ∧ S.m "quotient" = some (.ref ad) ∧ S.σ a = some (zints f) ∧ S.σ ad = some (zints qs) ∧ Limbs (2 ^ w) f ∧ f.length = r.length ∧ Limbs (2 ^ w) qs ∧ qs.length = r.length - 2 ∧
      (∀ j, j < k → qs.getD j 0 = 0) ∧ val (2 ^ w) f < (2 ^ w) ^ k * (b1 * 2 ^ w + b0) ∧ val (2 ^ w) qs * (b1 * 2 ^ w + b0) + val (2 ^ w) f = val (2 ^ w) r) ?_ ?_ ?_
  · clear hhi
    rintro v vs S ⟨k, f, qs, hvs, hk, hb, hww, hsz, hre, hqu, hsf, hsq, hlf, hfl, hlq, hql, hz, hlt, hv⟩
    obtain ⟨j, rfl, rfl, rfl⟩ := downFrom_cons hvs
    have ej : ((j + 1 : Nat) : Int) - 1 = (j : Int) := by omega
    rw [ej]
    have hp := pow_pos' (B := 2 ^ w) (by omega) j
    repeat' tb_rel
    have hPD := hD0
    have hfl2 : f.length ≤ 2 ^ 20 := by omega
    have hpk : pick (zints f) (some (((j + 2 : Nat) : Int) - 2)) (some ((j + 2 + 1 : Nat) : Int)) = zints ((f.drop j).take 3) := by
      have e : ((j + 2 : Nat) : Int) - 2 = (j : Int) := by omega
      rw [e, pickZ _ _ _ (by omega) (by omega)]
      congr 2
      omega
    -- what the three limbs say
    have hd0 : ∀ i, ((f.drop j).take 3).getD i 0 = if i < 3 then f.getD (j + i) 0 else 0 := by
      intro i
      rw [List.getD_eq_getElem?_getD, List.getElem?_take]
      split
      · rw [List.getElem?_drop, ← List.getD_eq_getElem?_getD]
      · rfl
    have hup : val (2 ^ w) f < (2 ^ w) ^ (j + 3) := by
      have : (2 ^ w) ^ (j + 1) * (b1 * 2 ^ w + b0) ≤ (2 ^ w) ^ (j + 1) * (2 ^ w * 2 ^ w) := by
        apply Int.mul_le_mul_of_nonneg_left
        · have : (b1 + 1) * 2 ^ w ≤ 2 ^ w * 2 ^ w := Int.mul_le_mul_of_nonneg_right (by omega) (by omega)
          rw [Int.add_mul] at this
          omega
        · exact Int.le_of_lt (pow_pos' (by omega) _)
      have e : ((2:Int) ^ w) ^ (j + 3) = (2 ^ w) ^ (j + 1) * (2 ^ w * 2 ^ w) := by
        rw [show j + 3 = j + 1 + 1 + 1 by omega, Int.pow_succ, Int.pow_succ ((2:Int) ^ w) (j + 1), Int.mul_assoc]
      omega
    have hz3 := zero_above hB hlf hup
    have hT : ((((f.drop j).take 3).getD 2 0) * 2 ^ w + ((f.drop j).take 3).getD 1 0) * 2 ^ w + ((f.drop j).take 3).getD 0 0 = val (2 ^ w) f / (2 ^ w) ^ j := by
      rw [hd0, hd0, hd0, if_pos (by omega), if_pos (by omega), if_pos (by omega)]
      rw [← val_drop_div hB hlf j, drop_step _ (by omega), drop_step _ (by omega), drop_step _ (by omega)]
      have e0 : val (2 ^ w) (f.drop (j + 1 + 1 + 1)) = 0 := by
        rw [val_drop_div hB hlf, Int.ediv_eq_zero_of_lt (val_nonneg (by omega) hlf) hup]
      rw [e0, Int.mul_zero, Int.add_zero, Nat.add_zero]
      have e1 : j + 1 + 1 = j + 2 := rfl
      rw [e1]
      generalize f.getD (j + 2) 0 = z2
      generalize f.getD (j + 1) 0 = z1
      rw [Int.mul_comm (2 ^ w) (z1 + _), Int.mul_comm (2 ^ w) z2, Int.add_comm z1]
      exact Int.add_comm _ _
    have hTD : val (2 ^ w) f / (2 ^ w) ^ j < 2 ^ w * (b1 * 2 ^ w + b0) := by
      apply Int.ediv_lt_of_lt_mul hp
      rw [Int.pow_succ, Int.mul_assoc] at hlt
      rw [Int.mul_comm]
      exact hlt
    have hV0 := val_nonneg (B := 2 ^ w) (by omega) hlf
    have hT0 : 0 ≤ val (2 ^ w) f / (2 ^ w) ^ j := Int.ediv_nonneg hV0 (by omega)
    refine s_list (x := .int b1) (by rfl) (by simp [zints]) (by simp [zints]) ?_
    repeat' tb_rel
    refine s_list (x := .int b0) (by rfl) (by simp [zints]) (by simp [zints]) ?_
    repeat' tb_rel
    rw [hpk]
    refine op_pure (t_guessed_limb w hw ((f.drop j).take 3) (by rw [List.length_take, List.length_drop]; omega) ((hlf.drop j).take 3) b1 b0 h1 h0 (by rw [hT]; exact hTD)) (by decide) fun x hx => ?_
    rw [hT] at hx
    subst hx
    have hq0 : 0 ≤ val (2 ^ w) f / (2 ^ w) ^ j / (b1 * 2 ^ w + b0) := Int.ediv_nonneg hT0 (by omega)
    have hq1 : val (2 ^ w) f / (2 ^ w) ^ j / (b1 * 2 ^ w + b0) < 2 ^ w := Int.ediv_lt_of_lt_mul (show 0 < b1 * 2 ^ w + b0 by omega) hTD
    obtain ⟨rs1, rs2⟩ := row_step (P := (2 ^ w) ^ j) (B := 2 ^ w) (V := val (2 ^ w) f) (D := b1 * 2 ^ w + b0) hp (by omega) rfl rfl rfl
    generalize hqq : val (2 ^ w) f / (2 ^ w) ^ j / (b1 * 2 ^ w + b0) = q at *
    repeat' tb_rel
    have hlb : Limbs (2 ^ w) [b0, b1] := (Limbs.nil.cons (by omega)).cons h0
    refine op_lend (a := a) (l := zints f) (by tb_start) (t_take_away w hw a f [b0, b1] q j hlf hlb hfl2 (by simp; omega) ⟨hq0, hq1⟩ (by rw [hvb]; exact rs1) hup) (by decide) ?_
    rintro x l' ⟨rfl, f', rfl, hlf', hfl', hv'⟩
    rw [hvb] at hv'
    repeat' tb_rel
    refine iteEq (fun h => absurd h (by decide)) (fun _ => ?_)
    repeat' tb_rel
    have hjq : j < qs.length := by omega
    refine ⟨j, f', qs.set j q, by congr 1 <;> omega, by omega, by tb_start, by tb_start, by tb_start, by tb_start, by tb_start, by tb_start, ?_, hlf', by omega, hlq.set _ ⟨hq0, hq1⟩, by simp [hql], ?_, ?_, ?_⟩
    · simp only [Int.toNat_natCast]; tb_start
    · intro i hi
      rw [getD_set_ne (by omega)]
      exact hz i (by omega)
    · rw [hv']; exact rs2
    · rw [val_set _ hjq, hz j (by omega), Int.sub_zero, hv', Int.add_mul, Int.mul_assoc]
      omega
  · rintro S ⟨k, f, qs, hvs, hk, hb, hww, hsz, hre, hqu, hsf, hsq, hlf, hfl, hlq, hql, hz, hlt, hv⟩
    have : k = 0 := downFrom_nil hvs
    subst this
    rw [Int.pow_zero, Int.one_mul] at hlt
    have hV0 := val_nonneg (B := 2 ^ w) (by omega) hlf
    repeat' tb_rel
    refine ⟨_, by tb_start, qs, f, rfl, rfl, hlq, by omega, hlf, hfl, ?_, ?_⟩
    · rw [← hv, Int.add_comm, Int.add_mul_ediv_right _ _ (by omega), Int.ediv_eq_zero_of_lt hV0 hlt]; omega
    · rw [← hv, Int.add_comm, Int.add_mul_emod_self_right, Int.emod_eq_of_lt hV0 hlt]
  · refine ⟨r.length - 2, r, List.replicate (r.length - 2) 0, by congr 1 <;> omega, by omega, by tb_start, by tb_start, by tb_start, by tb_start, by tb_start, upd_ne hne' (if_pos rfl), by tb_start, hr, rfl, Limbs.replicate (by omega) _, by simp, ?_, hhi, ?_⟩
    · intro i _
      rw [List.getD_eq_getElem?_getD, List.getElem?_replicate]; split <;> rfl
    · rw [val_replicate]; omega
end
end Mine

namespace Mine
local macro_rules | `(tactic| tb_start) => `(tactic| first
  | with_reducible exact look_same
  | with_reducible exact look_froze
  | ((with_reducible refine' look_i ?nn); (case nn => omega))
  | ((with_reducible refine' look_ne ?nn ?tt); (case nn => decide +kernel); (case tt => tb_start))
  | ((with_reducible refine' look_froze_ne ?nn ?tt); (case nn => decide +kernel); (case tt => tb_start))
  | ((with_reducible refine' sig_set ?tt); (case tt => tb_start))
  | ((with_reducible refine' sig_freeze ?nn ?tt); (case nn => assumption); (case tt => tb_start))
  | ((with_reducible refine' upd_app ?nn); (case nn => first | rfl | omega))
  | ((with_reducible refine' upd_set ?n1 ?n2); (case n1 => first | rfl | omega); (case n2 => first | rfl | omega))
  | with_reducible exact upd_nil
  | with_reducible exact upd_same
  | ((with_reducible refine' upd_ne ?nn ?tt); (case nn => assumption); (case tt => tb_start))
  | assumption
  | exact rfl
  | fail "no look")
local macro_rules | `(tactic| tb_rel) => `(tactic| first
  | with_reducible refine' iteF ?_
  | with_reducible refine' iteT ?_
  | with_reducible refine' wS_nil ?_
  | with_reducible refine' wS_cons ?_
  | ((with_reducible refine' wX_retRef ?h1 ?h2 ?h ?hl ?hd); (case hl => exact rfl); (case hd => decide +kernel); (case h1 => tb_start); (case h2 => tb_start))
  | with_reducible refine' wX_return ?_
  | ((with_reducible refine' wX_assign ?h ?hl ?hs); (case hl => exact rfl); (case hs => (intros; exact rfl)))
  | ((with_reducible refine' wX_aug ?hv ?h ?hl); (case hl => exact rfl); (case hv => tb_start))
  | with_reducible refine' wX_if ?_
  | ((with_reducible refine' wX_append ?h ?h1 ?h2 ?h3 ?h4 ?h5); (case h1 => (intros; exact rfl)); (case h2 => exact rfl); (case h3 => (intros; exact rfl)); (case h4 => (intros; exact rfl)); (case h5 => (intros; exact rfl)))
  | ((with_reducible refine' wX_setitem ?h ?h1); (case h1 => (intros; exact rfl)))
  | ((with_reducible refine' wX_swap2 ?h ?h1 ?h2 ?h3 ?h4); (case h4 => (intros; exact rfl)); (case h1 => exact rfl); (case h2 => exact rfl); (case h3 => (intros; exact rfl)))
  | ((with_reducible refine' wX_swap3 ?h ?h1 ?h2 ?h5 ?h3 ?h4); (case h4 => (intros; exact rfl)); (case h1 => exact rfl); (case h2 => exact rfl); (case h5 => exact rfl); (case h3 => (intros; exact rfl)))
  | ((with_reducible refine' wX_unpack2 ?h ?h1 ?h2 ?h3 ?h4); (case h4 => (intros; exact rfl)); (case h1 => exact rfl); (case h2 => exact rfl); (case h3 => (intros; exact rfl)))
  | ((with_reducible refine' wX_unpack3 ?h ?h1 ?h2 ?h5 ?h3 ?h4); (case h4 => (intros; exact rfl)); (case h1 => exact rfl); (case h2 => exact rfl); (case h5 => exact rfl); (case h3 => (intros; exact rfl)))
  | ((with_reducible refine' wX_for ?h ?h1 ?h2); (case h1 => exact rfl); (case h2 => (intros; exact rfl)))
  | ((with_reducible refine' wI_rng ?h ?h1 ?h2 ?h3); (case h1 => exact rfl); (case h2 => (intro _; exact rfl)); (case h3 => (intro _; exact ⟨_, _, rfl, rfl⟩)))
  | with_reducible refine' wI_list ?_
  | with_reducible refine' wE_int ?_
  | with_reducible refine' wE_bool ?_
  | with_reducible refine' wE_none ?_
  | ((with_reducible refine' wE_local ?hv ?h ?hl ?hd); (case hl => exact rfl); (case hd => decide +kernel); (case hv => tb_start))
  | ((with_reducible refine' wE_fn ?h ?h1 ?h2 ?h3); (case h2 => exact rfl); (case h1 => decide +kernel); (case h3 => decide +kernel))
  | with_reducible refine' wE_binop ?_
  | ((with_reducible refine' wE_cmp ?h ?hm); (case hm => with_unfolding_all exact rfl))
  | with_reducible refine' wE_ifexp ?_
  | with_reducible refine' wE_unop ?_
  | with_reducible refine' wE_boolop_and ?_
  | with_reducible refine' wE_boolop_or ?_
  | with_reducible refine' wE_boolop_one ?_
  | with_reducible refine' wE_tuple ?_
  | ((with_reducible refine' wE_len ?h ?h1 ?h2 ?h3 ?h4); (case h1 => exact rfl); (case h2 => (intro _; exact rfl)); (case h3 => (intro _; exact ⟨_, _, rfl, rfl⟩)); (case h4 => (intro _; exact rfl)))
  | ((with_reducible refine' wE_abs ?h ?h1 ?h2 ?h3 ?h4); (case h1 => exact rfl); (case h2 => (intro _; exact rfl)); (case h3 => (intro _; exact ⟨_, _, rfl, rfl⟩)); (case h4 => (intro _; exact rfl)))
  | ((with_reducible refine' wE_min ?h ?h1 ?h2 ?h3); (case h1 => exact rfl); (case h2 => (intro _; exact rfl)); (case h3 => (intro _; exact ⟨_, _, rfl, rfl⟩)))
  | ((with_reducible refine' wE_def ?h ?h1 ?h2 ?h3 ?h4 ?h5); (case h1 => decide +kernel); (case h2 => exact rfl); (case h3 => decide +kernel); (case h4 => (intro _; exact rfl)); (case h5 => (intro _; exact ⟨_, _, rfl, rfl⟩)))
  | ((with_reducible refine' wE_bitlen ?h ?h1 ?h2); (case h1 => (intro _; exact rfl)); (case h2 => exact rfl))
  | ((with_reducible refine' wT_cmp ?h ?hm); (case hm => with_unfolding_all exact rfl))
  | ((with_reducible refine' wT_chain ?h ?hm); (case hm => with_unfolding_all exact rfl))
  | with_reducible refine' wT_not ?_
  | with_reducible refine' wT_and_nil ?_
  | with_reducible refine' wT_and ?_
  | with_reducible refine' wT_or_nil ?_
  | with_reducible refine' wT_or ?_
  | ((with_reducible refine' wT_plain ?h ?he); (case he => (intros; exact rfl)))
  | with_reducible refine' wA_nil ?_
  | ((with_reducible refine' wA_cons ?h ?hs); (case hs => (intro _; exact rfl)))
  | with_reducible refine' wP_none ?_
  | with_reducible refine' wP_some ?_
  | ((with_reducible refine' wE_sliceAll ?hx ?hsz ?h ?hl ?hd); (case hl => exact rfl); (case hd => decide +kernel); (case hx => tb_start); (case hsz => omega))
  | ((with_reducible refine' wE_sliceTo ?hx ?hsz ?h ?hl ?hd); (case hl => exact rfl); (case hd => decide +kernel); (case hx => tb_start); (case hsz => omega))
  | ((with_reducible refine' wE_sliceZ ?hx ?hsz ?h ?hl ?hd); (case hl => exact rfl); (case hd => decide +kernel); (case hx => tb_start); (case hsz => omega))
  | ((with_reducible refine' wE_sliceR ?hx ?ha ?hsz ?h ?hl ?hd); (case hl => exact rfl); (case hd => decide +kernel); (case hx => tb_start); (case ha => tb_start); (case hsz => omega))
  | with_reducible refine' wE_sub ?_
  | ((with_reducible refine' b_len_z ?h1 ?h); (case h1 => omega))
  | ((with_reducible refine' b_len_zr ?h0 ?h1 ?h); (case h0 => tb_start); (case h1 => omega))
  | ((with_reducible refine' s_zN ?h1 ?h2 ?h ?hs); (case hs => (intro _ _; exact rfl)); (case h1 => omega); (case h2 => omega))
  | ((with_reducible refine' s_zrN ?ha ?h1 ?h2 ?h ?hs); (case hs => (intro _ _; exact rfl)); (case ha => tb_start); (case h1 => omega); (case h2 => omega))
  | ((with_reducible refine' s_z ?h0 ?h1 ?h2 ?h ?hs); (case hs => (intro _ _; exact rfl)); (case h0 => omega); (case h1 => omega); (case h2 => omega))
  | ((with_reducible refine' s_zr ?ha ?h0 ?h1 ?h2 ?h ?hs); (case hs => (intro _ _; exact rfl)); (case ha => tb_start); (case h0 => omega); (case h1 => omega); (case h2 => omega))
  | ((with_reducible refine' o_shl1 ?h1 ?h); (case h1 => omega))
  | with_reducible refine' o_shr ?_
  | with_reducible refine' i_shr ?_
  | with_reducible refine' o_mask ?_
  | ((with_reducible refine' o_pow2 ?h1 ?h); (case h1 => omega))
  | ((with_reducible refine' o_divN ?h1 ?h2 ?h); (case h1 => omega); (case h2 => omega))
  | ((with_reducible refine' o_mdN ?h1 ?h); (case h1 => omega))
  | ((with_reducible refine' o_div ?h1 ?h2 ?h); (case h1 => omega); (case h2 => omega))
  | ((with_reducible refine' o_md ?h1 ?h); (case h1 => omega))
  | ((with_reducible refine' i_md ?h1 ?h); (case h1 => omega))
  | ((with_reducible refine' o_shl ?h1 ?h2 ?h); (case h1 => omega); (case h2 => omega))
  | ((with_reducible refine' o_orL ?h1 ?h2 ?h3 ?h); (case h1 => omega); (case h2 => omega); (case h3 => omega))
  | ((with_reducible refine' o_orR ?h1 ?h2 ?h3 ?h); (case h1 => omega); (case h2 => omega); (case h3 => omega))
  | ((with_reducible refine' i_orR ?h1 ?h2 ?h3 ?h); (case h1 => omega); (case h2 => omega); (case h3 => omega))
  | with_reducible refine' o_addN ?_
  | with_reducible refine' o_addN1 ?_
  | with_reducible refine' o_add ?_
  | ((with_reducible refine' o_subN ?h1 ?h); (case h1 => omega))
  | with_reducible refine' o_sub ?_
  | with_reducible refine' i_add ?_
  | with_reducible refine' i_sub ?_
  | with_reducible refine' o_neg ?_
  | with_reducible refine' c_eq ?_
  | with_reducible refine' c_ne ?_
  | with_reducible refine' c_lt ?_
  | with_reducible refine' c_le ?_
  | with_reducible refine' c_gt ?_
  | with_reducible refine' c_ge ?_
  | with_reducible refine' c_eqb ?_
  | with_reducible refine' exTB ?_
  | with_reducible refine' exTI ?_
  | with_reducible refine' exI ?_
  | with_reducible refine' exNat ?_
  | with_reducible refine' exL ?_
  | with_reducible refine' exT2 ?_
  | with_reducible refine' exT3 ?_
  | with_reducible refine' exR ?_
  | with_reducible refine' andLit ?_
  | with_reducible refine' andSt ?_
  | ((with_reducible refine' andLen ?h1 ?h); (case h1 => (simp; done)))
  | ((with_reducible refine' exRng1 ?h1 ?h); (case h1 => (unfold Fit; omega)))
  | ((with_reducible refine' exRng2 ?h1 ?h2 ?h); (case h1 => (unfold Fit; omega)); (case h2 => (unfold Fit; omega)))
  | ((with_reducible refine' exRngD ?he ?h1 ?h2 ?h); (case he => omega); (case h1 => (unfold Fit; omega)); (case h2 => (unfold Fit; omega)))
  | ((with_reducible refine' exApp ?h1 ?h); (case h1 => tb_start))
  | ((with_reducible refine' exAppZ ?h1 ?h2 ?h); (case h1 => tb_start); (case h2 => omega))
  | ((with_reducible refine' exSetZ ?h1 ?h2 ?h3 ?h4 ?h); (case h1 => tb_start); (case h2 => omega); (case h3 => ((try simp only [List.length_set, List.length_replicate, List.length_append, List.length_cons, List.length_nil]); omega)); (case h4 => ((try simp only [List.length_set, List.length_replicate, List.length_append, List.length_cons, List.length_nil]); omega)))
  | with_reducible refine' wE_listOf ?_
  | with_reducible refine' andNext ?_
  | fail "no step")

section
variable {g : G PP} {c : Cx} {S : St}
theorem len_two {l : List Int} (h : l.length = 2) : ∃ a b, l = [a, b] := by
  match l, h with
  | [a, b], _ => exact ⟨a, b, rfl⟩
theorem t_divrem_school (w : Nat) (hw : 1 ≤ w ∧ w ≤ 29) (l k : List Int) (n m : Int) (hl : l.length ≤ 2 ^ 18) (h1 : Can (2 ^ w) l n) (h2 : Can (2 ^ w) k m) (hm : 1 ≤ m ∧ m < 2 ^ w * 2 ^ w) :
    GCall g (g.fa "divrem_school") 5 [.list (zints l), .list (zints k), .int w] (fun _ => none) (fun x _ => ∃ q r, x = .tup [q, r] ∧ IsNat w q (n / m) ∧ IsNat w r (n % m)) := by
  have hB := one_lt_pow hw.1
  have hB30 := pow_le30 (w := w) (by omega)
  have hkl : k.length ≤ 2 := h2.len_le hB (by rw [Int.pow_succ, Int.pow_succ, Int.pow_zero, Int.one_mul]; exact hm.2)
  have hk0 : 0 < k.length := by
    apply Nat.pos_of_ne_zero
    intro h
    have := (h2.zero hB).mp (List.length_eq_zero_iff.mp h)
    omega
  have hn0 := h1.nonneg (by omega)
  refine' gcall (d := dOf 27) (dOf_mem 27 (by decide)) (hbody := ?enB) (hscope := ?enS) (hparams := ?enP) (hname := rfl) (names := ["a", "b", "w"]) (hk := ?enK) (hbind := ?enI) (hloc := ?enL) (h := ?enH) (hco := ?enC) (hgen := ?enG) (hcell := ?enE)
  case enB => (conv => lhs; whnf)
  case enS => (conv => lhs; whnf)
  case enP => (conv => lhs; whnf)
  case enK => rfl
  case enI => (intro pm code doc vs h; match vs, h with | [v0, v1, v2], _ => rfl)
  case enL => decide +kernel
  case enC => rfl
  case enG => rfl
  case enE => decide +kernel
  repeat' tb_rel
  refine iteEq (fun h => absurd h (by omega)) (fun _ => ?_)
  repeat' tb_rel
  refine op_pure (t_compare w hw.1 l k n m (by omega) (by omega) h1 h2) (by decide) fun x hx => ?_
  obtain ⟨cc, rfl, hcc⟩ := hx
  repeat' tb_rel
  refine iteD (fun h => ?_) (fun h => ?_)
  · repeat' tb_rel
    refine wE_listEmp ?_
    repeat' tb_rel
    have hlt := hcc.1 h
    rw [Int.ediv_eq_zero_of_lt hn0 hlt, Int.emod_eq_of_lt hn0 hlt]
    exact ⟨⟨[], rfl, Can.nil⟩, ⟨l, rfl, h1⟩⟩
  · have hge : ¬ n < m := fun hh => h (hcc.2 hh)
    repeat' tb_rel
    refine iteEq (fun hk1 => ?_) (fun hk2 => ?_)
    · obtain ⟨d, rfl⟩ : ∃ d, k = [d] := List.length_eq_one_iff.mp (by omega)
      have hd : m = d := by have := h2.val; simp [val] at this; omega
      subst hd
      have := h2.limbs m (by simp)
      repeat' tb_rel
      refine op_pure (t_divrem_small w hw l n m (by omega) h1 ⟨hm.1, this.2⟩) (by decide) fun x hx => ?_
      obtain ⟨q, r, rfl, hq, hr⟩ := hx
      repeat' tb_rel
      exact ⟨hq, hr⟩
    · obtain ⟨b0, b1, rfl⟩ : ∃ b0 b1, k = [b0, b1] := len_two (by omega)
      have l0 := h2.limbs b0 (by simp)
      have l1 := h2.limbs b1 (by simp)
      have hmv : m = b0 + 2 ^ w * b1 := by have := h2.val; simp [val] at this; omega
      have hb1 : 1 ≤ b1 := by
        have := h2.top
        simp at this
        omega
      have hib : 1 ≤ Builtin.Int.intBits b1 := by
        apply Nat.pos_of_ne_zero
        intro h
        have := bits_lt b1
        rw [h] at this
        omega
      have hiw : Builtin.Int.intBits b1 ≤ w := bits_le_w l1.1 l1.2
      repeat' tb_rel
      refine s_list (x := .int b1) (by rfl) (by simp [zints]) (by simp [zints]) ?_
      repeat' tb_rel
      refine op_pure (t_bits w hw b1) (by decide) fun x hx => ?_
      subst hx
      repeat' tb_rel
      have hbl := bits_lt b1
      generalize Builtin.Int.intBits b1 = ib at *
      obtain ⟨s, hs⟩ : ∃ s : Nat, s = w - ib := ⟨_, rfl⟩
      rw [← hs]
      have hmB : 2 ^ w ≤ m := by
        have := Int.mul_le_mul_of_nonneg_left hb1 (show (0:Int) ≤ 2 ^ w by omega)
        omega
      have hsp : (0:Int) < 2 ^ s := Int.pow_pos (by decide)
      have hsp1 : (1:Int) ≤ 2 ^ s := hsp
      have hm2 : m * 2 ^ s < 2 ^ w * 2 ^ w := by
        have e : (2:Int) ^ w = 2 ^ ib * 2 ^ s := by rw [← Int.pow_add]; congr 1; omega
        have a1 : 2 ^ w * (b1 + 1) ≤ 2 ^ w * 2 ^ ib := Int.mul_le_mul_of_nonneg_left (by omega) (by omega)
        rw [Int.mul_add] at a1
        have a2 : m < 2 ^ w * 2 ^ ib := by omega
        have a3 : m * 2 ^ s < 2 ^ w * 2 ^ ib * 2 ^ s := Int.mul_lt_mul_of_pos_right a2 hsp
        rw [Int.mul_assoc, ← e] at a3
        exact a3
      have hm3 : 2 ^ w ≤ m * 2 ^ s := by
        have := Int.mul_le_mul_of_nonneg_left hsp1 (show 0 ≤ m by omega)
        omega
      refine op_pure (t_shift_left w hw [b0, b1] m s (by simp) (by omega) h2) (by decide) fun x hx => ?_
      obtain ⟨dl, rfl, hdl⟩ := hx
      have hdl2 : dl.length ≤ 2 := hdl.len_le hB (by rw [Int.pow_succ, Int.pow_succ, Int.pow_zero, Int.one_mul]; exact hm2)
      have hdl1 : 2 ≤ dl.length := by
        apply Nat.le_of_not_lt
        intro hh
        have a := hdl.lt hB
        have b := pow_mono' hB (m := dl.length) (n := 1) (by omega)
        rw [Int.pow_succ, Int.pow_zero, Int.one_mul] at b
        omega
      obtain ⟨d0, d1, rfl⟩ : ∃ b0 b1, dl = [b0, b1] := len_two (by omega)
      have k0 := hdl.limbs d0 (by simp)
      have k1 := hdl.limbs d1 (by simp)
      have hdv : m * 2 ^ s = d1 * 2 ^ w + d0 := by have := hdl.val; simp [val, Int.mul_comm (2 ^ w) d1] at this; omega
      have hd1 : 1 ≤ d1 := by
        have := hdl.top
        simp at this
        omega
      repeat' tb_rel
      refine op_pure (t_shift_left w hw l n s (by omega) (by omega) h1) (by decide) fun x hx => ?_
      obtain ⟨lr, rfl, hlr⟩ := hx
      have hl1 : 1 ≤ l.length := by
        apply Nat.pos_of_ne_zero
        intro h
        have := (h1.zero hB).mp (List.length_eq_zero_iff.mp h)
        omega
      have hnl := h1.lt hB
      have hsw : (2:Int) ^ s ≤ 2 ^ w := by
        have e : (2:Int) ^ w = 2 ^ ib * 2 ^ s := by rw [← Int.pow_add]; congr 1; omega
        have p : (0:Int) < 2 ^ ib := Int.pow_pos (by decide)
        have := Int.mul_le_mul_of_nonneg_right (show (1:Int) ≤ 2 ^ ib by omega) (show (0:Int) ≤ 2 ^ s by omega)
        omega
      have hlrl : lr.length ≤ l.length + 1 := by
        apply hlr.len_le hB
        rw [Int.pow_succ]
        have a : n * 2 ^ s ≤ n * 2 ^ w := Int.mul_le_mul_of_nonneg_left hsw hn0
        have b := Int.mul_lt_mul_of_pos_right hnl (show (0:Int) < 2 ^ w by omega)
        omega
      repeat' tb_rel
      refine o_repFN (by omega) ?_
      refine o_catMZ (by rw [List.length_replicate]; omega) fun ad had => ?_
      repeat' tb_rel
      have hr' : Limbs (2 ^ w) (lr ++ List.replicate (l.length + 1 - lr.length) 0) := hlr.limbs.append (Limbs.replicate (by omega) _)
      have hrv : val (2 ^ w) (lr ++ List.replicate (l.length + 1 - lr.length) 0) = n * 2 ^ s := by rw [val_append, val_replicate, hlr.val]; omega
      have hrl : (lr ++ List.replicate (l.length + 1 - lr.length) 0).length = l.length + 1 := by rw [List.length_append, List.length_replicate]; omega
      generalize lr ++ List.replicate (l.length + 1 - lr.length) 0 = r at *
      refine op_lend (a := ad) (l := zints r) (by tb_start) (t_divide_rows w hw ad r d0 d1 hr' k0 ⟨hd1, k1.2⟩ (by omega) (by omega) ?_) (by decide) ?_
      · rw [hrv, hrl, ← hdv, show l.length + 1 - 2 = l.length - 1 by omega, ← Int.mul_assoc]
        apply Int.mul_lt_mul_of_pos_right _ hsp
        have a : (2 ^ w) ^ (l.length - 1) * 2 ^ w ≤ (2 ^ w) ^ (l.length - 1) * m := Int.mul_le_mul_of_nonneg_left hmB (Int.le_of_lt (pow_pos' (by omega) _))
        rw [← Int.pow_succ, show (l.length - 1).succ = l.length by omega] at a
        omega
      rintro x l' ⟨qs, r', rfl, rfl, hlq, hql, hlr', hrl', hqv, hrv'⟩
      rw [hrv, ← hdv, Int.mul_ediv_mul_of_pos_left _ _ hsp] at hqv
      rw [hrv, ← hdv, Int.mul_comm n, Int.mul_comm m, Int.mul_emod_mul_of_pos _ _ hsp] at hrv'
      dsimp only
      refine' w_freeze "rest" (a := ad) (l := zints r') ?hxx ?hss ?hqq
      case hxx => tb_start
      case hss => tb_start
      repeat' tb_rel
      refine op_pure (t_normal qs (by omega)) (by decide) fun x hx => ?_
      subst hx
      repeat' tb_rel
      refine op_pure (t_normal r' (by omega)) (by decide) fun x hx => ?_
      subst hx
      repeat' tb_rel
      have c1 := normL_can (by omega) hlq
      have c2 := normL_can (by omega) hlr'
      refine op_pure (t_shift_right w hw (normL r') _ s (by have := normL_length r'; omega) (by omega) c2.limbs c2.val) (by decide) fun x hx => ?_
      rw [hrv', Int.mul_ediv_cancel_left _ (by omega)] at hx
      rw [hqv] at c1
      repeat' tb_rel
      exact ⟨⟨_, rfl, c1⟩, hx⟩
end
end Mine

namespace Mine
section
variable {p : Program} {g : G p} {c : Cx} {S : St}
theorem c_neb {x y : Bool} {Q : V → St → Prop} (h : Q (.bool (x != y)) S) : Op2 g c Rep (compareOp .NotEq) (.bool x) (.bool y) S Q :=
  c_ned (dx := .bool x) (dy := .bool y) rfl rfl rfl rfl (by cases x <;> cases y <;> exact h)
theorem o_notB {x : Bool} {Q : V → St → Prop} (h : Q (.bool (!x)) S) : Op1 g c Rep (unaryOp .Not) (.bool x) S Q := o_not rfl h
end
/-- a number as sign and size -/
def Num (w : Nat) (v : V) (z : Int) : Prop := ∃ l, v = .tup [.bool (decide (z < 0)), .list (zints l)] ∧ Can (2 ^ w) l z.natAbs
/-- of a size that the text is asked for -/
def Sm (z : Int) : Prop := z.natAbs < 2 ^ 200
theorem two_pow_le {w k : Nat} (hw : 1 ≤ w) : (2 : Int) ^ k ≤ (2 ^ w) ^ k := by
  rw [pow_pow]
  have := pow_mono' (B := 2) (by decide) (show k ≤ w * k by exact Nat.le_mul_of_pos_left k hw)
  exact this
theorem Sm.short {w : Nat} (hw : 1 ≤ w) {z : Int} (h : Sm z) {l : List Int} (hc : Can (2 ^ w) l z.natAbs) : l.length ≤ 200 := by
  apply hc.len_le (one_lt_pow hw)
  have h1 : (z.natAbs : Int) < ((2 ^ 200 : Nat) : Int) := by exact_mod_cast h
  rw [Int.natCast_pow] at h1
  exact Int.lt_of_lt_of_le h1 (two_pow_le hw)
theorem Num.of {w : Nat} (hw : 1 ≤ w) {l : List Int} {n : Int} (hc : Can (2 ^ w) l n) (b : Bool) {z : Int} (hz : z = if b = true then -n else n) :
    Num w (.tup [.bool (b && decide (0 < l.length)), .list (zints l)]) z := by
  have hn := hc.nonneg (by have := one_lt_pow hw; omega)
  have h0 := hc.zero (one_lt_pow hw)
  have hl : 0 < l.length ↔ n ≠ 0 := by
    rw [Nat.pos_iff_ne_zero, Ne, List.length_eq_zero_iff, h0]
  refine ⟨l, ?_, ?_⟩
  · have : (b && decide (0 < l.length)) = decide (z < 0) := by
      cases b
      · simp at hz; subst hz; simp; omega
      · simp at hz; subst hz
        simp only [Bool.true_and, decide_eq_decide, hl]
        omega
    rw [this]
  · have : (z.natAbs : Int) = n := by cases b <;> simp at hz <;> omega
    rw [this]; exact hc
theorem Num.uniq {w : Nat} (hw : 1 ≤ w) {v u : V} {z : Int} (h : Num w v z) (h' : Num w u z) : v = u := by
  obtain ⟨l, rfl, hl⟩ := h
  obtain ⟨k, rfl, hk⟩ := h'
  rw [hl.uniq (one_lt_pow hw) hk]
theorem Can.to {B n m : Int} {l : List Int} (h : Can B l n) (e : n = m) : Can B l m := e ▸ h
theorem abs_pos_iff {x : Int} : (0 ≤ x → (x.natAbs : Int) = x) ∧ (x < 0 → (x.natAbs : Int) = -x) := ⟨by omega, by omega⟩
end Mine

namespace Mine
local macro_rules | `(tactic| tb_start) => `(tactic| first
  | with_reducible exact look_same
  | with_reducible exact look_froze
  | ((with_reducible refine' look_i ?nn); (case nn => omega))
  | ((with_reducible refine' look_ne ?nn ?tt); (case nn => decide +kernel); (case tt => tb_start))
  | ((with_reducible refine' look_froze_ne ?nn ?tt); (case nn => decide +kernel); (case tt => tb_start))
  | ((with_reducible refine' sig_set ?tt); (case tt => tb_start))
  | ((with_reducible refine' sig_freeze ?nn ?tt); (case nn => assumption); (case tt => tb_start))
  | ((with_reducible refine' upd_app ?nn); (case nn => first | rfl | omega))
  | ((with_reducible refine' upd_set ?n1 ?n2); (case n1 => first | rfl | omega); (case n2 => first | rfl | omega))
  | with_reducible exact upd_nil
  | with_reducible exact upd_same
  | ((with_reducible refine' upd_ne ?nn ?tt); (case nn => assumption); (case tt => tb_start))
  | assumption
  | exact rfl
  | fail "no look")
local macro_rules | `(tactic| tb_rel) => `(tactic| first
  | with_reducible refine' iteF ?_
  | with_reducible refine' iteT ?_
  | with_reducible refine' wS_nil ?_
  | with_reducible refine' wS_cons ?_
  | ((with_reducible refine' wX_retRef ?h1 ?h2 ?h ?hl ?hd); (case hl => exact rfl); (case hd => decide +kernel); (case h1 => tb_start); (case h2 => tb_start))
  | with_reducible refine' wX_return ?_
  | ((with_reducible refine' wX_assign ?h ?hl ?hs); (case hl => exact rfl); (case hs => (intros; exact rfl)))
  | ((with_reducible refine' wX_aug ?hv ?h ?hl); (case hl => exact rfl); (case hv => tb_start))
  | with_reducible refine' wX_if ?_
  | ((with_reducible refine' wX_append ?h ?h1 ?h2 ?h3 ?h4 ?h5); (case h1 => (intros; exact rfl)); (case h2 => exact rfl); (case h3 => (intros; exact rfl)); (case h4 => (intros; exact rfl)); (case h5 => (intros; exact rfl)))
  | ((with_reducible refine' wX_setitem ?h ?h1); (case h1 => (intros; exact rfl)))
  | ((with_reducible refine' wX_swap2 ?h ?h1 ?h2 ?h3 ?h4); (case h4 => (intros; exact rfl)); (case h1 => exact rfl); (case h2 => exact rfl); (case h3 => (intros; exact rfl)))
  | ((with_reducible refine' wX_swap3 ?h ?h1 ?h2 ?h5 ?h3 ?h4); (case h4 => (intros; exact rfl)); (case h1 => exact rfl); (case h2 => exact rfl); (case h5 => exact rfl); (case h3 => (intros; exact rfl)))
  | ((with_reducible refine' wX_unpack2 ?h ?h1 ?h2 ?h3 ?h4); (case h4 => (intros; exact rfl)); (case h1 => exact rfl); (case h2 => exact rfl); (case h3 => (intros; exact rfl)))
  | ((with_reducible refine' wX_unpack3 ?h ?h1 ?h2 ?h5 ?h3 ?h4); (case h4 => (intros; exact rfl)); (case h1 => exact rfl); (case h2 => exact rfl); (case h5 => exact rfl); (case h3 => (intros; exact rfl)))
  | ((with_reducible refine' wX_for ?h ?h1 ?h2); (case h1 => exact rfl); (case h2 => (intros; exact rfl)))
  | ((with_reducible refine' wI_rng ?h ?h1 ?h2 ?h3); (case h1 => exact rfl); (case h2 => (intro _; exact rfl)); (case h3 => (intro _; exact ⟨_, _, rfl, rfl⟩)))
  | with_reducible refine' wI_list ?_
  | with_reducible refine' wE_int ?_
  | with_reducible refine' wE_bool ?_
  | with_reducible refine' wE_none ?_
  | ((with_reducible refine' wE_local ?hv ?h ?hl ?hd); (case hl => exact rfl); (case hd => decide +kernel); (case hv => tb_start))
  | ((with_reducible refine' wE_fn ?h ?h1 ?h2 ?h3); (case h2 => exact rfl); (case h1 => decide +kernel); (case h3 => decide +kernel))
  | with_reducible refine' wE_binop ?_
  | ((with_reducible refine' wE_cmp ?h ?hm); (case hm => with_unfolding_all exact rfl))
  | with_reducible refine' wE_ifexp ?_
  | with_reducible refine' wE_unop ?_
  | with_reducible refine' wE_boolop_and ?_
  | with_reducible refine' wE_boolop_or ?_
  | with_reducible refine' wE_boolop_one ?_
  | with_reducible refine' wE_tuple ?_
  | ((with_reducible refine' wE_len ?h ?h1 ?h2 ?h3 ?h4); (case h1 => exact rfl); (case h2 => (intro _; exact rfl)); (case h3 => (intro _; exact ⟨_, _, rfl, rfl⟩)); (case h4 => (intro _; exact rfl)))
  | ((with_reducible refine' wE_abs ?h ?h1 ?h2 ?h3 ?h4); (case h1 => exact rfl); (case h2 => (intro _; exact rfl)); (case h3 => (intro _; exact ⟨_, _, rfl, rfl⟩)); (case h4 => (intro _; exact rfl)))
  | ((with_reducible refine' wE_min ?h ?h1 ?h2 ?h3); (case h1 => exact rfl); (case h2 => (intro _; exact rfl)); (case h3 => (intro _; exact ⟨_, _, rfl, rfl⟩)))
  | ((with_reducible refine' wE_def ?h ?h1 ?h2 ?h3 ?h4 ?h5); (case h1 => decide +kernel); (case h2 => exact rfl); (case h3 => decide +kernel); (case h4 => (intro _; exact rfl)); (case h5 => (intro _; exact ⟨_, _, rfl, rfl⟩)))
  | ((with_reducible refine' wE_bitlen ?h ?h1 ?h2); (case h1 => (intro _; exact rfl)); (case h2 => exact rfl))
  | ((with_reducible refine' wT_cmp ?h ?hm); (case hm => with_unfolding_all exact rfl))
  | ((with_reducible refine' wT_chain ?h ?hm); (case hm => with_unfolding_all exact rfl))
  | with_reducible refine' wT_not ?_
  | with_reducible refine' wT_and_nil ?_
  | with_reducible refine' wT_and ?_
  | with_reducible refine' wT_or_nil ?_
  | with_reducible refine' wT_or ?_
  | ((with_reducible refine' wT_plain ?h ?he); (case he => (intros; exact rfl)))
  | with_reducible refine' wA_nil ?_
  | ((with_reducible refine' wA_cons ?h ?hs); (case hs => (intro _; exact rfl)))
  | with_reducible refine' wP_none ?_
  | with_reducible refine' wP_some ?_
  | ((with_reducible refine' wE_sliceAll ?hx ?hsz ?h ?hl ?hd); (case hl => exact rfl); (case hd => decide +kernel); (case hx => tb_start); (case hsz => omega))
  | ((with_reducible refine' wE_sliceTo ?hx ?hsz ?h ?hl ?hd); (case hl => exact rfl); (case hd => decide +kernel); (case hx => tb_start); (case hsz => omega))
  | ((with_reducible refine' wE_sliceZ ?hx ?hsz ?h ?hl ?hd); (case hl => exact rfl); (case hd => decide +kernel); (case hx => tb_start); (case hsz => omega))
  | ((with_reducible refine' wE_sliceR ?hx ?ha ?hsz ?h ?hl ?hd); (case hl => exact rfl); (case hd => decide +kernel); (case hx => tb_start); (case ha => tb_start); (case hsz => omega))
  | with_reducible refine' wE_sub ?_
  | ((with_reducible refine' b_len_z ?h1 ?h); (case h1 => omega))
  | ((with_reducible refine' b_len_zr ?h0 ?h1 ?h); (case h0 => tb_start); (case h1 => omega))
  | ((with_reducible refine' s_zN ?h1 ?h2 ?h ?hs); (case hs => (intro _ _; exact rfl)); (case h1 => omega); (case h2 => omega))
  | ((with_reducible refine' s_zrN ?ha ?h1 ?h2 ?h ?hs); (case hs => (intro _ _; exact rfl)); (case ha => tb_start); (case h1 => omega); (case h2 => omega))
  | ((with_reducible refine' s_z ?h0 ?h1 ?h2 ?h ?hs); (case hs => (intro _ _; exact rfl)); (case h0 => omega); (case h1 => omega); (case h2 => omega))
  | ((with_reducible refine' s_zr ?ha ?h0 ?h1 ?h2 ?h ?hs); (case hs => (intro _ _; exact rfl)); (case ha => tb_start); (case h0 => omega); (case h1 => omega); (case h2 => omega))
  | ((with_reducible refine' s_tup ?h0 ?hx ?hsz ?h ?hs); (case hs => (intro _ _; exact rfl)); (case h0 => omega); (case hx => exact rfl); (case hsz => (simp; done)))
  | ((with_reducible refine' o_shl1 ?h1 ?h); (case h1 => omega))
  | with_reducible refine' o_shr ?_
  | with_reducible refine' i_shr ?_
  | with_reducible refine' o_mask ?_
  | ((with_reducible refine' o_pow2 ?h1 ?h); (case h1 => omega))
  | ((with_reducible refine' o_divN ?h1 ?h2 ?h); (case h1 => omega); (case h2 => omega))
  | ((with_reducible refine' o_mdN ?h1 ?h); (case h1 => omega))
  | ((with_reducible refine' o_div ?h1 ?h2 ?h); (case h1 => omega); (case h2 => omega))
  | ((with_reducible refine' o_md ?h1 ?h); (case h1 => omega))
  | ((with_reducible refine' i_md ?h1 ?h); (case h1 => omega))
  | ((with_reducible refine' o_shl ?h1 ?h2 ?h); (case h1 => omega); (case h2 => omega))
  | ((with_reducible refine' o_orL ?h1 ?h2 ?h3 ?h); (case h1 => omega); (case h2 => omega); (case h3 => omega))
  | ((with_reducible refine' o_orR ?h1 ?h2 ?h3 ?h); (case h1 => omega); (case h2 => omega); (case h3 => omega))
  | ((with_reducible refine' i_orR ?h1 ?h2 ?h3 ?h); (case h1 => omega); (case h2 => omega); (case h3 => omega))
  | with_reducible refine' o_addN ?_
  | with_reducible refine' o_addN1 ?_
  | with_reducible refine' o_add ?_
  | ((with_reducible refine' o_subN ?h1 ?h); (case h1 => omega))
  | with_reducible refine' o_sub ?_
  | with_reducible refine' i_add ?_
  | with_reducible refine' i_sub ?_
  | with_reducible refine' o_neg ?_
  | with_reducible refine' c_eq ?_
  | with_reducible refine' c_ne ?_
  | with_reducible refine' c_lt ?_
  | with_reducible refine' c_le ?_
  | with_reducible refine' c_gt ?_
  | with_reducible refine' c_ge ?_
  | with_reducible refine' c_eqb ?_
  | with_reducible refine' c_neb ?_
  | with_reducible refine' o_notB ?_
  | with_reducible refine' exTB ?_
  | with_reducible refine' exTI ?_
  | with_reducible refine' exI ?_
  | with_reducible refine' exNat ?_
  | with_reducible refine' exL ?_
  | with_reducible refine' exT2 ?_
  | with_reducible refine' exT3 ?_
  | with_reducible refine' exR ?_
  | with_reducible refine' andLit ?_
  | with_reducible refine' andSt ?_
  | ((with_reducible refine' andLen ?h1 ?h); (case h1 => (simp; done)))
  | ((with_reducible refine' exRng1 ?h1 ?h); (case h1 => (unfold Fit; omega)))
  | ((with_reducible refine' exRng2 ?h1 ?h2 ?h); (case h1 => (unfold Fit; omega)); (case h2 => (unfold Fit; omega)))
  | ((with_reducible refine' exRngD ?he ?h1 ?h2 ?h); (case he => omega); (case h1 => (unfold Fit; omega)); (case h2 => (unfold Fit; omega)))
  | ((with_reducible refine' exApp ?h1 ?h); (case h1 => tb_start))
  | ((with_reducible refine' exAppZ ?h1 ?h2 ?h); (case h1 => tb_start); (case h2 => omega))
  | ((with_reducible refine' exSetZ ?h1 ?h2 ?h3 ?h4 ?h); (case h1 => tb_start); (case h2 => omega); (case h3 => ((try simp only [List.length_set, List.length_replicate, List.length_append, List.length_cons, List.length_nil]); omega)); (case h4 => ((try simp only [List.length_set, List.length_replicate, List.length_append, List.length_cons, List.length_nil]); omega)))
  | with_reducible refine' wE_listOf ?_
  | with_reducible refine' andNext ?_
  | fail "no step")

section
variable {g : G PP} {c : Cx} {S : St}
theorem t_signed (w : Nat) (hw : 1 ≤ w) (b : Bool) (l : List Int) (n z : Int) (hl : l.length ≤ 2 ^ 20) (hc : Can (2 ^ w) l n) (hz : z = if b = true then -n else n) :
    GCall g (g.fa "signed") 1 [.bool b, .list (zints l)] (fun _ => none) (fun x _ => Num w x z) := by
  refine' gcall (d := dOf 11) (dOf_mem 11 (by decide)) (hbody := ?enB) (hscope := ?enS) (hparams := ?enP) (hname := rfl) (names := ["is_below", "nat"]) (hk := ?enK) (hbind := ?enI) (hloc := ?enL) (h := ?enH) (hco := ?enC) (hgen := ?enG) (hcell := ?enE)
  case enB => (conv => lhs; whnf)
  case enS => (conv => lhs; whnf)
  case enP => (conv => lhs; whnf)
  case enK => rfl
  case enI => (intro pm code doc vs h; match vs, h with | [v0, v1], _ => rfl)
  case enL => decide +kernel
  case enC => rfl
  case enG => rfl
  case enE => decide +kernel
  repeat' tb_rel
  have := Num.of hw hc b hz
  cases b
  · repeat' tb_rel
    exact this
  · repeat' tb_rel
    simpa using this

theorem t_s_neg (w : Nat) (hw : 1 ≤ w) (v : V) (x : Int) (hv : Num w v x) (hx : Sm x) :
    GCall g (g.fa "s_neg") 2 [v] (fun _ => none) (fun r _ => Num w r (-x)) := by
  obtain ⟨l, rfl, hl⟩ := hv
  have hs := hx.short hw hl
  refine' gcall (d := dOf 12) (dOf_mem 12 (by decide)) (hbody := ?enB) (hscope := ?enS) (hparams := ?enP) (hname := rfl) (names := ["x"]) (hk := ?enK) (hbind := ?enI) (hloc := ?enL) (h := ?enH) (hco := ?enC) (hgen := ?enG) (hcell := ?enE)
  case enB => (conv => lhs; whnf)
  case enS => (conv => lhs; whnf)
  case enP => (conv => lhs; whnf)
  case enK => rfl
  case enI => (intro pm code doc vs h; match vs, h with | [v0], _ => rfl)
  case enL => decide +kernel
  case enC => rfl
  case enG => rfl
  case enE => decide +kernel
  repeat' tb_rel
  refine op_pure (t_signed w hw _ l _ (-x) (by omega) hl ?_) (by decide) fun r hr => ?_
  · by_cases h : x < 0 <;> simp [h] <;> omega
  repeat' tb_rel
  exact hr

theorem t_s_add (w : Nat) (hw : 1 ≤ w ∧ w ≤ 29) (v u : V) (x y : Int) (hv : Num w v x) (hu : Num w u y) (hx : Sm x) (hy : Sm y) :
    GCall g (g.fa "s_add") 3 [v, u, .int w] (fun _ => none) (fun r _ => Num w r (x + y)) := by
  obtain ⟨l, rfl, hl⟩ := hv
  obtain ⟨k, rfl, hk⟩ := hu
  have hs1 := hx.short hw.1 hl
  have hs2 := hy.short hw.1 hk
  have hB := one_lt_pow hw.1
  refine' gcall (d := dOf 13) (dOf_mem 13 (by decide)) (hbody := ?enB) (hscope := ?enS) (hparams := ?enP) (hname := rfl) (names := ["x", "y", "w"]) (hk := ?enK) (hbind := ?enI) (hloc := ?enL) (h := ?enH) (hco := ?enC) (hgen := ?enG) (hcell := ?enE)
  case enB => (conv => lhs; whnf)
  case enS => (conv => lhs; whnf)
  case enP => (conv => lhs; whnf)
  case enK => rfl
  case enI => (intro pm code doc vs h; match vs, h with | [v0, v1, v2], _ => rfl)
  case enL => decide +kernel
  case enC => rfl
  case enG => rfl
  case enE => decide +kernel
  repeat' tb_rel
  refine iteB (fun h => ?_) (fun h => ?_)
  · have hs : x < 0 ↔ y < 0 := by simpa using h
    repeat' tb_rel
    refine op_pure (t_add w (by omega) l k _ _ (by omega) (by omega) hl hk) (by decide) fun r hr => ?_
    obtain ⟨q, rfl, hq⟩ := hr
    have hql : q.length ≤ 201 := by
      apply hq.len_le hB
      have := (Sm.short hw.1 hx hl)
      have h1 : (x.natAbs : Int) < ((2 ^ 200 : Nat) : Int) := by exact_mod_cast hx
      have h2 : (y.natAbs : Int) < ((2 ^ 200 : Nat) : Int) := by exact_mod_cast hy
      have h3 := two_pow_le (w := w) (k := 201) hw.1
      rw [Int.natCast_pow] at h1 h2
      have e : ((2:Int)) ^ 201 = 2 ^ 200 * 2 := rfl
      have e2 : ((2:Nat):Int) ^ 200 = 2 ^ 200 := rfl
      omega
    repeat' tb_rel
    refine op_pure (t_signed w hw.1 _ q _ (x + y) (by omega) hq ?_) (by decide) fun r hr => ?_
    · by_cases h : x < 0 <;> simp [h] <;> omega
    repeat' tb_rel
    exact hr
  · have hs : ¬ (x < 0 ↔ y < 0) := by
      intro hh
      have e : decide (x < 0) = decide (y < 0) := by simp [hh]
      rw [e] at h
      simp at h
    repeat' tb_rel
    refine op_pure (t_compare w hw.1 l k _ _ (by omega) (by omega) hl hk) (by decide) fun r hr => ?_
    obtain ⟨cc, rfl, hcc⟩ := hr
    repeat' tb_rel
    refine iteD (fun h => ?_) (fun h => ?_)
    · have hlt := hcc.1 h
      repeat' tb_rel
      refine op_pure (t_sub w (by omega) k l _ _ (by omega) (by omega) hk hl (by omega)) (by decide) fun r hr => ?_
      obtain ⟨q, rfl, hq⟩ := hr
      have hql : q.length ≤ 200 := by
        apply hq.len_le hB
        have h2 : (y.natAbs : Int) < ((2 ^ 200 : Nat) : Int) := by exact_mod_cast hy
        have h3 := two_pow_le (w := w) (k := 200) hw.1
        rw [Int.natCast_pow] at h2
        have e2 : ((2:Nat):Int) ^ 200 = 2 ^ 200 := rfl
        omega
      repeat' tb_rel
      refine op_pure (t_signed w hw.1 _ q _ (x + y) (by omega) hq ?_) (by decide) fun r hr => ?_
      · by_cases h : y < 0 <;> simp [h] <;> omega
      repeat' tb_rel
      exact hr
    · have hge : ¬ (x.natAbs : Int) < y.natAbs := fun hh => h (hcc.2 hh)
      repeat' tb_rel
      refine op_pure (t_sub w (by omega) l k _ _ (by omega) (by omega) hl hk (by omega)) (by decide) fun r hr => ?_
      obtain ⟨q, rfl, hq⟩ := hr
      have hql : q.length ≤ 200 := by
        apply hq.len_le hB
        have h2 : (x.natAbs : Int) < ((2 ^ 200 : Nat) : Int) := by exact_mod_cast hx
        have h3 := two_pow_le (w := w) (k := 200) hw.1
        rw [Int.natCast_pow] at h2
        have e2 : ((2:Nat):Int) ^ 200 = 2 ^ 200 := rfl
        omega
      repeat' tb_rel
      refine op_pure (t_signed w hw.1 _ q _ (x + y) (by omega) hq ?_) (by decide) fun r hr => ?_
      · by_cases h : x < 0 <;> simp [h] <;> omega
      repeat' tb_rel
      exact hr

theorem Sm.neg {x : Int} (h : Sm x) : Sm (-x) := by unfold Sm at *; omega

theorem t_s_sub (w : Nat) (hw : 1 ≤ w ∧ w ≤ 29) (v u : V) (x y : Int) (hv : Num w v x) (hu : Num w u y) (hx : Sm x) (hy : Sm y) :
    GCall g (g.fa "s_sub") 4 [v, u, .int w] (fun _ => none) (fun r _ => Num w r (x - y)) := by
  refine' gcall (d := dOf 14) (dOf_mem 14 (by decide)) (hbody := ?enB) (hscope := ?enS) (hparams := ?enP) (hname := rfl) (names := ["x", "y", "w"]) (hk := ?enK) (hbind := ?enI) (hloc := ?enL) (h := ?enH) (hco := ?enC) (hgen := ?enG) (hcell := ?enE)
  case enB => (conv => lhs; whnf)
  case enS => (conv => lhs; whnf)
  case enP => (conv => lhs; whnf)
  case enK => rfl
  case enI => (intro pm code doc vs h; match vs, h with | [v0, v1, v2], _ => rfl)
  case enL => decide +kernel
  case enC => rfl
  case enG => rfl
  case enE => decide +kernel
  repeat' tb_rel
  refine op_pure (t_s_neg w hw.1 u y hu hy) (by decide) fun r hr => ?_
  repeat' tb_rel
  refine op_pure (t_s_add w hw v r x (-y) hv hr hx hy.neg) (by decide) fun r hr => ?_
  repeat' tb_rel
  rw [Int.sub_eq_add_neg]
  exact hr

theorem t_s_mul (w : Nat) (hw : 1 ≤ w ∧ w ≤ 29) (v u : V) (x y : Int) (hv : Num w v x) (hu : Num w u y) (hx : Sm x) (hy : Sm y) :
    GCall g (g.fa "s_mul") 3 [v, u, .int w, .lit (.ref (g.fa "mul_school"))] (fun _ => none) (fun r _ => Num w r (x * y)) := by
  obtain ⟨l, rfl, hl⟩ := hv
  obtain ⟨k, rfl, hk⟩ := hu
  have hs1 := hx.short hw.1 hl
  have hs2 := hy.short hw.1 hk
  have hB := one_lt_pow hw.1
  refine' gcall (d := dOf 15) (dOf_mem 15 (by decide)) (hbody := ?enB) (hscope := ?enS) (hparams := ?enP) (hname := rfl) (names := ["x", "y", "w", "mul"]) (hk := ?enK) (hbind := ?enI) (hloc := ?enL) (h := ?enH) (hco := ?enC) (hgen := ?enG) (hcell := ?enE)
  case enB => (conv => lhs; whnf)
  case enS => (conv => lhs; whnf)
  case enP => (conv => lhs; whnf)
  case enK => rfl
  case enI => (intro pm code doc vs h; match vs, h with | [v0, v1, v2, v3], _ => rfl)
  case enL => decide +kernel
  case enC => rfl
  case enG => rfl
  case enE => decide +kernel
  repeat' tb_rel
  refine wE_callD (fa_def (x := "mul_school") (by decide +kernel)).2 ?_
  repeat' tb_rel
  refine op_pure (t_mul_school w hw l k _ _ (by omega) (by omega) hl hk) (by decide) fun r hr => ?_
  obtain ⟨q, rfl, hq⟩ := hr
  have hql : q.length ≤ 400 := by
    apply hq.len_le hB
    have h1 : (x.natAbs : Int) < ((2 ^ 200 : Nat) : Int) := by exact_mod_cast hx
    have h2 : (y.natAbs : Int) < ((2 ^ 200 : Nat) : Int) := by exact_mod_cast hy
    have h3 := two_pow_le (w := w) (k := 400) hw.1
    rw [Int.natCast_pow] at h1 h2
    have e2 : ((2:Nat):Int) ^ 200 = 2 ^ 200 := rfl
    rw [e2] at h1 h2
    have e : (2:Int) ^ 400 = 2 ^ 200 * 2 ^ 200 := by rw [← Int.pow_add]
    rw [e] at h3
    refine Int.lt_of_lt_of_le ?_ h3
    generalize (2:Int) ^ 200 = T at *
    have a1 : (x.natAbs : Int) * y.natAbs ≤ x.natAbs * T := Int.mul_le_mul_of_nonneg_left (by omega) (by omega)
    have a2 : (x.natAbs : Int) * T < T * T := Int.mul_lt_mul_of_pos_right h1 (by omega)
    omega
  repeat' tb_rel
  refine op_pure (t_signed w hw.1 _ q _ (x * y) (by omega) hq ?_) (by decide) fun r hr => ?_
  · rcases Int.lt_or_le x 0 with h | h <;> rcases Int.lt_or_le y 0 with h' | h' <;> simp only [abs_pos_iff.1, abs_pos_iff.2, h, h', decide_true, Int.not_lt.mpr, decide_false] <;> simp [Int.neg_mul, Int.mul_neg]
  repeat' tb_rel
  exact hr
end
end Mine

namespace Mine
local macro_rules | `(tactic| tb_start) => `(tactic| first
  | with_reducible exact look_same
  | with_reducible exact look_froze
  | ((with_reducible refine' look_i ?nn); (case nn => omega))
  | ((with_reducible refine' look_ne ?nn ?tt); (case nn => decide +kernel); (case tt => tb_start))
  | ((with_reducible refine' look_froze_ne ?nn ?tt); (case nn => decide +kernel); (case tt => tb_start))
  | ((with_reducible refine' sig_set ?tt); (case tt => tb_start))
  | ((with_reducible refine' sig_freeze ?nn ?tt); (case nn => assumption); (case tt => tb_start))
  | ((with_reducible refine' upd_app ?nn); (case nn => first | rfl | omega))
  | ((with_reducible refine' upd_set ?n1 ?n2); (case n1 => first | rfl | omega); (case n2 => first | rfl | omega))
  | with_reducible exact upd_nil
  | with_reducible exact upd_same
  | ((with_reducible refine' upd_ne ?nn ?tt); (case nn => assumption); (case tt => tb_start))
  | assumption
  | exact rfl
  | fail "no look")
local macro_rules | `(tactic| tb_rel) => `(tactic| first
  | with_reducible refine' iteF ?_
  | with_reducible refine' iteT ?_
  | with_reducible refine' wS_nil ?_
  | with_reducible refine' wS_cons ?_
  | ((with_reducible refine' wX_retRef ?h1 ?h2 ?h ?hl ?hd); (case hl => exact rfl); (case hd => decide +kernel); (case h1 => tb_start); (case h2 => tb_start))
  | with_reducible refine' wX_return ?_
  | ((with_reducible refine' wX_assign ?h ?hl ?hs); (case hl => exact rfl); (case hs => (intros; exact rfl)))
  | ((with_reducible refine' wX_aug ?hv ?h ?hl); (case hl => exact rfl); (case hv => tb_start))
  | with_reducible refine' wX_if ?_
  | ((with_reducible refine' wX_append ?h ?h1 ?h2 ?h3 ?h4 ?h5); (case h1 => (intros; exact rfl)); (case h2 => exact rfl); (case h3 => (intros; exact rfl)); (case h4 => (intros; exact rfl)); (case h5 => (intros; exact rfl)))
  | ((with_reducible refine' wX_setitem ?h ?h1); (case h1 => (intros; exact rfl)))
  | ((with_reducible refine' wX_swap2 ?h ?h1 ?h2 ?h3 ?h4); (case h4 => (intros; exact rfl)); (case h1 => exact rfl); (case h2 => exact rfl); (case h3 => (intros; exact rfl)))
  | ((with_reducible refine' wX_swap3 ?h ?h1 ?h2 ?h5 ?h3 ?h4); (case h4 => (intros; exact rfl)); (case h1 => exact rfl); (case h2 => exact rfl); (case h5 => exact rfl); (case h3 => (intros; exact rfl)))
  | ((with_reducible refine' wX_unpack2 ?h ?h1 ?h2 ?h3 ?h4); (case h4 => (intros; exact rfl)); (case h1 => exact rfl); (case h2 => exact rfl); (case h3 => (intros; exact rfl)))
  | ((with_reducible refine' wX_unpack3 ?h ?h1 ?h2 ?h5 ?h3 ?h4); (case h4 => (intros; exact rfl)); (case h1 => exact rfl); (case h2 => exact rfl); (case h5 => exact rfl); (case h3 => (intros; exact rfl)))
  | ((with_reducible refine' wX_for ?h ?h1 ?h2); (case h1 => exact rfl); (case h2 => (intros; exact rfl)))
  | ((with_reducible refine' wI_rng ?h ?h1 ?h2 ?h3); (case h1 => exact rfl); (case h2 => (intro _; exact rfl)); (case h3 => (intro _; exact ⟨_, _, rfl, rfl⟩)))
  | with_reducible refine' wI_list ?_
  | with_reducible refine' wE_int ?_
  | with_reducible refine' wE_bool ?_
  | with_reducible refine' wE_none ?_
  | ((with_reducible refine' wE_local ?hv ?h ?hl ?hd); (case hl => exact rfl); (case hd => decide +kernel); (case hv => tb_start))
  | ((with_reducible refine' wE_fn ?h ?h1 ?h2 ?h3); (case h2 => exact rfl); (case h1 => decide +kernel); (case h3 => decide +kernel))
  | with_reducible refine' wE_binop ?_
  | ((with_reducible refine' wE_cmp ?h ?hm); (case hm => with_unfolding_all exact rfl))
  | with_reducible refine' wE_ifexp ?_
  | with_reducible refine' wE_unop ?_
  | with_reducible refine' wE_boolop_and ?_
  | with_reducible refine' wE_boolop_or ?_
  | with_reducible refine' wE_boolop_one ?_
  | with_reducible refine' wE_tuple ?_
  | ((with_reducible refine' wE_len ?h ?h1 ?h2 ?h3 ?h4); (case h1 => exact rfl); (case h2 => (intro _; exact rfl)); (case h3 => (intro _; exact ⟨_, _, rfl, rfl⟩)); (case h4 => (intro _; exact rfl)))
  | ((with_reducible refine' wE_abs ?h ?h1 ?h2 ?h3 ?h4); (case h1 => exact rfl); (case h2 => (intro _; exact rfl)); (case h3 => (intro _; exact ⟨_, _, rfl, rfl⟩)); (case h4 => (intro _; exact rfl)))
  | ((with_reducible refine' wE_min ?h ?h1 ?h2 ?h3); (case h1 => exact rfl); (case h2 => (intro _; exact rfl)); (case h3 => (intro _; exact ⟨_, _, rfl, rfl⟩)))
  | ((with_reducible refine' wE_def ?h ?h1 ?h2 ?h3 ?h4 ?h5); (case h1 => decide +kernel); (case h2 => exact rfl); (case h3 => decide +kernel); (case h4 => (intro _; exact rfl)); (case h5 => (intro _; exact ⟨_, _, rfl, rfl⟩)))
  | ((with_reducible refine' wE_bitlen ?h ?h1 ?h2); (case h1 => (intro _; exact rfl)); (case h2 => exact rfl))
  | ((with_reducible refine' wT_cmp ?h ?hm); (case hm => with_unfolding_all exact rfl))
  | ((with_reducible refine' wT_chain ?h ?hm); (case hm => with_unfolding_all exact rfl))
  | with_reducible refine' wT_not ?_
  | with_reducible refine' wT_and_nil ?_
  | with_reducible refine' wT_and ?_
  | with_reducible refine' wT_or_nil ?_
  | with_reducible refine' wT_or ?_
  | ((with_reducible refine' wT_plain ?h ?he); (case he => (intros; exact rfl)))
  | with_reducible refine' wA_nil ?_
  | ((with_reducible refine' wA_cons ?h ?hs); (case hs => (intro _; exact rfl)))
  | with_reducible refine' wP_none ?_
  | with_reducible refine' wP_some ?_
  | ((with_reducible refine' wE_sliceAll ?hx ?hsz ?h ?hl ?hd); (case hl => exact rfl); (case hd => decide +kernel); (case hx => tb_start); (case hsz => omega))
  | ((with_reducible refine' wE_sliceTo ?hx ?hsz ?h ?hl ?hd); (case hl => exact rfl); (case hd => decide +kernel); (case hx => tb_start); (case hsz => omega))
  | ((with_reducible refine' wE_sliceZ ?hx ?hsz ?h ?hl ?hd); (case hl => exact rfl); (case hd => decide +kernel); (case hx => tb_start); (case hsz => omega))
  | ((with_reducible refine' wE_sliceR ?hx ?ha ?hsz ?h ?hl ?hd); (case hl => exact rfl); (case hd => decide +kernel); (case hx => tb_start); (case ha => tb_start); (case hsz => omega))
  | with_reducible refine' wE_sub ?_
  | ((with_reducible refine' b_len_z ?h1 ?h); (case h1 => omega))
  | ((with_reducible refine' b_len_zr ?h0 ?h1 ?h); (case h0 => tb_start); (case h1 => omega))
  | ((with_reducible refine' s_zN ?h1 ?h2 ?h ?hs); (case hs => (intro _ _; exact rfl)); (case h1 => omega); (case h2 => omega))
  | ((with_reducible refine' s_zrN ?ha ?h1 ?h2 ?h ?hs); (case hs => (intro _ _; exact rfl)); (case ha => tb_start); (case h1 => omega); (case h2 => omega))
  | ((with_reducible refine' s_z ?h0 ?h1 ?h2 ?h ?hs); (case hs => (intro _ _; exact rfl)); (case h0 => omega); (case h1 => omega); (case h2 => omega))
  | ((with_reducible refine' s_zr ?ha ?h0 ?h1 ?h2 ?h ?hs); (case hs => (intro _ _; exact rfl)); (case ha => tb_start); (case h0 => omega); (case h1 => omega); (case h2 => omega))
  | ((with_reducible refine' s_tup ?h0 ?hx ?hsz ?h ?hs); (case hs => (intro _ _; exact rfl)); (case h0 => omega); (case hx => exact rfl); (case hsz => (simp; done)))
  | ((with_reducible refine' o_shl1 ?h1 ?h); (case h1 => omega))
  | with_reducible refine' o_shr ?_
  | with_reducible refine' i_shr ?_
  | with_reducible refine' o_mask ?_
  | ((with_reducible refine' o_pow2 ?h1 ?h); (case h1 => omega))
  | ((with_reducible refine' o_divN ?h1 ?h2 ?h); (case h1 => omega); (case h2 => omega))
  | ((with_reducible refine' o_mdN ?h1 ?h); (case h1 => omega))
  | ((with_reducible refine' o_div ?h1 ?h2 ?h); (case h1 => omega); (case h2 => omega))
  | ((with_reducible refine' o_md ?h1 ?h); (case h1 => omega))
  | ((with_reducible refine' i_md ?h1 ?h); (case h1 => omega))
  | ((with_reducible refine' o_shl ?h1 ?h2 ?h); (case h1 => omega); (case h2 => omega))
  | ((with_reducible refine' o_orL ?h1 ?h2 ?h3 ?h); (case h1 => omega); (case h2 => omega); (case h3 => omega))
  | ((with_reducible refine' o_orR ?h1 ?h2 ?h3 ?h); (case h1 => omega); (case h2 => omega); (case h3 => omega))
  | ((with_reducible refine' i_orR ?h1 ?h2 ?h3 ?h); (case h1 => omega); (case h2 => omega); (case h3 => omega))
  | with_reducible refine' o_addN ?_
  | with_reducible refine' o_addN1 ?_
  | with_reducible refine' o_add ?_
  | ((with_reducible refine' o_subN ?h1 ?h); (case h1 => omega))
  | with_reducible refine' o_sub ?_
  | with_reducible refine' i_add ?_
  | with_reducible refine' i_sub ?_
  | with_reducible refine' o_neg ?_
  | with_reducible refine' c_eq ?_
  | with_reducible refine' c_ne ?_
  | with_reducible refine' c_lt ?_
  | with_reducible refine' c_le ?_
  | with_reducible refine' c_gt ?_
  | with_reducible refine' c_ge ?_
  | with_reducible refine' c_eqb ?_
  | with_reducible refine' c_neb ?_
  | with_reducible refine' o_notB ?_
  | with_reducible refine' exTB ?_
  | with_reducible refine' exTI ?_
  | with_reducible refine' exI ?_
  | with_reducible refine' exNat ?_
  | with_reducible refine' exL ?_
  | with_reducible refine' exT2 ?_
  | with_reducible refine' exT3 ?_
  | with_reducible refine' exR ?_
  | with_reducible refine' andLit ?_
  | with_reducible refine' andSt ?_
  | ((with_reducible refine' andLen ?h1 ?h); (case h1 => (simp; done)))
  | ((with_reducible refine' exRng1 ?h1 ?h); (case h1 => (unfold Fit; omega)))
  | ((with_reducible refine' exRng2 ?h1 ?h2 ?h); (case h1 => (unfold Fit; omega)); (case h2 => (unfold Fit; omega)))
  | ((with_reducible refine' exRngD ?he ?h1 ?h2 ?h); (case he => omega); (case h1 => (unfold Fit; omega)); (case h2 => (unfold Fit; omega)))
  | ((with_reducible refine' exApp ?h1 ?h); (case h1 => tb_start))
  | ((with_reducible refine' exAppZ ?h1 ?h2 ?h); (case h1 => tb_start); (case h2 => omega))
  | ((with_reducible refine' exSetZ ?h1 ?h2 ?h3 ?h4 ?h); (case h1 => tb_start); (case h2 => omega); (case h3 => ((try simp only [List.length_set, List.length_replicate, List.length_append, List.length_cons, List.length_nil]); omega)); (case h4 => ((try simp only [List.length_set, List.length_replicate, List.length_append, List.length_cons, List.length_nil]); omega)))
  | with_reducible refine' wE_listOf ?_
  | with_reducible refine' andNext ?_
  | fail "no step")

section
variable {g : G PP} {c : Cx} {S : St}
theorem Sm.cast {x : Int} (h : Sm x) : (x.natAbs : Int) < 2 ^ 200 := by
  have h1 : (x.natAbs : Int) < ((2 ^ 200 : Nat) : Int) := by exact_mod_cast h
  rw [Int.natCast_pow] at h1
  exact h1
theorem short_of {w : Nat} (hw : 1 ≤ w) {q : List Int} {n m : Int} (hq : Can (2 ^ w) q n) (hn : n ≤ m) {k : Nat} (hm : m < 2 ^ k) : q.length ≤ k := by
  apply hq.len_le (one_lt_pow hw)
  have h3 := two_pow_le (w := w) (k := k) hw
  omega

theorem even_pow {w : Nat} (hw : 1 ≤ w) : ∃ k : Nat, (2:Int) ^ w = 2 * k := by
  obtain ⟨v, rfl⟩ : ∃ v, w = v + 1 := ⟨w - 1, by omega⟩
  exact ⟨2 ^ v, by rw [Int.pow_succ, Int.mul_comm, Int.natCast_pow]; rfl⟩
theorem t_s_half (w : Nat) (hw : 1 ≤ w ∧ w ≤ 29) (v : V) (x : Int) (hv : Num w v x) (hx : Sm x) (he : x % 2 = 0) :
    GCall g (g.fa "s_half") 3 [v, .int w] (fun _ => none) (fun r _ => Num w r (x / 2)) := by
  obtain ⟨l, rfl, hl⟩ := hv
  have hs1 := hx.short hw.1 hl
  have hB := one_lt_pow hw.1
  have hpw := even_pow hw.1
  refine' gcall (d := dOf 16) (dOf_mem 16 (by decide)) (hbody := ?enB) (hscope := ?enS) (hparams := ?enP) (hname := rfl) (names := ["x", "w"]) (hk := ?enK) (hbind := ?enI) (hloc := ?enL) (h := ?enH) (hco := ?enC) (hgen := ?enG) (hcell := ?enE)
  case enB => (conv => lhs; whnf)
  case enS => (conv => lhs; whnf)
  case enP => (conv => lhs; whnf)
  case enK => rfl
  case enI => (intro pm code doc vs h; match vs, h with | [v0, v1], _ => rfl)
  case enL => decide +kernel
  case enC => rfl
  case enG => rfl
  case enE => decide +kernel
  repeat' tb_rel
  refine op_pure (t_is_even (2 ^ w) hpw l _ (by omega) hl) (by decide) fun r hr => ?_
  subst hr
  repeat' tb_rel
  refine iteNot ?_
  refine iteEq (fun _ => ?_) (fun h => absurd (show (x.natAbs : Int) % 2 = 0 by omega) h)
  repeat' tb_rel
  refine op_pure (t_shift_right w hw l _ 1 (by omega) (by omega) hl.limbs hl.val) (by decide) fun r hr => ?_
  obtain ⟨q, rfl, hq⟩ := hr
  have hql : q.length ≤ 200 := short_of hw.1 hq (Int.ediv_le_self _ (by omega)) hx.cast
  repeat' tb_rel
  refine op_pure (t_signed w hw.1 _ q _ (x / 2) (by omega) hq ?_) (by decide) fun r hr => ?_
  · by_cases h : x < 0 <;> simp [h] <;> omega
  repeat' tb_rel
  exact hr

/-- divided towards nought -/
def tq (x y : Int) : Int := if (x < 0) = (y < 0) then (x.natAbs : Int) / y.natAbs else -((x.natAbs : Int) / y.natAbs)
theorem tq_rest {x y : Int} : x - tq x y * y = if x < 0 then -((x.natAbs : Int) % y.natAbs) else (x.natAbs : Int) % y.natAbs := by
  have e := Int.mul_ediv_add_emod (x.natAbs : Int) y.natAbs
  unfold tq
  rcases Int.lt_or_le x 0 with h | h <;> rcases Int.lt_or_le y 0 with h' | h'
  · rw [if_pos (by simp [h, h']), if_pos h]
    rw [abs_pos_iff.2 h, abs_pos_iff.2 h'] at *
    rw [Int.neg_mul, Int.mul_comm] at e
    omega
  · rw [if_neg (by simp [h]; omega), if_pos h]
    rw [abs_pos_iff.2 h, abs_pos_iff.1 h'] at *
    rw [Int.mul_comm] at e
    rw [Int.neg_mul]
    omega
  · rw [if_neg (by simp [h']; omega), if_neg (by omega)]
    rw [abs_pos_iff.1 h, abs_pos_iff.2 h'] at *
    rw [Int.neg_mul, Int.mul_comm] at e
    rw [Int.neg_mul]
    omega
  · rw [if_pos (by simp; omega), if_neg (by omega)]
    rw [abs_pos_iff.1 h, abs_pos_iff.1 h'] at *
    rw [Int.mul_comm] at e
    omega
theorem tq_sm {x y : Int} (hx : Sm x) : (tq x y).natAbs ≤ x.natAbs ∧ (x - tq x y * y).natAbs ≤ x.natAbs := by
  have a := Int.ediv_le_self (a := (x.natAbs : Int)) (y.natAbs : Int) (by omega)
  have b : (0 : Int) ≤ (x.natAbs : Int) / y.natAbs := Int.ediv_nonneg (by omega) (by omega)
  have c : (x.natAbs : Int) % y.natAbs ≤ x.natAbs := by
    have := Nat.mod_le x.natAbs y.natAbs
    exact_mod_cast this
  have d : (0 : Int) ≤ (x.natAbs : Int) % y.natAbs := by
    have := Nat.zero_le (x.natAbs % y.natAbs)
    exact_mod_cast this
  rw [tq_rest]
  unfold tq
  constructor <;> split <;> omega

theorem t_tdiv (w : Nat) (hw : 4 ≤ w ∧ w ≤ 29) (v u : V) (x y : Int) (hv : Num w v x) (hu : Num w u y) (hx : Sm x) (hy : y ≠ 0 ∧ y.natAbs ≤ 63) :
    GCall g (g.fa "tdiv") 6 [v, u, .int w, .lit (.ref (g.fa "divrem_school"))] (fun _ => none) (fun r _ => ∃ a b, r = .tup [a, b] ∧ Num w a (tq x y) ∧ Num w b (x - tq x y * y)) := by
  obtain ⟨l, rfl, hl⟩ := hv
  obtain ⟨k, rfl, hk⟩ := hu
  have hy' : Sm y := by unfold Sm; omega
  have hs1 := hx.short (w := w) (by omega) hl
  have hs2 := hy'.short (w := w) (by omega) hk
  have hB := one_lt_pow (w := w) (by omega)
  have hB16 : (16:Int) ≤ 2 ^ w := pow_mono' (B := 2) (by decide) hw.1
  have hBB : (16:Int) * 16 ≤ 2 ^ w * 2 ^ w := Int.mul_le_mul hB16 hB16 (by omega) (by omega)
  have hk0 : k.length ≠ 0 := by
    intro h
    have := (hk.zero hB).mp (List.length_eq_zero_iff.mp h)
    omega
  refine' gcall (d := dOf 17) (dOf_mem 17 (by decide)) (hbody := ?enB) (hscope := ?enS) (hparams := ?enP) (hname := rfl) (names := ["x", "y", "w", "divrem"]) (hk := ?enK) (hbind := ?enI) (hloc := ?enL) (h := ?enH) (hco := ?enC) (hgen := ?enG) (hcell := ?enE)
  case enB => (conv => lhs; whnf)
  case enS => (conv => lhs; whnf)
  case enP => (conv => lhs; whnf)
  case enK => rfl
  case enI => (intro pm code doc vs h; match vs, h with | [v0, v1, v2, v3], _ => rfl)
  case enL => decide +kernel
  case enC => rfl
  case enG => rfl
  case enE => decide +kernel
  repeat' tb_rel
  refine iteEq (fun h => absurd h (by omega)) (fun _ => ?_)
  repeat' tb_rel
  refine wE_callD (fa_def (x := "divrem_school") (by decide +kernel)).2 ?_
  repeat' tb_rel
  refine op_pure (t_divrem_school w (by omega) l k _ _ (by omega) hl hk (by omega)) (by decide) fun r hr => ?_
  obtain ⟨_, _, rfl, ⟨q, rfl, hq⟩, ⟨d, rfl, hd⟩⟩ := hr
  have hql : q.length ≤ 200 := short_of (by omega) hq (Int.ediv_le_self _ (by omega)) hx.cast
  have hdl : d.length ≤ 200 := short_of (by omega) hd (by have := Nat.mod_le x.natAbs y.natAbs; exact_mod_cast this) hx.cast
  repeat' tb_rel
  refine op_pure (t_signed w (by omega) _ q _ (tq x y) (by omega) hq ?_) (by decide) fun r hr => ?_
  · unfold tq
    by_cases h : x < 0 <;> by_cases h' : y < 0 <;> simp [h, h']
  repeat' tb_rel
  refine op_pure (t_signed w (by omega) _ d _ (x - tq x y * y) (by omega) hd ?_) (by decide) fun r2 hr2 => ?_
  · rw [tq_rest]
    by_cases h : x < 0 <;> simp [h]
  repeat' tb_rel
  exact ⟨hr, hr2⟩
end
end Mine

namespace Mine
local macro_rules | `(tactic| tb_start) => `(tactic| first
  | with_reducible exact look_same
  | with_reducible exact look_froze
  | ((with_reducible refine' look_i ?nn); (case nn => omega))
  | ((with_reducible refine' look_ne ?nn ?tt); (case nn => decide +kernel); (case tt => tb_start))
  | ((with_reducible refine' look_froze_ne ?nn ?tt); (case nn => decide +kernel); (case tt => tb_start))
  | ((with_reducible refine' sig_set ?tt); (case tt => tb_start))
  | ((with_reducible refine' sig_freeze ?nn ?tt); (case nn => assumption); (case tt => tb_start))
  | ((with_reducible refine' upd_app ?nn); (case nn => first | rfl | omega))
  | ((with_reducible refine' upd_set ?n1 ?n2); (case n1 => first | rfl | omega); (case n2 => first | rfl | omega))
  | with_reducible exact upd_nil
  | with_reducible exact upd_same
  | ((with_reducible refine' upd_ne ?nn ?tt); (case nn => assumption); (case tt => tb_start))
  | assumption
  | exact rfl
  | fail "no look")
local macro_rules | `(tactic| tb_rel) => `(tactic| first
  | with_reducible refine' iteF ?_
  | with_reducible refine' iteT ?_
  | with_reducible refine' wS_nil ?_
  | with_reducible refine' wS_cons ?_
  | ((with_reducible refine' wX_retRef ?h1 ?h2 ?h ?hl ?hd); (case hl => exact rfl); (case hd => decide +kernel); (case h1 => tb_start); (case h2 => tb_start))
  | with_reducible refine' wX_return ?_
  | ((with_reducible refine' wX_assign ?h ?hl ?hs); (case hl => exact rfl); (case hs => (intros; exact rfl)))
  | ((with_reducible refine' wX_aug ?hv ?h ?hl); (case hl => exact rfl); (case hv => tb_start))
  | with_reducible refine' wX_if ?_
  | ((with_reducible refine' wX_append ?h ?h1 ?h2 ?h3 ?h4 ?h5); (case h1 => (intros; exact rfl)); (case h2 => exact rfl); (case h3 => (intros; exact rfl)); (case h4 => (intros; exact rfl)); (case h5 => (intros; exact rfl)))
  | ((with_reducible refine' wX_setitem ?h ?h1); (case h1 => (intros; exact rfl)))
  | ((with_reducible refine' wX_swap2 ?h ?h1 ?h2 ?h3 ?h4); (case h4 => (intros; exact rfl)); (case h1 => exact rfl); (case h2 => exact rfl); (case h3 => (intros; exact rfl)))
  | ((with_reducible refine' wX_swap3 ?h ?h1 ?h2 ?h5 ?h3 ?h4); (case h4 => (intros; exact rfl)); (case h1 => exact rfl); (case h2 => exact rfl); (case h5 => exact rfl); (case h3 => (intros; exact rfl)))
  | ((with_reducible refine' wX_unpack2 ?h ?h1 ?h2 ?h3 ?h4); (case h4 => (intros; exact rfl)); (case h1 => exact rfl); (case h2 => exact rfl); (case h3 => (intros; exact rfl)))
  | ((with_reducible refine' wX_unpack3 ?h ?h1 ?h2 ?h5 ?h3 ?h4); (case h4 => (intros; exact rfl)); (case h1 => exact rfl); (case h2 => exact rfl); (case h5 => exact rfl); (case h3 => (intros; exact rfl)))
  | ((with_reducible refine' wX_for ?h ?h1 ?h2); (case h1 => exact rfl); (case h2 => (intros; exact rfl)))
  | ((with_reducible refine' wI_rng ?h ?h1 ?h2 ?h3); (case h1 => exact rfl); (case h2 => (intro _; exact rfl)); (case h3 => (intro _; exact ⟨_, _, rfl, rfl⟩)))
  | with_reducible refine' wI_list ?_
  | with_reducible refine' wE_int ?_
  | with_reducible refine' wE_bool ?_
  | with_reducible refine' wE_none ?_
  | ((with_reducible refine' wE_local ?hv ?h ?hl ?hd); (case hl => exact rfl); (case hd => decide +kernel); (case hv => tb_start))
  | ((with_reducible refine' wE_fn ?h ?h1 ?h2 ?h3); (case h2 => exact rfl); (case h1 => decide +kernel); (case h3 => decide +kernel))
  | with_reducible refine' wE_binop ?_
  | ((with_reducible refine' wE_cmp ?h ?hm); (case hm => with_unfolding_all exact rfl))
  | with_reducible refine' wE_ifexp ?_
  | with_reducible refine' wE_unop ?_
  | with_reducible refine' wE_boolop_and ?_
  | with_reducible refine' wE_boolop_or ?_
  | with_reducible refine' wE_boolop_one ?_
  | with_reducible refine' wE_tuple ?_
  | ((with_reducible refine' wE_len ?h ?h1 ?h2 ?h3 ?h4); (case h1 => exact rfl); (case h2 => (intro _; exact rfl)); (case h3 => (intro _; exact ⟨_, _, rfl, rfl⟩)); (case h4 => (intro _; exact rfl)))
  | ((with_reducible refine' wE_abs ?h ?h1 ?h2 ?h3 ?h4); (case h1 => exact rfl); (case h2 => (intro _; exact rfl)); (case h3 => (intro _; exact ⟨_, _, rfl, rfl⟩)); (case h4 => (intro _; exact rfl)))
  | ((with_reducible refine' wE_min ?h ?h1 ?h2 ?h3); (case h1 => exact rfl); (case h2 => (intro _; exact rfl)); (case h3 => (intro _; exact ⟨_, _, rfl, rfl⟩)))
  | ((with_reducible refine' wE_def ?h ?h1 ?h2 ?h3 ?h4 ?h5); (case h1 => decide +kernel); (case h2 => exact rfl); (case h3 => decide +kernel); (case h4 => (intro _; exact rfl)); (case h5 => (intro _; exact ⟨_, _, rfl, rfl⟩)))
  | ((with_reducible refine' wE_bitlen ?h ?h1 ?h2); (case h1 => (intro _; exact rfl)); (case h2 => exact rfl))
  | ((with_reducible refine' wT_cmp ?h ?hm); (case hm => with_unfolding_all exact rfl))
  | ((with_reducible refine' wT_chain ?h ?hm); (case hm => with_unfolding_all exact rfl))
  | with_reducible refine' wT_not ?_
  | with_reducible refine' wT_and_nil ?_
  | with_reducible refine' wT_and ?_
  | with_reducible refine' wT_or_nil ?_
  | with_reducible refine' wT_or ?_
  | ((with_reducible refine' wT_plain ?h ?he); (case he => (intros; exact rfl)))
  | with_reducible refine' wA_nil ?_
  | ((with_reducible refine' wA_cons ?h ?hs); (case hs => (intro _; exact rfl)))
  | with_reducible refine' wP_none ?_
  | with_reducible refine' wP_some ?_
  | ((with_reducible refine' wE_sliceAll ?hx ?hsz ?h ?hl ?hd); (case hl => exact rfl); (case hd => decide +kernel); (case hx => tb_start); (case hsz => omega))
  | ((with_reducible refine' wE_sliceTo ?hx ?hsz ?h ?hl ?hd); (case hl => exact rfl); (case hd => decide +kernel); (case hx => tb_start); (case hsz => omega))
  | ((with_reducible refine' wE_sliceZ ?hx ?hsz ?h ?hl ?hd); (case hl => exact rfl); (case hd => decide +kernel); (case hx => tb_start); (case hsz => omega))
  | ((with_reducible refine' wE_sliceR ?hx ?ha ?hsz ?h ?hl ?hd); (case hl => exact rfl); (case hd => decide +kernel); (case hx => tb_start); (case ha => tb_start); (case hsz => omega))
  | with_reducible refine' wE_sub ?_
  | ((with_reducible refine' b_len_z ?h1 ?h); (case h1 => omega))
  | ((with_reducible refine' b_len_zr ?h0 ?h1 ?h); (case h0 => tb_start); (case h1 => omega))
  | ((with_reducible refine' s_zN ?h1 ?h2 ?h ?hs); (case hs => (intro _ _; exact rfl)); (case h1 => omega); (case h2 => omega))
  | ((with_reducible refine' s_zrN ?ha ?h1 ?h2 ?h ?hs); (case hs => (intro _ _; exact rfl)); (case ha => tb_start); (case h1 => omega); (case h2 => omega))
  | ((with_reducible refine' s_z ?h0 ?h1 ?h2 ?h ?hs); (case hs => (intro _ _; exact rfl)); (case h0 => omega); (case h1 => omega); (case h2 => omega))
  | ((with_reducible refine' s_zr ?ha ?h0 ?h1 ?h2 ?h ?hs); (case hs => (intro _ _; exact rfl)); (case ha => tb_start); (case h0 => omega); (case h1 => omega); (case h2 => omega))
  | ((with_reducible refine' s_tup ?h0 ?hx ?hsz ?h ?hs); (case hs => (intro _ _; exact rfl)); (case h0 => omega); (case hx => exact rfl); (case hsz => (simp; done)))
  | ((with_reducible refine' o_shl1 ?h1 ?h); (case h1 => omega))
  | with_reducible refine' o_shr ?_
  | with_reducible refine' i_shr ?_
  | with_reducible refine' o_mask ?_
  | ((with_reducible refine' o_pow2 ?h1 ?h); (case h1 => omega))
  | ((with_reducible refine' o_divN ?h1 ?h2 ?h); (case h1 => omega); (case h2 => omega))
  | ((with_reducible refine' o_mdN ?h1 ?h); (case h1 => omega))
  | ((with_reducible refine' o_div ?h1 ?h2 ?h); (case h1 => omega); (case h2 => omega))
  | ((with_reducible refine' o_md ?h1 ?h); (case h1 => omega))
  | ((with_reducible refine' i_md ?h1 ?h); (case h1 => omega))
  | ((with_reducible refine' o_shl ?h1 ?h2 ?h); (case h1 => omega); (case h2 => omega))
  | ((with_reducible refine' o_orL ?h1 ?h2 ?h3 ?h); (case h1 => omega); (case h2 => omega); (case h3 => omega))
  | ((with_reducible refine' o_orR ?h1 ?h2 ?h3 ?h); (case h1 => omega); (case h2 => omega); (case h3 => omega))
  | ((with_reducible refine' i_orR ?h1 ?h2 ?h3 ?h); (case h1 => omega); (case h2 => omega); (case h3 => omega))
  | with_reducible refine' o_addN ?_
  | with_reducible refine' o_addN1 ?_
  | with_reducible refine' o_add ?_
  | ((with_reducible refine' o_subN ?h1 ?h); (case h1 => omega))
  | with_reducible refine' o_sub ?_
  | with_reducible refine' i_add ?_
  | with_reducible refine' i_sub ?_
  | with_reducible refine' o_neg ?_
  | with_reducible refine' c_eq ?_
  | with_reducible refine' c_ne ?_
  | with_reducible refine' c_lt ?_
  | with_reducible refine' c_le ?_
  | with_reducible refine' c_gt ?_
  | with_reducible refine' c_ge ?_
  | with_reducible refine' c_eqb ?_
  | with_reducible refine' c_neb ?_
  | with_reducible refine' o_notB ?_
  | with_reducible refine' exTB ?_
  | with_reducible refine' exTI ?_
  | with_reducible refine' exI ?_
  | with_reducible refine' exNat ?_
  | with_reducible refine' exL ?_
  | with_reducible refine' exT2 ?_
  | with_reducible refine' exT3 ?_
  | with_reducible refine' exR ?_
  | with_reducible refine' andLit ?_
  | with_reducible refine' andSt ?_
  | ((with_reducible refine' andLen ?h1 ?h); (case h1 => (simp; done)))
  | ((with_reducible refine' exRng1 ?h1 ?h); (case h1 => (unfold Fit; omega)))
  | ((with_reducible refine' exRng2 ?h1 ?h2 ?h); (case h1 => (unfold Fit; omega)); (case h2 => (unfold Fit; omega)))
  | ((with_reducible refine' exRngD ?he ?h1 ?h2 ?h); (case he => omega); (case h1 => (unfold Fit; omega)); (case h2 => (unfold Fit; omega)))
  | ((with_reducible refine' exApp ?h1 ?h); (case h1 => tb_start))
  | ((with_reducible refine' exAppZ ?h1 ?h2 ?h); (case h1 => tb_start); (case h2 => omega))
  | ((with_reducible refine' exSetZ ?h1 ?h2 ?h3 ?h4 ?h); (case h1 => tb_start); (case h2 => omega); (case h3 => ((try simp only [List.length_set, List.length_replicate, List.length_append, List.length_cons, List.length_nil]); omega)); (case h4 => ((try simp only [List.length_set, List.length_replicate, List.length_append, List.length_cons, List.length_nil]); omega)))
  | with_reducible refine' wE_listOf ?_
  | with_reducible refine' andNext ?_
  | fail "no step")

section
variable {g : G PP} {c : Cx} {S : St}
def fq (x y : Int) : Int := if x - tq x y * y ≠ 0 ∧ (x < 0) ≠ (y < 0) then tq x y - 1 else tq x y
def cq (x y : Int) : Int := if x - tq x y * y ≠ 0 ∧ (x < 0) = (y < 0) then tq x y + 1 else tq x y
theorem tq_neg {x y : Int} (h : (x < 0) ≠ (y < 0)) : tq x y ≤ 0 := by
  have b : (0 : Int) ≤ (x.natAbs : Int) / y.natAbs := Int.ediv_nonneg (by omega) (by omega)
  unfold tq
  rw [if_neg h]; omega
theorem tq_pos {x y : Int} (h : (x < 0) = (y < 0)) : 0 ≤ tq x y := by
  have b : (0 : Int) ≤ (x.natAbs : Int) / y.natAbs := Int.ediv_nonneg (by omega) (by omega)
  unfold tq
  rw [if_pos h]; omega
theorem Sm.le {x y : Int} (h : Sm x) (hy : y.natAbs ≤ x.natAbs) : Sm y := Nat.lt_of_le_of_lt hy h

theorem t_fdiv (w : Nat) (hw : 4 ≤ w ∧ w ≤ 29) (v u : V) (x y : Int) (hv : Num w v x) (hu : Num w u y) (hx : Sm x) (hy : y ≠ 0 ∧ y.natAbs ≤ 63) :
    GCall g (g.fa "fdiv") 7 [v, u, .int w, .lit (.ref (g.fa "divrem_school"))] (fun _ => none) (fun r _ => ∃ a b, r = .tup [a, b] ∧ Num w a (fq x y) ∧ Num w b (x - fq x y * y)) := by
  have ht := t_tdiv (g := g) w hw v u x y hv hu hx hy
  have hsm := tq_sm (y := y) hx
  have hy' : Sm y := by unfold Sm; omega
  have hu' := hu
  obtain ⟨l, rfl, hl⟩ := hv
  obtain ⟨k, rfl, hk⟩ := hu
  have hB := one_lt_pow (w := w) (by omega)
  refine' gcall (d := dOf 18) (dOf_mem 18 (by decide)) (hbody := ?enB) (hscope := ?enS) (hparams := ?enP) (hname := rfl) (names := ["x", "y", "w", "divrem"]) (hk := ?enK) (hbind := ?enI) (hloc := ?enL) (h := ?enH) (hco := ?enC) (hgen := ?enG) (hcell := ?enE)
  case enB => (conv => lhs; whnf)
  case enS => (conv => lhs; whnf)
  case enP => (conv => lhs; whnf)
  case enK => rfl
  case enI => (intro pm code doc vs h; match vs, h with | [v0, v1, v2, v3], _ => rfl)
  case enL => decide +kernel
  case enC => rfl
  case enG => rfl
  case enE => decide +kernel
  repeat' tb_rel
  refine op_pure ht (by decide) fun r hr => ?_
  obtain ⟨_, b, rfl, hq, hd⟩ := hr
  have hd0 := hd
  have hq0 := hq
  obtain ⟨q, rfl, hq⟩ := hq
  obtain ⟨d, rfl, hd⟩ := hd
  have hql : q.length ≤ 200 := (hx.le hsm.1).short (by omega) hq
  have hdl : d.length ≤ 200 := (hx.le hsm.2).short (by omega) hd
  have hd1 := hd.zero hB
  have hfin : (x - tq x y * y = 0 ∨ (x < 0) = (y < 0)) → fq x y = tq x y := fun h => by
    unfold fq
    rw [if_neg (by rintro ⟨a, b⟩; exact h.elim a b)]
  repeat' tb_rel
  refine iteD (fun h => ?_) (fun h => ?_)
  · repeat' tb_rel
    refine iteB (fun h2 => ?_) (fun h2 => ?_)
    · have hs : (x < 0) ≠ (y < 0) := by
        intro e
        have e : decide (x < 0) = decide (y < 0) := by simp [e]
        rw [e] at h2; simp at h2
      have hr0 : x - tq x y * y ≠ 0 := by
        intro e
        have := hd1.mpr (by omega)
        rw [this] at h; simp at h
      have hf : fq x y = tq x y - 1 := by unfold fq; rw [if_pos ⟨hr0, hs⟩]
      have htn := tq_neg hs
      repeat' tb_rel
      refine op_pure (t_add_limb w (by omega) q _ 1 (by omega) hq (by omega)) (by decide) fun r hr => ?_
      obtain ⟨q2, rfl, hq2⟩ := hr
      repeat' tb_rel
      refine op_pure (t_s_add w (by omega) _ _ (x - tq x y * y) y hd0 hu' (hx.le hsm.2) hy') (by decide) fun r hr => ?_
      repeat' tb_rel
      rw [hf]
      refine ⟨⟨q2, ?_, hq2.to ?_⟩, ?_⟩
      · rw [decide_eq_true (show tq x y - 1 < 0 by omega)]
      · omega
      · rw [Int.sub_mul, Int.one_mul, show x - (tq x y * y - y) = x - tq x y * y + y by omega]
        exact hr
    · repeat' tb_rel
      have hs : (x < 0) = (y < 0) := by
        have : decide (x < 0) = decide (y < 0) := by simpa using h2
        simpa using this
      rw [hfin (.inr hs)]
      exact ⟨hq0, hd0⟩
  · repeat' tb_rel
    have : x - tq x y * y = 0 := by
      have := hd1.mp (List.length_eq_zero_iff.mp (by omega))
      omega
    rw [hfin (.inl this)]
    exact ⟨hq0, hd0⟩

theorem t_cdiv (w : Nat) (hw : 4 ≤ w ∧ w ≤ 29) (v u : V) (x y : Int) (hv : Num w v x) (hu : Num w u y) (hx : Sm x) (hy : y ≠ 0 ∧ y.natAbs ≤ 63) :
    GCall g (g.fa "cdiv") 7 [v, u, .int w, .lit (.ref (g.fa "divrem_school"))] (fun _ => none) (fun r _ => ∃ a b, r = .tup [a, b] ∧ Num w a (cq x y) ∧ Num w b (x - cq x y * y)) := by
  have ht := t_tdiv (g := g) w hw v u x y hv hu hx hy
  have hsm := tq_sm (y := y) hx
  have hy' : Sm y := by unfold Sm; omega
  have hu' := hu
  obtain ⟨l, rfl, hl⟩ := hv
  obtain ⟨k, rfl, hk⟩ := hu
  have hB := one_lt_pow (w := w) (by omega)
  refine' gcall (d := dOf 19) (dOf_mem 19 (by decide)) (hbody := ?enB) (hscope := ?enS) (hparams := ?enP) (hname := rfl) (names := ["x", "y", "w", "divrem"]) (hk := ?enK) (hbind := ?enI) (hloc := ?enL) (h := ?enH) (hco := ?enC) (hgen := ?enG) (hcell := ?enE)
  case enB => (conv => lhs; whnf)
  case enS => (conv => lhs; whnf)
  case enP => (conv => lhs; whnf)
  case enK => rfl
  case enI => (intro pm code doc vs h; match vs, h with | [v0, v1, v2, v3], _ => rfl)
  case enL => decide +kernel
  case enC => rfl
  case enG => rfl
  case enE => decide +kernel
  repeat' tb_rel
  refine op_pure ht (by decide) fun r hr => ?_
  obtain ⟨_, b, rfl, hq, hd⟩ := hr
  have hd0 := hd
  have hq0 := hq
  obtain ⟨q, rfl, hq⟩ := hq
  obtain ⟨d, rfl, hd⟩ := hd
  have hql : q.length ≤ 200 := (hx.le hsm.1).short (by omega) hq
  have hdl : d.length ≤ 200 := (hx.le hsm.2).short (by omega) hd
  have hd1 := hd.zero hB
  have hfin : (x - tq x y * y = 0 ∨ (x < 0) ≠ (y < 0)) → cq x y = tq x y := fun h => by
    unfold cq
    rw [if_neg (by rintro ⟨a, b⟩; exact h.elim a (fun k => k b))]
  repeat' tb_rel
  refine iteD (fun h => ?_) (fun h => ?_)
  · repeat' tb_rel
    refine iteB (fun h2 => ?_) (fun h2 => ?_)
    · have hs : (x < 0) = (y < 0) := by
        have : decide (x < 0) = decide (y < 0) := by simpa using h2
        simpa using this
      have hr0 : x - tq x y * y ≠ 0 := by
        intro e
        have := hd1.mpr (by omega)
        rw [this] at h; simp at h
      have hf : cq x y = tq x y + 1 := by unfold cq; rw [if_pos ⟨hr0, hs⟩]
      have htn := tq_pos hs
      repeat' tb_rel
      refine op_pure (t_add_limb w (by omega) q _ 1 (by omega) hq (by omega)) (by decide) fun r hr => ?_
      obtain ⟨q2, rfl, hq2⟩ := hr
      repeat' tb_rel
      refine op_pure (t_s_sub w (by omega) _ _ (x - tq x y * y) y hd0 hu' (hx.le hsm.2) hy') (by decide) fun r hr => ?_
      repeat' tb_rel
      rw [hf]
      refine ⟨⟨q2, ?_, hq2.to ?_⟩, ?_⟩
      · rw [decide_eq_false (show ¬ tq x y + 1 < 0 by omega)]
      · omega
      · rw [Int.add_mul, Int.one_mul, show x - (tq x y * y + y) = x - tq x y * y - y by omega]
        exact hr
    · repeat' tb_rel
      have hs : (x < 0) ≠ (y < 0) := by
        intro e
        have e : decide (x < 0) = decide (y < 0) := by simp [e]
        rw [e] at h2; simp at h2
      rw [hfin (.inr hs)]
      exact ⟨hq0, hd0⟩
  · repeat' tb_rel
    have : x - tq x y * y = 0 := by
      have := hd1.mp (List.length_eq_zero_iff.mp (by omega))
      omega
    rw [hfin (.inl this)]
    exact ⟨hq0, hd0⟩

theorem t_s_shift_up (w : Nat) (hw : 1 ≤ w ∧ w ≤ 29) (v : V) (x : Int) (s : Nat) (hv : Num w v x) (hx : Sm x) (hs : s ≤ 100) :
    GCall g (g.fa "s_shift") 3 [v, .int s, .int w] (fun _ => none) (fun r _ => Num w r (x * 2 ^ s)) := by
  obtain ⟨l, rfl, hl⟩ := hv
  have hs1 := hx.short (w := w) (by omega) hl
  have hB := one_lt_pow (w := w) (by omega)
  refine' gcall (d := dOf 20) (dOf_mem 20 (by decide)) (hbody := ?enB) (hscope := ?enS) (hparams := ?enP) (hname := rfl) (names := ["x", "n", "w"]) (hk := ?enK) (hbind := ?enI) (hloc := ?enL) (h := ?enH) (hco := ?enC) (hgen := ?enG) (hcell := ?enE)
  case enB => (conv => lhs; whnf)
  case enS => (conv => lhs; whnf)
  case enP => (conv => lhs; whnf)
  case enK => rfl
  case enI => (intro pm code doc vs h; match vs, h with | [v0, v1, v2], _ => rfl)
  case enL => decide +kernel
  case enC => rfl
  case enG => rfl
  case enE => decide +kernel
  repeat' tb_rel
  refine iteD (fun h => ?_) (fun h => absurd (show (0:Int) ≤ s by omega) h)
  repeat' tb_rel
  refine op_pure (t_shift_left w hw l _ s (by omega) (by omega) hl) (by decide) fun r hr => ?_
  obtain ⟨q, rfl, hq⟩ := hr
  have hql : q.length ≤ 300 := by
    apply hq.len_le hB
    have h3 := two_pow_le (w := w) (k := 300) hw.1
    have e : (2:Int) ^ 300 = 2 ^ 200 * 2 ^ 100 := by rw [← Int.pow_add]
    have e2 : (2:Int) ^ s ≤ 2 ^ 100 := pow_mono' (by decide) hs
    have e3 := hx.cast
    have a1 : (x.natAbs : Int) * 2 ^ s ≤ x.natAbs * 2 ^ 100 := Int.mul_le_mul_of_nonneg_left e2 (by omega)
    have a2 : (x.natAbs : Int) * 2 ^ 100 < 2 ^ 200 * 2 ^ 100 := Int.mul_lt_mul_of_pos_right e3 (by decide)
    rw [← e] at a2
    generalize (2:Int) ^ 300 = T at *
    generalize (2:Int) ^ 100 = T' at *
    omega
  repeat' tb_rel
  refine op_pure (t_signed w (by omega) _ q _ (x * 2 ^ s) (by omega) hq ?_) (by decide) fun r hr => ?_
  · rcases Int.lt_or_le x 0 with h | h
    · rw [abs_pos_iff.2 h, decide_eq_true h, if_pos rfl, Int.neg_mul, Int.neg_neg]
    · rw [abs_pos_iff.1 h, decide_eq_false (by omega), if_neg (by decide)]
  repeat' tb_rel
  exact hr

theorem floor_neg {x p : Int} (hp : 0 < p) (hx : x < 0) : x / p = -((-x) / p + if 0 < (-x) % p then 1 else 0) := by
  have e1 := Int.mul_ediv_add_emod (-x) p
  have m := mod_limb (B := p) (c := -x) hp
  generalize (-x) / p = q at *
  generalize (-x) % p = r at *
  split
  · rename_i h
    have : x = (p - r) + p * (-(q + 1)) := by rw [Int.mul_neg, Int.mul_add]; omega
    rw [this, Int.add_mul_ediv_left _ _ (by omega), Int.ediv_eq_zero_of_lt (by omega) (by omega)]
    omega
  · rename_i h
    have : x = p * (-q) := by rw [Int.mul_neg]; omega
    rw [this, Int.mul_ediv_cancel_left _ (by omega)]
    omega

theorem t_s_shift_down (w : Nat) (hw : 1 ≤ w ∧ w ≤ 29) (v : V) (x : Int) (s : Nat) (hv : Num w v x) (hx : Sm x) (hs : 1 ≤ s ∧ s ≤ 100) :
    GCall g (g.fa "s_shift") 3 [v, .int (-(s : Int)), .int w] (fun _ => none) (fun r _ => Num w r (x / 2 ^ s)) := by
  obtain ⟨l, rfl, hl⟩ := hv
  have hs1 := hx.short (w := w) (by omega) hl
  have hB := one_lt_pow (w := w) (by omega)
  have hp : (0:Int) < 2 ^ s := Int.pow_pos (by decide)
  refine' gcall (d := dOf 20) (dOf_mem 20 (by decide)) (hbody := ?enB) (hscope := ?enS) (hparams := ?enP) (hname := rfl) (names := ["x", "n", "w"]) (hk := ?enK) (hbind := ?enI) (hloc := ?enL) (h := ?enH) (hco := ?enC) (hgen := ?enG) (hcell := ?enE)
  case enB => (conv => lhs; whnf)
  case enS => (conv => lhs; whnf)
  case enP => (conv => lhs; whnf)
  case enK => rfl
  case enI => (intro pm code doc vs h; match vs, h with | [v0, v1, v2], _ => rfl)
  case enL => decide +kernel
  case enC => rfl
  case enG => rfl
  case enE => decide +kernel
  repeat' tb_rel
  refine iteD (fun h => absurd (show ¬ (0:Int) ≤ -(s:Int) by omega) (fun hh => hh h)) (fun h => ?_)
  repeat' tb_rel
  rw [Int.neg_neg]
  refine op_pure (t_shift_right w hw l _ s (by omega) (by omega) hl.limbs hl.val) (by decide) fun r hr => ?_
  obtain ⟨q, rfl, hq⟩ := hr
  have hql : q.length ≤ 200 := short_of (by omega) hq (Int.ediv_le_self _ (by omega)) hx.cast
  repeat' tb_rel
  refine iteD (fun h0 => ?_) (fun h0 => ?_)
  · have ex := abs_pos_iff.2 h0
    rw [ex] at hl hq
    have ef := floor_neg hp h0
    repeat' tb_rel
    rw [Int.neg_neg]
    refine op_pure (t_low w hw l _ s (by omega) (by omega) hl) (by decide) fun r hr => ?_
    obtain ⟨d, rfl, hd⟩ := hr
    have hdl : d.length ≤ 200 := short_of (by omega) hd (by have := Nat.mod_le x.natAbs (2 ^ s); rw [← ex]; exact_mod_cast this) (ex ▸ hx.cast)
    have hd1 := hd.zero hB
    have hm := mod_limb (B := 2 ^ s) (c := -x) hp
    repeat' tb_rel
    refine iteD (fun h1 => ?_) (fun h1 => ?_)
    · repeat' tb_rel
      refine op_pure (t_add_limb w (by omega) q _ 1 (by omega) hq (by omega)) (by decide) fun r hr => ?_
      obtain ⟨q2, rfl, hq2⟩ := hr
      have hq2l : q2.length ≤ 201 := by
        refine short_of (m := 2 ^ 200) (by omega) hq2 ?_ (by decide)
        have := Int.ediv_le_self (a := -x) (2 ^ s) (by omega)
        have e3 := hx.cast
        rw [ex] at e3
        omega
      repeat' tb_rel
      refine op_pure (t_signed w (by omega) _ q2 _ (x / 2 ^ s) (by omega) hq2 ?_) (by decide) fun r hr => ?_
      · have : (-x) % 2 ^ s ≠ 0 := by
          intro e
          have := hd1.mpr e
          rw [this] at h1; simp at h1
        rw [decide_eq_true h0, if_pos rfl, ef, if_pos (by omega)]
      repeat' tb_rel
      exact hr
    · repeat' tb_rel
      refine op_pure (t_signed w (by omega) _ q _ (x / 2 ^ s) (by omega) hq ?_) (by decide) fun r hr => ?_
      · have : (-x) % 2 ^ s = 0 := hd1.mp (List.length_eq_zero_iff.mp (by omega))
        rw [decide_eq_true h0, if_pos rfl, ef, if_neg (by omega), Int.add_zero]
      repeat' tb_rel
      exact hr
  · repeat' tb_rel
    refine op_pure (t_signed w (by omega) _ q _ (x / 2 ^ s) (by omega) hq ?_) (by decide) fun r hr => ?_
    · rw [decide_eq_false h0, if_neg (by decide), abs_pos_iff.1 (by omega)]
    repeat' tb_rel
    exact hr
end
end Mine

namespace Mine
local macro_rules | `(tactic| tb_start) => `(tactic| first
  | with_reducible exact look_same
  | with_reducible exact look_froze
  | ((with_reducible refine' look_i ?nn); (case nn => omega))
  | ((with_reducible refine' look_ne ?nn ?tt); (case nn => decide +kernel); (case tt => tb_start))
  | ((with_reducible refine' look_froze_ne ?nn ?tt); (case nn => decide +kernel); (case tt => tb_start))
  | ((with_reducible refine' sig_set ?tt); (case tt => tb_start))
  | ((with_reducible refine' sig_freeze ?nn ?tt); (case nn => assumption); (case tt => tb_start))
  | ((with_reducible refine' upd_app ?nn); (case nn => first | rfl | omega))
  | ((with_reducible refine' upd_set ?n1 ?n2); (case n1 => first | rfl | omega); (case n2 => first | rfl | omega))
  | with_reducible exact upd_nil
  | with_reducible exact upd_same
  | ((with_reducible refine' upd_ne ?nn ?tt); (case nn => assumption); (case tt => tb_start))
  | assumption
  | exact rfl
  | fail "no look")
local macro_rules | `(tactic| tb_rel) => `(tactic| first
  | with_reducible refine' iteF ?_
  | with_reducible refine' iteT ?_
  | with_reducible refine' wS_nil ?_
  | with_reducible refine' wS_cons ?_
  | ((with_reducible refine' wX_retRef ?h1 ?h2 ?h ?hl ?hd); (case hl => exact rfl); (case hd => decide +kernel); (case h1 => tb_start); (case h2 => tb_start))
  | with_reducible refine' wX_return ?_
  | ((with_reducible refine' wX_assign ?h ?hl ?hs); (case hl => exact rfl); (case hs => (intros; exact rfl)))
  | ((with_reducible refine' wX_aug ?hv ?h ?hl); (case hl => exact rfl); (case hv => tb_start))
  | with_reducible refine' wX_if ?_
  | ((with_reducible refine' wX_append ?h ?h1 ?h2 ?h3 ?h4 ?h5); (case h1 => (intros; exact rfl)); (case h2 => exact rfl); (case h3 => (intros; exact rfl)); (case h4 => (intros; exact rfl)); (case h5 => (intros; exact rfl)))
  | ((with_reducible refine' wX_setitem ?h ?h1); (case h1 => (intros; exact rfl)))
  | ((with_reducible refine' wX_swap2 ?h ?h1 ?h2 ?h3 ?h4); (case h4 => (intros; exact rfl)); (case h1 => exact rfl); (case h2 => exact rfl); (case h3 => (intros; exact rfl)))
  | ((with_reducible refine' wX_swap3 ?h ?h1 ?h2 ?h5 ?h3 ?h4); (case h4 => (intros; exact rfl)); (case h1 => exact rfl); (case h2 => exact rfl); (case h5 => exact rfl); (case h3 => (intros; exact rfl)))
  | ((with_reducible refine' wX_unpack2 ?h ?h1 ?h2 ?h3 ?h4); (case h4 => (intros; exact rfl)); (case h1 => exact rfl); (case h2 => exact rfl); (case h3 => (intros; exact rfl)))
  | ((with_reducible refine' wX_unpack3 ?h ?h1 ?h2 ?h5 ?h3 ?h4); (case h4 => (intros; exact rfl)); (case h1 => exact rfl); (case h2 => exact rfl); (case h5 => exact rfl); (case h3 => (intros; exact rfl)))
  | ((with_reducible refine' wX_for ?h ?h1 ?h2); (case h1 => exact rfl); (case h2 => (intros; exact rfl)))
  | ((with_reducible refine' wI_rng ?h ?h1 ?h2 ?h3); (case h1 => exact rfl); (case h2 => (intro _; exact rfl)); (case h3 => (intro _; exact ⟨_, _, rfl, rfl⟩)))
  | with_reducible refine' wI_list ?_
  | with_reducible refine' wE_int ?_
  | with_reducible refine' wE_bool ?_
  | with_reducible refine' wE_none ?_
  | ((with_reducible refine' wE_local ?hv ?h ?hl ?hd); (case hl => exact rfl); (case hd => decide +kernel); (case hv => tb_start))
  | ((with_reducible refine' wE_fn ?h ?h1 ?h2 ?h3); (case h2 => exact rfl); (case h1 => decide +kernel); (case h3 => decide +kernel))
  | with_reducible refine' wE_binop ?_
  | ((with_reducible refine' wE_cmp ?h ?hm); (case hm => with_unfolding_all exact rfl))
  | with_reducible refine' wE_ifexp ?_
  | with_reducible refine' wE_unop ?_
  | with_reducible refine' wE_boolop_and ?_
  | with_reducible refine' wE_boolop_or ?_
  | with_reducible refine' wE_boolop_one ?_
  | with_reducible refine' wE_tuple ?_
  | ((with_reducible refine' wE_len ?h ?h1 ?h2 ?h3 ?h4); (case h1 => exact rfl); (case h2 => (intro _; exact rfl)); (case h3 => (intro _; exact ⟨_, _, rfl, rfl⟩)); (case h4 => (intro _; exact rfl)))
  | ((with_reducible refine' wE_abs ?h ?h1 ?h2 ?h3 ?h4); (case h1 => exact rfl); (case h2 => (intro _; exact rfl)); (case h3 => (intro _; exact ⟨_, _, rfl, rfl⟩)); (case h4 => (intro _; exact rfl)))
  | ((with_reducible refine' wE_min ?h ?h1 ?h2 ?h3); (case h1 => exact rfl); (case h2 => (intro _; exact rfl)); (case h3 => (intro _; exact ⟨_, _, rfl, rfl⟩)))
  | ((with_reducible refine' wE_def ?h ?h1 ?h2 ?h3 ?h4 ?h5); (case h1 => decide +kernel); (case h2 => exact rfl); (case h3 => decide +kernel); (case h4 => (intro _; exact rfl)); (case h5 => (intro _; exact ⟨_, _, rfl, rfl⟩)))
  | ((with_reducible refine' wE_bitlen ?h ?h1 ?h2); (case h1 => (intro _; exact rfl)); (case h2 => exact rfl))
  | ((with_reducible refine' wT_cmp ?h ?hm); (case hm => with_unfolding_all exact rfl))
  | ((with_reducible refine' wT_chain ?h ?hm); (case hm => with_unfolding_all exact rfl))
  | with_reducible refine' wT_not ?_
  | with_reducible refine' wT_and_nil ?_
  | with_reducible refine' wT_and ?_
  | with_reducible refine' wT_or_nil ?_
  | with_reducible refine' wT_or ?_
  | ((with_reducible refine' wT_plain ?h ?he); (case he => (intros; exact rfl)))
  | with_reducible refine' wA_nil ?_
  | ((with_reducible refine' wA_cons ?h ?hs); (case hs => (intro _; exact rfl)))
  | with_reducible refine' wP_none ?_
  | with_reducible refine' wP_some ?_
  | ((with_reducible refine' wE_sliceAll ?hx ?hsz ?h ?hl ?hd); (case hl => exact rfl); (case hd => decide +kernel); (case hx => tb_start); (case hsz => omega))
  | ((with_reducible refine' wE_sliceTo ?hx ?hsz ?h ?hl ?hd); (case hl => exact rfl); (case hd => decide +kernel); (case hx => tb_start); (case hsz => omega))
  | ((with_reducible refine' wE_sliceZ ?hx ?hsz ?h ?hl ?hd); (case hl => exact rfl); (case hd => decide +kernel); (case hx => tb_start); (case hsz => omega))
  | ((with_reducible refine' wE_sliceR ?hx ?ha ?hsz ?h ?hl ?hd); (case hl => exact rfl); (case hd => decide +kernel); (case hx => tb_start); (case ha => tb_start); (case hsz => omega))
  | with_reducible refine' wE_sub ?_
  | ((with_reducible refine' b_len_z ?h1 ?h); (case h1 => omega))
  | ((with_reducible refine' b_len_zr ?h0 ?h1 ?h); (case h0 => tb_start); (case h1 => omega))
  | ((with_reducible refine' s_zN ?h1 ?h2 ?h ?hs); (case hs => (intro _ _; exact rfl)); (case h1 => omega); (case h2 => omega))
  | ((with_reducible refine' s_zrN ?ha ?h1 ?h2 ?h ?hs); (case hs => (intro _ _; exact rfl)); (case ha => tb_start); (case h1 => omega); (case h2 => omega))
  | ((with_reducible refine' s_z ?h0 ?h1 ?h2 ?h ?hs); (case hs => (intro _ _; exact rfl)); (case h0 => omega); (case h1 => omega); (case h2 => omega))
  | ((with_reducible refine' s_zr ?ha ?h0 ?h1 ?h2 ?h ?hs); (case hs => (intro _ _; exact rfl)); (case ha => tb_start); (case h0 => omega); (case h1 => omega); (case h2 => omega))
  | ((with_reducible refine' s_tup ?h0 ?hx ?hsz ?h ?hs); (case hs => (intro _ _; exact rfl)); (case h0 => omega); (case hx => exact rfl); (case hsz => (simp; done)))
  | ((with_reducible refine' o_shl1 ?h1 ?h); (case h1 => omega))
  | with_reducible refine' o_shr ?_
  | with_reducible refine' i_shr ?_
  | with_reducible refine' o_mask ?_
  | ((with_reducible refine' o_pow2 ?h1 ?h); (case h1 => omega))
  | ((with_reducible refine' o_divN ?h1 ?h2 ?h); (case h1 => omega); (case h2 => omega))
  | ((with_reducible refine' o_mdN ?h1 ?h); (case h1 => omega))
  | ((with_reducible refine' o_div ?h1 ?h2 ?h); (case h1 => omega); (case h2 => omega))
  | ((with_reducible refine' o_md ?h1 ?h); (case h1 => omega))
  | ((with_reducible refine' i_md ?h1 ?h); (case h1 => omega))
  | ((with_reducible refine' o_shl ?h1 ?h2 ?h); (case h1 => omega); (case h2 => omega))
  | ((with_reducible refine' o_orL ?h1 ?h2 ?h3 ?h); (case h1 => omega); (case h2 => omega); (case h3 => omega))
  | ((with_reducible refine' o_orR ?h1 ?h2 ?h3 ?h); (case h1 => omega); (case h2 => omega); (case h3 => omega))
  | ((with_reducible refine' i_orR ?h1 ?h2 ?h3 ?h); (case h1 => omega); (case h2 => omega); (case h3 => omega))
  | with_reducible refine' o_addN ?_
  | with_reducible refine' o_addN1 ?_
  | with_reducible refine' o_add ?_
  | ((with_reducible refine' o_subN ?h1 ?h); (case h1 => omega))
  | with_reducible refine' o_sub ?_
  | with_reducible refine' i_add ?_
  | with_reducible refine' i_sub ?_
  | with_reducible refine' o_neg ?_
  | with_reducible refine' c_eq ?_
  | with_reducible refine' c_ne ?_
  | with_reducible refine' c_lt ?_
  | with_reducible refine' c_le ?_
  | with_reducible refine' c_gt ?_
  | with_reducible refine' c_ge ?_
  | with_reducible refine' c_eqb ?_
  | with_reducible refine' c_neb ?_
  | with_reducible refine' o_notB ?_
  | with_reducible refine' exTB ?_
  | with_reducible refine' exTI ?_
  | with_reducible refine' exI ?_
  | with_reducible refine' exNat ?_
  | with_reducible refine' exL ?_
  | with_reducible refine' exT2 ?_
  | with_reducible refine' exT3 ?_
  | with_reducible refine' exR ?_
  | with_reducible refine' andLit ?_
  | with_reducible refine' andSt ?_
  | ((with_reducible refine' andLen ?h1 ?h); (case h1 => (simp; done)))
  | ((with_reducible refine' exRng1 ?h1 ?h); (case h1 => (unfold Fit; omega)))
  | ((with_reducible refine' exRng2 ?h1 ?h2 ?h); (case h1 => (unfold Fit; omega)); (case h2 => (unfold Fit; omega)))
  | ((with_reducible refine' exRngD ?he ?h1 ?h2 ?h); (case he => omega); (case h1 => (unfold Fit; omega)); (case h2 => (unfold Fit; omega)))
  | ((with_reducible refine' exApp ?h1 ?h); (case h1 => tb_start))
  | ((with_reducible refine' exAppZ ?h1 ?h2 ?h); (case h1 => tb_start); (case h2 => omega))
  | ((with_reducible refine' exSetZ ?h1 ?h2 ?h3 ?h4 ?h); (case h1 => tb_start); (case h2 => omega); (case h3 => ((try simp only [List.length_set, List.length_replicate, List.length_append, List.length_cons, List.length_nil]); omega)); (case h4 => ((try simp only [List.length_set, List.length_replicate, List.length_append, List.length_cons, List.length_nil]); omega)))
  | with_reducible refine' wE_listOf ?_
  | with_reducible refine' andNext ?_
  | fail "no step")

section
variable {g : G PP} {c : Cx} {S : St}
theorem exSetV {a : Addr} {l : List V} {j : Int} {P : Addr → List V → Int → Prop} (h1 : S.σ a = some l) (h0 : 0 ≤ j) (hj : j < l.length) (hsz : l.length < 2 ^ 63) (h : P a l j) :
    ∃ x k i, V.ref a = .ref x ∧ V.int j = .int i ∧ S.σ x = some k ∧ 0 ≤ i ∧ i < k.length ∧ k.length < 2 ^ 63 ∧ P x k i :=
  ⟨a, _, j, rfl, rfl, h1, h0, hj, hsz, h⟩

theorem t_sifted (a : Addr) (k : Nat) (gs : List Int) (m : Int) (hk : k ≤ 1000) (hgs : gs.length ≤ 1000) (hm : 1 ≤ m) :
    GCall g (g.fa "_law_sifted") 1 [.ref a, .int m] (fun q => if q = a then some [.int k, .list (zints gs)] else none)
      (fun x σ' => ∃ l', σ' a = some l' ∧ (l' = [.int ((k + 1 : Nat) : Int), .list (zints gs)] ∧ ∃ v : Int, x = .int v ∧ 0 ≤ v ∧ v < m)) := by
  refine' gcall (d := dOf 28) (dOf_mem 28 (by decide)) (hbody := ?enB) (hscope := ?enS) (hparams := ?enP) (hname := rfl) (names := ["tub", "many"]) (hk := ?enK) (hbind := ?enI) (hloc := ?enL) (h := ?enH) (hco := ?enC) (hgen := ?enG) (hcell := ?enE)
  case enB => (conv => lhs; whnf)
  case enS => (conv => lhs; whnf)
  case enP => (conv => lhs; whnf)
  case enK => rfl
  case enI => (intro pm code doc vs h; match vs, h with | [v0, v1], _ => rfl)
  case enL => decide +kernel
  case enC => rfl
  case enG => rfl
  case enE => decide +kernel
  repeat' tb_rel
  refine s_ref (l := [.int k, .list (zints gs)]) (x := .int k) (if_pos rfl) (by rfl) (by simp) (by simp) ?_
  repeat' tb_rel
  refine exSetV (l := [.int k, .list (zints gs)]) (if_pos rfl) (by simp) (by simp) (by simp) ?_
  repeat' tb_rel
  have hs : ∀ S' : St, S'.σ = upd (fun q => if q = a then some [.int k, .list (zints gs)] else none) a ([V.int k, .list (zints gs)].set (Int.toNat 0) (.int ((k : Int) + 1))) → S'.σ a = some [.int ((k + 1 : Nat) : Int), .list (zints gs)] := fun S' h => by
    rw [h]; exact if_pos rfl
  refine s_ref (l := [.int ((k + 1 : Nat) : Int), .list (zints gs)]) (x := .int ((k + 1 : Nat) : Int)) (by exact if_pos rfl) (by rfl) (by simp) (by simp) ?_
  repeat' tb_rel
  refine s_ref (l := [.int ((k + 1 : Nat) : Int), .list (zints gs)]) (x := .list (zints gs)) (by exact if_pos rfl) (by rfl) (by simp) (by simp) ?_
  repeat' tb_rel
  refine iteD (fun h => ?_) (fun h => ?_)
  · repeat' tb_rel
    refine s_ref (l := [.int ((k + 1 : Nat) : Int), .list (zints gs)]) (x := .list (zints gs)) (by exact if_pos rfl) (by rfl) (by simp) (by simp) ?_
    repeat' tb_rel
    refine s_ref (l := [.int ((k + 1 : Nat) : Int), .list (zints gs)]) (x := .int ((k + 1 : Nat) : Int)) (by exact if_pos rfl) (by rfl) (by simp) (by simp) ?_
    repeat' tb_rel
    exact ⟨_, by exact if_pos rfl, rfl, _, rfl, mod_limb (by omega)⟩
  · repeat' tb_rel
    refine s_ref (l := [.int ((k + 1 : Nat) : Int), .list (zints gs)]) (x := .int ((k + 1 : Nat) : Int)) (by exact if_pos rfl) (by rfl) (by simp) (by simp) ?_
    repeat' tb_rel
    refine o_mulS (by decide) ?_
    repeat' tb_rel
    refine s_ref (l := [.int ((k + 1 : Nat) : Int), .list (zints gs)]) (x := .int ((k + 1 : Nat) : Int)) (by exact if_pos rfl) (by rfl) (by simp) (by simp) ?_
    repeat' tb_rel
    exact ⟨_, by exact if_pos rfl, rfl, _, rfl, mod_limb (by omega)⟩

theorem t_law_signed (w : Nat) (hw : 1 ≤ w ∧ w ≤ 29) (z : Int) (hz : Sm z) :
    GCall g (g.fa "_law_signed") 1 [.int z, .int w] (fun _ => none) (fun r _ => Num w r z) := by
  have hB := one_lt_pow hw.1
  have hB29 : (2:Int) ^ w * 2 ≤ 1073741824 := by have := pow_le30 (w := w+1) (by omega); rw [Int.pow_succ] at this; exact this
  have hzc := hz.cast
  have h200 := two_pow_le (w := w) (k := 200) hw.1
  refine' gcall (d := dOf 29) (dOf_mem 29 (by decide)) (hbody := ?enB) (hscope := ?enS) (hparams := ?enP) (hname := rfl) (names := ["number", "w"]) (hk := ?enK) (hbind := ?enI) (hloc := ?enL) (h := ?enH) (hco := ?enC) (hgen := ?enG) (hcell := ?enE)
  case enB => (conv => lhs; whnf)
  case enS => (conv => lhs; whnf)
  case enP => (conv => lhs; whnf)
  case enK => rfl
  case enI => (intro pm code doc vs h; match vs, h with | [v0, v1], _ => rfl)
  case enL => decide +kernel
  case enC => rfl
  case enG => rfl
  case enE => decide +kernel
  repeat' tb_rel
  refine b_abs ?_
  have ea : (if z < 0 then -z else z) = (z.natAbs : Int) := by split <;> omega
  rw [ea]
  repeat' tb_rel
  refine wE_listNew fun ad had => ?_
  repeat' tb_rel
  · refine wX_while_inv (fun n S => ∃ (s : Int) (f : List Int), n = s.toNat ∧ 0 ≤ s ∧ S.m "number" = some (.int z) ∧ S.m "w" = some (.int w) ∧ S.m "size" = some (.int s) ∧ S.m "found" = some (.ref ad) ∧ S.σ ad = some (zints f) ∧ Limbs (2 ^ w) f ∧
        (f ≠ [] → (2 ^ w) ^ (f.length - 1) ≤ (z.natAbs : Int)) ∧ val (2 ^ w) f + (2 ^ w) ^ f.length * s = z.natAbs) (z.natAbs : Int).toNat ?_ ?_
    · exact ⟨_, [], rfl, by omega, by tb_start, by tb_start, by tb_start, by tb_start, by tb_start, Limbs.nil, by simp, by simp [val]⟩
    · rintro n S ⟨s, f, rfl, hs0, hnu, hww, hsi, hfo, hsf, hlf, htop, hv⟩
      repeat' tb_rel
      refine iteD (fun h => ?_) (fun h => ?_)
      · have hv0 := val_nonneg (by omega) hlf
        have hp := pow_pos' (B := 2 ^ w) (by omega) f.length
        have hps : (2 ^ w) ^ f.length ≤ (2 ^ w) ^ f.length * s := by
          have := Int.mul_le_mul_of_nonneg_left (show 1 ≤ s by omega) (show 0 ≤ ((2:Int) ^ w) ^ f.length by omega)
          omega
        have hfl : f.length ≤ 200 := by
          apply Nat.le_of_not_lt
          intro hh
          have := pow_mono' hB (m := 200) (n := f.length) (by omega)
          omega
        have hmd := mod_limb (B := 2 ^ w) (c := s) (by omega)
        have hdv0 : 0 ≤ s / 2 ^ w := Int.ediv_nonneg (by omega) (by omega)
        have hdv : s / 2 ^ w < s := Int.ediv_lt_self_of_pos_of_ne_one (by omega) (by omega)
        repeat' tb_rel
        refine ⟨(s / 2 ^ w).toNat, by omega, s / 2 ^ w, f ++ [s % 2 ^ w], rfl, hdv0, by tb_start, by tb_start, by tb_start, by tb_start, by tb_start, hlf.snoc hmd, ?_, ?_⟩
        · intro _
          rw [List.length_append, List.length_singleton, Nat.add_sub_cancel]
          omega
        · rw [List.length_append, List.length_singleton, carry_step rfl]; exact hv
      · have : s = 0 := by omega
        subst this
        rw [Int.mul_zero, Int.add_zero] at hv
        dsimp only
        refine' w_freeze "found" hfo hsf ?hqq
        repeat' tb_rel
        exact ⟨f, rfl, hlf, hv, top_of hB hlf (by rw [hv]; exact htop)⟩
end
end Mine

namespace Mine
local macro_rules | `(tactic| tb_start) => `(tactic| first
  | with_reducible exact look_same
  | with_reducible exact look_froze
  | ((with_reducible refine' look_i ?nn); (case nn => omega))
  | ((with_reducible refine' look_ne ?nn ?tt); (case nn => decide +kernel); (case tt => tb_start))
  | ((with_reducible refine' look_froze_ne ?nn ?tt); (case nn => decide +kernel); (case tt => tb_start))
  | ((with_reducible refine' sig_set ?tt); (case tt => tb_start))
  | ((with_reducible refine' sig_freeze ?nn ?tt); (case nn => assumption); (case tt => tb_start))
  | ((with_reducible refine' upd_app ?nn); (case nn => first | rfl | omega))
  | ((with_reducible refine' upd_set ?n1 ?n2); (case n1 => first | rfl | omega); (case n2 => first | rfl | omega))
  | with_reducible exact upd_nil
  | with_reducible exact upd_same
  | ((with_reducible refine' upd_ne ?nn ?tt); (case nn => assumption); (case tt => tb_start))
  | assumption
  | exact rfl
  | fail "no look")
local macro_rules | `(tactic| tb_rel) => `(tactic| first
  | with_reducible refine' iteF ?_
  | with_reducible refine' iteT ?_
  | with_reducible refine' wS_nil ?_
  | with_reducible refine' wS_cons ?_
  | ((with_reducible refine' wX_retRef ?h1 ?h2 ?h ?hl ?hd); (case hl => exact rfl); (case hd => decide +kernel); (case h1 => tb_start); (case h2 => tb_start))
  | with_reducible refine' wX_return ?_
  | ((with_reducible refine' wX_assign ?h ?hl ?hs); (case hl => exact rfl); (case hs => (intros; exact rfl)))
  | ((with_reducible refine' wX_aug ?hv ?h ?hl); (case hl => exact rfl); (case hv => tb_start))
  | with_reducible refine' wX_if ?_
  | ((with_reducible refine' wX_append ?h ?h1 ?h2 ?h3 ?h4 ?h5); (case h1 => (intros; exact rfl)); (case h2 => exact rfl); (case h3 => (intros; exact rfl)); (case h4 => (intros; exact rfl)); (case h5 => (intros; exact rfl)))
  | ((with_reducible refine' wX_setitem ?h ?h1); (case h1 => (intros; exact rfl)))
  | ((with_reducible refine' wX_swap2 ?h ?h1 ?h2 ?h3 ?h4); (case h4 => (intros; exact rfl)); (case h1 => exact rfl); (case h2 => exact rfl); (case h3 => (intros; exact rfl)))
  | ((with_reducible refine' wX_swap3 ?h ?h1 ?h2 ?h5 ?h3 ?h4); (case h4 => (intros; exact rfl)); (case h1 => exact rfl); (case h2 => exact rfl); (case h5 => exact rfl); (case h3 => (intros; exact rfl)))
  | ((with_reducible refine' wX_unpack2 ?h ?h1 ?h2 ?h3 ?h4); (case h4 => (intros; exact rfl)); (case h1 => exact rfl); (case h2 => exact rfl); (case h3 => (intros; exact rfl)))
  | ((with_reducible refine' wX_unpack3 ?h ?h1 ?h2 ?h5 ?h3 ?h4); (case h4 => (intros; exact rfl)); (case h1 => exact rfl); (case h2 => exact rfl); (case h5 => exact rfl); (case h3 => (intros; exact rfl)))
  | ((with_reducible refine' wX_for ?h ?h1 ?h2); (case h1 => exact rfl); (case h2 => (intros; exact rfl)))
  | ((with_reducible refine' wI_rng ?h ?h1 ?h2 ?h3); (case h1 => exact rfl); (case h2 => (intro _; exact rfl)); (case h3 => (intro _; exact ⟨_, _, rfl, rfl⟩)))
  | with_reducible refine' wI_list ?_
  | with_reducible refine' wE_int ?_
  | with_reducible refine' wE_bool ?_
  | with_reducible refine' wE_none ?_
  | ((with_reducible refine' wE_local ?hv ?h ?hl ?hd); (case hl => exact rfl); (case hd => decide +kernel); (case hv => tb_start))
  | ((with_reducible refine' wE_fn ?h ?h1 ?h2 ?h3); (case h2 => exact rfl); (case h1 => decide +kernel); (case h3 => decide +kernel))
  | with_reducible refine' wE_binop ?_
  | ((with_reducible refine' wE_cmp ?h ?hm); (case hm => with_unfolding_all exact rfl))
  | with_reducible refine' wE_ifexp ?_
  | with_reducible refine' wE_unop ?_
  | with_reducible refine' wE_boolop_and ?_
  | with_reducible refine' wE_boolop_or ?_
  | with_reducible refine' wE_boolop_one ?_
  | with_reducible refine' wE_tuple ?_
  | ((with_reducible refine' wE_len ?h ?h1 ?h2 ?h3 ?h4); (case h1 => exact rfl); (case h2 => (intro _; exact rfl)); (case h3 => (intro _; exact ⟨_, _, rfl, rfl⟩)); (case h4 => (intro _; exact rfl)))
  | ((with_reducible refine' wE_abs ?h ?h1 ?h2 ?h3 ?h4); (case h1 => exact rfl); (case h2 => (intro _; exact rfl)); (case h3 => (intro _; exact ⟨_, _, rfl, rfl⟩)); (case h4 => (intro _; exact rfl)))
  | ((with_reducible refine' wE_min ?h ?h1 ?h2 ?h3); (case h1 => exact rfl); (case h2 => (intro _; exact rfl)); (case h3 => (intro _; exact ⟨_, _, rfl, rfl⟩)))
  | ((with_reducible refine' wE_def ?h ?h1 ?h2 ?h3 ?h4 ?h5); (case h1 => decide +kernel); (case h2 => exact rfl); (case h3 => decide +kernel); (case h4 => (intro _; exact rfl)); (case h5 => (intro _; exact ⟨_, _, rfl, rfl⟩)))
  | ((with_reducible refine' wE_bitlen ?h ?h1 ?h2); (case h1 => (intro _; exact rfl)); (case h2 => exact rfl))
  | ((with_reducible refine' wT_cmp ?h ?hm); (case hm => with_unfolding_all exact rfl))
  | ((with_reducible refine' wT_chain ?h ?hm); (case hm => with_unfolding_all exact rfl))
  | with_reducible refine' wT_not ?_
  | with_reducible refine' wT_and_nil ?_
  | with_reducible refine' wT_and ?_
  | with_reducible refine' wT_or_nil ?_
  | with_reducible refine' wT_or ?_
  | ((with_reducible refine' wT_plain ?h ?he); (case he => (intros; exact rfl)))
  | with_reducible refine' wA_nil ?_
  | ((with_reducible refine' wA_cons ?h ?hs); (case hs => (intro _; exact rfl)))
  | with_reducible refine' wP_none ?_
  | with_reducible refine' wP_some ?_
  | ((with_reducible refine' wE_sliceAll ?hx ?hsz ?h ?hl ?hd); (case hl => exact rfl); (case hd => decide +kernel); (case hx => tb_start); (case hsz => omega))
  | ((with_reducible refine' wE_sliceTo ?hx ?hsz ?h ?hl ?hd); (case hl => exact rfl); (case hd => decide +kernel); (case hx => tb_start); (case hsz => omega))
  | ((with_reducible refine' wE_sliceZ ?hx ?hsz ?h ?hl ?hd); (case hl => exact rfl); (case hd => decide +kernel); (case hx => tb_start); (case hsz => omega))
  | ((with_reducible refine' wE_sliceR ?hx ?ha ?hsz ?h ?hl ?hd); (case hl => exact rfl); (case hd => decide +kernel); (case hx => tb_start); (case ha => tb_start); (case hsz => omega))
  | with_reducible refine' wE_sub ?_
  | ((with_reducible refine' b_len_z ?h1 ?h); (case h1 => omega))
  | ((with_reducible refine' b_len_zr ?h0 ?h1 ?h); (case h0 => tb_start); (case h1 => omega))
  | ((with_reducible refine' s_zN ?h1 ?h2 ?h ?hs); (case hs => (intro _ _; exact rfl)); (case h1 => omega); (case h2 => omega))
  | ((with_reducible refine' s_zrN ?ha ?h1 ?h2 ?h ?hs); (case hs => (intro _ _; exact rfl)); (case ha => tb_start); (case h1 => omega); (case h2 => omega))
  | ((with_reducible refine' s_z ?h0 ?h1 ?h2 ?h ?hs); (case hs => (intro _ _; exact rfl)); (case h0 => omega); (case h1 => omega); (case h2 => omega))
  | ((with_reducible refine' s_zr ?ha ?h0 ?h1 ?h2 ?h ?hs); (case hs => (intro _ _; exact rfl)); (case ha => tb_start); (case h0 => omega); (case h1 => omega); (case h2 => omega))
  | ((with_reducible refine' s_tup ?h0 ?hx ?hsz ?h ?hs); (case hs => (intro _ _; exact rfl)); (case h0 => omega); (case hx => exact rfl); (case hsz => (simp; done)))
  | ((with_reducible refine' o_shl1 ?h1 ?h); (case h1 => omega))
  | with_reducible refine' o_shr ?_
  | with_reducible refine' i_shr ?_
  | with_reducible refine' o_mask ?_
  | ((with_reducible refine' o_pow2 ?h1 ?h); (case h1 => omega))
  | ((with_reducible refine' o_divN ?h1 ?h2 ?h); (case h1 => omega); (case h2 => omega))
  | ((with_reducible refine' o_mdN ?h1 ?h); (case h1 => omega))
  | ((with_reducible refine' o_div ?h1 ?h2 ?h); (case h1 => omega); (case h2 => omega))
  | ((with_reducible refine' o_md ?h1 ?h); (case h1 => omega))
  | ((with_reducible refine' i_md ?h1 ?h); (case h1 => omega))
  | ((with_reducible refine' o_shl ?h1 ?h2 ?h); (case h1 => omega); (case h2 => omega))
  | ((with_reducible refine' o_orL ?h1 ?h2 ?h3 ?h); (case h1 => omega); (case h2 => omega); (case h3 => omega))
  | ((with_reducible refine' o_orR ?h1 ?h2 ?h3 ?h); (case h1 => omega); (case h2 => omega); (case h3 => omega))
  | ((with_reducible refine' i_orR ?h1 ?h2 ?h3 ?h); (case h1 => omega); (case h2 => omega); (case h3 => omega))
  | with_reducible refine' o_addN ?_
  | with_reducible refine' o_addN1 ?_
  | with_reducible refine' o_add ?_
  | ((with_reducible refine' o_subN ?h1 ?h); (case h1 => omega))
  | with_reducible refine' o_sub ?_
  | with_reducible refine' i_add ?_
  | with_reducible refine' i_sub ?_
  | with_reducible refine' o_neg ?_
  | with_reducible refine' c_eq ?_
  | with_reducible refine' c_ne ?_
  | with_reducible refine' c_lt ?_
  | with_reducible refine' c_le ?_
  | with_reducible refine' c_gt ?_
  | with_reducible refine' c_ge ?_
  | with_reducible refine' c_eqb ?_
  | with_reducible refine' c_neb ?_
  | with_reducible refine' o_notB ?_
  | with_reducible refine' exTB ?_
  | with_reducible refine' exTI ?_
  | with_reducible refine' exI ?_
  | with_reducible refine' exNat ?_
  | with_reducible refine' exL ?_
  | with_reducible refine' exT2 ?_
  | with_reducible refine' exT3 ?_
  | with_reducible refine' exR ?_
  | with_reducible refine' andLit ?_
  | with_reducible refine' andSt ?_
  | ((with_reducible refine' andLen ?h1 ?h); (case h1 => (simp; done)))
  | ((with_reducible refine' exRng1 ?h1 ?h); (case h1 => (unfold Fit; omega)))
  | ((with_reducible refine' exRng2 ?h1 ?h2 ?h); (case h1 => (unfold Fit; omega)); (case h2 => (unfold Fit; omega)))
  | ((with_reducible refine' exRngD ?he ?h1 ?h2 ?h); (case he => omega); (case h1 => (unfold Fit; omega)); (case h2 => (unfold Fit; omega)))
  | ((with_reducible refine' exApp ?h1 ?h); (case h1 => tb_start))
  | ((with_reducible refine' exAppZ ?h1 ?h2 ?h); (case h1 => tb_start); (case h2 => omega))
  | ((with_reducible refine' exSetZ ?h1 ?h2 ?h3 ?h4 ?h); (case h1 => tb_start); (case h2 => omega); (case h3 => ((try simp only [List.length_set, List.length_replicate, List.length_append, List.length_cons, List.length_nil]); omega)); (case h4 => ((try simp only [List.length_set, List.length_replicate, List.length_append, List.length_cons, List.length_nil]); omega)))
  | with_reducible refine' wE_listOf ?_
  | with_reducible refine' andNext ?_
  | fail "no step")

section
variable {g : G PP} {c : Cx} {S : St}
theorem genter {d : DefRec} (hd : d ∈ recsOf PP) {f : Str} {n : Nat} {xs : List V} {σ : Addr → Option (List V)} {body : List Stmt} {names : List Str} {scope : Scope} {params : Arguments}
    {A : Around} {Z W : Fz} {s : Shared} {vs : List Value} {Q : Value → Shared → Prop} {E : Value → Shared → Prop}
    (hname : d.name = f) (hbody : d.body = body) (hscope : d.scope = scope) (hparams : d.params = params) (hk : scope.kind = .function)
    (hbind : ∀ pm code doc vs, vs.length = xs.length → bindArgs (docDef f params body scope pm code doc) ⟨vs, []⟩ = pure (names.zip vs))
    (hloc : ∀ x ∈ names, scope.names.lookup x = some .local)
    (hco : scope.isCoroutine = false) (hgen : scope.isGenerator = false) (hcell : ∀ x ∈ scope.names, x.2 ≠ .cell)
    (lv : Lv (n + 1) A) (r : R0 g Z W σ s) (rv : RepL W vs xs)
    (h : ∀ a cd h₁ tk, (∀ b o, s.heap.get? b = some o → h₁.get? b = some o) → R g s.heap.objs.size Z W ⟨fun y => (names.zip xs).reverse.lookup y, σ⟩ { s with heap := h₁, toks := tk } →
      Lv n (A.deeper (envOf f scope s.heap.objs.size a cd)) →
      wpAny (model g.prog g.w) (A.deeper (envOf f scope s.heap.objs.size a cd)) (execs body (envOf f scope s.heap.objs.size a cd)) (fun fl s' => Q (match fl with | .ret v => v | _ => .none) s')
        (fun e s' => wpAny (model g.prog g.w) (A.deeper (envOf f scope s.heap.objs.size a cd)) (leaving (envOf f scope s.heap.objs.size a cd) e) (fun _ s'' => E e s'') (fun e' s'' => E e' s'') s') { s with heap := h₁, toks := tk }) :
    wpAny (model g.prog g.w) A (call (.ref (g.fa f)) vs) Q E s := by
  subst hname hbody hscope hparams
  have hf := (g.fa_of hd).1
  obtain ⟨a, o, pm, code, doc, h1, h2, h3, h4⟩ := g.T.fn d hd
  rw [hf] at h1
  have h1 : g.fa d.name = a := by cases h1; rfl
  subst h1
  refine wpAny_call (call_plain (by have := lv.dep; show A.depth < 1000; omega) (r.base _ _ h2) h3 (g.T.nolimit.keeps r.base) (h4.keeps r.base) (hbind pm code doc vs rv.length) ?_ (fun h₁ F₁ => ?_) hco hgen hk hcell)
  · intro x hx
    exact hloc _ (List.of_mem_zip hx).1
  · have key : s.heap.get? s.heap.objs.size = none := Heap.get?_none_of_le (Nat.le_refl _)
    have r' : R g s.heap.objs.size Z W ⟨fun y => (names.zip xs).reverse.lookup y, σ⟩ { s with heap := h₁, toks := s.toks + (names.zip vs).length } := by
      refine { toR0 := r.keeps F₁.keep, ns := ⟨_, F₁.ns, fun y u e => repL_lookup rv y u e⟩, lz := ?_, lw := ?_, lb := ?_, lm := ?_ }
      · cases q : Z s.heap.objs.size with
        | none => rfl
        | some o => rw [r.z _ _ q] at key; cases key
      · cases q : W s.heap.objs.size with
        | none => rfl
        | some o => rw [r.w _ _ q] at key; cases key
      · cases q : g.hB.get? s.heap.objs.size with
        | none => rfl
        | some o => rw [r.base _ _ q] at key; cases key
      · show σ s.heap.objs.size = none
        cases q : σ s.heap.objs.size with
        | none => rfl
        | some o => obtain ⟨_, _, h1, _⟩ := r.mu _ _ q; rw [h1] at key; cases key
    refine wpAny_mono (h _ code h₁ _ F₁.keep r' ⟨lv.hh, ?_, ?_⟩) (fun _ _ x => x) fun _ _ x => wpAny_mono x (fun _ _ y => y) fun _ _ y => y
    · show A.depth + 1 + n ≤ 900
      have := lv.dep; omega
    · show A.units + 3 + 40 * n ≤ 9000
      have := lv.un; omega

/-- what is known of the frame of the law -/
def LawAx (g : G PP) (A : Around) (L : Addr) : Prop := (∃ env, A.frames = some [env] ∧ env.scope.kind ≠ .module ∧ env.frame = some L) ∧ g.hB.objs.size ≤ L

theorem str_args {M : Model} {A : Around} {E : Value → Shared → Prop} {s : Shared} {x : Str} {k : Nat} {p cpos : Pos} {env : Env} {Q : List Value → Shared → Prop} (h : Q [.str x s.toks] { s with toks := s.toks + 1 }) :
    wpAny M A (spliced (backTo cpos (starEach [.Constant (.str x) k p] env))) Q E s := by
  have e : backTo cpos (starEach [.Constant (.str x) k p] env) = [(false, eval (.Constant (.str x) k p) env)] := rfl
  rw [e]; exact Calls.spliced_cons (Calls.Constant_str (Calls.spliced_nil h))
theorem spec_notexact : specOf PP "NotExact" = some ("Exception.__new__", [.type "Exception", .type "BaseException", .type "object"]) := by decide +kernel

theorem t_half_raises (w : Nat) (hw : 1 ≤ w ∧ w ≤ 29) (v : V) (x : Int) (hv : Num w v x) (hx : Sm x) (ho : x % 2 = 1)
    {A : Around} {W : Fz} {s : Shared} {vs : List Value} {outer : List Env} {Q : Value → Shared → Prop} {E : Value → Shared → Prop}
    (lv : Lv 4 A) (r : R0 g (fun a => s.heap.get? a) W (fun _ => none) s) (rv : RepL W vs [v, .int w])
    (hfr : A.frames = some outer) (hsz : g.hB.objs.size ≤ s.heap.objs.size) (hff : s.heap.FunFrames noHeap outer)
    (h : ∀ C h' e t tk B, g.mg "NotExact" = some (.ref C) → (∀ b o, s.heap.get? b = some o → b ∉ outer.filterMap (·.frame) → B.get? b = some o) →
      Heap.FlyingW B outer e (.ref C) (.ref t) h' → s.heap.UpToSlots h' → E (.ref e) { g.s0 with heap := h', toks := tk }) :
    wpAny (model g.prog g.w) A (call (.ref (g.fa "s_half")) vs) Q E s := by
  obtain ⟨l, rfl, hl⟩ := hv
  have hs1 := hx.short hw.1 hl
  have hpw := even_pow hw.1
  refine' genter (d := dOf 16) (dOf_mem 16 (by decide)) (n := 3) (hbody := ?enB) (hscope := ?enS) (hparams := ?enP) (hname := rfl) (names := ["x", "w"]) (hk := ?enK) (hbind := ?enI) (hloc := ?enL) (hco := ?enC) (hgen := ?enG) (hcell := ?enE) lv r rv ?enH
  case enB => (conv => lhs; whnf)
  case enS => (conv => lhs; whnf)
  case enP => (conv => lhs; whnf)
  case enK => rfl
  case enI => (intro pm code doc vs h; match vs, h with | [v0, v1], _ => rfl)
  case enL => decide +kernel
  case enC => rfl
  case enG => rfl
  case enE => decide +kernel
  intro a cd h₁ tk hk1 r1 lv1
  refine wpAny_execs_cons (wpAny_If (wpAny_noRaise ?_))
  refine' (?test : WT g ⟨3, _, _, rfl, fun _ _ => True⟩ _ _ (fun b S' => b = true)) _ _ _ _ _ _ _ _ ⟨lv1, trivial⟩ r1 ?post
  case test =>
    repeat' tb_rel
    refine op_pure (t_is_even (2 ^ w) hpw l _ (by omega) hl) (by decide) fun r hr => ?_
    subst hr
    repeat' tb_rel
    have : ((x.natAbs : Int) % 2 == 0) = false := by
      rw [beq_eq_false_iff_ne]; omega
    rw [this]; rfl
  case post =>
    intro W2 b b' S2 s2 e2 rb rr hb
    cases rb
    subst hb
    obtain ⟨mr, hn, hm⟩ := rr.ns
    have F : Fr g.hB s.heap.objs.size s2.heap mr := ⟨hn, rr.base, hsz⟩
    show wpAny _ _ (execs _ _) _ _ s2
    refine wpAny_execs_cons ?_
    refine' Raise_top2 (bm := [.type "Exception", .type "BaseException", .type "object"]) (x := "NotExact") F g.T PySem.F.excBase_Exception PySem.F.excBase_Exception spec_notexact (by decide +kernel) lv1.hh ?hC rfl rfl rfl rfl (by decide +kernel)
    intro C hC hmg
    refine str_args ?_
    refine ⟨by simp [sizeLine], rr.base, fun h' e hx' => ?_⟩
    have key : s.heap.get? s.heap.objs.size = none := Heap.get?_none_of_le (Nat.le_refl _)
    obtain ⟨oL, es, ep, hL, hLd, _⟩ := hn
    have hff2 : s2.heap.FunFrames noHeap outer := Heap.FunFrames.of_keeps (fun b o q _ => ⟨o, rr.z b o q, rfl⟩) hff
    refine' wpAny_leaves_madeW (base := hideAll s2.heap (s.heap.objs.size :: outer.filterMap (·.frame))) (h := s2.heap) (outer := outer) (Around.frames_deeper hfr) rfl (fun b o q => of_hideAll _ q) ?ff hx' ?hQ
    case ff => exact ⟨by show ScopeKind.function ≠ .module; decide, ⟨s.heap.objs.size, oL, rfl, hideAll_none _ (List.mem_cons_self), hL, fun ws q => by rw [hLd] at q; cases q⟩,
      funFrames_hide (base := noHeap) hff2 (fun env he b hb => List.mem_cons_of_mem _ (List.mem_filterMap.mpr ⟨env, he, hb⟩))⟩
    intro h'' t x1 x2 x3 x4
    obtain ⟨hh2, tk2, e2⟩ := rr.rest
    have hup : s.heap.UpToSlots h'' := ((Heap.UpToSlots.of_keeps rr.z).trans (Heap.UpToSlots.of_keeps hx'.keeps)).trans x4
    have := h C h'' e t (s2.toks + 1) _ hmg (fun b o q hb => hideAll_get _ (rr.z b o q) fun hm' => ?_) x1 hup
    · rw [e2] at this ⊢; exact this
    · rcases List.mem_cons.mp hm' with h1 | h1
      · rw [h1, key] at q; cases q
      · exact hb h1

theorem call_raw {A : Around} {L a : Addr} {cd : Value} {Z W : Fz} {s : Shared} {Q' : Value → Shared → Prop} {E : Value → Shared → Prop} {f : Addr} (hf : IsFn g f) {func : Expr} {args : List Expr} {pos : Pos} {xs0 : List V} (lv : LvC c A L) (r : R g L Z W S s)
    (hfe : WE g c func S (fun fv S₁ => fv = .lit (.ref f) ∧ WA g c pos args S₁ (fun xs S₂ => xs = xs0)))
    (h : ∀ W' vs S' s', RepL W' vs xs0 → R g L Z W' S' s' → wpAny (model g.prog g.w) A (call (.ref f) vs) Q' E s')
    (hc : PlainCall func args pos := by intro _; rfl) (hs : SomeArgs args pos := by intro _; exact ⟨_, _, rfl, rfl⟩) : wpAny (model g.prog g.w) A (eval (.Call func args [] pos) (c.env L a cd)) Q' E s := by
  refine call_name (hc _) (wpAny_noRaise (hfe A L a cd Z W s _ lv r fun W₁ fr fv S₁ s₁ e₁ rf rr₁ h₁ => ?_))
  obtain ⟨rfl, h₁⟩ := h₁
  cases rf
  obtain ⟨o, fd, ho, hd⟩ := hf
  obtain ⟨x, q, hx, hq⟩ := hs (c.env L a cd)
  refine Calls.callWith_function (o := o) (fd := fd) ?_
  have := h₁ A L a cd Z W₁ s₁ (fun vs s₂ => (s₂.heap.get? f = some o ∧ o.data = .func fd) ∧ wpAny (model g.prog g.w) A (call (.ref f) vs) Q' E s₂) lv rr₁ fun W₂ vs xs S₂ s₂ e₂ r₂ rr₂ h₂ =>
    ⟨⟨rr₂.base _ _ ho, hd⟩, h W₂ vs S₂ s₂ (h₂ ▸ r₂) rr₂⟩
  change wpAny _ _ (spliced (backTo pos (starEach args (c.env L a cd)))) _ _ _ at this
  rw [hx] at this ⊢
  exact Calls.evalArgs_plain (wpAny_noRaise (wpAny_mono this (fun vs s₂ h => h) fun _ _ h => h))

theorem op_refuses (w : Nat) (hw : 1 ≤ w ∧ w ≤ 29) (v : V) (x : Int) (hv : Num w v x) (hx : Sm x) (ho : x % 2 = 1) {Q : V → St → Prop} (hlv : 6 ≤ c.lv) (hax : ∀ A L, c.ax A L → LawAx g A L) (hq : Q (.bool true) S) :
    OpN g c Rep (fun vs => call (.ref (g.fa "_law_refuses")) vs) [v, .int w] S Q := by
  intro A L Z W s Q' vs lv r rv po
  obtain ⟨⟨env0, hfr0, hk0, hf0⟩, hsz⟩ := hax A L lv.ax
  obtain ⟨mr, hn, hm⟩ := r.ns
  obtain ⟨oL, es, ep, hL, hLd, hLr⟩ := id hn
  have key : s.heap.get? s.heap.objs.size = none := Heap.get?_none_of_le (Nat.le_refl _)
  refine' genter (d := dOf 34) (dOf_mem 34 (by decide)) (n := 5) (hbody := ?enB) (hscope := ?enS) (hparams := ?enP) (hname := rfl) (names := ["x", "w"]) (hk := ?enK) (hbind := ?enI) (hloc := ?enL) (hco := ?enC) (hgen := ?enG) (hcell := ?enE) (lv.le hlv)
    (Z := fun a => s.heap.get? a) (W := W) (σ := fun _ => none) ⟨r.rest, r.base, fun _ _ e => e, r.w, fun _ _ e => nomatch e⟩ rv ?enH
  case enB => (conv => lhs; whnf)
  case enS => (conv => lhs; whnf)
  case enP => (conv => lhs; whnf)
  case enK => rfl
  case enI => (intro pm code doc vs h; match vs, h with | [v0, v1], _ => rfl)
  case enL => decide +kernel
  case enC => rfl
  case enG => rfl
  case enE => decide +kernel
  intro a cd h₁ tk hk1 r1 lv1
  refine wpAny_execs_cons (wpAny_Try_except (wpAny_execs_cons (wpAny_Expr_any ?_)))
  refine' call_raw (c := ⟨5, _, _, ?hfn, fun _ _ => True⟩) (fa_def (g := g) (x := "s_half") (by decide +kernel)).2 (xs0 := [v, .int w]) ⟨lv1, trivial⟩ r1 ?args ?post
  case hfn => rfl
  case args =>
    repeat' tb_rel
    rfl
  case post =>
    intro W2 vs2 S2 s2 rv2 rr
    obtain ⟨mr1, hn1, hm1⟩ := rr.ns
    obtain ⟨oL1, es1, ep1, hL1, hL1d, _⟩ := id hn1
    have hL2 := rr.z L oL hL
    refine t_half_raises w hw v x hv hx ho (lv1.le (by decide)) ⟨rr.rest, rr.base, fun _ _ e => e, rr.w, fun _ _ e => nomatch e⟩ rv2 (Around.frames_deeper hfr0) (Nat.le_trans hsz (Nat.le_of_lt (Heap.lt_size hL2)))
      ⟨by show ScopeKind.function ≠ .module; decide, ⟨_, oL1, rfl, noHeap_get _, hL1, fun ws q => by rw [hL1d] at q; cases q⟩, hk0, ⟨L, oL, hf0, noHeap_get _, hL2, fun ws q => by rw [hLd] at q; cases q⟩, trivial⟩ ?_
    intro C h' e t tk' B hmg hBk hfl hup
    obtain ⟨C', O, _⟩ := g.T.ownAt spec_notexact
    obtain rfl : C' = C := by have := O.bound; rw [hmg] at this; cases this; rfl
    have hBB : ∀ b o, g.hB.get? b = some o → B.get? b = some o := fun b o q => hBk b o (rr.base b o q) fun hm' => by
      rcases List.mem_cons.mp hm' with h1 | h1
      · rw [h1, rr.lb] at q; cases q
      · rw [List.filterMap_cons, hf0] at h1
        rcases List.mem_cons.mp h1 with h1 | h1
        · rw [h1, r.lb] at q; cases q
        · simp at h1
    refine wpAny_looks_onW (Around.frames_deeper hfr0) rfl hfl fun h4 hheld4 hsm4 => ?_
    refine wpAny_landsW hheld4 fun h5 hfl5 hsm5 => ?_
    obtain ⟨ob, hob, hobc⟩ := hfl5.there
    refine handleBy_own (C := C') (x := "NotExact") (bmB := [.type "Exception", .type "BaseException", .type "object"]) (newId := "Exception.__new__") (mg := g.mg) (by decide +kernel) ?_
    refine Calls.Name_function_global rfl rfl (Calls.loadGlobal_global (mg := g.mg) (g.T.g.keeps fun b o q => hfl5.1 b o (hBB b o q)) hmg ?_) (by decide +kernel)
    refine ⟨rfl, O.keeps fun b o q => hfl5.1 b o (hBB b o q), ⟨ob, hob, hobc⟩, ?_⟩
    refine lands_againW hfl5 fun h6 hfl6 hsm6 => ?_
    refine wpAny_noRaise (wpAny_execs_cons (wpAny_Return_some (Constant_bool ?_)))
    have hsm : s.heap.UpToSlots h6 := ((((Heap.UpToSlots.of_keeps rr.z).trans hup).trans hsm4).trans hsm5).trans hsm6
    have hR : R g L Z W S { s with heap := h6, toks := tk' } := by
      refine r.of_all hm (fr_no (hsm.ns hn)) fun q hq => ?_
      obtain ⟨p1, p2⟩ := mem_allNews.mp hq
      refine ⟨hfl6.1 _ _ (hBk _ _ (rr.z _ _ p2) fun hm' => ?_), p1, noHeap_get _⟩
      rcases List.mem_cons.mp hm' with h1 | h1
      · rw [h1, key] at p2; cases p2
      · rw [List.filterMap_cons, hf0] at h1
        rcases List.mem_cons.mp h1 with h1 | h1
        · exact p1 h1
        · simp at h1
    obtain ⟨h0, tk0, e0⟩ := r.rest
    have := po W (.bool true) (.bool true) S _ .refl (.bool true) hR hq
    rw [e0] at this
    exact this
end
end Mine

namespace Mine
theorem iteYes {P : Prop} [Decidable P] {A B : Prop} (h : P) (h1 : A) : if decide P = true then A else B := by rw [if_pos (decide_eq_true h)]; exact h1
theorem iteNo {P : Prop} [Decidable P] {A B : Prop} (h : ¬ P) (h1 : B) : if decide P = true then A else B := by rw [if_neg (by simpa using h)]; exact h1
theorem iteEqY {x y : Int} {A B : Prop} (h : x = y) (h1 : A) : if (x == y) = true then A else B := by rw [if_pos (by simpa using h)]; exact h1
theorem iteEqN {x y : Int} {A B : Prop} (h : x ≠ y) (h1 : B) : if (x == y) = true then A else B := by rw [if_neg (by simpa using h)]; exact h1
/-- the divided number's rest is less than the divisor -/
theorem tq_rest_lt {x y : Int} (hy : y ≠ 0) : (x - tq x y * y).natAbs < y.natAbs := by
  have c : (x.natAbs : Int) % y.natAbs < y.natAbs := Int.emod_lt_of_pos _ (by omega)
  have d : (0 : Int) ≤ (x.natAbs : Int) % y.natAbs := Int.emod_nonneg _ (by omega)
  rw [tq_rest]
  split <;> omega
theorem fq_exact {x y : Int} (hy : y ≠ 0) : fq x y * y = x ↔ x - tq x y * y = 0 := by
  have h := tq_rest_lt (x := x) hy
  unfold fq
  split
  · rename_i hh
    rw [Int.sub_mul, Int.one_mul]
    omega
  · omega
theorem fdiv_fq {x y : Int} (hy : y ≠ 0) : x.fdiv y = fq x y := by
  have hr := tq_rest (x := x) (y := y)
  rcases Int.lt_or_le y 0 with h' | h'
  · have e : x.fdiv y = (-x) / (-y) := by
      rw [← Int.fdiv_eq_ediv_of_nonneg (-x) (b := -y) (by omega)]
      exact (Int.neg_fdiv_neg ..).symm
    rw [e]
    rcases Int.lt_or_le x 0 with h | h
    · have : fq x y = tq x y := by unfold fq; rw [if_neg (by simp [h, h'])]
      rw [this]
      unfold tq
      rw [if_pos (by simp [h, h']), abs_pos_iff.2 h, abs_pos_iff.2 h']
    · by_cases hx : x = 0
      · subst hx
        have : fq 0 y = 0 := by
          have t : tq 0 y = 0 := by unfold tq; simp
          unfold fq
          rw [t]
          simp
        rw [this]; simp
      · have f := floor_neg (x := -x) (p := -y) (by omega) (by omega)
        rw [Int.neg_neg] at f
        rw [f]
        have ht : tq x y = -(x / (-y)) := by
          unfold tq
          rw [if_neg (by simp [h']; omega), abs_pos_iff.1 h, abs_pos_iff.2 h']
        rw [if_neg (by omega), abs_pos_iff.1 h, abs_pos_iff.2 h'] at hr
        unfold fq
        have m := mod_limb (B := -y) (c := x) (by omega)
        split
        · rename_i hp
          rw [if_pos ⟨by omega, by simp [h']; omega⟩]
          omega
        · rename_i hp
          rw [if_neg (by rintro ⟨a, b⟩; omega)]
          omega
  · rw [Int.fdiv_eq_ediv_of_nonneg _ h']
    rcases Int.lt_or_le x 0 with h | h
    · have f := floor_neg (x := x) (p := y) (by omega) h
      rw [f]
      have ht : tq x y = -((-x) / y) := by
        unfold tq
        rw [if_neg (by simp [h]; omega), abs_pos_iff.2 h, abs_pos_iff.1 h']
      rw [if_pos h, abs_pos_iff.2 h, abs_pos_iff.1 h'] at hr
      unfold fq
      have m := mod_limb (B := y) (c := -x) (by omega)
      split
      · rename_i hp
        rw [if_pos ⟨by omega, by simp [h]; omega⟩]
        omega
      · rename_i hp
        rw [if_neg (by rintro ⟨a, b⟩; omega)]
        omega
    · have : fq x y = tq x y := by unfold fq; rw [if_neg (by simp; omega)]
      rw [this]
      unfold tq
      rw [if_pos (by simp; omega), abs_pos_iff.1 h, abs_pos_iff.1 h']
theorem tq_mul {n o : Int} (ho : o ≠ 0) : tq (n * o) o = n := by
  have h := tq_rest_lt (x := n * o) ho
  rw [← Int.sub_mul, Int.natAbs_mul] at h
  have : (n - tq (n * o) o).natAbs = 0 := by
    apply Nat.eq_zero_of_not_pos
    intro hp
    have := Nat.le_mul_of_pos_left o.natAbs hp
    omega
  omega
/-- what a deed makes of a number -/
def due (f n o : Int) (m : Nat) : Int :=
  if f = 0 then n + o else if f = 1 then n - o else if f = 2 then n * o else if f = 3 then tq n o else if f = 4 then fq n o else if f = 5 then cq n o
  else if f = 6 then n * 2 ^ m else if f = 7 then n / 2 ^ m else if f = 8 then -n else n / 2
theorem ten {f : Int} (h : 0 ≤ f ∧ f < 10) : f = 0 ∨ f = 1 ∨ f = 2 ∨ f = 3 ∨ f = 4 ∨ f = 5 ∨ f = 6 ∨ f = 7 ∨ f = 8 ∨ f = 9 := by omega
theorem ediv_abs {n p : Int} (hp : 0 < p) : (n / p).natAbs ≤ n.natAbs := by
  rcases Int.lt_or_le n 0 with h | h
  · have f := floor_neg hp h
    have e1 := Int.mul_ediv_add_emod (-n) p
    have m := mod_limb (B := p) (c := -n) hp
    have q0 : 0 ≤ (-n) / p := Int.ediv_nonneg (by omega) (by omega)
    have q1 : (-n) / p ≤ p * ((-n) / p) := by
      have := Int.mul_le_mul_of_nonneg_right (show 1 ≤ p by omega) q0
      omega
    rw [f]
    split <;> omega
  · have a := Int.ediv_le_self (a := n) p h
    have b : 0 ≤ n / p := Int.ediv_nonneg h (by omega)
    omega
theorem pow_512 {m : Nat} (hm : m ≤ 9) : (2:Int) ^ m ≤ 512 := pow_mono' (B := 2) (by decide) hm
theorem due_le {f n o : Int} {m : Nat} {N : Nat} (ho : o ≠ 0 ∧ o.natAbs ≤ 63) (hm : m ≤ 9) (hn : n.natAbs ≤ N) (hN : 63 ≤ N) : (due f n o m).natAbs ≤ 512 * N := by
  have t : (tq n o).natAbs ≤ n.natAbs := by
    have a := Int.ediv_le_self (a := (n.natAbs : Int)) (o.natAbs : Int) (by omega)
    have b : (0 : Int) ≤ (n.natAbs : Int) / o.natAbs := Int.ediv_nonneg (by omega) (by omega)
    unfold tq; split <;> omega
  unfold due
  repeat' split
  · omega
  · omega
  · rw [Int.natAbs_mul]
    have := Nat.mul_le_mul hn ho.2
    omega
  · omega
  · unfold fq; split <;> omega
  · unfold cq; split <;> omega
  · rw [Int.natAbs_mul]
    have p := pow_512 hm
    have q := pow2_nonneg m
    have := Nat.mul_le_mul hn (show ((2:Int) ^ m).natAbs ≤ 512 by omega)
    omega
  · have := ediv_abs (n := n) (p := 2 ^ m) (Int.pow_pos (by decide)); omega
  · omega
  · omega
/-- what a deed loses -/
def Lost (w : Nat) (f : Int) (b : V) (n o : Int) (m : Nat) : Prop :=
  if 3 ≤ f ∧ f ≤ 5 then Num w b (n - due f n o m * o) else if f = 7 then Num w b (n - due f n o m * 2 ^ m) else b = .lit .none
end Mine

namespace Mine
local macro_rules | `(tactic| tb_start) => `(tactic| first
  | with_reducible exact look_same
  | with_reducible exact look_froze
  | ((with_reducible refine' look_i ?nn); (case nn => omega))
  | ((with_reducible refine' look_ne ?nn ?tt); (case nn => decide +kernel); (case tt => tb_start))
  | ((with_reducible refine' look_froze_ne ?nn ?tt); (case nn => decide +kernel); (case tt => tb_start))
  | ((with_reducible refine' sig_set ?tt); (case tt => tb_start))
  | ((with_reducible refine' sig_freeze ?nn ?tt); (case nn => assumption); (case tt => tb_start))
  | ((with_reducible refine' upd_app ?nn); (case nn => first | rfl | omega))
  | ((with_reducible refine' upd_set ?n1 ?n2); (case n1 => first | rfl | omega); (case n2 => first | rfl | omega))
  | with_reducible exact upd_nil
  | with_reducible exact upd_same
  | ((with_reducible refine' upd_ne ?nn ?tt); (case nn => assumption); (case tt => tb_start))
  | assumption
  | exact rfl
  | fail "no look")
local macro_rules | `(tactic| tb_rel) => `(tactic| first
  | with_reducible refine' iteF ?_
  | with_reducible refine' iteT ?_
  | ((with_reducible refine' iteYes ?hp ?h1); (case hp => decide))
  | ((with_reducible refine' iteNo ?hp ?h1); (case hp => decide))
  | ((with_reducible refine' iteEqY ?hp ?h1); (case hp => decide))
  | ((with_reducible refine' iteEqN ?hp ?h1); (case hp => decide))
  | with_reducible refine' wS_nil ?_
  | with_reducible refine' wS_cons ?_
  | ((with_reducible refine' wX_retRef ?h1 ?h2 ?h ?hl ?hd); (case hl => exact rfl); (case hd => decide +kernel); (case h1 => tb_start); (case h2 => tb_start))
  | with_reducible refine' wX_return ?_
  | ((with_reducible refine' wX_assign ?h ?hl ?hs); (case hl => exact rfl); (case hs => (intros; exact rfl)))
  | ((with_reducible refine' wX_aug ?hv ?h ?hl); (case hl => exact rfl); (case hv => tb_start))
  | with_reducible refine' wX_if ?_
  | ((with_reducible refine' wX_append ?h ?h1 ?h2 ?h3 ?h4 ?h5); (case h1 => (intros; exact rfl)); (case h2 => exact rfl); (case h3 => (intros; exact rfl)); (case h4 => (intros; exact rfl)); (case h5 => (intros; exact rfl)))
  | ((with_reducible refine' wX_setitem ?h ?h1); (case h1 => (intros; exact rfl)))
  | ((with_reducible refine' wX_swap2 ?h ?h1 ?h2 ?h3 ?h4); (case h4 => (intros; exact rfl)); (case h1 => exact rfl); (case h2 => exact rfl); (case h3 => (intros; exact rfl)))
  | ((with_reducible refine' wX_swap3 ?h ?h1 ?h2 ?h5 ?h3 ?h4); (case h4 => (intros; exact rfl)); (case h1 => exact rfl); (case h2 => exact rfl); (case h5 => exact rfl); (case h3 => (intros; exact rfl)))
  | ((with_reducible refine' wX_unpack2 ?h ?h1 ?h2 ?h3 ?h4); (case h4 => (intros; exact rfl)); (case h1 => exact rfl); (case h2 => exact rfl); (case h3 => (intros; exact rfl)))
  | ((with_reducible refine' wX_unpack3 ?h ?h1 ?h2 ?h5 ?h3 ?h4); (case h4 => (intros; exact rfl)); (case h1 => exact rfl); (case h2 => exact rfl); (case h5 => exact rfl); (case h3 => (intros; exact rfl)))
  | ((with_reducible refine' wX_for ?h ?h1 ?h2); (case h1 => exact rfl); (case h2 => (intros; exact rfl)))
  | ((with_reducible refine' wI_rng ?h ?h1 ?h2 ?h3); (case h1 => exact rfl); (case h2 => (intro _; exact rfl)); (case h3 => (intro _; exact ⟨_, _, rfl, rfl⟩)))
  | with_reducible refine' wI_list ?_
  | with_reducible refine' wE_int ?_
  | with_reducible refine' wE_bool ?_
  | with_reducible refine' wE_none ?_
  | ((with_reducible refine' wE_local ?hv ?h ?hl ?hd); (case hl => exact rfl); (case hd => decide +kernel); (case hv => tb_start))
  | ((with_reducible refine' wE_fn ?h ?h1 ?h2 ?h3); (case h2 => exact rfl); (case h1 => decide +kernel); (case h3 => decide +kernel))
  | with_reducible refine' wE_binop ?_
  | ((with_reducible refine' wE_cmp ?h ?hm); (case hm => with_unfolding_all exact rfl))
  | with_reducible refine' wE_ifexp ?_
  | with_reducible refine' wE_unop ?_
  | with_reducible refine' wE_boolop_and ?_
  | with_reducible refine' wE_boolop_or ?_
  | with_reducible refine' wE_boolop_one ?_
  | with_reducible refine' wE_tuple ?_
  | ((with_reducible refine' wE_len ?h ?h1 ?h2 ?h3 ?h4); (case h1 => exact rfl); (case h2 => (intro _; exact rfl)); (case h3 => (intro _; exact ⟨_, _, rfl, rfl⟩)); (case h4 => (intro _; exact rfl)))
  | ((with_reducible refine' wE_abs ?h ?h1 ?h2 ?h3 ?h4); (case h1 => exact rfl); (case h2 => (intro _; exact rfl)); (case h3 => (intro _; exact ⟨_, _, rfl, rfl⟩)); (case h4 => (intro _; exact rfl)))
  | ((with_reducible refine' wE_min ?h ?h1 ?h2 ?h3); (case h1 => exact rfl); (case h2 => (intro _; exact rfl)); (case h3 => (intro _; exact ⟨_, _, rfl, rfl⟩)))
  | ((with_reducible refine' wE_def ?h ?h1 ?h2 ?h3 ?h4 ?h5); (case h1 => decide +kernel); (case h2 => exact rfl); (case h3 => decide +kernel); (case h4 => (intro _; exact rfl)); (case h5 => (intro _; exact ⟨_, _, rfl, rfl⟩)))
  | ((with_reducible refine' wE_bitlen ?h ?h1 ?h2); (case h1 => (intro _; exact rfl)); (case h2 => exact rfl))
  | ((with_reducible refine' wT_cmp ?h ?hm); (case hm => with_unfolding_all exact rfl))
  | ((with_reducible refine' wT_chain ?h ?hm); (case hm => with_unfolding_all exact rfl))
  | with_reducible refine' wT_not ?_
  | with_reducible refine' wT_and_nil ?_
  | with_reducible refine' wT_and ?_
  | with_reducible refine' wT_or_nil ?_
  | with_reducible refine' wT_or ?_
  | ((with_reducible refine' wT_plain ?h ?he); (case he => (intros; exact rfl)))
  | with_reducible refine' wA_nil ?_
  | ((with_reducible refine' wA_cons ?h ?hs); (case hs => (intro _; exact rfl)))
  | with_reducible refine' wP_none ?_
  | with_reducible refine' wP_some ?_
  | ((with_reducible refine' wE_sliceAll ?hx ?hsz ?h ?hl ?hd); (case hl => exact rfl); (case hd => decide +kernel); (case hx => tb_start); (case hsz => omega))
  | ((with_reducible refine' wE_sliceTo ?hx ?hsz ?h ?hl ?hd); (case hl => exact rfl); (case hd => decide +kernel); (case hx => tb_start); (case hsz => omega))
  | ((with_reducible refine' wE_sliceZ ?hx ?hsz ?h ?hl ?hd); (case hl => exact rfl); (case hd => decide +kernel); (case hx => tb_start); (case hsz => omega))
  | ((with_reducible refine' wE_sliceR ?hx ?ha ?hsz ?h ?hl ?hd); (case hl => exact rfl); (case hd => decide +kernel); (case hx => tb_start); (case ha => tb_start); (case hsz => omega))
  | with_reducible refine' wE_sub ?_
  | ((with_reducible refine' b_len_z ?h1 ?h); (case h1 => omega))
  | ((with_reducible refine' b_len_zr ?h0 ?h1 ?h); (case h0 => tb_start); (case h1 => omega))
  | ((with_reducible refine' s_zN ?h1 ?h2 ?h ?hs); (case hs => (intro _ _; exact rfl)); (case h1 => omega); (case h2 => omega))
  | ((with_reducible refine' s_zrN ?ha ?h1 ?h2 ?h ?hs); (case hs => (intro _ _; exact rfl)); (case ha => tb_start); (case h1 => omega); (case h2 => omega))
  | ((with_reducible refine' s_z ?h0 ?h1 ?h2 ?h ?hs); (case hs => (intro _ _; exact rfl)); (case h0 => omega); (case h1 => omega); (case h2 => omega))
  | ((with_reducible refine' s_zr ?ha ?h0 ?h1 ?h2 ?h ?hs); (case hs => (intro _ _; exact rfl)); (case ha => tb_start); (case h0 => omega); (case h1 => omega); (case h2 => omega))
  | ((with_reducible refine' s_list ?hx ?h0 ?hsz ?h ?hs); (case hs => (intro _ _; exact rfl)); (case h0 => (simp; done)); (case hx => exact rfl); (case hsz => (simp; done)))
  | ((with_reducible refine' s_tup ?h0 ?hx ?hsz ?h ?hs); (case hs => (intro _ _; exact rfl)); (case h0 => omega); (case hx => exact rfl); (case hsz => (simp; done)))
  | ((with_reducible refine' o_shl1 ?h1 ?h); (case h1 => omega))
  | with_reducible refine' o_shr ?_
  | with_reducible refine' i_shr ?_
  | with_reducible refine' o_mask ?_
  | ((with_reducible refine' o_pow2 ?h1 ?h); (case h1 => omega))
  | ((with_reducible refine' o_divN ?h1 ?h2 ?h); (case h1 => omega); (case h2 => omega))
  | ((with_reducible refine' o_mdN ?h1 ?h); (case h1 => omega))
  | ((with_reducible refine' o_div ?h1 ?h2 ?h); (case h1 => omega); (case h2 => omega))
  | ((with_reducible refine' o_md ?h1 ?h); (case h1 => omega))
  | ((with_reducible refine' i_md ?h1 ?h); (case h1 => omega))
  | ((with_reducible refine' o_shl ?h1 ?h2 ?h); (case h1 => omega); (case h2 => omega))
  | ((with_reducible refine' o_orL ?h1 ?h2 ?h3 ?h); (case h1 => omega); (case h2 => omega); (case h3 => omega))
  | ((with_reducible refine' o_orR ?h1 ?h2 ?h3 ?h); (case h1 => omega); (case h2 => omega); (case h3 => omega))
  | ((with_reducible refine' i_orR ?h1 ?h2 ?h3 ?h); (case h1 => omega); (case h2 => omega); (case h3 => omega))
  | with_reducible refine' o_addN ?_
  | with_reducible refine' o_addN1 ?_
  | with_reducible refine' o_add ?_
  | ((with_reducible refine' o_subN ?h1 ?h); (case h1 => omega))
  | with_reducible refine' o_sub ?_
  | with_reducible refine' i_add ?_
  | with_reducible refine' i_sub ?_
  | with_reducible refine' o_neg ?_
  | with_reducible refine' c_eq ?_
  | with_reducible refine' c_ne ?_
  | with_reducible refine' c_lt ?_
  | with_reducible refine' c_le ?_
  | with_reducible refine' c_gt ?_
  | with_reducible refine' c_ge ?_
  | with_reducible refine' c_eqb ?_
  | with_reducible refine' c_neb ?_
  | with_reducible refine' o_notB ?_
  | with_reducible refine' exTB ?_
  | with_reducible refine' exTI ?_
  | with_reducible refine' exI ?_
  | with_reducible refine' exNat ?_
  | with_reducible refine' exL ?_
  | with_reducible refine' exT2 ?_
  | with_reducible refine' exT3 ?_
  | with_reducible refine' exR ?_
  | with_reducible refine' andLit ?_
  | with_reducible refine' andSt ?_
  | ((with_reducible refine' andLen ?h1 ?h); (case h1 => (simp; done)))
  | ((with_reducible refine' exRng1 ?h1 ?h); (case h1 => (unfold Fit; omega)))
  | ((with_reducible refine' exRng2 ?h1 ?h2 ?h); (case h1 => (unfold Fit; omega)); (case h2 => (unfold Fit; omega)))
  | ((with_reducible refine' exRngD ?he ?h1 ?h2 ?h); (case he => omega); (case h1 => (unfold Fit; omega)); (case h2 => (unfold Fit; omega)))
  | ((with_reducible refine' exApp ?h1 ?h); (case h1 => tb_start))
  | ((with_reducible refine' exAppZ ?h1 ?h2 ?h); (case h1 => tb_start); (case h2 => omega))
  | ((with_reducible refine' exSetZ ?h1 ?h2 ?h3 ?h4 ?h); (case h1 => tb_start); (case h2 => omega); (case h3 => ((try simp only [List.length_set, List.length_replicate, List.length_append, List.length_cons, List.length_nil]); omega)); (case h4 => ((try simp only [List.length_set, List.length_replicate, List.length_append, List.length_cons, List.length_nil]); omega)))
  | with_reducible refine' wE_listOf ?_
  | with_reducible refine' andNext ?_
  | fail "no step")

section
variable {g : G PP} {c : Cx} {S : St}
theorem t_law_quotient (f x y : Int) (hf : 3 ≤ f ∧ f ≤ 5) (hy : y ≠ 0 ∧ y.natAbs ≤ 63) :
    GCall g (g.fa "_law_quotient") 1 [.int f, .int x, .int y] (fun _ => none) (fun r _ => r = .int (due f x y 0)) := by
  have hex := fq_exact (x := x) hy.1
  have hlt := tq_rest_lt (x := x) hy.1
  have hfd := fdiv_fq (x := x) hy.1
  have tn := @tq_neg x y
  have tp := @tq_pos x y
  refine' gcall (d := dOf 30) (dOf_mem 30 (by decide)) (hbody := ?enB) (hscope := ?enS) (hparams := ?enP) (hname := rfl) (names := ["form", "number", "other"]) (hk := ?enK) (hbind := ?enI) (hloc := ?enL) (h := ?enH) (hco := ?enC) (hgen := ?enG) (hcell := ?enE)
  case enB => (conv => lhs; whnf)
  case enS => (conv => lhs; whnf)
  case enP => (conv => lhs; whnf)
  case enK => rfl
  case enI => (intro pm code doc vs h; match vs, h with | [v0, v1, v2], _ => rfl)
  case enL => decide +kernel
  case enC => rfl
  case enG => rfl
  case enE => decide +kernel
  repeat' tb_rel
  refine o_floordiv hy.1 (by omega) ?_
  rw [hfd]
  have d4 : f = 4 → due f x y 0 = fq x y := fun h => by subst h; rfl
  have d3 : f = 3 → due f x y 0 = tq x y := fun h => by subst h; rfl
  have d5 : f = 5 → due f x y 0 = cq x y := fun h => by subst h; rfl
  repeat' tb_rel
  refine iteEq (fun h4 => ?_) (fun h4 => ?_)
  · repeat' tb_rel
    rw [d4 h4]
  · repeat' tb_rel
    refine o_mulR (by omega) ?_
    repeat' tb_rel
    refine iteEq (fun he => ?_) (fun he => ?_)
    · repeat' tb_rel
      have hr0 := hex.mp he
      have e1 : fq x y = tq x y := by unfold fq; rw [if_neg (by rintro ⟨a, b⟩; exact a hr0)]
      have e2 : cq x y = tq x y := by unfold cq; rw [if_neg (by rintro ⟨a, b⟩; exact a hr0)]
      rcases (show f = 3 ∨ f = 5 by omega) with h | h
      · rw [d3 h, e1]
      · rw [d5 h, e1, e2]
    · have hr0 : x - tq x y * y ≠ 0 := fun h => he (hex.mpr h)
      repeat' tb_rel
      refine iteEq (fun h5 => ?_) (fun h5 => ?_)
      · repeat' tb_rel
        rw [d5 h5]
        by_cases hs : (x < 0) = (y < 0)
        · have e1 : fq x y = tq x y := by unfold fq; rw [if_neg (by rintro ⟨a, b⟩; exact b hs)]
          have e2 : cq x y = tq x y + 1 := by unfold cq; rw [if_pos ⟨hr0, hs⟩]
          rw [e1, e2]
        · have e1 : fq x y = tq x y - 1 := by unfold fq; rw [if_pos ⟨hr0, hs⟩]
          have e2 : cq x y = tq x y := by unfold cq; rw [if_neg (by rintro ⟨a, b⟩; exact hs b)]
          rw [e1, e2]; congr 1; omega
      · have h3 : f = 3 := by omega
        repeat' tb_rel
        refine iteD (fun h => ?_) (fun h => ?_)
        · repeat' tb_rel
          rw [d3 h3]
          by_cases hs : (x < 0) = (y < 0)
          · have e1 : fq x y = tq x y := by unfold fq; rw [if_neg (by rintro ⟨a, b⟩; exact b hs)]
            have := tp hs
            omega
          · have e1 : fq x y = tq x y - 1 := by unfold fq; rw [if_pos ⟨hr0, hs⟩]
            rw [e1]; congr 1; omega
        · repeat' tb_rel
          rw [d3 h3]
          by_cases hs : (x < 0) = (y < 0)
          · have e1 : fq x y = tq x y := by unfold fq; rw [if_neg (by rintro ⟨a, b⟩; exact b hs)]
            rw [e1]
          · have e1 : fq x y = tq x y - 1 := by unfold fq; rw [if_pos ⟨hr0, hs⟩]
            have := tn hs
            omega

theorem t_law_due (f n o : Int) (m : Nat) (y : V) (hf : 0 ≤ f ∧ f < 10) (ho : o ≠ 0 ∧ o.natAbs ≤ 63) (hm : m ≤ 9) :
    GCall g (g.fa "_law_due") 2 [.tup [.int f, y, .int m], .int n, .int o] (fun _ => none) (fun r _ => r = .int (due f n o m)) := by
  have hp := pow_512 hm
  have hp0 : (0:Int) < 2 ^ m := Int.pow_pos (by decide)
  refine' gcall (d := dOf 32) (dOf_mem 32 (by decide)) (hbody := ?enB) (hscope := ?enS) (hparams := ?enP) (hname := rfl) (names := ["deed", "number", "other"]) (hk := ?enK) (hbind := ?enI) (hloc := ?enL) (h := ?enH) (hco := ?enC) (hgen := ?enG) (hcell := ?enE)
  case enB => (conv => lhs; whnf)
  case enS => (conv => lhs; whnf)
  case enP => (conv => lhs; whnf)
  case enK => rfl
  case enI => (intro pm code doc vs h; match vs, h with | [v0, v1, v2], _ => rfl)
  case enL => decide +kernel
  case enC => rfl
  case enG => rfl
  case enE => decide +kernel
  repeat' tb_rel
  rcases ten hf with rfl | rfl | rfl | rfl | rfl | rfl | rfl | rfl | rfl | rfl
  · repeat' tb_rel
    refine o_mulR (by omega) ?_
    repeat' tb_rel
    rfl
  · repeat' tb_rel
    refine o_mulR (by omega) ?_
    repeat' tb_rel
    rfl
  · repeat' tb_rel
    refine o_mulR (by omega) ?_
    repeat' tb_rel
    rfl
  · repeat' tb_rel
    refine op_pure (t_law_quotient 3 n o (by decide) ho) (by decide) fun r hr => ?_
    repeat' tb_rel
    exact hr
  · repeat' tb_rel
    refine op_pure (t_law_quotient 4 n o (by decide) ho) (by decide) fun r hr => ?_
    repeat' tb_rel
    exact hr
  · repeat' tb_rel
    refine op_pure (t_law_quotient 5 n o (by decide) ho) (by decide) fun r hr => ?_
    repeat' tb_rel
    exact hr
  · repeat' tb_rel
    refine o_mulR (by omega) ?_
    repeat' tb_rel
    rfl
  · repeat' tb_rel
    rfl
  · repeat' tb_rel
    rw [Int.zero_sub]; rfl
  · repeat' tb_rel
    rfl
end
end Mine

namespace Mine
local macro_rules | `(tactic| tb_start) => `(tactic| first
  | with_reducible exact look_same
  | with_reducible exact look_froze
  | ((with_reducible refine' look_i ?nn); (case nn => omega))
  | ((with_reducible refine' look_ne ?nn ?tt); (case nn => decide +kernel); (case tt => tb_start))
  | ((with_reducible refine' look_froze_ne ?nn ?tt); (case nn => decide +kernel); (case tt => tb_start))
  | ((with_reducible refine' sig_set ?tt); (case tt => tb_start))
  | ((with_reducible refine' sig_freeze ?nn ?tt); (case nn => assumption); (case tt => tb_start))
  | ((with_reducible refine' upd_app ?nn); (case nn => first | rfl | omega))
  | ((with_reducible refine' upd_set ?n1 ?n2); (case n1 => first | rfl | omega); (case n2 => first | rfl | omega))
  | with_reducible exact upd_nil
  | with_reducible exact upd_same
  | ((with_reducible refine' upd_ne ?nn ?tt); (case nn => assumption); (case tt => tb_start))
  | assumption
  | exact rfl
  | fail "no look")
local macro_rules | `(tactic| tb_rel) => `(tactic| first
  | with_reducible refine' iteF ?_
  | with_reducible refine' iteT ?_
  | ((with_reducible refine' iteYes ?hp ?h1); (case hp => decide))
  | ((with_reducible refine' iteNo ?hp ?h1); (case hp => decide))
  | ((with_reducible refine' iteEqY ?hp ?h1); (case hp => decide))
  | ((with_reducible refine' iteEqN ?hp ?h1); (case hp => decide))
  | with_reducible refine' wS_nil ?_
  | with_reducible refine' wS_cons ?_
  | ((with_reducible refine' wX_retRef ?h1 ?h2 ?h ?hl ?hd); (case hl => exact rfl); (case hd => decide +kernel); (case h1 => tb_start); (case h2 => tb_start))
  | with_reducible refine' wX_return ?_
  | ((with_reducible refine' wX_assign ?h ?hl ?hs); (case hl => exact rfl); (case hs => (intros; exact rfl)))
  | ((with_reducible refine' wX_aug ?hv ?h ?hl); (case hl => exact rfl); (case hv => tb_start))
  | with_reducible refine' wX_if ?_
  | ((with_reducible refine' wX_append ?h ?h1 ?h2 ?h3 ?h4 ?h5); (case h1 => (intros; exact rfl)); (case h2 => exact rfl); (case h3 => (intros; exact rfl)); (case h4 => (intros; exact rfl)); (case h5 => (intros; exact rfl)))
  | ((with_reducible refine' wX_setitem ?h ?h1); (case h1 => (intros; exact rfl)))
  | ((with_reducible refine' wX_swap2 ?h ?h1 ?h2 ?h3 ?h4); (case h4 => (intros; exact rfl)); (case h1 => exact rfl); (case h2 => exact rfl); (case h3 => (intros; exact rfl)))
  | ((with_reducible refine' wX_swap3 ?h ?h1 ?h2 ?h5 ?h3 ?h4); (case h4 => (intros; exact rfl)); (case h1 => exact rfl); (case h2 => exact rfl); (case h5 => exact rfl); (case h3 => (intros; exact rfl)))
  | ((with_reducible refine' wX_unpack2 ?h ?h1 ?h2 ?h3 ?h4); (case h4 => (intros; exact rfl)); (case h1 => exact rfl); (case h2 => exact rfl); (case h3 => (intros; exact rfl)))
  | ((with_reducible refine' wX_unpack3 ?h ?h1 ?h2 ?h5 ?h3 ?h4); (case h4 => (intros; exact rfl)); (case h1 => exact rfl); (case h2 => exact rfl); (case h5 => exact rfl); (case h3 => (intros; exact rfl)))
  | ((with_reducible refine' wX_for ?h ?h1 ?h2); (case h1 => exact rfl); (case h2 => (intros; exact rfl)))
  | ((with_reducible refine' wI_rng ?h ?h1 ?h2 ?h3); (case h1 => exact rfl); (case h2 => (intro _; exact rfl)); (case h3 => (intro _; exact ⟨_, _, rfl, rfl⟩)))
  | with_reducible refine' wI_list ?_
  | with_reducible refine' wE_int ?_
  | with_reducible refine' wE_bool ?_
  | with_reducible refine' wE_none ?_
  | ((with_reducible refine' wE_local ?hv ?h ?hl ?hd); (case hl => exact rfl); (case hd => decide +kernel); (case hv => tb_start))
  | ((with_reducible refine' wE_fn ?h ?h1 ?h2 ?h3); (case h2 => exact rfl); (case h1 => decide +kernel); (case h3 => decide +kernel))
  | with_reducible refine' wE_binop ?_
  | ((with_reducible refine' wE_cmp ?h ?hm); (case hm => with_unfolding_all exact rfl))
  | with_reducible refine' wE_ifexp ?_
  | with_reducible refine' wE_unop ?_
  | with_reducible refine' wE_boolop_and ?_
  | with_reducible refine' wE_boolop_or ?_
  | with_reducible refine' wE_boolop_one ?_
  | with_reducible refine' wE_tuple ?_
  | ((with_reducible refine' wE_len ?h ?h1 ?h2 ?h3 ?h4); (case h1 => exact rfl); (case h2 => (intro _; exact rfl)); (case h3 => (intro _; exact ⟨_, _, rfl, rfl⟩)); (case h4 => (intro _; exact rfl)))
  | ((with_reducible refine' wE_abs ?h ?h1 ?h2 ?h3 ?h4); (case h1 => exact rfl); (case h2 => (intro _; exact rfl)); (case h3 => (intro _; exact ⟨_, _, rfl, rfl⟩)); (case h4 => (intro _; exact rfl)))
  | ((with_reducible refine' wE_min ?h ?h1 ?h2 ?h3); (case h1 => exact rfl); (case h2 => (intro _; exact rfl)); (case h3 => (intro _; exact ⟨_, _, rfl, rfl⟩)))
  | ((with_reducible refine' wE_def ?h ?h1 ?h2 ?h3 ?h4 ?h5); (case h1 => decide +kernel); (case h2 => exact rfl); (case h3 => decide +kernel); (case h4 => (intro _; exact rfl)); (case h5 => (intro _; exact ⟨_, _, rfl, rfl⟩)))
  | ((with_reducible refine' wE_bitlen ?h ?h1 ?h2); (case h1 => (intro _; exact rfl)); (case h2 => exact rfl))
  | ((with_reducible refine' wT_cmp ?h ?hm); (case hm => with_unfolding_all exact rfl))
  | ((with_reducible refine' wT_chain ?h ?hm); (case hm => with_unfolding_all exact rfl))
  | with_reducible refine' wT_not ?_
  | with_reducible refine' wT_and_nil ?_
  | with_reducible refine' wT_and ?_
  | with_reducible refine' wT_or_nil ?_
  | with_reducible refine' wT_or ?_
  | ((with_reducible refine' wT_plain ?h ?he); (case he => (intros; exact rfl)))
  | with_reducible refine' wA_nil ?_
  | ((with_reducible refine' wA_cons ?h ?hs); (case hs => (intro _; exact rfl)))
  | with_reducible refine' wP_none ?_
  | with_reducible refine' wP_some ?_
  | ((with_reducible refine' wE_sliceAll ?hx ?hsz ?h ?hl ?hd); (case hl => exact rfl); (case hd => decide +kernel); (case hx => tb_start); (case hsz => omega))
  | ((with_reducible refine' wE_sliceTo ?hx ?hsz ?h ?hl ?hd); (case hl => exact rfl); (case hd => decide +kernel); (case hx => tb_start); (case hsz => omega))
  | ((with_reducible refine' wE_sliceZ ?hx ?hsz ?h ?hl ?hd); (case hl => exact rfl); (case hd => decide +kernel); (case hx => tb_start); (case hsz => omega))
  | ((with_reducible refine' wE_sliceR ?hx ?ha ?hsz ?h ?hl ?hd); (case hl => exact rfl); (case hd => decide +kernel); (case hx => tb_start); (case ha => tb_start); (case hsz => omega))
  | with_reducible refine' wE_sub ?_
  | ((with_reducible refine' b_len_z ?h1 ?h); (case h1 => omega))
  | ((with_reducible refine' b_len_zr ?h0 ?h1 ?h); (case h0 => tb_start); (case h1 => omega))
  | ((with_reducible refine' s_zN ?h1 ?h2 ?h ?hs); (case hs => (intro _ _; exact rfl)); (case h1 => omega); (case h2 => omega))
  | ((with_reducible refine' s_zrN ?ha ?h1 ?h2 ?h ?hs); (case hs => (intro _ _; exact rfl)); (case ha => tb_start); (case h1 => omega); (case h2 => omega))
  | ((with_reducible refine' s_z ?h0 ?h1 ?h2 ?h ?hs); (case hs => (intro _ _; exact rfl)); (case h0 => omega); (case h1 => omega); (case h2 => omega))
  | ((with_reducible refine' s_zr ?ha ?h0 ?h1 ?h2 ?h ?hs); (case hs => (intro _ _; exact rfl)); (case ha => tb_start); (case h0 => omega); (case h1 => omega); (case h2 => omega))
  | ((with_reducible refine' s_list ?hx ?h0 ?hsz ?h ?hs); (case hs => (intro _ _; exact rfl)); (case h0 => (simp; done)); (case hx => exact rfl); (case hsz => (simp; done)))
  | ((with_reducible refine' s_tup ?h0 ?hx ?hsz ?h ?hs); (case hs => (intro _ _; exact rfl)); (case h0 => omega); (case hx => exact rfl); (case hsz => (simp; done)))
  | ((with_reducible refine' o_shl1 ?h1 ?h); (case h1 => omega))
  | with_reducible refine' o_shr ?_
  | with_reducible refine' i_shr ?_
  | with_reducible refine' o_mask ?_
  | ((with_reducible refine' o_pow2 ?h1 ?h); (case h1 => omega))
  | ((with_reducible refine' o_divN ?h1 ?h2 ?h); (case h1 => omega); (case h2 => omega))
  | ((with_reducible refine' o_mdN ?h1 ?h); (case h1 => omega))
  | ((with_reducible refine' o_div ?h1 ?h2 ?h); (case h1 => omega); (case h2 => omega))
  | ((with_reducible refine' o_md ?h1 ?h); (case h1 => omega))
  | ((with_reducible refine' i_md ?h1 ?h); (case h1 => omega))
  | ((with_reducible refine' o_shl ?h1 ?h2 ?h); (case h1 => omega); (case h2 => omega))
  | ((with_reducible refine' o_orL ?h1 ?h2 ?h3 ?h); (case h1 => omega); (case h2 => omega); (case h3 => omega))
  | ((with_reducible refine' o_orR ?h1 ?h2 ?h3 ?h); (case h1 => omega); (case h2 => omega); (case h3 => omega))
  | ((with_reducible refine' i_orR ?h1 ?h2 ?h3 ?h); (case h1 => omega); (case h2 => omega); (case h3 => omega))
  | with_reducible refine' o_addN ?_
  | with_reducible refine' o_addN1 ?_
  | with_reducible refine' o_add ?_
  | ((with_reducible refine' o_subN ?h1 ?h); (case h1 => omega))
  | with_reducible refine' o_sub ?_
  | with_reducible refine' i_add ?_
  | with_reducible refine' i_sub ?_
  | with_reducible refine' o_neg ?_
  | with_reducible refine' c_eq ?_
  | with_reducible refine' c_ne ?_
  | with_reducible refine' c_lt ?_
  | with_reducible refine' c_le ?_
  | with_reducible refine' c_gt ?_
  | with_reducible refine' c_ge ?_
  | with_reducible refine' c_eqb ?_
  | with_reducible refine' c_neb ?_
  | with_reducible refine' o_notB ?_
  | with_reducible refine' exTB ?_
  | with_reducible refine' exTI ?_
  | with_reducible refine' exI ?_
  | with_reducible refine' exNat ?_
  | with_reducible refine' exL ?_
  | with_reducible refine' exT2 ?_
  | with_reducible refine' exT3 ?_
  | with_reducible refine' exR ?_
  | with_reducible refine' andLit ?_
  | with_reducible refine' andSt ?_
  | ((with_reducible refine' andLen ?h1 ?h); (case h1 => (simp; done)))
  | ((with_reducible refine' exRng1 ?h1 ?h); (case h1 => (unfold Fit; omega)))
  | ((with_reducible refine' exRng2 ?h1 ?h2 ?h); (case h1 => (unfold Fit; omega)); (case h2 => (unfold Fit; omega)))
  | ((with_reducible refine' exRngD ?he ?h1 ?h2 ?h); (case he => omega); (case h1 => (unfold Fit; omega)); (case h2 => (unfold Fit; omega)))
  | ((with_reducible refine' exApp ?h1 ?h); (case h1 => tb_start))
  | ((with_reducible refine' exAppZ ?h1 ?h2 ?h); (case h1 => tb_start); (case h2 => omega))
  | ((with_reducible refine' exSetZ ?h1 ?h2 ?h3 ?h4 ?h); (case h1 => tb_start); (case h2 => omega); (case h3 => ((try simp only [List.length_set, List.length_replicate, List.length_append, List.length_cons, List.length_nil]); omega)); (case h4 => ((try simp only [List.length_set, List.length_replicate, List.length_append, List.length_cons, List.length_nil]); omega)))
  | with_reducible refine' wE_listOf ?_
  | with_reducible refine' andNext ?_
  | fail "no step")

section
variable {g : G PP} {c : Cx} {S : St}
/-- of a size that leaves room for two deeds more -/
def Tm (z : Int) : Prop := z.natAbs ≤ 2 ^ 150
theorem Tm.sm {z : Int} (h : Tm z) : Sm z := by unfold Tm at h; unfold Sm; omega
theorem sm_of {z : Int} (h : z.natAbs ≤ 512 * 2 ^ 150) : Sm z := by unfold Sm; omega
theorem sm_of2 {z : Int} (h : z.natAbs ≤ 512 * (512 * 2 ^ 150)) : Sm z := by unfold Sm; omega
theorem sm_of3 {z : Int} (h : z.natAbs ≤ 512 * (512 * (512 * 2 ^ 150))) : Sm z := by unfold Sm; omega
theorem due_sm {f n o : Int} {m : Nat} (ho : o ≠ 0 ∧ o.natAbs ≤ 63) (hm : m ≤ 9) (hn : Tm n) : (due f n o m).natAbs ≤ 512 * 2 ^ 150 := due_le ho hm hn (by decide)
theorem mul_le {a o : Int} {N : Nat} (ha : a.natAbs ≤ N) (ho : o.natAbs ≤ 512) : (a * o).natAbs ≤ 512 * N := by
  rw [Int.natAbs_mul]
  have := Nat.mul_le_mul ha ho
  omega

theorem t_s_shift_dn (w : Nat) (hw : 1 ≤ w ∧ w ≤ 29) (v : V) (x : Int) (s : Nat) (hv : Num w v x) (hx : Sm x) (hs : s ≤ 100) :
    GCall g (g.fa "s_shift") 3 [v, .int (0 - (s : Int)), .int w] (fun _ => none) (fun r _ => Num w r (x / 2 ^ s)) := by
  by_cases h : s = 0
  · subst h
    have := t_s_shift_up (g := g) w hw v x 0 hv hx (by decide)
    simpa using this
  · have := t_s_shift_down (g := g) w hw v x s hv hx (by omega)
    rw [Int.zero_sub]
    exact this

theorem Lost.mid {w : Nat} {f n o : Int} {m : Nat} {b : V} (hf : 3 ≤ f ∧ f ≤ 5) (h : Num w b (n - due f n o m * o)) : Lost w f b n o m := by unfold Lost; rw [if_pos hf]; exact h

theorem t_law_done (w : Nat) (hw : 4 ≤ w ∧ w ≤ 29) (f n o : Int) (m : Nat) (x y : V) (hf : 0 ≤ f ∧ f < 10) (hx : Num w x n) (hy : Num w y o) (hn : Tm n) (ho : o ≠ 0 ∧ o.natAbs ≤ 63) (hm : m ≤ 9) (h9 : f = 9 → n % 2 = 0) :
    GCall g (g.fa "_law_done") 8 [.tup [.int f, y, .int m], x, .int w] (fun _ => none) (fun r _ => ∃ a b, r = .tup [a, b] ∧ Num w a (due f n o m) ∧ Lost w f b n o m) := by
  have hw' : 1 ≤ w ∧ w ≤ 29 := by omega
  have hp := pow_512 hm
  have hp0 : (0:Int) < 2 ^ m := Int.pow_pos (by decide)
  have hns := hn.sm
  have hos : Sm o := by unfold Sm; omega
  have hd := due_sm (f := f) ho hm hn
  refine' gcall (d := dOf 31) (dOf_mem 31 (by decide)) (hbody := ?enB) (hscope := ?enS) (hparams := ?enP) (hname := rfl) (names := ["deed", "x", "w"]) (hk := ?enK) (hbind := ?enI) (hloc := ?enL) (h := ?enH) (hco := ?enC) (hgen := ?enG) (hcell := ?enE)
  case enB => (conv => lhs; whnf)
  case enS => (conv => lhs; whnf)
  case enP => (conv => lhs; whnf)
  case enK => rfl
  case enI => (intro pm code doc vs h; match vs, h with | [v0, v1, v2], _ => rfl)
  case enL => decide +kernel
  case enC => rfl
  case enG => rfl
  case enE => decide +kernel
  repeat' tb_rel
  rcases ten hf with rfl | rfl | rfl | rfl | rfl | rfl | rfl | rfl | rfl | rfl
  · repeat' tb_rel
    refine wE_callD (fa_def (x := "s_add") (by decide +kernel)).2 ?_
    repeat' tb_rel
    refine op_pure (t_s_add w hw' x y n o hx hy hns hos) (by decide) fun r hr => ?_
    repeat' tb_rel
    exact ⟨hr, rfl⟩
  · repeat' tb_rel
    refine wE_callD (fa_def (x := "s_sub") (by decide +kernel)).2 ?_
    repeat' tb_rel
    refine op_pure (t_s_sub w hw' x y n o hx hy hns hos) (by decide) fun r hr => ?_
    repeat' tb_rel
    exact ⟨hr, rfl⟩
  · repeat' tb_rel
    refine op_pure (t_s_mul w hw' x y n o hx hy hns hos) (by decide) fun r hr => ?_
    repeat' tb_rel
    exact ⟨hr, rfl⟩
  · repeat' tb_rel
    refine wE_callD (fa_def (x := "tdiv") (by decide +kernel)).2 ?_
    repeat' tb_rel
    refine op_pure (t_tdiv w hw x y n o hx hy hns ho) (by decide) fun r hr => ?_
    obtain ⟨a, b, rfl, ha, hb⟩ := hr
    repeat' tb_rel
    exact ⟨ha, Lost.mid (by decide) hb⟩
  · repeat' tb_rel
    refine wE_callD (fa_def (x := "fdiv") (by decide +kernel)).2 ?_
    repeat' tb_rel
    refine op_pure (t_fdiv w hw x y n o hx hy hns ho) (by decide) fun r hr => ?_
    obtain ⟨a, b, rfl, ha, hb⟩ := hr
    repeat' tb_rel
    exact ⟨ha, Lost.mid (by decide) hb⟩
  · repeat' tb_rel
    refine wE_callD (fa_def (x := "cdiv") (by decide +kernel)).2 ?_
    repeat' tb_rel
    refine op_pure (t_cdiv w hw x y n o hx hy hns ho) (by decide) fun r hr => ?_
    obtain ⟨a, b, rfl, ha, hb⟩ := hr
    repeat' tb_rel
    exact ⟨ha, Lost.mid (by decide) hb⟩
  · repeat' tb_rel
    refine op_pure (t_s_shift_up w hw' x n m hx hns (by omega)) (by decide) fun r hr => ?_
    repeat' tb_rel
    exact ⟨hr, rfl⟩
  · repeat' tb_rel
    refine op_pure (t_s_shift_dn w hw' x n m hx hns (by omega)) (by decide) fun r hr => ?_
    repeat' tb_rel
    have hs1 : Sm (n / 2 ^ m) := hns.le (ediv_abs hp0)
    refine op_pure (t_s_shift_up w hw' r _ m hr hs1 (by omega)) (by decide) fun r2 hr2 => ?_
    repeat' tb_rel
    have hs2 : Sm (n / 2 ^ m * 2 ^ m) := sm_of (mul_le (N := 2 ^ 150) (Nat.le_trans (ediv_abs hp0) hn) (by omega))
    refine op_pure (t_s_sub w hw' x r2 n _ hx hr2 hns hs2) (by decide) fun r3 hr3 => ?_
    repeat' tb_rel
    exact ⟨hr, hr3⟩
  · repeat' tb_rel
    refine op_pure (t_s_neg w (by omega) x n hx hns) (by decide) fun r hr => ?_
    repeat' tb_rel
    exact ⟨hr, rfl⟩
  · repeat' tb_rel
    refine op_pure (t_s_half w hw' x n hx hns (h9 rfl)) (by decide) fun r hr => ?_
    repeat' tb_rel
    exact ⟨hr, rfl⟩

theorem t_law_undone (w : Nat) (hw : 4 ≤ w ∧ w ≤ 29) (f n o : Int) (m : Nat) (x y b : V) (hf : 0 ≤ f ∧ f < 10) (hx : Num w x (due f n o m)) (hy : Num w y o) (hb : Lost w f b n o m) (hn : Tm n) (ho : o ≠ 0 ∧ o.natAbs ≤ 63) (hm : m ≤ 9) (h9 : f = 9 → n % 2 = 0) :
    GCall g (g.fa "_law_undone") 8 [.tup [.int f, y, .int m], x, b, .int w] (fun _ => none) (fun r _ => Num w r n) := by
  have hw' : 1 ≤ w ∧ w ≤ 29 := by omega
  have hp := pow_512 hm
  have hp0 : (0:Int) < 2 ^ m := Int.pow_pos (by decide)
  have hns := hn.sm
  have hos : Sm o := by unfold Sm; omega
  have hd := due_sm (f := f) ho hm hn
  have hds := sm_of hd
  have hdo := sm_of2 (mul_le hd (show o.natAbs ≤ 512 by omega))
  have hdp := sm_of2 (mul_le hd (show ((2:Int) ^ m).natAbs ≤ 512 by omega))
  have mid : 3 ≤ f ∧ f ≤ 5 → Num w b (n - due f n o m * o) ∧ Sm (n - due f n o m * o) := fun h => by
    unfold Lost at hb
    rw [if_pos h] at hb
    refine ⟨hb, sm_of3 ?_⟩
    have := mul_le hd (show o.natAbs ≤ 512 by omega)
    unfold Tm at hn
    omega
  refine' gcall (d := dOf 33) (dOf_mem 33 (by decide)) (hbody := ?enB) (hscope := ?enS) (hparams := ?enP) (hname := rfl) (names := ["deed", "x", "lost", "w"]) (hk := ?enK) (hbind := ?enI) (hloc := ?enL) (h := ?enH) (hco := ?enC) (hgen := ?enG) (hcell := ?enE)
  case enB => (conv => lhs; whnf)
  case enS => (conv => lhs; whnf)
  case enP => (conv => lhs; whnf)
  case enK => rfl
  case enI => (intro pm code doc vs h; match vs, h with | [v0, v1, v2, v3], _ => rfl)
  case enL => decide +kernel
  case enC => rfl
  case enG => rfl
  case enE => decide +kernel
  repeat' tb_rel
  rcases ten hf with rfl | rfl | rfl | rfl | rfl | rfl | rfl | rfl | rfl | rfl
  · repeat' tb_rel
    refine wE_callD (fa_def (x := "s_sub") (by decide +kernel)).2 ?_
    repeat' tb_rel
    refine op_pure (t_s_sub w hw' x y _ o hx hy hds hos) (by decide) fun r hr => ?_
    repeat' tb_rel
    have e : due 0 n o m - o = n := by show n + o - o = n; omega
    rw [e] at hr; exact hr
  · repeat' tb_rel
    refine wE_callD (fa_def (x := "s_add") (by decide +kernel)).2 ?_
    repeat' tb_rel
    refine op_pure (t_s_add w hw' x y _ o hx hy hds hos) (by decide) fun r hr => ?_
    repeat' tb_rel
    have e : due 1 n o m + o = n := by show n - o + o = n; omega
    rw [e] at hr; exact hr
  · repeat' tb_rel
    refine op_pure (t_tdiv w hw x y _ o hx hy hds ho) (by decide) fun r hr => ?_
    obtain ⟨a, b, rfl, ha, _⟩ := hr
    repeat' tb_rel
    have e : tq (due 2 n o m) o = n := tq_mul ho.1
    rw [e] at ha; exact ha
  · obtain ⟨m1, m2⟩ := mid (by decide)
    repeat' tb_rel
    refine op_pure (t_s_mul w hw' x y _ o hx hy hds hos) (by decide) fun r hr => ?_
    repeat' tb_rel
    refine op_pure (t_s_add w hw' r b _ _ hr m1 hdo m2) (by decide) fun r hr => ?_
    repeat' tb_rel
    rw [Int.add_comm, Int.sub_add_cancel] at hr; exact hr
  · obtain ⟨m1, m2⟩ := mid (by decide)
    repeat' tb_rel
    refine op_pure (t_s_mul w hw' x y _ o hx hy hds hos) (by decide) fun r hr => ?_
    repeat' tb_rel
    refine op_pure (t_s_add w hw' r b _ _ hr m1 hdo m2) (by decide) fun r hr => ?_
    repeat' tb_rel
    rw [Int.add_comm, Int.sub_add_cancel] at hr; exact hr
  · obtain ⟨m1, m2⟩ := mid (by decide)
    repeat' tb_rel
    refine op_pure (t_s_mul w hw' x y _ o hx hy hds hos) (by decide) fun r hr => ?_
    repeat' tb_rel
    refine op_pure (t_s_add w hw' r b _ _ hr m1 hdo m2) (by decide) fun r hr => ?_
    repeat' tb_rel
    rw [Int.add_comm, Int.sub_add_cancel] at hr; exact hr
  · repeat' tb_rel
    refine op_pure (t_s_shift_dn w hw' x _ m hx hds (by omega)) (by decide) fun r hr => ?_
    repeat' tb_rel
    have e : due 6 n o m / 2 ^ m = n := by show n * 2 ^ m / 2 ^ m = n; exact Int.mul_ediv_cancel _ (by omega)
    rw [e] at hr; exact hr
  · have m1 : Num w b (n - due 7 n o m * 2 ^ m) := hb
    have m2 : Sm (n - due 7 n o m * 2 ^ m) := by
      apply sm_of3
      have := mul_le hd (show ((2:Int) ^ m).natAbs ≤ 512 by omega)
      unfold Tm at hn
      omega
    repeat' tb_rel
    refine op_pure (t_s_shift_up w hw' x _ m hx hds (by omega)) (by decide) fun r hr => ?_
    repeat' tb_rel
    refine op_pure (t_s_add w hw' r b _ _ hr m1 hdp m2) (by decide) fun r hr => ?_
    repeat' tb_rel
    rw [Int.add_comm, Int.sub_add_cancel] at hr; exact hr
  · repeat' tb_rel
    refine op_pure (t_s_neg w (by omega) x _ hx hds) (by decide) fun r hr => ?_
    repeat' tb_rel
    have e : -due 8 n o m = n := by show - -n = n; omega
    rw [e] at hr; exact hr
  · repeat' tb_rel
    refine op_pure (t_s_add w hw' x x _ _ hx hx hds hds) (by decide) fun r hr => ?_
    repeat' tb_rel
    have e : due 9 n o m + due 9 n o m = n := by have := h9 rfl; show n / 2 + n / 2 = n; omega
    rw [e] at hr; exact hr

theorem t_law_swapped (w : Nat) (hw : 4 ≤ w ∧ w ≤ 29) (f1 f2 n o1 o2 : Int) (m1 m2 : Nat) (x y1 y2 : V) (hf1 : 0 ≤ f1 ∧ f1 < 3) (hf2 : 0 ≤ f2 ∧ f2 < 3) (hx : Num w x n) (hy1 : Num w y1 o1) (hy2 : Num w y2 o2) (hn : n.natAbs ≤ 2 ^ 120)
    (ho1 : o1 ≠ 0 ∧ o1.natAbs ≤ 63) (ho2 : o2 ≠ 0 ∧ o2.natAbs ≤ 63) (hm1 : m1 ≤ 9) (hm2 : m2 ≤ 9) :
    GCall g (g.fa "_law_swapped") 9 [x, .tup [.int f1, y1, .int m1], .tup [.int f2, y2, .int m2], .int w] (fun _ => none) (fun r _ => Num w r (due f1 (due f2 n o2 m2) o1 m1)) := by
  have hn1 : Tm n := by unfold Tm; omega
  have hd := due_le (f := f2) ho2 hm2 hn (by decide)
  have hn2 : Tm (due f2 n o2 m2) := by unfold Tm; omega
  refine' gcall (d := dOf 35) (dOf_mem 35 (by decide)) (hbody := ?enB) (hscope := ?enS) (hparams := ?enP) (hname := rfl) (names := ["before", "one", "last", "w"]) (hk := ?enK) (hbind := ?enI) (hloc := ?enL) (h := ?enH) (hco := ?enC) (hgen := ?enG) (hcell := ?enE)
  case enB => (conv => lhs; whnf)
  case enS => (conv => lhs; whnf)
  case enP => (conv => lhs; whnf)
  case enK => rfl
  case enI => (intro pm code doc vs h; match vs, h with | [v0, v1, v2, v3], _ => rfl)
  case enL => decide +kernel
  case enC => rfl
  case enG => rfl
  case enE => decide +kernel
  repeat' tb_rel
  refine op_pure (t_law_done w hw f2 n o2 m2 x y2 (by omega) hx hy2 hn1 ho2 hm2 (by omega)) (by decide) fun r hr => ?_
  obtain ⟨a, b, rfl, ha, _⟩ := hr
  repeat' tb_rel
  refine op_pure (t_law_done w hw f1 _ o1 m1 a y1 (by omega) ha hy1 hn2 ho1 hm1 (by omega)) (by decide) fun r hr => ?_
  obtain ⟨a2, b2, rfl, ha2, _⟩ := hr
  repeat' tb_rel
  exact ha2
end
end Mine

namespace Mine
section
variable {p : Program} {g : G p} {c : Cx} {S : St}
theorem R.froze {L : Addr} {Z W : Fz} {s : Shared} (r : R g L Z W S s) {D : Addr} {o : Obj} (hD : s.heap.get? D = some o) (hZ : Z D = none) (hW : W D = none) (hB : g.hB.get? D = none) (hσ : S.σ D = none) (hL : L ≠ D) :
    R g L Z (wadd W D o) S s ∧ Ext Z W (wadd W D o) := by
  have up : ∀ a q, W a = some q → wadd W D o a = some q := fun a q e => by
    unfold wadd
    rw [if_neg (fun h => by rw [h, hW] at e; cases e)]; exact e
  obtain ⟨mr, hn, hm⟩ := r.ns
  refine ⟨{ rest := r.rest, base := r.base, z := r.z, w := fun a q e => ?_, mu := fun a l e => ?_, ns := ⟨mr, hn, fun y u e => let ⟨q, e1, e2⟩ := hm y u e; ⟨q, e1, e2.mono up⟩⟩, lz := r.lz, lw := ?_, lb := r.lb, lm := r.lm }, up, fun a q e => ?_⟩
  · unfold wadd at e
    split at e
    · rename_i h; cases e; rw [h]; exact hD
    · exact r.w a q e
  · obtain ⟨arr, k, h1, h2, h3, h4, h5⟩ := r.mu a l e
    refine ⟨arr, k, h1, h2.mono up, h3, ?_, h5⟩
    unfold wadd
    rw [if_neg (fun h => by rw [h, hσ] at e; cases e)]; exact h4
  · unfold wadd
    rw [if_neg hL]; exact r.lw
  · unfold wadd at e
    split at e
    · rename_i h; exact .inr (by rw [h]; exact hZ)
    · exact .inl e

theorem repL_paired {W : Fz} {f : Int → Int} : ∀ {vs ys : List Value} {l : List Int}, RepL W vs (zints l) → Paired (fun v y => ∃ i t u, v = Value.int i t ∧ y = Value.int (f i) u) vs ys → ∀ W', RepL W' ys (zints (l.map f))
  | _, _, [], .nil, .nil, W' => .nil
  | _, _, i :: l, .cons a r, .cons b q, W' => by
    obtain ⟨j, t, u, rfl, rfl⟩ := b
    cases a
    exact .cons (.int _ _) (repL_paired r q W')
theorem filter_true (vs : List Value) : vs.filter (fun _ => true) = vs := List.filter_eq_self.mpr fun _ _ => rfl

theorem wE_comp {elt iter : Expr} {x : Str} {px : Pos} {scope : Scope} {pos : Pos} {f : Int → Int} {Q : V → St → Prop}
    (h : WE g c iter S (fun v S₁ => ∃ l, v = .list (zints l) ∧ l.length ≤ 2 ^ 20 ∧ Q (.list (zints (l.map f))) S₁))
    (hel : ∀ (A : Around) (L a : Addr) (cd : Value) (C : Addr) (i : Int) (t : Tok) (s : Shared) (m : Str → Option Value), A.handled = none → (∀ b o, g.hB.get? b = some o → s.heap.get? b = some o) → s.heap.Ns C m → m x = some (.int i t) →
      wpAny (model g.prog g.w) A (eval elt (compEnvC scope [] C (c.env L a cd))) (fun y s₄ => (∃ u, y = .int (f i) u) ∧ ∃ tk, s₄ = { s with toks := tk }) (fun _ _ => False) s)
    (hclos : ∀ L a cd, closureFor scope (c.env L a cd) = pure []) (hcell : ∀ y ∈ scope.names, y.2 ≠ .cell) (hkind : scope.kind = .function)
    (hnames : ∀ y ∈ scope.names, y.2 = .local → scope.names.lookup y.1 = some .local) (hx : scope.names.lookup x = some .local)
    (hs : ∀ L a cd x, foldedSetIterable iter (c.env L a cd) x = pure x) : WE g c (.ListComp elt [⟨.Name x px, iter, [], 0⟩] scope pos) S Q := by
  intro A L a cd Z W s Q' lv r po
  refine wpAny_ListComp_free (fun _ => true) (fun v y => ∃ i t u, v = Value.int i t ∧ y = Value.int (f i) u) (hclos L a cd) hcell hkind hnames hx (h A L a cd Z W s _ lv r fun W₁ v xv S₁ s₁ e₁ r₁ rr₁ hh => ?_) (hs L a cd)
  obtain ⟨l, rfl, hlen, hq⟩ := hh
  cases r₁ with
  | list ha hr =>
    rename_i ax arr n
    have hl := rr₁.w _ _ ha
    have hlt := Heap.lt_size hl
    have hIs : s₁.heap.IsList ax arr := ⟨_, hl, rfl, n, rfl⟩
    have hsz : arr.size = l.length := by
      have := hr.length
      rw [zints_length] at this
      simpa using this
    have up : ∀ (h₃ : Heap), (∀ b o, b ∉ [s₁.heap.objs.size] → (s₁.heap.push { cls := .type "list_iterator", data := .fields #[.ref ax, .int 0 0] }).get? b = some o → h₃.get? b = some o) → ∀ b o, s₁.heap.get? b = some o → h₃.get? b = some o :=
      fun h₃ hk b o e => hk b o (fun hm => by rcases List.mem_cons.mp hm with rfl | hm; exact Nat.lt_irrefl _ (Heap.lt_size e); cases hm) (Heap.get?_push_of_some _ e)
    refine wpAny_pyIter_list hIs ⟨s₁.heap.objs.size, [s₁.heap.objs.size, ax], [s₁.heap.objs.size], arr.size, _, _, rfl, Walks.list lv.hh _ _ (Nat.ne_of_lt hlt) arr, (by rw [hsz]; exact Nat.le_trans hlen (by decide)), ⟨⟨_, Heap.get?_push_size _ rfl, rfl, rfl⟩, hIs.push _⟩, ?_, ⟨?_, ?_⟩, ?_⟩
    · intro b hb
      show b < (s₁.heap.push _).objs.size
      rw [Heap.size_push]
      rcases List.mem_cons.mp hb with rfl | hb
      · exact Nat.lt_succ_self _
      · rcases List.mem_cons.mp hb with rfl | hb
        · exact Nat.lt_succ_of_lt hlt
        · cases hb
    · intro C i v s₃ m₃ E' _ hP hn hm hk _
      show wpAny _ _ (pure true) _ _ _
      exact wpAny_pure ⟨rfl, s₃.heap, s₃.toks, rfl, fun _ _ e => e⟩
    · intro C i v s₃ m₃ E' _ hP hp hn hm hk _
      have hv : ∃ j t, v = .int j t := by
        have hP' : arr.toList[i]? = some v := by simpa using hP
        have hil : i < l.length := by
          have := (Array.getElem?_eq_some_iff.mp hP).1
          omega
        obtain ⟨v', h1, h2⟩ := hr.get (i := i) (x := .int l[i]) (zints_get (List.getElem?_eq_getElem hil))
        rw [hP'] at h1
        cases h1
        cases h2
        exact ⟨_, _, rfl⟩
      obtain ⟨j, t, rfl⟩ := hv
      refine wpAny_noRaise (wpAny_mono (hel A L a cd C j t s₃ m₃ lv.hh (fun b o e => up s₃.heap hk b o (rr₁.base b o e)) hn hm) (fun y s₄ hy => ?_) fun _ _ e => e)
      obtain ⟨⟨u, rfl⟩, tk, rfl⟩ := hy
      exact ⟨⟨j, t, u, rfl, rfl⟩, s₃.heap, tk, rfl, fun _ _ e => e⟩
    · intro D h' tk ys vs' hnew hlD hpl hlen' hP hF hk
      have e : vs' = arr.toList := list_of_places hlen' hP
      subst e
      rw [filter_true] at hF
      have keep := up h' hk
      have rK : R g L Z W₁ S₁ { s₁ with heap := h', toks := tk } := rr₁.keeps keep
      have hnew' : s₁.heap.get? D = none := by
        cases q : s₁.heap.get? D with
        | none => rfl
        | some o => rw [Heap.get?_push_of_some _ q] at hnew; cases hnew
      obtain ⟨k, hD⟩ := hpl
      obtain ⟨oL, _, _, hL, _⟩ := rr₁.ns.choose_spec.1
      have hLD : L ≠ D := fun q => by rw [q, hnew'] at hL; cases hL
      obtain ⟨rF, ex⟩ := rK.froze (D := D) hD (by
        cases q : Z D with
        | none => rfl
        | some o => rw [rr₁.z _ _ q] at hnew'; cases hnew') (by
        cases q : W₁ D with
        | none => rfl
        | some o => rw [rr₁.w _ _ q] at hnew'; cases hnew') (by
        cases q : g.hB.get? D with
        | none => rfl
        | some o => rw [rr₁.base _ _ q] at hnew'; cases hnew') (by
        cases q : S₁.σ D with
        | none => rfl
        | some o => obtain ⟨_, _, h1, _⟩ := rr₁.mu _ _ q; rw [h1] at hnew'; cases hnew') hLD
      exact po _ _ _ _ _ (e₁.trans ex) (.list (n := k) (arr := ys) (by simp [wadd]) (repL_paired hr hF _)) rF hq
end
end Mine

namespace Mine
section
variable {p : Program} {g : G p} {c : Cx} {S : St}
theorem pyAll_zints (l : List Int) : V.pyAll (zints l) = some (l.map PyData.int) := by
  induction l with
  | nil => rfl
  | cons x r ih =>
    show (match V.py (.int x), V.pyAll (zints r) with | some d, some ds => some (d :: ds) | _, _ => none) = _
    rw [ih]; rfl
theorem canLay_ints (l : List Int) : PyData.canLayAll0 (l.map PyData.int) = true := by
  induction l with
  | nil => rfl
  | cons x r ih => simp [PyData.canLayAll0, PyData.canLay0, ih]
theorem depth_ints (l : List Int) : PyData.depthAll (l.map PyData.int) ≤ 1 := by
  induction l with
  | nil => simp [PyData.depthAll]
  | cons x r ih => simp [PyData.depthAll, PyData.depth]; omega
def numPy (z : Int) (l : List Int) : PyData := .tuple [.bool (decide (z < 0)), .list (l.map PyData.int)]
theorem num_py (z : Int) (l : List Int) : V.py (.tup [.bool (decide (z < 0)), .list (zints l)]) = some (numPy z l) := by
  simp [V.py, V.pyAll, pyAll_zints, numPy]
theorem num_shaped (z : Int) (l : List Int) : SeqAt.shaped (numPy z l) = true := by
  have h := canLay_ints l
  have d := depth_ints l
  unfold SeqAt.shaped numPy
  simp [PyData.canLay0, PyData.canLayAll0, PyData.depth, PyData.depthAll, h]
  omega
theorem c_neN {w : Nat} (hw : 1 ≤ w) {x y : V} {z : Int} {Q : V → St → Prop} (hx : Num w x z) (hy : Num w y z) (h : Q (.bool false) S) : Op2 g c Rep (compareOp .NotEq) x y S Q := by
  obtain rfl := hx.uniq hw hy
  obtain ⟨l, rfl, _⟩ := hx
  have hs := num_shaped z l
  refine c_ned (num_py z l) (num_py z l) hs hs ?_
  rw [SeqAt.eqv_refl _ (SeqAt.canLay_of_shaped hs)]
  exact h

/-- a list that may be changed, held against an empty one -/
theorem c_neEmp {a : Addr} {l : List V} {ds : List PyData} {Q : V → St → Prop} (ha : S.σ a = some l) (hp : V.pyAll l = some ds) (hs : SeqAt.shaped (.list ds) = true) (h : Q (.bool (!l.isEmpty)) S) :
    Op2 g c Rep (compareOp .NotEq) (.ref a) (.list (zints [])) S Q :=
  fun A L Z W s Q' v u lv r rv ru po => by
    cases rv
    obtain ⟨arr, n, h1, h2, _⟩ := r.mu a l ha
    obtain ⟨as, ra⟩ := h2.reads r.w _ hp
    have rx : ∃ as, Reads s.heap (.ref a) (.list ds) as := ⟨_, .list h1 rfl rfl ra⟩
    obtain ⟨_, rx⟩ := rx
    obtain ⟨_, ry⟩ := ru.reads r.w (.list []) rfl
    refine ne_dataH rx ry hs rfl (by have := lv.un; have := cLine_is; omega) ?_
    have e : (!PyData.eqv (.list ds) (.list [])) = !l.isEmpty := by
      cases l with
      | nil => cases hp; rfl
      | cons x r =>
        have : ds ≠ [] := by
          intro e
          rw [e] at hp
          simp only [V.pyAll] at hp
          split at hp <;> cases hp
        cases ds with
        | nil => exact absurd rfl this
        | cons d q => rfl
    rw [e]
    exact po.here (.bool _) r h

/-- a slice of the list that was handed in -/
theorem wE_sliceS {x : Str} {px pp pos : Pos} {lo hi : Option Expr} {la : Addr} {arr : Array Value} {ns : List Int} {Q : V → St → Prop} (hx : S.m x = some (.lit (.ref la))) (hil : g.hB.IsList la arr) (hr : ∀ W, RepL W arr.toList (zints ns)) (hsz : ns.length ≤ 2 ^ 24)
    (h : WP g c lo S (fun vl S₂ => WP g c hi S₂ (fun vh S₃ => S₃ = S ∧ Q (.list (pick (zints ns) vl vh)) S)))
    (hl : c.scope.names.lookup x = some .local := by rfl) (hd : (x == ("__debug__" : Str)) = false := by decide) :
    WE g c (.Subscript (.Name x px) (.Slice lo hi none pp) pos) S Q :=
  fun A L a cd Z W s Q' lv r po => by
    obtain ⟨mr, hn, hm⟩ := r.ns
    obtain ⟨rv, e, rp⟩ := hm x _ hx
    cases rp
    refine wpAny_Subscript_list_slice (wpAny_Name (wpAny_loadName_local (env := c.env L a cd) c.fn hl hn e ?_) hd)
    refine h A L a cd Z W s _ lv r fun W₂ v2 x2 S₂ s₂ e₂ r₂ rr₂ h₂ => h₂ A L a cd Z W₂ s₂ _ lv rr₂ fun W₃ v3 x3 S₃ s₃ e₃ r₃ rr₃ h₃ => ?_
    obtain ⟨rfl, hq⟩ := h₃
    have hr3 := hr W₃
    have len := hr3.length
    rw [Array.length_toList] at len
    have k1 := rr₃.push { cls := .type "slice", data := .fields #[v2, v3, .none] } (tk' := s₃.toks)
    obtain ⟨k2, ex⟩ := k1.pushF (lobj (kms_pick arr.toList x2 x3).toArray 0) rfl (tk' := s₃.toks)
    obtain ⟨oo, hoo, hrest⟩ := hil
    refine ⟨la, arr, x2, x3, rfl, ⟨oo, rr₃.base _ _ hoo, hrest⟩, by rw [len, zints_length]; exact hsz, r₂, r₃, ?_⟩
    rw [kms_pick_eq]
    have e23 := e₂.trans e₃
    have hs1 : (s₃.heap.push { cls := .type "slice", data := .fields #[v2, v3, .none] }).objs.size = s₃.heap.objs.size + 1 := Heap.size_push ..
    refine po _ _ _ _ _ (e23.trans ex) (.list (n := 0) (arr := (kms_pick arr.toList x2 x3).toArray) ?_ ?_) k2 hq
    · show wadd W₃ (s₃.heap.push _).objs.size _ _ = _
      rw [hs1]; unfold wadd; exact if_pos rfl
    · have : RepL W₃ (kms_pick arr.toList x2 x3) (pick (zints ns) x2 x3) := by
        unfold kms_pick pick
        rw [← hr3.length]
        exact (hr3.drop _).take _
      simpa using this.mono ex.up
theorem repL_ints {W : Fz} : ∀ {vs : List Value} {ns : List Int}, IntsAre vs ns → RepL W vs (zints ns)
  | _, _, h => by
    induction h with
    | nil => exact .nil
    | cons n t _ ih => exact .cons (.int _ _) ih
end
end Mine

namespace Mine
/-- the moments and the deeds of a run -/
inductive Hist (w : Nat) : Nat → List V → List V → Int → Prop
  | start {m : V} {n : Int} : Num w m n → n.natAbs ≤ 1000 → Hist w 0 [m] [] n
  | step {k : Nat} {ms ds : List V} {n f o : Int} {m : Nat} {x y b : V} : Hist w k ms ds n → (0 ≤ f ∧ f < 10) → (o ≠ 0 ∧ o.natAbs ≤ 63) → m ≤ 9 → (f = 9 → n % 2 = 0) → Num w y o → Num w x (due f n o m) → Lost w f b n o m →
      Hist w (k + 1) (ms ++ [x]) (ds ++ [.tup [.tup [.int f, y, .int (m : Int)], b]]) (due f n o m)
theorem Hist.len {w k : Nat} {ms ds : List V} {n : Int} (h : Hist w k ms ds n) : ms.length = k + 1 ∧ ds.length = k := by
  induction h with
  | start _ _ => simp
  | step _ _ _ _ _ _ _ _ ih => simp [ih]
theorem Hist.bound {w k : Nat} {ms ds : List V} {n : Int} (h : Hist w k ms ds n) : n.natAbs ≤ 1000 * 512 ^ k := by
  induction h with
  | start _ h => simpa using h
  | @step k ms ds n f o m x y b hh hf ho hm _ _ _ _ ih =>
    have h1 : 1 ≤ 512 ^ k := Nat.pos_of_ne_zero (by simp)
    have := due_le (f := f) ho hm ih (by omega)
    rw [Nat.pow_succ]
    omega
theorem Hist.last {w k : Nat} {ms ds : List V} {n : Int} (h : Hist w k ms ds n) : ∃ v, ms[k]? = some v ∧ Num w v n := by
  cases h with
  | start h _ => exact ⟨_, rfl, h⟩
  | step hh hf ho hm h9 hy hx hb =>
    have := hh.len.1
    exact ⟨_, by rw [List.getElem?_append_right (by omega), show _ - _ = 0 by omega]; rfl, hx⟩
theorem Hist.at {w k : Nat} {ms ds : List V} {n : Int} (h : Hist w k ms ds n) : ∀ i, i < k → ∃ (f o n' : Int) (m : Nat) (x x' y b : V), (0 ≤ f ∧ f < 10) ∧ (o ≠ 0 ∧ o.natAbs ≤ 63) ∧ m ≤ 9 ∧ (f = 9 → n' % 2 = 0) ∧ Num w y o ∧ Num w x (due f n' o m) ∧ Lost w f b n' o m ∧ Num w x' n' ∧
    ds[i]? = some (.tup [.tup [.int f, y, .int (m : Int)], b]) ∧ ms[i + 1]? = some x ∧ ms[i]? = some x' ∧ n'.natAbs ≤ 1000 * 512 ^ k ∧ (i + 1 = k → due f n' o m = n) := by
  induction h with
  | start _ _ => intro i hi; omega
  | @step k ms ds n f o m x y b hh hf ho hm h9 hy hx hb ih =>
    intro i hi
    obtain ⟨l1, l2⟩ := hh.len
    by_cases h : i < k
    · obtain ⟨f', o', n', m', x1, x', y', b', a1, a2, a3, a4, a5, a6, a7, a8, a9, a10, a11, a12, a13⟩ := ih i h
      refine ⟨f', o', n', m', x1, x', y', b', a1, a2, a3, a4, a5, a6, a7, a8, ?_, ?_, ?_, ?_, by omega⟩
      · rw [List.getElem?_append_left (by omega)]; exact a9
      · rw [List.getElem?_append_left (by omega)]; exact a10
      · rw [List.getElem?_append_left (by omega)]; exact a11
      · rw [Nat.pow_succ]; omega
    · have hik : i = k := by omega
      subst hik
      obtain ⟨v, hv, hvn⟩ := hh.last
      refine ⟨f, o, n, m, x, v, y, b, hf, ho, hm, h9, hy, hx, hb, hvn, ?_, ?_, ?_, ?_, fun _ => rfl⟩
      · rw [List.getElem?_append_right (by omega), show _ - _ = 0 by omega]; rfl
      · rw [List.getElem?_append_right (by omega), show _ - _ = 0 by omega]; rfl
      · rw [List.getElem?_append_left (by omega)]; exact hv
      · have := hh.bound
        rw [Nat.pow_succ]; omega
theorem num_flat (z : Int) (l : List Int) : (numPy z l).canLay0 = true ∧ (numPy z l).depth ≤ 4 := by
  have h := canLay_ints l
  have d := depth_ints l
  unfold numPy
  simp [PyData.canLay0, PyData.canLayAll0, PyData.depth, PyData.depthAll, h]
  omega
theorem lost_flat {w m : Nat} {f n o : Int} {b : V} (h : Lost w f b n o m) : ∃ d, b.py = some d ∧ d.canLay0 = true ∧ d.depth ≤ 4 := by
  have num : ∀ z, Num w b z → ∃ d, b.py = some d ∧ d.canLay0 = true ∧ d.depth ≤ 4 := fun z hz => by
    obtain ⟨l, rfl, _⟩ := hz
    exact ⟨_, num_py z l, num_flat z l⟩
  unfold Lost at h
  split at h
  · exact num _ h
  · split at h
    · exact num _ h
    · subst h
      exact ⟨.none, rfl, rfl, by simp [PyData.depth]⟩
theorem pyAll_snoc {ds : List V} {dd : List PyData} {x : V} {d : PyData} (h : V.pyAll ds = some dd) (hx : x.py = some d) : V.pyAll (ds ++ [x]) = some (dd ++ [d]) := by
  induction ds generalizing dd with
  | nil => cases h; simp [V.pyAll, hx]
  | cons a r ih =>
    simp only [List.cons_append, V.pyAll] at h ⊢
    split at h
    · rename_i e1 e2
      cases h
      rw [e1, ih e2]; rfl
    · cases h
theorem canLay_snoc {dd : List PyData} {d : PyData} (h : PyData.canLayAll0 dd = true) (hd : d.canLay0 = true) : PyData.canLayAll0 (dd ++ [d]) = true := by
  induction dd with
  | nil => simp [PyData.canLayAll0, hd]
  | cons a r ih => simp only [List.cons_append, PyData.canLayAll0, Bool.and_eq_true] at h ⊢; exact ⟨h.1, ih h.2⟩
theorem depth_snoc {dd : List PyData} {d : PyData} {k : Nat} (h : PyData.depthAll dd ≤ k) (hd : d.depth ≤ k) : PyData.depthAll (dd ++ [d]) ≤ k := by
  induction dd with
  | nil => simp [PyData.depthAll]; omega
  | cons a r ih => simp only [List.cons_append, PyData.depthAll] at h ⊢; have := ih (by omega); omega
theorem Hist.py {w k : Nat} {ms ds : List V} {n : Int} (h : Hist w k ms ds n) : ∃ dd, V.pyAll ds = some dd ∧ PyData.canLayAll0 dd = true ∧ PyData.depthAll dd ≤ 10 := by
  induction h with
  | start _ _ => exact ⟨[], rfl, rfl, by simp [PyData.depthAll]⟩
  | @step k ms ds n f o m x y b hh hf ho hm h9 hy hx hb ih =>
    obtain ⟨dd, a1, a2, a3⟩ := ih
    obtain ⟨ly, rfl, _⟩ := hy
    obtain ⟨db, b1, b2, b3⟩ := lost_flat hb
    obtain ⟨c1, c2⟩ := num_flat o ly
    have e : V.py (.tup [.tup [.int f, .tup [.bool (decide (o < 0)), .list (zints ly)], .int (m : Int)], b]) = some (.tuple [.tuple [.int f, numPy o ly, .int (m : Int)], db]) := by
      have := num_py o ly
      simp only [V.py, V.pyAll] at this ⊢
      simp [b1, numPy, pyAll_zints]
    refine ⟨_, pyAll_snoc a1 e, canLay_snoc a2 ?_, depth_snoc a3 ?_⟩
    · simp [PyData.canLay0, PyData.canLayAll0, c1, b2]
    · simp [PyData.depth, PyData.depthAll]; omega
theorem Hist.shaped {w k : Nat} {ms ds : List V} {n : Int} (h : Hist w k ms ds n) : ∃ dd, V.pyAll ds = some dd ∧ SeqAt.shaped (.list dd) = true := by
  obtain ⟨dd, a1, a2, a3⟩ := h.py
  refine ⟨dd, a1, ?_⟩
  unfold SeqAt.shaped
  simp [PyData.canLay0, PyData.depth, a2]
  omega
theorem due_comm {f1 f2 n o1 o2 : Int} {m1 m2 : Nat} (h : (0 ≤ f1 ∧ f1 < 2 ∧ 0 ≤ f2 ∧ f2 < 2) ∨ (f1 = 2 ∧ f2 = 2)) : due f1 (due f2 n o2 m2) o1 m1 = due f2 (due f1 n o1 m1) o2 m2 := by
  rcases h with ⟨a, b, c, d⟩ | ⟨rfl, rfl⟩
  · have h1 : f1 = 0 ∨ f1 = 1 := by omega
    have h2 : f2 = 0 ∨ f2 = 1 := by omega
    rcases h1 with rfl | rfl <;> rcases h2 with rfl | rfl <;> simp [due] <;> omega
  · show n * o2 * o1 = n * o1 * o2
    rw [Int.mul_assoc, Int.mul_comm o2, ← Int.mul_assoc]
end Mine

namespace Mine
local macro_rules | `(tactic| tb_start) => `(tactic| first
  | with_reducible exact look_same
  | with_reducible exact look_froze
  | ((with_reducible refine' look_i ?nn); (case nn => omega))
  | ((with_reducible refine' look_ne ?nn ?tt); (case nn => decide +kernel); (case tt => tb_start))
  | ((with_reducible refine' look_froze_ne ?nn ?tt); (case nn => decide +kernel); (case tt => tb_start))
  | ((with_reducible refine' sig_set ?tt); (case tt => tb_start))
  | ((with_reducible refine' sig_freeze ?nn ?tt); (case nn => assumption); (case tt => tb_start))
  | ((with_reducible refine' upd_app ?nn); (case nn => first | rfl | omega))
  | ((with_reducible refine' upd_set ?n1 ?n2); (case n1 => first | rfl | omega); (case n2 => first | rfl | omega))
  | with_reducible exact upd_nil
  | with_reducible exact upd_same
  | ((with_reducible refine' upd_ne ?nn ?tt); (case nn => assumption); (case tt => tb_start))
  | assumption
  | exact rfl
  | fail "no look")
local macro_rules | `(tactic| tb_rel) => `(tactic| first
  | with_reducible refine' iteF ?_
  | with_reducible refine' iteT ?_
  | ((with_reducible refine' iteYes ?hp ?h1); (case hp => decide))
  | ((with_reducible refine' iteNo ?hp ?h1); (case hp => decide))
  | ((with_reducible refine' iteEqY ?hp ?h1); (case hp => decide))
  | ((with_reducible refine' iteEqN ?hp ?h1); (case hp => decide))
  | with_reducible refine' wS_nil ?_
  | with_reducible refine' wS_cons ?_
  | ((with_reducible refine' wX_retRef ?h1 ?h2 ?h ?hl ?hd); (case hl => exact rfl); (case hd => decide +kernel); (case h1 => tb_start); (case h2 => tb_start))
  | with_reducible refine' wX_return ?_
  | ((with_reducible refine' wX_assign ?h ?hl ?hs); (case hl => exact rfl); (case hs => (intros; exact rfl)))
  | ((with_reducible refine' wX_aug ?hv ?h ?hl); (case hl => exact rfl); (case hv => tb_start))
  | with_reducible refine' wX_if ?_
  | ((with_reducible refine' wX_append ?h ?h1 ?h2 ?h3 ?h4 ?h5); (case h1 => (intros; exact rfl)); (case h2 => exact rfl); (case h3 => (intros; exact rfl)); (case h4 => (intros; exact rfl)); (case h5 => (intros; exact rfl)))
  | ((with_reducible refine' wX_setitem ?h ?h1); (case h1 => (intros; exact rfl)))
  | ((with_reducible refine' wX_swap2 ?h ?h1 ?h2 ?h3 ?h4); (case h4 => (intros; exact rfl)); (case h1 => exact rfl); (case h2 => exact rfl); (case h3 => (intros; exact rfl)))
  | ((with_reducible refine' wX_swap3 ?h ?h1 ?h2 ?h5 ?h3 ?h4); (case h4 => (intros; exact rfl)); (case h1 => exact rfl); (case h2 => exact rfl); (case h5 => exact rfl); (case h3 => (intros; exact rfl)))
  | ((with_reducible refine' wX_unpack2 ?h ?h1 ?h2 ?h3 ?h4); (case h4 => (intros; exact rfl)); (case h1 => exact rfl); (case h2 => exact rfl); (case h3 => (intros; exact rfl)))
  | ((with_reducible refine' wX_unpack3 ?h ?h1 ?h2 ?h5 ?h3 ?h4); (case h4 => (intros; exact rfl)); (case h1 => exact rfl); (case h2 => exact rfl); (case h5 => exact rfl); (case h3 => (intros; exact rfl)))
  | ((with_reducible refine' wX_for ?h ?h1 ?h2); (case h1 => exact rfl); (case h2 => (intros; exact rfl)))
  | ((with_reducible refine' wI_rng ?h ?h1 ?h2 ?h3); (case h1 => exact rfl); (case h2 => (intro _; exact rfl)); (case h3 => (intro _; exact ⟨_, _, rfl, rfl⟩)))
  | with_reducible refine' wI_list ?_
  | with_reducible refine' wE_int ?_
  | with_reducible refine' wE_bool ?_
  | with_reducible refine' wE_none ?_
  | ((with_reducible refine' wE_local ?hv ?h ?hl ?hd); (case hl => exact rfl); (case hd => decide +kernel); (case hv => tb_start))
  | ((with_reducible refine' wE_fn ?h ?h1 ?h2 ?h3); (case h2 => exact rfl); (case h1 => decide +kernel); (case h3 => decide +kernel))
  | with_reducible refine' wE_binop ?_
  | ((with_reducible refine' wE_cmp ?h ?hm); (case hm => with_unfolding_all exact rfl))
  | with_reducible refine' wE_ifexp ?_
  | with_reducible refine' wE_unop ?_
  | with_reducible refine' wE_boolop_and ?_
  | with_reducible refine' wE_boolop_or ?_
  | with_reducible refine' wE_boolop_one ?_
  | with_reducible refine' wE_tuple ?_
  | ((with_reducible refine' wE_len ?h ?h1 ?h2 ?h3 ?h4); (case h1 => exact rfl); (case h2 => (intro _; exact rfl)); (case h3 => (intro _; exact ⟨_, _, rfl, rfl⟩)); (case h4 => (intro _; exact rfl)))
  | ((with_reducible refine' wE_abs ?h ?h1 ?h2 ?h3 ?h4); (case h1 => exact rfl); (case h2 => (intro _; exact rfl)); (case h3 => (intro _; exact ⟨_, _, rfl, rfl⟩)); (case h4 => (intro _; exact rfl)))
  | ((with_reducible refine' wE_min ?h ?h1 ?h2 ?h3); (case h1 => exact rfl); (case h2 => (intro _; exact rfl)); (case h3 => (intro _; exact ⟨_, _, rfl, rfl⟩)))
  | ((with_reducible refine' wE_def ?h ?h1 ?h2 ?h3 ?h4 ?h5); (case h1 => decide +kernel); (case h2 => exact rfl); (case h3 => decide +kernel); (case h4 => (intro _; exact rfl)); (case h5 => (intro _; exact ⟨_, _, rfl, rfl⟩)))
  | ((with_reducible refine' wE_bitlen ?h ?h1 ?h2); (case h1 => (intro _; exact rfl)); (case h2 => exact rfl))
  | ((with_reducible refine' wT_cmp ?h ?hm); (case hm => with_unfolding_all exact rfl))
  | ((with_reducible refine' wT_chain ?h ?hm); (case hm => with_unfolding_all exact rfl))
  | with_reducible refine' wT_not ?_
  | with_reducible refine' wT_and_nil ?_
  | with_reducible refine' wT_and ?_
  | with_reducible refine' wT_or_nil ?_
  | with_reducible refine' wT_or ?_
  | ((with_reducible refine' wT_plain ?h ?he); (case he => (intros; exact rfl)))
  | with_reducible refine' wA_nil ?_
  | ((with_reducible refine' wA_cons ?h ?hs); (case hs => (intro _; exact rfl)))
  | with_reducible refine' wP_none ?_
  | with_reducible refine' wP_some ?_
  | ((with_reducible refine' wE_sliceAll ?hx ?hsz ?h ?hl ?hd); (case hl => exact rfl); (case hd => decide +kernel); (case hx => tb_start); (case hsz => omega))
  | ((with_reducible refine' wE_sliceTo ?hx ?hsz ?h ?hl ?hd); (case hl => exact rfl); (case hd => decide +kernel); (case hx => tb_start); (case hsz => omega))
  | ((with_reducible refine' wE_sliceZ ?hx ?hsz ?h ?hl ?hd); (case hl => exact rfl); (case hd => decide +kernel); (case hx => tb_start); (case hsz => omega))
  | ((with_reducible refine' wE_sliceR ?hx ?ha ?hsz ?h ?hl ?hd); (case hl => exact rfl); (case hd => decide +kernel); (case hx => tb_start); (case ha => tb_start); (case hsz => omega))
  | with_reducible refine' wE_sub ?_
  | ((with_reducible refine' b_len_z ?h1 ?h); (case h1 => omega))
  | ((with_reducible refine' b_len_zr ?h0 ?h1 ?h); (case h0 => tb_start); (case h1 => omega))
  | ((with_reducible refine' s_zN ?h1 ?h2 ?h ?hs); (case hs => (intro _ _; exact rfl)); (case h1 => omega); (case h2 => omega))
  | ((with_reducible refine' s_zrN ?ha ?h1 ?h2 ?h ?hs); (case hs => (intro _ _; exact rfl)); (case ha => tb_start); (case h1 => omega); (case h2 => omega))
  | ((with_reducible refine' s_z ?h0 ?h1 ?h2 ?h ?hs); (case hs => (intro _ _; exact rfl)); (case h0 => omega); (case h1 => omega); (case h2 => omega))
  | ((with_reducible refine' s_zr ?ha ?h0 ?h1 ?h2 ?h ?hs); (case hs => (intro _ _; exact rfl)); (case ha => tb_start); (case h0 => omega); (case h1 => omega); (case h2 => omega))
  | ((with_reducible refine' s_list ?hx ?h0 ?hsz ?h ?hs); (case hs => (intro _ _; exact rfl)); (case h0 => (simp; done)); (case hx => exact rfl); (case hsz => (simp; done)))
  | ((with_reducible refine' s_tup ?h0 ?hx ?hsz ?h ?hs); (case hs => (intro _ _; exact rfl)); (case h0 => omega); (case hx => exact rfl); (case hsz => (simp; done)))
  | ((with_reducible refine' o_shl1 ?h1 ?h); (case h1 => omega))
  | with_reducible refine' o_shr ?_
  | with_reducible refine' i_shr ?_
  | with_reducible refine' o_mask ?_
  | ((with_reducible refine' o_pow2 ?h1 ?h); (case h1 => omega))
  | ((with_reducible refine' o_divN ?h1 ?h2 ?h); (case h1 => omega); (case h2 => omega))
  | ((with_reducible refine' o_mdN ?h1 ?h); (case h1 => omega))
  | ((with_reducible refine' o_div ?h1 ?h2 ?h); (case h1 => omega); (case h2 => omega))
  | ((with_reducible refine' o_md ?h1 ?h); (case h1 => omega))
  | ((with_reducible refine' i_md ?h1 ?h); (case h1 => omega))
  | ((with_reducible refine' o_shl ?h1 ?h2 ?h); (case h1 => omega); (case h2 => omega))
  | ((with_reducible refine' o_orL ?h1 ?h2 ?h3 ?h); (case h1 => omega); (case h2 => omega); (case h3 => omega))
  | ((with_reducible refine' o_orR ?h1 ?h2 ?h3 ?h); (case h1 => omega); (case h2 => omega); (case h3 => omega))
  | ((with_reducible refine' i_orR ?h1 ?h2 ?h3 ?h); (case h1 => omega); (case h2 => omega); (case h3 => omega))
  | with_reducible refine' o_addN ?_
  | with_reducible refine' o_addN1 ?_
  | with_reducible refine' o_add ?_
  | ((with_reducible refine' o_subN ?h1 ?h); (case h1 => omega))
  | with_reducible refine' o_sub ?_
  | with_reducible refine' i_add ?_
  | with_reducible refine' i_sub ?_
  | with_reducible refine' o_neg ?_
  | with_reducible refine' c_eq ?_
  | with_reducible refine' c_ne ?_
  | with_reducible refine' c_lt ?_
  | with_reducible refine' c_le ?_
  | with_reducible refine' c_gt ?_
  | with_reducible refine' c_ge ?_
  | with_reducible refine' c_eqb ?_
  | with_reducible refine' c_neb ?_
  | with_reducible refine' o_notB ?_
  | with_reducible refine' exTB ?_
  | with_reducible refine' exTI ?_
  | with_reducible refine' exI ?_
  | with_reducible refine' exNat ?_
  | with_reducible refine' exL ?_
  | with_reducible refine' exT2 ?_
  | with_reducible refine' exT3 ?_
  | with_reducible refine' exR ?_
  | with_reducible refine' andLit ?_
  | with_reducible refine' andSt ?_
  | ((with_reducible refine' andLen ?h1 ?h); (case h1 => (simp; done)))
  | ((with_reducible refine' exRng1 ?h1 ?h); (case h1 => (unfold Fit; omega)))
  | ((with_reducible refine' exRng2 ?h1 ?h2 ?h); (case h1 => (unfold Fit; omega)); (case h2 => (unfold Fit; omega)))
  | ((with_reducible refine' exRngD ?he ?h1 ?h2 ?h); (case he => omega); (case h1 => (unfold Fit; omega)); (case h2 => (unfold Fit; omega)))
  | ((with_reducible refine' exApp ?h1 ?h); (case h1 => tb_start))
  | ((with_reducible refine' exAppZ ?h1 ?h2 ?h); (case h1 => tb_start); (case h2 => omega))
  | ((with_reducible refine' exSetZ ?h1 ?h2 ?h3 ?h4 ?h); (case h1 => tb_start); (case h2 => omega); (case h3 => ((try simp only [List.length_set, List.length_replicate, List.length_append, List.length_cons, List.length_nil]); omega)); (case h4 => ((try simp only [List.length_set, List.length_replicate, List.length_append, List.length_cons, List.length_nil]); omega)))
  | with_reducible refine' wE_listOf ?_
  | with_reducible refine' andNext ?_
  | fail "no step")

section
variable {g : G PP} {c : Cx} {S : St}
theorem law_enter {d : DefRec} {f : Str} {n : Nat} {S : St} {Q : F → St → Prop} {body : List Stmt} {scope : Scope}
    (hname : d.name = f) (hbody : d.body = body) (hscope : d.scope = scope) (hk : scope.kind = .function)
    (h : WS g ⟨n, f, scope, hk, LawAx g⟩ body S Q) : ∃ hk', WS g ⟨n, d.name, d.scope, hk', LawAx g⟩ d.body S Q := by
  subst hname hbody hscope
  exact ⟨hk, h⟩

theorem call1_builtin {M : Model} {A : Around} {E : Value → Shared → Prop} {s : Shared} {id : String} {func e : Expr} {pos : Pos} {env : Env} {Q : Value → Shared → Prop}
    (hf : wpAny M A (eval func env) (fun f s₁ => f = .builtin id ∧ wpAny M A (eval e env) (fun v s₂ => wpAny M A (call (.builtin id) [v]) Q E s₂) E s₁) E s)
    (hc : eval (.Call func [e] [] pos) env = (do callWith pos (← eval func env) [] (backTo pos (starEach [e] env)) [])) (hs : backTo pos (starEach [e] env) = [(false, eval e env)]) : wpAny M A (eval (.Call func [e] [] pos) env) Q E s := by
  refine call_name hc (wpAny_mono hf (fun f s₁ h => ?_) fun _ _ h => h)
  obtain ⟨rfl, h⟩ := h
  rw [hs]
  exact Calls.callWith_builtin rfl (Calls.evalArgs_plain (Calls.spliced_cons (wpAny_mono h (fun v s₂ h => Calls.spliced_nil h) fun _ _ h => h)))
theorem call1_type {M : Model} {A : Around} {E : Value → Shared → Prop} {s : Shared} {T : String} {func e : Expr} {pos : Pos} {env : Env} {Q : Value → Shared → Prop}
    (hf : wpAny M A (eval func env) (fun f s₁ => f = .type T ∧ wpAny M A (eval e env) (fun v s₂ => wpAny M A (call (.type T) [v]) Q E s₂) E s₁) E s)
    (hc : eval (.Call func [e] [] pos) env = (do callWith pos (← eval func env) [] (backTo pos (starEach [e] env)) [])) (hs : backTo pos (starEach [e] env) = [(false, eval e env)]) : wpAny M A (eval (.Call func [e] [] pos) env) Q E s := by
  refine call_name hc (wpAny_mono hf (fun f s₁ h => ?_) fun _ _ h => h)
  obtain ⟨rfl, h⟩ := h
  rw [hs]
  exact PySem.callWith_type rfl (Calls.evalArgs_plain (Calls.spliced_cons (wpAny_mono h (fun v s₂ h => Calls.spliced_nil h) fun _ _ h => h)))

/-- what stands between the statements of a turn -/
def LS (ad am de : Addr) (w : Nat) (gs : List Int) (ms ds : List V) (num : Int) (k : Nat) (S : St) : Prop :=
  S.m "tub" = some (.ref ad) ∧ S.σ ad = some [.int (k : Int), .list (zints gs)] ∧ S.m "w" = some (.int w) ∧ S.m "number" = some (.int num) ∧ S.m "moments" = some (.ref am) ∧ S.σ am = some ms ∧ S.m "deeds" = some (.ref de) ∧ S.σ de = some ds

theorem t_sifted0 (a : Addr) (gs : List Int) (m : Int) (hgs : gs.length ≤ 1000) (hm : 1 ≤ m) :
    GCall g (g.fa "_law_sifted") 1 [.ref a, .int m] (fun q => if q = a then some [.int 0, .list (zints gs)] else none)
      (fun x σ' => ∃ l', σ' a = some l' ∧ (l' = [.int ((0 + 1 : Nat) : Int), .list (zints gs)] ∧ ∃ v : Int, x = .int v ∧ 0 ≤ v ∧ v < m)) := t_sifted a 0 gs m (by decide) hgs hm
theorem s_refN {value slice : Expr} {a : Addr} {l : List V} {k : Nat} {x : V} {Q : V → St → Prop} (ha : S.σ a = some l) (hx : l[k]? = some x) (hsz : l.length < 2 ^ 63) (h : Q x S)
    (hs : NoSlice slice := by intro _ _; rfl) : Op2 g c Rep (subscriptTail value slice) (.ref a) (.int (k : Int)) S Q :=
  s_ref ha (by unfold place; rw [if_neg (by omega), Int.toNat_natCast]; exact hx) (by omega) hsz h hs
theorem s_refM {value slice : Expr} {a : Addr} {l : List V} {k : Nat} {x : V} {i : Int} {Q : V → St → Prop} (ha : S.σ a = some l) (hi : i = (k : Int) - l.length) (hk : k < l.length) (hx : l[k]? = some x) (hsz : l.length < 2 ^ 63) (h : Q x S)
    (hs : NoSlice slice := by intro _ _; rfl) : Op2 g c Rep (subscriptTail value slice) (.ref a) (.int i) S Q :=
  s_ref ha (by unfold place; rw [if_pos (by omega), show (i + (l.length : Nat)).toNat = k by omega]; exact hx) (by omega) hsz h hs
def LT (f o du : Int) (y x b : V) (m : Nat) (S : St) : Prop :=
  S.m "form" = some (.int f) ∧ S.m "other" = some (.int o) ∧ S.m "deed" = some (.tup [.int f, y, .int (m : Int)]) ∧ S.m "x" = some x ∧ S.m "lost" = some b ∧ S.m "due" = some (.int du)
theorem t_law (la : Addr) (arr : Array Value) (ns : List Int) (hil : g.hB.IsList la arr) (hr : ∀ W, RepL W arr.toList (zints ns)) (hns : ns.length ≤ 63) :
    ∃ hk, WS g ⟨12, (dOf 36).name, (dOf 36).scope, hk, LawAx g⟩ (dOf 36).body ⟨fun y => ((["script"] : List Str).zip [V.lit (.ref la)]).reverse.lookup y, fun _ => none⟩ (fun fl S' => fl = .ret (.bool true)) := by
  refine' law_enter (f := "law") (hname := rfl) (hbody := ?enB) (hscope := ?enS) (hk := ?enK) (h := ?enH)
  case enB => (conv => lhs; whnf)
  case enS => (conv => lhs; whnf)
  case enK => rfl
  refine wS_cons ?_
  refine' wX_assign ?_ ?hl1 ?hs1
  case hl1 => exact rfl
  case hs1 => (intros; exact rfl)
  refine wE_listM ?_
  refine' wA_cons ?_ ?hs2
  case hs2 => (intro _; exact rfl)
  refine wE_int ?_
  refine' wA_cons ?_ ?hs3
  case hs3 => (intro _; exact rfl)
  refine' wE_comp (f := fun i => if i < 0 then -i else i) ?_ ?hel ?hclos ?hcell ?hkind ?hnames ?hx ?hs
  case hclos => (intros; exact rfl)
  case hcell => decide +kernel
  case hkind => exact rfl
  case hnames => decide +kernel
  case hx => exact rfl
  case hs => (intros; exact rfl)
  case hel =>
    intro A L a cd C i t s m hh hb hn hm
    refine call1_builtin (id := "abs") ?_ rfl rfl
    refine Calls.Name_function_global rfl rfl (Calls.loadGlobal_builtin (mg := g.mg) (mb := g.mb) (g.T.g.keeps hb) (g.bi _ (by decide +kernel)) (g.T.b.keeps hb) ((g.T.builtins "abs" (by decide)).trans boot_abs) ?_) (by decide +kernel)
    refine ⟨rfl, ?_⟩
    refine call1_type (T := "int") ?_ rfl rfl
    refine Calls.Name_function_global rfl rfl (Calls.loadGlobal_builtin (mg := g.mg) (mb := g.mb) (g.T.g.keeps hb) (g.bi _ (by decide +kernel)) (g.T.b.keeps hb) ((g.T.builtins "int" (by decide)).trans boot_int) ?_) (by decide +kernel)
    refine ⟨rfl, ?_⟩
    refine wpAny_Name (wpAny_loadName_local rfl rfl hn hm ?_) (by decide +kernel)
    refine call_int_int ?_
    refine call_abs_int fun u tk => ?_
    exact ⟨⟨u, rfl⟩, tk, rfl⟩
  refine' wE_sliceS (la := la) (arr := arr) (ns := ns) (hx := ?hxx) hil hr (by omega) ?_ ?hll ?hdd
  case hll => exact rfl
  case hdd => decide +kernel
  case hxx => tb_start
  refine wP_none ?_
  refine wP_some ?_
  refine wE_int ?_
  refine ⟨28, rfl, rfl, ?_⟩
  refine ⟨ns.take 28, by rw [pick_to _ _ (by omega), zints_take]; rfl, by rw [List.length_take]; omega, ?_⟩
  generalize hgs : (ns.take 28).map (fun i => if i < 0 then -i else i) = gs
  have hgl : gs.length ≤ 1000 := by rw [← hgs, List.length_map, List.length_take]; omega
  refine wA_nil ⟨by simp, fun ad hat => ?_⟩
  dsimp only
  refine wS_seq (fun S' => ∃ (w : Nat) (num : Int), 4 ≤ w ∧ w ≤ 9 ∧ num.natAbs ≤ 999 ∧ S'.m "w" = some (.int w) ∧ S'.m "number" = some (.int num) ∧ S'.m "tub" = some (.ref ad) ∧ S'.σ ad = some [.int ((0 + 1 + 1 : Nat) : Int), .list (zints gs)]) ?_ ?_
  · repeat' tb_rel
    refine op_lend (a := ad) (l := [.int 0, .list (zints gs)]) (by tb_start) (t_sifted0 ad gs 6 hgl (by decide)) (by show (_ : Nat) ≤ 12; decide) ?_
    rintro x l' ⟨rfl, v, rfl, hv0, hv1⟩
    repeat' tb_rel
    refine op_lend (a := ad) (l := [.int ((0 + 1 : Nat) : Int), .list (zints gs)]) (by tb_start) (t_sifted ad (0 + 1) gs 1999 (by decide) hgl (by decide)) (by show (_ : Nat) ≤ 12; decide) ?_
    rintro x l' ⟨rfl, v2, rfl, hv2, hv3⟩
    repeat' tb_rel
    obtain ⟨w, hw⟩ : ∃ w : Nat, 4 + v = (w : Int) := ⟨(4 + v).toNat, by omega⟩
    exact ⟨w, v2 - 999, by omega, by omega, by omega, by rw [← hw]; tb_start, by tb_start, by tb_start, by tb_start⟩
  clear hat
  rintro S ⟨w, num, hw4, hw9, hnum, hww, hnu, htub, hsad⟩
  have hw' : 1 ≤ w ∧ w ≤ 29 := by omega
  refine wS_seq (fun S' => ∃ (am de : Addr) (v : V), am ≠ ad ∧ de ≠ ad ∧ de ≠ am ∧ Num w v num ∧ LS ad am de w gs [v] [] num (0 + 1 + 1) S') ?_ ?_
  · tb_rel
    tb_rel
    tb_rel
    refine wE_listM ?_
    repeat' tb_rel
    refine op_pure (t_law_signed w hw' num (by unfold Sm; omega)) (by show (_ : Nat) ≤ 12; decide) fun r hr => ?_
    repeat' tb_rel
    intro am ham
    have ham : S.σ am = none := ham
    have hne1 : am ≠ ad := fun h => by rw [h, hsad] at ham; cases ham
    have hne1' : ad ≠ am := fun h => hne1 h.symm
    repeat' tb_rel
    refine wE_listNew fun de hde => ?_
    have hde' : S.σ de = none ∧ de ≠ am := by
      have h : upd S.σ am [r] de = none := hde
      unfold upd at h
      split at h
      · cases h
      · rename_i hh; exact ⟨h, hh⟩
    have hne2 : de ≠ ad := fun h => by have := hde'.1; rw [h, hsad] at this; cases this
    have hne2' : ad ≠ de := fun h => hne2 h.symm
    have hne3 := hde'.2
    have hne3' : am ≠ de := fun h => hne3 h.symm
    repeat' tb_rel
    refine ⟨am, de, r, hne1, hne2, hne3, hr, ?_⟩
    exact ⟨by tb_start, by tb_start, by tb_start, by tb_start, by tb_start, by tb_start, by tb_start, by tb_start⟩
  clear hww hnu htub hsad S
  rintro S ⟨am, de, v0, hne1, hne2, hne3, hv0, htub, hsad, hww, hnu, hmo, hsam, hdd, hsde⟩
  have hne1' : ad ≠ am := fun h => hne1 h.symm
  have hne2' : ad ≠ de := fun h => hne2 h.symm
  have hne3' : am ≠ de := fun h => hne3 h.symm
  refine wS_seq (fun S' => ∃ (k j : Nat) (num : Int) (ms ds : List V), j ≤ 8 ∧ Hist w j ms ds num ∧ LS ad am de w gs ms ds num k S') ?_ ?_
  · repeat' tb_rel
    refine op_lend (a := ad) (l := [.int ((0 + 1 + 1 : Nat) : Int), .list (zints gs)]) (by tb_start) (t_sifted ad (0 + 1 + 1) gs 8 (by decide) hgl (by decide)) (by show (_ : Nat) ≤ 12; decide) ?_
    rintro x l' ⟨rfl, v8, rfl, h80, h81⟩
    repeat' tb_rel
    refine loop_inv (fun vs S => ∃ (j n k : Nat) (num : Int) (ms ds : List V), vs = upTo (j : Int) (n - j) ∧ j ≤ n ∧ n ≤ 8 ∧ k ≤ 3 + 3 * j ∧ Hist w j ms ds num ∧ LS ad am de w gs ms ds num k S) ?_ ?_ ?_
    · clear htub hsad hww hnu hmo hsam hdd hsde S hv0 v0 hnum num
      rintro u vs S ⟨j, n, k, num, ms, ds, hvs, hj, hn, hk, hh, htub, hsad, hww, hnu, hmo, hsam, hdd, hsde⟩
      obtain ⟨q, hq, rfl, rfl⟩ := upTo_cons hvs
      obtain ⟨hl1, hl2⟩ := hh.len
      obtain ⟨v, hv, hvn⟩ := hh.last
      have hj8 : 512 ^ j ≤ 512 ^ 8 := Nat.pow_le_pow_right (by decide) (by omega)
      have hbd := hh.bound
      have htm : Tm num := by unfold Tm; omega
      -- form and other
      refine wS_seq (fun S' => ∃ (f o : Int), (0 ≤ f ∧ f < 10) ∧ (1 ≤ o ∧ o ≤ 63) ∧ S'.m "form" = some (.int f) ∧ S'.m "other" = some (.int o) ∧ LS ad am de w gs ms ds num (k + 1 + 1) S') ?_ ?_
      · repeat' tb_rel
        refine op_lend (a := ad) (l := [.int (k : Int), .list (zints gs)]) (by tb_start) (t_sifted ad k gs 10 (by omega) hgl (by decide)) (by show (_ : Nat) ≤ 12; decide) ?_
        rintro x l' ⟨rfl, f, rfl, hf0, hf1⟩
        repeat' tb_rel
        refine op_lend (a := ad) (l := [.int ((k + 1 : Nat) : Int), .list (zints gs)]) (by tb_start) (t_sifted ad (k + 1) gs 63 (by omega) hgl (by decide)) (by show (_ : Nat) ≤ 12; decide) ?_
        rintro x l' ⟨rfl, o, rfl, ho0, ho1⟩
        repeat' tb_rel
        refine ⟨f, 1 + o, ⟨hf0, hf1⟩, by omega, by tb_start, by tb_start, ?_⟩
        exact ⟨by tb_start, by tb_start, by tb_start, by tb_start, by tb_start, by tb_start, by tb_start, by tb_start⟩
      clear htub hsad hww hnu hmo hsam hdd hsde S
      rintro S ⟨f0, o0, hf0, ho0, hfo, hot, htub, hsad, hww, hnu, hmo, hsam, hdd, hsde⟩
      refine wS_seq (fun S' => ∃ (o : Int), (o ≠ 0 ∧ o.natAbs ≤ 63) ∧ S'.m "form" = some (.int f0) ∧ S'.m "other" = some (.int o) ∧ LS ad am de w gs ms ds num (k + 1 + 1 + 1) S') ?_ ?_
      · repeat' tb_rel
        refine op_lend (a := ad) (l := [.int ((k + 1 + 1 : Nat) : Int), .list (zints gs)]) (by tb_start) (t_sifted ad (k + 1 + 1) gs 2 (by omega) hgl (by decide)) (by show (_ : Nat) ≤ 12; decide) ?_
        rintro x l' ⟨rfl, z, rfl, hz0, hz1⟩
        repeat' tb_rel
        refine iteEq (fun h => ?_) (fun h => ?_)
        · repeat' tb_rel
          refine ⟨o0, by omega, by tb_start, by tb_start, ?_⟩
          exact ⟨by tb_start, by tb_start, by tb_start, by tb_start, by tb_start, by tb_start, by tb_start, by tb_start⟩
        · repeat' tb_rel
          refine ⟨0 - o0, by omega, by tb_start, by tb_start, ?_⟩
          exact ⟨by tb_start, by tb_start, by tb_start, by tb_start, by tb_start, by tb_start, by tb_start, by tb_start⟩
      clear htub hsad hww hnu hmo hsam hdd hsde hfo hot S ho0 o0
      rintro S ⟨o, ho, hfo, hot, htub, hsad, hww, hnu, hmo, hsam, hdd, hsde⟩
      -- the refusal
      refine wS_seq (fun S' => S'.m "form" = some (.int f0) ∧ S'.m "other" = some (.int o) ∧ LS ad am de w gs ms ds num (k + 1 + 1 + 1) S') ?_ ?_
      · repeat' tb_rel
        refine iteEq (fun h => ?_) (fun h => ?_)
        · repeat' tb_rel
          refine s_refM (l := ms) (k := j) (x := v) (by tb_start) (by omega) (by omega) hv (by omega) ?_
          repeat' tb_rel
          refine op_refuses w hw' v num hvn htm.sm h (by show (_ : Nat) ≤ 12; decide) (fun A L h => h) ?_
          repeat' tb_rel
          refine iteNot ?_
          repeat' tb_rel
          refine ⟨by tb_start, by tb_start, ?_⟩
          exact ⟨by tb_start, by tb_start, by tb_start, by tb_start, by tb_start, by tb_start, by tb_start, by tb_start⟩
        · repeat' tb_rel
          refine ⟨by tb_start, by tb_start, ?_⟩
          exact ⟨by tb_start, by tb_start, by tb_start, by tb_start, by tb_start, by tb_start, by tb_start, by tb_start⟩
      clear htub hsad hww hnu hmo hsam hdd hsde hfo hot S
      rintro S ⟨hfo, hot, htub, hsad, hww, hnu, hmo, hsam, hdd, hsde⟩
      refine wS_seq (fun S' => ∃ f : Int, (0 ≤ f ∧ f < 10) ∧ (f = 9 → num % 2 = 0) ∧ S'.m "form" = some (.int f) ∧ S'.m "other" = some (.int o) ∧ LS ad am de w gs ms ds num (k + 1 + 1 + 1) S') ?_ ?_
      · repeat' tb_rel
        refine iteEq (fun h => ?_) (fun h => ?_)
        · repeat' tb_rel
          refine iteEq (fun h2 => ?_) (fun h2 => ?_)
          · repeat' tb_rel
            refine ⟨8, by omega, by omega, by tb_start, by tb_start, ?_⟩
            exact ⟨by tb_start, by tb_start, by tb_start, by tb_start, by tb_start, by tb_start, by tb_start, by tb_start⟩
          · repeat' tb_rel
            refine ⟨f0, hf0, by omega, by tb_start, by tb_start, ?_⟩
            exact ⟨by tb_start, by tb_start, by tb_start, by tb_start, by tb_start, by tb_start, by tb_start, by tb_start⟩
        · repeat' tb_rel
          refine ⟨f0, hf0, by omega, by tb_start, by tb_start, ?_⟩
          exact ⟨by tb_start, by tb_start, by tb_start, by tb_start, by tb_start, by tb_start, by tb_start, by tb_start⟩
      clear htub hsad hww hnu hmo hsam hdd hsde hfo hot S hf0 f0
      rintro S ⟨f, hf, h9, hfo, hot, htub, hsad, hww, hnu, hmo, hsam, hdd, hsde⟩
      -- the deed
      refine wS_seq (fun S' => ∃ (y : V) (m : Nat), Num w y o ∧ m ≤ 9 ∧ S'.m "form" = some (.int f) ∧ S'.m "other" = some (.int o) ∧ S'.m "deed" = some (.tup [.int f, y, .int (m : Int)]) ∧ LS ad am de w gs ms ds num (k + 1 + 1 + 1) S') ?_ ?_
      · obtain ⟨m, hm, hm9⟩ : ∃ m : Nat, (if o < 0 then -o else o) % 10 = (m : Int) ∧ m ≤ 9 := ⟨((if o < 0 then -o else o) % 10).toNat, by split <;> omega, by split <;> omega⟩
        repeat' tb_rel
        refine op_pure (t_law_signed w hw' o (by unfold Sm; omega)) (by show (_ : Nat) ≤ 12; decide) fun y hy => ?_
        repeat' tb_rel
        refine b_abs ?_
        repeat' tb_rel
        rw [hm]
        refine ⟨y, m, hy, hm9, by tb_start, by tb_start, by tb_start, ?_⟩
        exact ⟨by tb_start, by tb_start, by tb_start, by tb_start, by tb_start, by tb_start, by tb_start, by tb_start⟩
      clear htub hsad hww hnu hmo hsam hdd hsde hfo hot S
      rintro S ⟨y, m, hy, hm9, hfo, hot, hde, htub, hsad, hww, hnu, hmo, hsam, hdd, hsde⟩
      have hp1 : 1 ≤ 512 ^ j := Nat.pos_of_ne_zero (by simp)
      have hdl := due_le (f := f) ho hm9 hbd (by omega)
      have hds : Sm (due f num o m) := by unfold Sm; omega
      refine wS_seq (fun S' => ∃ (x b : V), Num w x (due f num o m) ∧ Lost w f b num o m ∧ S'.m "form" = some (.int f) ∧ S'.m "other" = some (.int o) ∧ S'.m "deed" = some (.tup [.int f, y, .int (m : Int)]) ∧ S'.m "x" = some x ∧ S'.m "lost" = some b ∧ LS ad am de w gs ms ds num (k + 1 + 1 + 1) S') ?_ ?_
      · repeat' tb_rel
        refine s_refM (l := ms) (k := j) (x := v) (by tb_start) (by omega) (by omega) hv (by omega) ?_
        repeat' tb_rel
        refine op_pure (t_law_done w (by omega) f num o m v y hf hvn hy htm ho hm9 h9) (by show (_ : Nat) ≤ 12; decide) fun r hr => ?_
        obtain ⟨x, b, rfl, hx, hb⟩ := hr
        repeat' tb_rel
        refine ⟨x, b, hx, hb, by tb_start, by tb_start, by tb_start, by tb_start, by tb_start, ?_⟩
        exact ⟨by tb_start, by tb_start, by tb_start, by tb_start, by tb_start, by tb_start, by tb_start, by tb_start⟩
      clear htub hsad hww hnu hmo hsam hdd hsde hfo hot hde S
      rintro S ⟨x, b, hx, hb, hfo, hot, hde, hxx, hlo, htub, hsad, hww, hnu, hmo, hsam, hdd, hsde⟩
      refine wS_seq (fun S' => LT f o (due f num o m) y x b m S' ∧ LS ad am de w gs ms ds num (k + 1 + 1 + 1) S') ?_ ?_
      · repeat' tb_rel
        refine op_pure (t_law_due f num o m y hf ho hm9) (by show (_ : Nat) ≤ 12; decide) fun r hr => ?_
        subst hr
        repeat' tb_rel
        refine ⟨?_, ?_⟩
        · exact ⟨by tb_start, by tb_start, by tb_start, by tb_start, by tb_start, by tb_start⟩
        · exact ⟨by tb_start, by tb_start, by tb_start, by tb_start, by tb_start, by tb_start, by tb_start, by tb_start⟩
      clear htub hsad hww hnu hmo hsam hdd hsde hfo hot hde hxx hlo S
      rintro S ⟨⟨hfo, hot, hde, hxx, hlo, hdu⟩, htub, hsad, hww, hnu, hmo, hsam, hdd, hsde⟩
      -- the three comparisons
      refine wS_seq (fun S' => LT f o (due f num o m) y x b m S' ∧ LS ad am de w gs ms ds num (k + 1 + 1 + 1) S') ?_ ?_
      · repeat' tb_rel
        refine op_pure (t_law_signed w hw' _ hds) (by show (_ : Nat) ≤ 12; decide) fun r hr => ?_
        refine c_neN (w := w) (by omega) hx hr ?_
        repeat' tb_rel
        refine op_pure (t_law_signed w hw' o (by unfold Sm; omega)) (by show (_ : Nat) ≤ 12; decide) fun r2 hr2 => ?_
        refine c_neN (w := w) (by omega) hy hr2 ?_
        repeat' tb_rel
        refine s_refM (l := ms) (k := j) (x := v) (by tb_start) (by omega) (by omega) hv (by omega) ?_
        repeat' tb_rel
        refine op_pure (t_law_signed w hw' num htm.sm) (by show (_ : Nat) ≤ 12; decide) fun r3 hr3 => ?_
        refine c_neN (w := w) (by omega) hvn hr3 ?_
        repeat' tb_rel
        refine ⟨?_, ?_⟩
        · exact ⟨by tb_start, by tb_start, by tb_start, by tb_start, by tb_start, by tb_start⟩
        · exact ⟨by tb_start, by tb_start, by tb_start, by tb_start, by tb_start, by tb_start, by tb_start, by tb_start⟩
      clear htub hsad hww hnu hmo hsam hdd hsde hfo hot hde hxx hlo hdu S
      rintro S ⟨⟨hfo, hot, hde, hxx, hlo, hdu⟩, htub, hsad, hww, hnu, hmo, hsam, hdd, hsde⟩
      -- what a division leaves
      refine wS_seq (fun S' => LT f o (due f num o m) y x b m S' ∧ LS ad am de w gs ms ds num (k + 1 + 1 + 1) S') ?_ ?_
      · repeat' tb_rel
        refine iteD (fun h => ?_) (fun h => ?_)
        · repeat' tb_rel
          refine iteD (fun h6 => ?_) (fun h6 => ?_)
          · repeat' tb_rel
            refine o_mulR (by omega) ?_
            repeat' tb_rel
            have hb' : Num w b (num - due f num o m * o) := by
              unfold Lost at hb; rw [if_pos (by omega)] at hb; exact hb
            refine op_pure (t_law_signed w hw' _ ?_) (by show (_ : Nat) ≤ 12; decide) fun r hr => ?_
            · have := mul_le hdl (show o.natAbs ≤ 512 by omega)
              unfold Sm; omega
            refine c_neN (w := w) (by omega) hb' hr ?_
            repeat' tb_rel
            refine ⟨?_, ?_⟩
            · exact ⟨by tb_start, by tb_start, by tb_start, by tb_start, by tb_start, by tb_start⟩
            · exact ⟨by tb_start, by tb_start, by tb_start, by tb_start, by tb_start, by tb_start, by tb_start, by tb_start⟩
          · repeat' tb_rel
            refine ⟨?_, ?_⟩
            · exact ⟨by tb_start, by tb_start, by tb_start, by tb_start, by tb_start, by tb_start⟩
            · exact ⟨by tb_start, by tb_start, by tb_start, by tb_start, by tb_start, by tb_start, by tb_start, by tb_start⟩
        · repeat' tb_rel
          refine ⟨?_, ?_⟩
          · exact ⟨by tb_start, by tb_start, by tb_start, by tb_start, by tb_start, by tb_start⟩
          · exact ⟨by tb_start, by tb_start, by tb_start, by tb_start, by tb_start, by tb_start, by tb_start, by tb_start⟩
      clear htub hsad hww hnu hmo hsam hdd hsde hfo hot hde hxx hlo hdu S
      rintro S ⟨⟨hfo, hot, hde, hxx, hlo, hdu⟩, htub, hsad, hww, hnu, hmo, hsam, hdd, hsde⟩
      -- two in a row
      refine wS_seq (fun S' => LT f o (due f num o m) y x b m S' ∧ LS ad am de w gs ms ds num (k + 1 + 1 + 1) S') ?_ ?_
      · obtain ⟨dd, hdp, hdsh⟩ := hh.shaped
        repeat' tb_rel
        refine wE_listEmp ?_
        refine c_neEmp (l := ds) (by tb_start) hdp hdsh ?_
        repeat' tb_rel
        refine iteB (fun h => ?_) (fun h => ?_)
        · have hj1 : 1 ≤ j := by
            cases ds with
            | nil => simp at h
            | cons _ _ => simp at hl2; omega
          obtain ⟨f', o', n', m', x', x'', y', b', a1, a2, a3, a4, a5, a6, a7, a8, a9, a10, a11, a12, a13⟩ := hh.at (j - 1) (by omega)
          have hnum := a13 (by omega)
          have sw : ((0 ≤ f' ∧ f' < 2 ∧ 0 ≤ f ∧ f < 2) ∨ (f' = 2 ∧ f = 2)) → GCall g (g.fa "_law_swapped") 9 [x'', .tup [.int f', y', .int (m' : Int)], .tup [.int f, y, .int (m : Int)], .int w] (fun _ => none) (fun r _ => Num w r (due f num o m)) := fun hc => by
            have := t_law_swapped (g := g) w (by omega) f' f n' o' o m' m x'' y' y (by omega) (by omega) a8 a5 hy (by omega) a2 ho a3 hm9
            rw [due_comm hc, hnum] at this
            exact this
          repeat' tb_rel
          refine iteD (fun h1 => ?_) (fun h1 => ?_)
          · repeat' tb_rel
            refine s_refM (l := ds) (k := j - 1) (by tb_start) (by omega) (by omega) a9 (by omega) ?_
            repeat' tb_rel
            refine iteD (fun h2 => ?_) (fun h2 => ?_)
            · repeat' tb_rel
              refine s_refM (l := ms) (k := j - 1) (by tb_start) (by omega) (by omega) a11 (by omega) ?_
              repeat' tb_rel
              refine s_refM (l := ds) (k := j - 1) (by tb_start) (by omega) (by omega) a9 (by omega) ?_
              repeat' tb_rel
              refine op_pure (sw (.inl ⟨a1.1, h2, hf.1, h1⟩)) (by show (_ : Nat) ≤ 12; decide) fun r hr => ?_
              repeat' tb_rel
              refine c_neN (w := w) (by omega) hr hx ?_
              repeat' tb_rel
              refine ⟨?_, ?_⟩
              · exact ⟨by tb_start, by tb_start, by tb_start, by tb_start, by tb_start, by tb_start⟩
              · exact ⟨by tb_start, by tb_start, by tb_start, by tb_start, by tb_start, by tb_start, by tb_start, by tb_start⟩
            · repeat' tb_rel
              refine iteEq (fun h3 => absurd h3 (by omega)) (fun h3 => ?_)
              repeat' tb_rel
              refine ⟨?_, ?_⟩
              · exact ⟨by tb_start, by tb_start, by tb_start, by tb_start, by tb_start, by tb_start⟩
              · exact ⟨by tb_start, by tb_start, by tb_start, by tb_start, by tb_start, by tb_start, by tb_start, by tb_start⟩
          · repeat' tb_rel
            refine iteEq (fun h3 => ?_) (fun h3 => ?_)
            · repeat' tb_rel
              refine s_refM (l := ds) (k := j - 1) (by tb_start) (by omega) (by omega) a9 (by omega) ?_
              repeat' tb_rel
              refine iteEq (fun h4 => ?_) (fun h4 => ?_)
              · repeat' tb_rel
                refine s_refM (l := ms) (k := j - 1) (by tb_start) (by omega) (by omega) a11 (by omega) ?_
                repeat' tb_rel
                refine s_refM (l := ds) (k := j - 1) (by tb_start) (by omega) (by omega) a9 (by omega) ?_
                repeat' tb_rel
                refine op_pure (sw (.inr ⟨h4, h3⟩)) (by show (_ : Nat) ≤ 12; decide) fun r hr => ?_
                repeat' tb_rel
                refine c_neN (w := w) (by omega) hr hx ?_
                repeat' tb_rel
                refine ⟨?_, ?_⟩
                · exact ⟨by tb_start, by tb_start, by tb_start, by tb_start, by tb_start, by tb_start⟩
                · exact ⟨by tb_start, by tb_start, by tb_start, by tb_start, by tb_start, by tb_start, by tb_start, by tb_start⟩
              · repeat' tb_rel
                refine ⟨?_, ?_⟩
                · exact ⟨by tb_start, by tb_start, by tb_start, by tb_start, by tb_start, by tb_start⟩
                · exact ⟨by tb_start, by tb_start, by tb_start, by tb_start, by tb_start, by tb_start, by tb_start, by tb_start⟩
            · repeat' tb_rel
              refine ⟨?_, ?_⟩
              · exact ⟨by tb_start, by tb_start, by tb_start, by tb_start, by tb_start, by tb_start⟩
              · exact ⟨by tb_start, by tb_start, by tb_start, by tb_start, by tb_start, by tb_start, by tb_start, by tb_start⟩
        · repeat' tb_rel
          refine ⟨?_, ?_⟩
          · exact ⟨by tb_start, by tb_start, by tb_start, by tb_start, by tb_start, by tb_start⟩
          · exact ⟨by tb_start, by tb_start, by tb_start, by tb_start, by tb_start, by tb_start, by tb_start, by tb_start⟩
      clear htub hsad hww hnu hmo hsam hdd hsde hfo hot hde hxx hlo hdu S
      rintro S ⟨⟨hfo, hot, hde, hxx, hlo, hdu⟩, htub, hsad, hww, hnu, hmo, hsam, hdd, hsde⟩
      repeat' tb_rel
      refine exAppV (l := ms) (by tb_start) (by omega) ?_
      repeat' tb_rel
      refine exAppV (l := ds) (by tb_start) (by omega) ?_
      repeat' tb_rel
      refine ⟨j + 1, n, k + 1 + 1 + 1, due f num o m, ms ++ [x], ds ++ [.tup [.tup [.int f, y, .int (m : Int)], b]], by congr 1 <;> omega, by omega, hn, by omega, .step hh hf ho hm9 h9 hy hx hb, ?_⟩
      exact ⟨by tb_start, by tb_start, by tb_start, by tb_start, by tb_start, by tb_start, by tb_start, by tb_start⟩
    · rintro S ⟨j, n, k, num, ms, ds, hvs, hj, hn, hk, hh, hls⟩
      exact ⟨rfl, k, j, num, ms, ds, by omega, hh, hls⟩
    · refine ⟨0, (1 + v8).toNat, 0 + 1 + 1 + 1, num, [v0], [], by simp, by omega, by omega, by omega, .start hv0 (by omega), ?_⟩
      exact ⟨by tb_start, by tb_start, by tb_start, by tb_start, by tb_start, by tb_start, by tb_start, by tb_start⟩
  clear htub hsad hww hnu hmo hsam hdd hsde S hv0 v0 hnum num
  rintro S ⟨k, j, num, ms, ds, hj, hh, htub, hsad, hww, hnu, hmo, hsam, hdd, hsde⟩
  obtain ⟨hl1, hl2⟩ := hh.len
  repeat' tb_rel
  refine b_len_ref (l := ds) (by tb_start) (by omega) ?_
  repeat' tb_rel
  refine loop_inv (fun vs S => ∃ (i : Nat), vs = downFrom ((i : Int) - 1) i ∧ i ≤ j ∧ LS ad am de w gs ms ds num k S) ?_ ?_ ?_
  · clear htub hsad hww hnu hmo hsam hdd hsde S
    rintro u vs S ⟨i1, hvs, hi, htub, hsad, hww, hnu, hmo, hsam, hdd, hsde⟩
    obtain ⟨i, rfl, rfl, rfl⟩ := downFrom_cons hvs
    have ej : ((i + 1 : Nat) : Int) - 1 = (i : Int) := by omega
    rw [ej]
    obtain ⟨f, o, n', m, x, x', y, b, a1, a2, a3, a4, a5, a6, a7, a8, a9, a10, a11, a12, _⟩ := hh.at i (by omega)
    have hj8 : 512 ^ j ≤ 512 ^ 8 := Nat.pow_le_pow_right (by decide) hj
    have htm : Tm n' := by unfold Tm; omega
    repeat' tb_rel
    refine s_refN (l := ds) (by tb_start) a9 (by omega) ?_
    repeat' tb_rel
    refine s_refN (l := ms) (k := i + 1) (by tb_start) a10 (by omega) ?_
    repeat' tb_rel
    refine s_refN (l := ds) (by tb_start) a9 (by omega) ?_
    repeat' tb_rel
    refine op_pure (t_law_undone w (by omega) f n' o m x y b a1 a6 a5 a7 htm a2 a3 a4) (by show (_ : Nat) ≤ 12; decide) fun r hr => ?_
    repeat' tb_rel
    refine s_refN (l := ms) (by tb_start) a11 (by omega) ?_
    refine c_neN (w := w) (by omega) hr a8 ?_
    repeat' tb_rel
    refine ⟨i, rfl, by omega, ?_⟩
    exact ⟨by tb_start, by tb_start, by tb_start, by tb_start, by tb_start, by tb_start, by tb_start, by tb_start⟩
  · rintro S ⟨i, hvs, hi, htub, hsad, hww, hnu, hmo, hsam, hdd, hsde⟩
    repeat' tb_rel
    rfl
  · refine ⟨j, by rw [hl2]; congr 1 <;> omega, by omega, ?_⟩
    exact ⟨by tb_start, by tb_start, by tb_start, by tb_start, by tb_start, by tb_start, by tb_start, by tb_start⟩
end
end Mine

namespace Mine
theorem bi_free : ∀ x ∈ biNames, x ∉ startupNames ∧ x ∉ looseW PP [] ∧ x ∉ (recsOf PP).map (·.name) ∧ x ∉ (litsOf PP).map (·.1) ∧ x ∉ (clssOf PP (looseW PP [])).map (·.name) := by decide +kernel

theorem law_join {prog : Program} {wd : World} {mean : ExcName → Option Value} {mg mb : Str → Option Value} {s₁ : Shared} {h₁ : Heap} {tk : Nat} {la fa : Addr} {cd : Value} {items : List Value} {ns : List Int} {Q : Flow → Shared → Prop} {E : Value → Shared → Prop}
    (T : Top PP (looseW PP []) mean mg mb s₁.heap) (hL : s₁.heap.IsList la items.toArray) (hI : IntsAre items ns) (hlen : ns.length ≤ 63)
    (F : Fr s₁.heap s₁.heap.objs.size h₁ (fun x => ([(("script" : Str), Value.ref la)]).reverse.lookup x))
    (hq : ∀ h' tk', (∀ b o, s₁.heap.get? b = some o → h'.get? b = some o) → Q (.ret (.bool true)) { s₁ with heap := h', toks := tk' }) :
    wpAny (model prog wd) (callerA.deeper (envOf (dOf 36).name (dOf 36).scope s₁.heap.objs.size fa cd)) (execs (dOf 36).body (envOf (dOf 36).name (dOf 36).scope s₁.heap.objs.size fa cd)) Q E { s₁ with heap := h₁, toks := tk } := by
  have hbi : ∀ x, x ∈ biNames → mg x = none := fun x hx => by
    obtain ⟨a, b, c, d, e⟩ := bi_free x hx
    exact T.free x a b c d e
  obtain ⟨hk, hW⟩ := t_law (g := ⟨prog, wd, looseW PP [], mean, mg, mb, s₁.heap, s₁, T, hbi⟩) la items.toArray ns hL (fun W => by simpa using repL_ints hI) hlen
  have hnone : s₁.heap.get? s₁.heap.objs.size = none := Heap.get?_none_of_le (Nat.le_refl _)
  refine wpAny_noRaise (hW (callerA.deeper (envOf (dOf 36).name (dOf 36).scope s₁.heap.objs.size fa cd)) s₁.heap.objs.size fa cd (fun _ => none) (fun _ => none) { s₁ with heap := h₁, toks := tk } Q ⟨⟨rfl, ?_, ?_⟩, ?_⟩ ?_ ?_)
  · show 301 + 1 + 12 ≤ 900; decide
  · show callerA.units + 3 + 40 * 12 ≤ 9000; decide
  · refine ⟨⟨_, Around.frames_deeper rfl, ?_, rfl⟩, Nat.le_refl _⟩
    show (dOf 36).scope.kind ≠ .module
    rw [hk]; decide
  · exact { rest := ⟨h₁, tk, rfl⟩, base := F.keep, z := fun _ _ e => (by cases e), w := fun _ _ e => (by cases e), mu := fun _ _ e => (by cases e),
            ns := ⟨_, F.ns, fun y u e => repL_lookup (names := ["script"]) (vs := [.ref la]) (.cons (.lit _) .nil) y u e⟩, lz := rfl, lw := rfl, lb := hnone, lm := rfl }
  · intro W' x b S' s' e r rr h
    subst h
    cases r with
    | ret hr =>
      cases hr
      obtain ⟨h', tk', rfl⟩ := rr.rest
      exact hq h' tk' rr.base

theorem good_post (as ds : List WData) : Challenge.rw_sj0082_01.row.claim.post as (.bool true) ds = true := by
  show (WShape.has [] (.bool true) .bool && WTm.holds [] (.eq .res (.lit (.bool true))) { args := as, res := some (.bool true), after := ds }) = true
  simp [WShape.has, WTm.holds, WTm.value]
  refine ⟨⟨.bool, ?_, rfl⟩, ?_⟩
  · simp [WShape.arms]
  · have : same (WData.bool true) (WData.bool true) = true := by first | rfl | decide | simp [same]
    rw [this]
theorem good_true {cl : Str → Option Addr} {mean : ExcName → Option Value} {ns : List Int} {s₁ : Shared} {h : Heap} {tk : Nat} (hg : s₁.gens = #[]) (hk : ∀ b o, s₁.heap.get? b = some o → h.get? b = some o) :
    GoodW Challenge.rw_sj0082_01.row.claim cl mean [ofPy (PyData.list (List.map PyData.int ns))] s₁ (.ok (.ret (.bool true))) { s₁ with heap := h, toks := tk } :=
  ⟨.inl ⟨.bool true, .bool true, [], rfl, fun _ => rfl, .bool true, good_post _ _, fun _ => ⟨List.nodup_nil, fun _ h => nomatch h⟩⟩, hk, rfl, hg⟩
end Mine
theorem PySem.Challenge.cw_sj0082_01_holds : PySem.Challenge.rw_sj0082_01.Holds :=
  hd (by
  k_go0
  refine Mine.law_join (by assumption) (by assumption) (by assumption) (by omega) (by assumption) (fun h' tk' hk => ?_)
  exact Mine.good_true (by assumption) hk)
