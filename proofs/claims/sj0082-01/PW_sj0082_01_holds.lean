import PyProof.Rows.All
import OpenK.KCall
import KE.BitLaws
import Open.Line
import Wide.FinOn
import Wide.All
import PySem.Challenge.RW_sj0082_01
open PySem PySem.W PySem.Calls PyProof.Rows
set_option Elab.async false
set_option linter.unusedVariables false
set_option maxRecDepth 100000
set_option maxHeartbeats 8000000
namespace Mine
abbrev Fz := Addr → Option Obj
inductive V where
  | lit (v : Value)
  | bool (b : Bool)
  | int (i : Int)
  | ref (a : Addr)
  | list (l : List V)
  | tup (l : List V)
abbrev lobj (arr : Array Value) (n : Nat) : Obj := { cls := .type "list", dict := none, data := .seq arr n, slots := #[] }
abbrev tobj (arr : Array Value) (n : Nat) : Obj := { cls := .type "tuple", dict := none, data := .seq arr n, slots := #[] }
mutual
inductive Rep (W : Fz) : Value → V → Prop
  | lit (v : Value) : Rep W v (.lit v)
  | bool (b : Bool) : Rep W (.bool b) (.bool b)
  | int (i : Int) (t : Tok) : Rep W (.int i t) (.int i)
  | ref (a : Addr) : Rep W (.ref a) (.ref a)
  | list {a : Addr} {arr : Array Value} {n : Nat} {l : List V} : W a = some (lobj arr n) → RepL W arr.toList l → Rep W (.ref a) (.list l)
  | tup {a : Addr} {arr : Array Value} {n : Nat} {l : List V} : W a = some (tobj arr n) → RepL W arr.toList l → Rep W (.ref a) (.tup l)
inductive RepL (W : Fz) : List Value → List V → Prop
  | nil : RepL W [] []
  | cons {v : Value} {x : V} {vs : List Value} {l : List V} : Rep W v x → RepL W vs l → RepL W (v :: vs) (x :: l)
end
mutual
theorem Rep.mono {W W' : Fz} (h : ∀ a o, W a = some o → W' a = some o) : ∀ {v : Value} {x : V}, Rep W v x → Rep W' v x
  | _, _, .lit v => .lit v
  | _, _, .bool b => .bool b
  | _, _, .int i t => .int i t
  | _, _, .ref a => .ref a
  | _, _, .list e r => .list (h _ _ e) (RepL.mono h r)
  | _, _, .tup e r => .tup (h _ _ e) (RepL.mono h r)
theorem RepL.mono {W W' : Fz} (h : ∀ a o, W a = some o → W' a = some o) : ∀ {vs : List Value} {l : List V}, RepL W vs l → RepL W' vs l
  | _, _, .nil => .nil
  | _, _, .cons a r => .cons (Rep.mono h a) (RepL.mono h r)
end
theorem RepL.length {W : Fz} : ∀ {vs : List Value} {l : List V}, RepL W vs l → vs.length = l.length
  | _, _, .nil => rfl
  | _, _, .cons _ r => by simp [RepL.length r]
theorem RepL.get {W : Fz} : ∀ {vs : List Value} {l : List V} {i : Nat} {x : V}, RepL W vs l → l[i]? = some x → ∃ v, vs[i]? = some v ∧ Rep W v x
  | _, _, _, _, .nil, e => by simp at e
  | _, _, 0, _, .cons a _, e => by simp at e; subst e; exact ⟨_, rfl, a⟩
  | _, _, i+1, _, .cons _ r, e => by simpa using RepL.get r (i := i) (by simpa using e)
theorem RepL.append {W : Fz} : ∀ {vs us : List Value} {l k : List V}, RepL W vs l → RepL W us k → RepL W (vs ++ us) (l ++ k)
  | _, _, _, _, .nil, r => r
  | _, _, _, _, .cons a q, r => .cons a (RepL.append q r)
theorem RepL.take {W : Fz} : ∀ {vs : List Value} {l : List V}, RepL W vs l → ∀ n, RepL W (vs.take n) (l.take n)
  | _, _, .nil, _ => by simpa using RepL.nil
  | _, _, .cons _ _, 0 => .nil
  | _, _, .cons a r, n+1 => .cons a (RepL.take r n)
theorem RepL.drop {W : Fz} : ∀ {vs : List Value} {l : List V}, RepL W vs l → ∀ n, RepL W (vs.drop n) (l.drop n)
  | _, _, .nil, _ => by simpa using RepL.nil
  | _, _, .cons a r, 0 => .cons a r
  | _, _, .cons _ r, n+1 => RepL.drop r n
theorem RepL.set {W : Fz} : ∀ {vs : List Value} {l : List V}, RepL W vs l → ∀ (n : Nat) {v : Value} {x : V}, Rep W v x → RepL W (vs.set n v) (l.set n x)
  | _, _, .nil, _, _, _, _ => by simpa using RepL.nil
  | _, _, .cons _ r, 0, _, _, h => .cons h r
  | _, _, .cons a r, n+1, _, _, h => .cons a (RepL.set r n h)
theorem RepL.replicate {W : Fz} {v : Value} {x : V} (h : Rep W v x) : ∀ n, RepL W (List.replicate n v) (List.replicate n x)
  | 0 => .nil
  | n+1 => .cons h (RepL.replicate h n)
/-- the built-ins that the text asks for by name -/
noncomputable def biNames : List Str := ["len", "range", "abs", "min", "int", "enumerate"]
/-- the surroundings of every judgement -/
structure G (p : Program) where
  prog : Program
  w : World
  loose : List Str
  mean : ExcName → Option Value
  mg : Str → Option Value
  mb : Str → Option Value
  hB : Heap
  s0 : Shared
  T : Top p loose mean mg mb hB
  bi : ∀ x, x ∈ biNames → mg x = none
structure St where
  m : Str → Option V
  σ : Addr → Option (List V)
structure R0 {p : Program} (g : G p) (Z W : Fz) (σ : Addr → Option (List V)) (s : Shared) : Prop where
  rest : ∃ h tk, s = { g.s0 with heap := h, toks := tk }
  base : ∀ b o, g.hB.get? b = some o → s.heap.get? b = some o
  z : ∀ a o, Z a = some o → s.heap.get? a = some o
  w : ∀ a o, W a = some o → s.heap.get? a = some o
  mu : ∀ a l, σ a = some l → ∃ arr n, s.heap.get? a = some (lobj arr n) ∧ RepL W arr.toList l ∧ Z a = none ∧ W a = none ∧ g.hB.get? a = none
structure R {p : Program} (g : G p) (L : Addr) (Z W : Fz) (S : St) (s : Shared) : Prop extends R0 g Z W S.σ s where
  ns : ∃ mr, s.heap.Ns L mr ∧ ∀ x v, S.m x = some v → ∃ r, mr x = some r ∧ Rep W r v
  lz : Z L = none
  lw : W L = none
  lb : g.hB.get? L = none
  lm : S.σ L = none
structure Ext (Z W W' : Fz) : Prop where
  up : ∀ a o, W a = some o → W' a = some o
  fresh : ∀ a o, W' a = some o → W a = some o ∨ Z a = none
theorem Ext.refl {Z W : Fz} : Ext Z W W := ⟨fun _ _ e => e, fun _ _ e => .inl e⟩
theorem Ext.trans {Z W W' W'' : Fz} (x : Ext Z W W') (y : Ext Z W' W'') : Ext Z W W'' :=
  ⟨fun a o e => y.up a o (x.up a o e), fun a o e => (y.fresh a o e).elim (fun e' => x.fresh a o e') .inr⟩
theorem R0.keeps {p : Program} {g : G p} {Z W : Fz} {σ : Addr → Option (List V)} {s : Shared} (r : R0 g Z W σ s) {h' : Heap} {tk' : Nat}
    (k : ∀ b o, s.heap.get? b = some o → h'.get? b = some o) : R0 g Z W σ { s with heap := h', toks := tk' } where
  rest := by obtain ⟨h, tk, rfl⟩ := r.rest; exact ⟨h', tk', rfl⟩
  base := fun b o e => k _ _ (r.base b o e)
  z := fun b o e => k _ _ (r.z b o e)
  w := fun b o e => k _ _ (r.w b o e)
  mu := fun a l e => let ⟨arr, n, h1, h2⟩ := r.mu a l e; ⟨arr, n, k _ _ h1, h2⟩
theorem R.keeps {p : Program} {g : G p} {L : Addr} {Z W : Fz} {S : St} {s : Shared} (r : R g L Z W S s) {h' : Heap} {tk' : Nat}
    (k : ∀ b o, s.heap.get? b = some o → h'.get? b = some o) : R g L Z W S { s with heap := h', toks := tk' } where
  toR0 := r.toR0.keeps k
  ns := let ⟨mr, h1, h2⟩ := r.ns; ⟨mr, h1.keeps k, h2⟩
  lz := r.lz
  lw := r.lw
  lb := r.lb
  lm := r.lm
theorem R.tk {p : Program} {g : G p} {L : Addr} {Z W : Fz} {S : St} {s : Shared} (r : R g L Z W S s) {tk' : Nat} : R g L Z W S { s with toks := tk' } :=
  r.keeps (h' := s.heap) fun _ _ e => e
theorem R.push {p : Program} {g : G p} {L : Addr} {Z W : Fz} {S : St} {s : Shared} (r : R g L Z W S s) (o : Obj) {tk' : Nat} : R g L Z W S { s with heap := s.heap.push o, toks := tk' } :=
  r.keeps (h' := s.heap.push o) fun _ _ e => Heap.get?_push_of_some _ e
/-- what the level of a frame allows -/
structure Lv (n : Nat) (A : Around) : Prop where
  hh : A.handled = none
  dep : A.depth + n ≤ 900
  un : A.units + 40 * n ≤ 9000
theorem Lv.le {n m : Nat} {A : Around} (l : Lv n A) (h : m ≤ n) : Lv m A := ⟨l.hh, by have := l.dep; (first | lia | omega), by have := l.un; (first | lia | omega)⟩
structure Cx where
  lv : Nat
  name : Str
  scope : Scope
  fn : scope.kind = .function
  /-- what else is known of the frame -/
  ax : Around → Addr → Prop
structure LvC (c : Cx) (A : Around) (L : Addr) : Prop extends Lv c.lv A where
  ax : c.ax A L
abbrev Cx.env (c : Cx) (L a : Addr) (cd : Value) : Env := envOf c.name c.scope L a cd
noncomputable def Post {p : Program} (g : G p) (L : Addr) (Z W : Fz) {α β : Type} (ρ : Fz → α → β → Prop) (Q : β → St → Prop) (Q' : α → Shared → Prop) : Prop :=
  ∀ W' x b S' s', Ext Z W W' → ρ W' x b → R g L Z W' S' s' → Q b S' → Q' x s'
/-- the judgement: from every state that S tells, the tree ends in what Q tells, and never raises -/
noncomputable def Wp {p : Program} (g : G p) (c : Cx) {α β : Type} (ρ : Fz → α → β → Prop) (t : Env → Sem α) (S : St) (Q : β → St → Prop) : Prop :=
  ∀ (A : Around) (L a : Addr) (cd : Value) (Z W : Fz) (s : Shared) (Q' : α → Shared → Prop), LvC c A L → R g L Z W S s → Post g L Z W ρ Q Q' →
    wpAny (model g.prog g.w) A (t (c.env L a cd)) Q' (fun _ _ => False) s
noncomputable def Op1 {p : Program} (g : G p) (c : Cx) {α β : Type} (ρ : Fz → α → β → Prop) (t : Value → Sem α) (x : V) (S : St) (Q : β → St → Prop) : Prop :=
  ∀ (A : Around) (L : Addr) (Z W : Fz) (s : Shared) (Q' : α → Shared → Prop) (v : Value), LvC c A L → R g L Z W S s → Rep W v x → Post g L Z W ρ Q Q' →
    wpAny (model g.prog g.w) A (t v) Q' (fun _ _ => False) s
noncomputable def Op2 {p : Program} (g : G p) (c : Cx) {α β : Type} (ρ : Fz → α → β → Prop) (t : Value → Value → Sem α) (x y : V) (S : St) (Q : β → St → Prop) : Prop :=
  ∀ (A : Around) (L : Addr) (Z W : Fz) (s : Shared) (Q' : α → Shared → Prop) (v u : Value), LvC c A L → R g L Z W S s → Rep W v x → Rep W u y → Post g L Z W ρ Q Q' →
    wpAny (model g.prog g.w) A (t v u) Q' (fun _ _ => False) s
noncomputable def OpN {p : Program} (g : G p) (c : Cx) {α β : Type} (ρ : Fz → α → β → Prop) (t : List Value → Sem α) (xs : List V) (S : St) (Q : β → St → Prop) : Prop :=
  ∀ (A : Around) (L : Addr) (Z W : Fz) (s : Shared) (Q' : α → Shared → Prop) (vs : List Value), LvC c A L → R g L Z W S s → RepL W vs xs → Post g L Z W ρ Q Q' →
    wpAny (model g.prog g.w) A (t vs) Q' (fun _ _ => False) s
inductive F where
  | next | brk | cont
  | ret (v : V)
inductive RepF (W : Fz) : Flow → F → Prop
  | next : RepF W .next .next
  | brk : RepF W .brk .brk
  | cont : RepF W .cont .cont
  | ret {v : Value} {x : V} : Rep W v x → RepF W (.ret v) (.ret x)
noncomputable def RepB (_ : Fz) (a b : Bool) : Prop := a = b
noncomputable def RepU (_ : Fz) (_ _ : Unit) : Prop := True
abbrev WE {p : Program} (g : G p) (c : Cx) (e : Expr) (S : St) (Q : V → St → Prop) : Prop := Wp g c Rep (fun env => eval e env) S Q
abbrev WT {p : Program} (g : G p) (c : Cx) (e : Expr) (S : St) (Q : Bool → St → Prop) : Prop := Wp g c RepB (fun env => isTrue e env (eval e env)) S Q
abbrev WX {p : Program} (g : G p) (c : Cx) (st : Stmt) (S : St) (Q : F → St → Prop) : Prop := Wp g c RepF (fun env => exec st env) S Q
abbrev WS {p : Program} (g : G p) (c : Cx) (sts : List Stmt) (S : St) (Q : F → St → Prop) : Prop := Wp g c RepF (fun env => execs sts env) S Q
/-- the arguments of a call, the items of a display: one behind the other -/
abbrev WA {p : Program} (g : G p) (c : Cx) (pos : Pos) (es : List Expr) (S : St) (Q : List V → St → Prop) : Prop := Wp g c RepL (fun env => spliced (backTo pos (starEach es env))) S Q
section
variable {p : Program} {g : G p} {c : Cx} {α β : Type} {ρ : Fz → α → β → Prop} {S : St}
theorem Post.ext {L : Addr} {Z W W₁ : Fz} {Q : β → St → Prop} {Q' : α → Shared → Prop} (h : Post g L Z W ρ Q Q') (e : Ext Z W W₁) : Post g L Z W₁ ρ Q Q' :=
  fun W' x b S' s' e' r rr q => h W' x b S' s' (e.trans e') r rr q
theorem Post.here {L : Addr} {Z W : Fz} {Q : β → St → Prop} {Q' : α → Shared → Prop} (h : Post g L Z W ρ Q Q') {x : α} {b : β} {s' : Shared} (r : ρ W x b) (rr : R g L Z W S s') (q : Q b S) : Q' x s' :=
  h W x b S s' .refl r rr q
theorem Wp.mono {t : Env → Sem α} {Q Q₁ : β → St → Prop} (h : Wp g c ρ t S Q) (k : ∀ b S', Q b S' → Q₁ b S') : Wp g c ρ t S Q₁ :=
  fun A L a cd Z W s Q' lv r po => h A L a cd Z W s Q' lv r fun W' x b S' s' e r' rr q => po W' x b S' s' e r' rr (k _ _ q)
theorem wS_nil {Q : F → St → Prop} (h : Q .next S) : WS g c [] S Q := fun _ _ _ _ _ _ _ _ _ r po => wpAny_execs_nil (po.here .next r h)
theorem wS_cons {st : Stmt} {rest : List Stmt} {Q : F → St → Prop}
    (h : WX g c st S (fun f S' => match f with | .next => WS g c rest S' Q | f => Q f S')) : WS g c (st :: rest) S Q :=
  fun A L a cd Z W s Q' lv r po => wpAny_execs_cons (h A L a cd Z W s _ lv r fun W' x b S' s' e r' rr q => by
    cases r' with
    | next => exact q A L a cd Z W' s' Q' lv rr (po.ext e)
    | brk => exact po _ _ _ _ _ e .brk rr q
    | cont => exact po _ _ _ _ _ e .cont rr q
    | ret hr => exact po _ _ _ _ _ e (.ret hr) rr q)
theorem wX_return {e : Expr} {pos : Pos} {Q : F → St → Prop} (h : WE g c e S (fun v S' => Q (.ret v) S')) : WX g c (.Return (some e) pos) S Q :=
  fun A L a cd Z W s Q' lv r po => wpAny_Return_some (h A L a cd Z W s _ lv r fun W' _ b S' s' e r' rr q => po W' _ (.ret b) S' s' e (.ret r') rr q)
theorem wX_if {test : Expr} {body orelse : List Stmt} {pos : Pos} {Q : F → St → Prop}
    (h : WT g c test S (fun b S' => if b = true then WS g c body S' Q else WS g c orelse S' Q)) : WX g c (.If test body orelse pos) S Q :=
  fun A L a cd Z W s Q' lv r po => wpAny_If (h A L a cd Z W s _ lv r fun W' x b S' s' e r' rr q => by
    cases r'
    cases x with
    | true => exact q A L a cd Z W' s' Q' lv rr (po.ext e)
    | false => exact q A L a cd Z W' s' Q' lv rr (po.ext e))
theorem wE_int {i : Int} {k : Nat} {pos : Pos} {Q : V → St → Prop} (h : Q (.int i) S) : WE g c (.Constant (.int i) k pos) S Q :=
  fun _ _ _ _ _ _ _ _ _ r po => wpAny_Constant_int (po.here (.int _ _) r.tk h)
theorem wE_bool {i : Bool} {k : Nat} {pos : Pos} {Q : V → St → Prop} (h : Q (.bool i) S) : WE g c (.Constant (.bool i) k pos) S Q :=
  fun _ _ _ _ _ _ _ _ _ r po => Constant_bool (po.here (.bool _) r h)
theorem wE_none {k : Nat} {pos : Pos} {Q : V → St → Prop} (h : Q (.lit .none) S) : WE g c (.Constant .none k pos) S Q :=
  fun _ _ _ _ _ _ _ _ _ r po => Constant_none (po.here (.lit _) r h)
/-- a local name -/
theorem wE_local {x : Str} {pos : Pos} {v : V} {Q : V → St → Prop} (hv : S.m x = some v) (h : Q v S)
    (hl : c.scope.names.lookup x = some .local := by rfl) (hd : (x == ("__debug__" : Str)) = false := by decide) : WE g c (.Name x pos) S Q :=
  fun A L a cd Z W s Q' lv r po => by
    obtain ⟨mr, hn, hm⟩ := r.ns
    obtain ⟨rv, e, rp⟩ := hm x v hv
    exact wpAny_Name (wpAny_loadName_local (env := c.env L a cd) c.fn hl hn e (po.here rp r h)) hd
/-- a name of the module -/
theorem wE_global {x : Str} {pos : Pos} {v : Value} {Q : V → St → Prop} (hv : g.mg x = some v) (h : Q (.lit v) S)
    (hl : c.scope.names.lookup x = some .globalImplicit := by rfl) (hd : (x == ("__debug__" : Str)) = false := by decide) : WE g c (.Name x pos) S Q :=
  fun A L a cd Z W s Q' lv r po =>
    Calls.Name_function_global (env := c.env L a cd) c.fn hl (Calls.loadGlobal_global (mg := g.mg) (g.T.g.keeps r.base) hv (po.here (.lit _) r h)) hd
theorem wE_builtin {x : Str} {pos : Pos} {v : Value} {Q : V → St → Prop} (hf : g.mg x = none) (hv : bootBuiltins x = some v) (h : Q (.lit v) S)
    (hl : c.scope.names.lookup x = some .globalImplicit := by rfl) (hn : x ≠ "__name__" := by decide) (hd : (x == ("__debug__" : Str)) = false := by decide) : WE g c (.Name x pos) S Q :=
  fun A L a cd Z W s Q' lv r po =>
    Calls.Name_function_global (env := c.env L a cd) c.fn hl (Calls.loadGlobal_builtin (mg := g.mg) (mb := g.mb) (g.T.g.keeps r.base) hf (g.T.b.keeps r.base) ((g.T.builtins x hn).trans hv) (po.here (.lit _) r h)) hd
theorem wE_binop {l q : Expr} {op : Operator} {pos : Pos} {Q : V → St → Prop} (h : WE g c l S (fun x S₁ => WE g c q S₁ (fun y S₂ => Op2 g c Rep (binaryOp op) x y S₂ Q))) :
    WE g c (.BinOp l op q pos) S Q :=
  fun A L a cd Z W s Q' lv r po => wpAny_BinOp (h A L a cd Z W s _ lv r fun W₁ v x S₁ s₁ e₁ r₁ rr₁ h₁ =>
    h₁ A L a cd Z W₁ s₁ _ lv rr₁ fun W₂ u y S₂ s₂ e₂ r₂ rr₂ h₂ => h₂ A L Z W₂ s₂ Q' v u lv rr₂ (r₁.mono e₂.up) r₂ (po.ext (e₁.trans e₂)))
theorem wE_cmp {l q : Expr} {op : CmpOp} {pos : Pos} {Q : V → St → Prop} (h : WE g c l S (fun x S₁ => WE g c q S₁ (fun y S₂ => Op2 g c Rep (compareOp op) x y S₂ Q)))
    (hm : behindInMarks op q = false := by with_unfolding_all rfl) : WE g c (.Compare l [op] [q] pos) S Q :=
  fun A L a cd Z W s Q' lv r po => wpAny_Compare1 (h A L a cd Z W s _ lv r fun W₁ v x S₁ s₁ e₁ r₁ rr₁ h₁ =>
    h₁ A L a cd Z W₁ s₁ _ lv rr₁ fun W₂ u y S₂ s₂ e₂ r₂ rr₂ h₂ => h₂ A L Z W₂ s₂ Q' v u lv rr₂ (r₁.mono e₂.up) r₂ (po.ext (e₁.trans e₂))) hm
/-- the truth of a value -/
noncomputable def truthV : V → Option Bool
  | .bool b => some b
  | .int i => some (i != 0)
  | .lit .none => some false
  | _ => none
theorem truthy_V {A : Around} {s : Shared} {W : Fz} {v : Value} {x : V} {b : Bool} {Q : Bool → Shared → Prop} {E : Value → Shared → Prop} (r : Rep W v x) (hb : truthV x = some b) (h : Q b s) : wpAny (model g.prog g.w) A (truthy v) Q E s := by
  cases r with
  | bool b' => cases hb; exact wpAny_truthy_bool h
  | int i t => cases hb; exact truthy_int h
  | lit v => cases v <;> first | (simp [truthV] at hb; done) | (cases hb; exact truthy_none h)
  | _ => cases hb
theorem wT_cmp {l q : Expr} {op : CmpOp} {pos : Pos} {Q : Bool → St → Prop}
    (h : WE g c l S (fun x S₁ => WE g c q S₁ (fun y S₂ => Op2 g c Rep (compareOp op) x y S₂ (fun v S₃ => ∃ b, truthV v = some b ∧ Q b S₃))))
    (hm : behindInMarks op q = false := by with_unfolding_all rfl) : WT g c (.Compare l [op] [q] pos) S Q :=
  fun A L a cd Z W s Q' lv r po => wpAny_isTrue_Compare1 (h A L a cd Z W s _ lv r fun W₁ v x S₁ s₁ e₁ r₁ rr₁ h₁ =>
    h₁ A L a cd Z W₁ s₁ _ lv rr₁ fun W₂ u y S₂ s₂ e₂ r₂ rr₂ h₂ => h₂ A L Z W₂ s₂ _ v u lv rr₂ (r₁.mono e₂.up) r₂ fun W₃ z vz S₃ s₃ e₃ r₃ rr₃ h₃ => by
      obtain ⟨b, hb, hq⟩ := h₃
      exact truthy_V r₃ hb (po _ _ _ _ _ ((e₁.trans e₂).trans e₃) rfl rr₃ hq)) hm
theorem wT_not {e : Expr} {pos : Pos} {Q : Bool → St → Prop} (h : WT g c e S (fun b S' => Q (!b) S')) : WT g c (.UnaryOp .Not e pos) S Q :=
  fun A L a cd Z W s Q' lv r po => isTrue_not (h A L a cd Z W s _ lv r fun W₁ v x S₁ s₁ e₁ r₁ rr₁ h₁ => by cases r₁; exact po _ _ _ _ _ e₁ rfl rr₁ h₁)
theorem wT_and_nil {pos : Pos} {Q : Bool → St → Prop} (h : Q true S) : WT g c (.BoolOp .And [] pos) S Q :=
  fun _ _ _ _ _ _ _ _ _ r po => isTrue_and_nil (po.here rfl r h)
theorem wT_or_nil {pos : Pos} {Q : Bool → St → Prop} (h : Q false S) : WT g c (.BoolOp .Or [] pos) S Q :=
  fun _ _ _ _ _ _ _ _ _ r po => isTrue_or_nil (po.here rfl r h)
theorem wT_and {e : Expr} {rest : List Expr} {pos : Pos} {Q : Bool → St → Prop} (h : WT g c e S (fun b S' => if b = true then WT g c (.BoolOp .And rest pos) S' Q else Q false S')) :
    WT g c (.BoolOp .And (e :: rest) pos) S Q :=
  fun A L a cd Z W s Q' lv r po => isTrue_and (h A L a cd Z W s _ lv r fun W₁ v x S₁ s₁ e₁ r₁ rr₁ h₁ => by
    cases r₁
    cases v with
    | true => exact h₁ A L a cd Z W₁ s₁ Q' lv rr₁ (po.ext e₁)
    | false => exact po _ _ _ _ _ e₁ rfl rr₁ h₁)
theorem wT_or {e : Expr} {rest : List Expr} {pos : Pos} {Q : Bool → St → Prop} (h : WT g c e S (fun b S' => if b = true then Q true S' else WT g c (.BoolOp .Or rest pos) S' Q)) :
    WT g c (.BoolOp .Or (e :: rest) pos) S Q :=
  fun A L a cd Z W s Q' lv r po => isTrue_or (h A L a cd Z W s _ lv r fun W₁ v x S₁ s₁ e₁ r₁ rr₁ h₁ => by
    cases r₁
    cases v with
    | false => exact h₁ A L a cd Z W₁ s₁ Q' lv rr₁ (po.ext e₁)
    | true => exact po _ _ _ _ _ e₁ rfl rr₁ h₁)
theorem wE_ifexp {test body orelse : Expr} {pos : Pos} {Q : V → St → Prop}
    (h : WT g c test S (fun b S' => if b = true then WE g c body S' Q else WE g c orelse S' Q)) : WE g c (.IfExp test body orelse pos) S Q :=
  fun A L a cd Z W s Q' lv r po => IfExp_ (h A L a cd Z W s _ lv r fun W' x b S' s' e r' rr q => by
    cases r'
    cases x with
    | true => exact q A L a cd Z W' s' Q' lv rr (po.ext e)
    | false => exact q A L a cd Z W' s' Q' lv rr (po.ext e))
theorem wE_unop {e : Expr} {op : UnaryOp} {pos : Pos} {Q : V → St → Prop} (h : WE g c e S (fun x S₁ => Op1 g c Rep (unaryOp op) x S₁ Q)) : WE g c (.UnaryOp op e pos) S Q :=
  fun A L a cd Z W s Q' lv r po => UnaryOp_ (h A L a cd Z W s _ lv r fun W₁ v x S₁ s₁ e₁ r₁ rr₁ h₁ => h₁ A L Z W₁ s₁ Q' v lv rr₁ r₁ (po.ext e₁))
theorem wE_boolop_one {op : BoolOp} {e : Expr} {pos : Pos} {Q : V → St → Prop} (h : WE g c e S Q) : WE g c (.BoolOp op [e] pos) S Q := 
  fun A L a cd Z W s Q' lv r po => BoolOp_one (h A L a cd Z W s Q' lv r po)
theorem wE_boolop_and {e₁ e₂ : Expr} {rest : List Expr} {pos : Pos} {Q : V → St → Prop}
    (h : WE g c e₁ S (fun x S' => ∃ b, truthV x = some b ∧ if b = true then WE g c (.BoolOp .And (e₂ :: rest) pos) S' Q else Q x S')) : WE g c (.BoolOp .And (e₁ :: e₂ :: rest) pos) S Q :=
  fun A L a cd Z W s Q' lv r po => BoolOp_and (h A L a cd Z W s _ lv r fun W₁ v x S₁ s₁ e₁ r₁ rr₁ h₁ => by
    obtain ⟨b, hb, hq⟩ := h₁
    refine truthy_V r₁ hb ?_
    cases b with
    | true => exact hq A L a cd Z W₁ s₁ Q' lv rr₁ (po.ext e₁)
    | false => exact po _ _ _ _ _ e₁ r₁ rr₁ hq)
-- items in a row
theorem wA_nil {pos : Pos} {Q : List V → St → Prop} (h : Q [] S) : WA g c pos [] S Q := fun _ _ _ _ _ _ _ _ _ r po => Calls.spliced_nil (po.here .nil r h)
theorem wA_cons {pos : Pos} {e : Expr} {es : List Expr} {Q : List V → St → Prop} (h : WE g c e S (fun x S₁ => WA g c pos es S₁ (fun xs S₂ => Q (x :: xs) S₂)))
    (hs : ∀ env, backTo pos (starEach (e :: es) env) = (false, eval e env) :: backTo pos (starEach es env) := by intro _; rfl) : WA g c pos (e :: es) S Q :=
  fun A L a cd Z W s Q' lv r po => by
    show wpAny _ _ (spliced (backTo pos (starEach (e :: es) (c.env L a cd)))) _ _ _
    rw [hs]
    exact Calls.spliced_cons (h A L a cd Z W s _ lv r fun W₁ v x S₁ s₁ e₁ r₁ rr₁ h₁ => h₁ A L a cd Z W₁ s₁ _ lv rr₁ fun W₂ vs xs S₂ s₂ e₂ r₂ rr₂ h₂ =>
      po _ _ _ _ _ (e₁.trans e₂) (.cons (r₁.mono e₂.up) r₂) rr₂ h₂)
end
section
variable {p : Program} {g : G p} {c : Cx} {α β : Type} {ρ : Fz → α → β → Prop} {S : St}
-- ints
theorem o_add {x y : Int} {Q : V → St → Prop} (h : Q (.int (x + y)) S) : Op2 g c Rep (binaryOp .Add) (.int x) (.int y) S Q :=
  fun _ _ _ _ _ _ _ _ lv r rv ru po => by cases rv; cases ru; exact add_int (po.here (.int _ _) r.tk h)
theorem o_sub {x y : Int} {Q : V → St → Prop} (h : Q (.int (x - y)) S) : Op2 g c Rep (binaryOp .Sub) (.int x) (.int y) S Q :=
  fun _ _ _ _ _ _ _ _ lv r rv ru po => by cases rv; cases ru; exact sub_int (po.here (.int _ _) r.tk h)
theorem o_mul {x y : Int} {Q : V → St → Prop} (h : Q (.int (x * y)) S) (hm : IntMulOk x y) : Op2 g c Rep (binaryOp .Mult) (.int x) (.int y) S Q :=
  fun _ _ _ _ _ _ _ _ lv r rv ru po => by cases rv; cases ru; exact PyProof.Rows.mul_int (po.here (.int _ _) r.tk h) hm
theorem o_floordiv {x y : Int} {Q : V → St → Prop} (hy : y ≠ 0) (hb : y.natAbs < 1073741824) (h : Q (.int (x.fdiv y)) S) : Op2 g c Rep (binaryOp .FloorDiv) (.int x) (.int y) S Q :=
  fun _ _ _ _ _ _ _ _ lv r rv ru po => by cases rv; cases ru; exact floordiv_int hy (po.here (.int _ _) r.tk h) (.inl (PyProof.noPylong_small hb))
theorem o_mod {x y : Int} {Q : V → St → Prop} (hy : y ≠ 0) (h : Q (.int (x.fmod y)) S) : Op2 g c Rep (binaryOp .Mod) (.int x) (.int y) S Q :=
  fun _ _ _ _ _ _ _ _ lv r rv ru po => by cases rv; cases ru; exact mod_int' hy (po.here (.int _ _) r.tk h)
theorem o_pow {x y : Int} {Q : V → St → Prop} (hn : 0 ≤ y) (hsz : (Builtin.Int.intBits x : Int) * y ≤ 2 ^ 27) (h : Q (.int (x ^ y.toNat)) S) : Op2 g c Rep (binaryOp .Pow) (.int x) (.int y) S Q :=
  fun _ _ _ _ _ _ _ _ lv r rv ru po => by cases rv; cases ru; exact pow_int hn hsz (po.here (.int _ _) r.tk h)
theorem o_lshift {x y : Int} {Q : V → St → Prop} (hn : 0 ≤ y) (hn2 : y ≤ 1000000) (ha : x.natAbs < 2 ^ 64) (h : Q (.int (x * 2 ^ y.toNat)) S) : Op2 g c Rep (binaryOp .LShift) (.int x) (.int y) S Q :=
  fun _ _ _ _ _ _ _ _ lv r rv ru po => by cases rv; cases ru; exact lshift_int_small hn hn2 ha (po.here (.int _ _) r.tk h)
theorem o_rshift {x y : Int} {Q : V → St → Prop} (hn : 0 ≤ y) (h : Q (.int (x.fdiv (2 ^ y.toNat))) S) : Op2 g c Rep (binaryOp .RShift) (.int x) (.int y) S Q :=
  fun _ _ _ _ _ _ _ _ lv r rv ru po => by cases rv; cases ru; exact rshift_int hn (po.here (.int _ _) r.tk h)
theorem o_and {x y : Int} {Q : V → St → Prop} (h : Q (.int (Builtin.bitAnd x y)) S) : Op2 g c Rep (binaryOp .BitAnd) (.int x) (.int y) S Q :=
  fun _ _ _ _ _ _ _ _ lv r rv ru po => by cases rv; cases ru; exact and_int (po.here (.int _ _) r.tk h)
theorem o_or {x y : Int} {Q : V → St → Prop} (h : Q (.int (Builtin.bitOr x y)) S) : Op2 g c Rep (binaryOp .BitOr) (.int x) (.int y) S Q :=
  fun _ _ _ _ _ _ _ _ lv r rv ru po => by cases rv; cases ru; exact or_int (po.here (.int _ _) r.tk h)
theorem i_add {x y : Int} {Q : V → St → Prop} (h : Q (.int (x + y)) S) : Op2 g c Rep (inplaceOp .Add) (.int x) (.int y) S Q :=
  fun _ _ _ _ _ _ _ _ lv r rv ru po => by cases rv; cases ru; exact iadd_int (po.here (.int _ _) r.tk h)
theorem i_sub {x y : Int} {Q : V → St → Prop} (h : Q (.int (x - y)) S) : Op2 g c Rep (inplaceOp .Sub) (.int x) (.int y) S Q :=
  fun _ _ _ _ _ _ _ _ lv r rv ru po => by cases rv; cases ru; exact isub_int (po.here (.int _ _) r.tk h)
theorem i_mod {x y : Int} {Q : V → St → Prop} (hy : y ≠ 0) (h : Q (.int (x.fmod y)) S) : Op2 g c Rep (inplaceOp .Mod) (.int x) (.int y) S Q :=
  fun _ _ _ _ _ _ _ _ lv r rv ru po => by cases rv; cases ru; exact imod_int hy (po.here (.int _ _) r.tk h)
theorem i_rshift {x y : Int} {Q : V → St → Prop} (hn : 0 ≤ y) (h : Q (.int (x.fdiv (2 ^ y.toNat))) S) : Op2 g c Rep (inplaceOp .RShift) (.int x) (.int y) S Q :=
  fun _ _ _ _ _ _ _ _ lv r rv ru po => by cases rv; cases ru; exact irshift_int hn (po.here (.int _ _) r.tk h)
theorem i_or {x y : Int} {Q : V → St → Prop} (h : Q (.int (Builtin.bitOr x y)) S) : Op2 g c Rep (inplaceOp .BitOr) (.int x) (.int y) S Q :=
  fun _ _ _ _ _ _ _ _ lv r rv ru po => by cases rv; cases ru; exact ior_int (po.here (.int _ _) r.tk h)
theorem o_neg {x : Int} {Q : V → St → Prop} (h : Q (.int (-x)) S) : Op1 g c Rep (unaryOp .USub) (.int x) S Q :=
  fun _ _ _ _ _ _ _ lv r rv po => by cases rv; exact neg_int (po.here (.int _ _) r.tk h)
theorem o_not {x : V} {b : Bool} {Q : V → St → Prop} (hb : truthV x = some b) (h : Q (.bool (!b)) S) : Op1 g c Rep (unaryOp .Not) x S Q :=
  fun _ _ _ _ _ _ _ lv r rv po => not_of (truthy_V rv hb (po.here (.bool _) r h))
-- comparisons of ints and bools
theorem c_eq {x y : Int} {Q : V → St → Prop} (h : Q (.bool (x == y)) S) : Op2 g c Rep (compareOp .Eq) (.int x) (.int y) S Q :=
  fun _ _ _ _ _ _ _ _ lv r rv ru po => by cases rv; cases ru; exact eq_int (po.here (.bool _) r h)
theorem c_ne {x y : Int} {Q : V → St → Prop} (h : Q (.bool (x != y)) S) : Op2 g c Rep (compareOp .NotEq) (.int x) (.int y) S Q :=
  fun _ _ _ _ _ _ _ _ lv r rv ru po => by cases rv; cases ru; exact ne_int (po.here (.bool _) r h)
theorem c_lt {x y : Int} {Q : V → St → Prop} (h : Q (.bool (decide (x < y))) S) : Op2 g c Rep (compareOp .Lt) (.int x) (.int y) S Q :=
  fun _ _ _ _ _ _ _ _ lv r rv ru po => by cases rv; cases ru; exact lt_int (po.here (.bool _) r h)
theorem c_le {x y : Int} {Q : V → St → Prop} (h : Q (.bool (decide (x ≤ y))) S) : Op2 g c Rep (compareOp .LtE) (.int x) (.int y) S Q :=
  fun _ _ _ _ _ _ _ _ lv r rv ru po => by cases rv; cases ru; exact PyProof.Rows.le_int (po.here (.bool _) r h)
theorem c_gt {x y : Int} {Q : V → St → Prop} (h : Q (.bool (decide (y < x))) S) : Op2 g c Rep (compareOp .Gt) (.int x) (.int y) S Q :=
  fun _ _ _ _ _ _ _ _ lv r rv ru po => by cases rv; cases ru; exact gt_int (po.here (.bool _) r h)
theorem c_ge {x y : Int} {Q : V → St → Prop} (h : Q (.bool (decide (y ≤ x))) S) : Op2 g c Rep (compareOp .GtE) (.int x) (.int y) S Q :=
  fun _ _ _ _ _ _ _ _ lv r rv ru po => by cases rv; cases ru; exact PyProof.Rows.ge_int (po.here (.bool _) r h)
theorem c_eqb {x y : Bool} {Q : V → St → Prop} (h : Q (.bool (x == y)) S) : Op2 g c Rep (compareOp .Eq) (.bool x) (.bool y) S Q :=
  fun _ _ _ _ _ _ _ _ lv r rv ru po => by cases rv; cases ru; exact eq_bool (po.here (.bool _) r h)
-- comparisons of data
mutual
noncomputable def V.py : V → Option PyData
  | .bool b => some (.bool b)
  | .int i => some (.int i)
  | .list l => (V.pyAll l).map PyData.list
  | .tup l => (V.pyAll l).map PyData.tuple
  | .lit .none => some .none
  | _ => none
noncomputable def V.pyAll : List V → Option (List PyData)
  | [] => some []
  | x :: l => match V.py x, V.pyAll l with
    | some d, some ds => some (d :: ds)
    | _, _ => none
end
mutual
theorem Rep.reads {W : Fz} {h : Heap} (hw : ∀ a o, W a = some o → h.get? a = some o) : ∀ {v : Value} {x : V}, Rep W v x → ∀ d, x.py = some d → ∃ as, Reads h v d as
  | _, _, .lit v, d, e => by cases v <;> first | (simp [V.py] at e; done) | (simp [V.py] at e; subst e; exact ⟨_, .none⟩)
  | _, _, .bool b, d, e => by simp [V.py] at e; subst e; exact ⟨_, .bool b⟩
  | _, _, .int i t, d, e => by simp [V.py] at e; subst e; exact ⟨_, .int i t⟩
  | _, _, .ref a, d, e => by simp [V.py] at e
  | _, _, .list (l := l) ha r, d, e => by
    simp only [V.py, Option.map_eq_some_iff] at e
    obtain ⟨ds, e1, rfl⟩ := e
    obtain ⟨as, ra⟩ := RepL.reads hw r ds e1
    exact ⟨_, .list (hw _ _ ha) rfl rfl ra⟩
  | _, _, .tup (l := l) ha r, d, e => by
    simp only [V.py, Option.map_eq_some_iff] at e
    obtain ⟨ds, e1, rfl⟩ := e
    obtain ⟨as, ra⟩ := RepL.reads hw r ds e1
    exact ⟨_, .tuple (hw _ _ ha) rfl rfl ra⟩
theorem RepL.reads {W : Fz} {h : Heap} (hw : ∀ a o, W a = some o → h.get? a = some o) : ∀ {vs : List Value} {l : List V}, RepL W vs l → ∀ ds, V.pyAll l = some ds → ∃ as, ReadsAll h vs ds as
  | _, _, .nil, d, e => by simp [V.pyAll] at e; subst e; exact ⟨_, .nil⟩
  | _, _, .cons (x := x) (l := l) a r, d, e => by
    simp only [V.pyAll] at e
    split at e
    · rename_i d1 ds e1 e2
      cases e
      obtain ⟨as, ra⟩ := Rep.reads hw a _ e1
      obtain ⟨bs, rb⟩ := RepL.reads hw r _ e2
      exact ⟨_, .cons ra rb⟩
    · cases e
end
theorem c_eqd {x y : V} {dx dy : PyData} {Q : V → St → Prop} (hx : x.py = some dx) (hy : y.py = some dy) (sx : SeqAt.shaped dx = true) (sy : SeqAt.shaped dy = true)
    (h : Q (.bool (PyData.eqv dx dy)) S) : Op2 g c Rep (compareOp .Eq) x y S Q :=
  fun _ _ _ _ _ _ _ _ lv r rv ru po => by
    obtain ⟨_, rx⟩ := rv.reads r.w _ hx
    obtain ⟨_, ry⟩ := ru.reads r.w _ hy
    exact eq_dataH rx ry sx sy (by have := lv.un; have := cLine_is; (first | lia | omega)) (po.here (.bool _) r h)
theorem c_ned {x y : V} {dx dy : PyData} {Q : V → St → Prop} (hx : x.py = some dx) (hy : y.py = some dy) (sx : SeqAt.shaped dx = true) (sy : SeqAt.shaped dy = true)
    (h : Q (.bool (!PyData.eqv dx dy)) S) : Op2 g c Rep (compareOp .NotEq) x y S Q :=
  fun _ _ _ _ _ _ _ _ lv r rv ru po => by
    obtain ⟨_, rx⟩ := rv.reads r.w _ hx
    obtain ⟨_, ry⟩ := ru.reads r.w _ hy
    exact ne_dataH rx ry sx sy (by have := lv.un; have := cLine_is; (first | lia | omega)) (po.here (.bool _) r h)
-- stores
noncomputable def St.set (S : St) (x : Str) (v : V) : St := { S with m := fun y => if y = x then some v else S.m y }
theorem R.store {L : Addr} {Z W : Fz} {s : Shared} {x : Str} {v : V} {rv : Value} {mr : Str → Option Value} (r : R g L Z W S s) (hm : ∀ y u, S.m y = some u → ∃ q, mr y = some q ∧ Rep W q u) (hv : Rep W rv v) {h' : Heap} {tk' : Nat}
    (hn : h'.Ns L (fun y => if y = x then some rv else mr y)) (hs : Heap.SameBut L s.heap h') : R g L Z W (S.set x v) { s with heap := h', toks := tk' } where
  rest := by obtain ⟨h, tk, rfl⟩ := r.rest; exact ⟨h', tk', rfl⟩
  base := fun b o e => (hs.2 b (fun q => by rw [q, r.lb] at e; cases e)).trans (r.base b o e)
  z := fun b o e => (hs.2 b (fun q => by rw [q, r.lz] at e; cases e)).trans (r.z b o e)
  w := fun b o e => (hs.2 b (fun q => by rw [q, r.lw] at e; cases e)).trans (r.w b o e)
  mu := fun a l e => by
    obtain ⟨arr, n, h1, h2⟩ := r.mu a l e
    exact ⟨arr, n, (hs.2 a (fun q => by rw [q] at e; rw [show (S.set x v).σ = S.σ from rfl, r.lm] at e; cases e)).trans h1, h2⟩
  ns := ⟨_, hn, fun y u e => by
    simp only [St.set] at e
    by_cases q : y = x
    · rw [if_pos q] at e; cases e
      exact ⟨rv, by simp only [if_pos q], hv⟩
    · rw [if_neg q] at e
      obtain ⟨z, e1, e2⟩ := hm y u e
      exact ⟨z, by simp only [if_neg q]; exact e1, e2⟩⟩
  lz := r.lz
  lw := r.lw
  lb := r.lb
  lm := r.lm
theorem store_ {M : Model} {A : Around} {L a : Addr} {cd : Value} {Z W : Fz} {s : Shared} {x : Str} {v : V} {rv : Value} {Q' : Unit → Shared → Prop} {E : Value → Shared → Prop} (r : R g L Z W S s) (hv : Rep W rv v)
    (hl : c.scope.names.lookup x = some .local) (h : ∀ s', R g L Z W (S.set x v) s' → Q' () s') : wpAny M A (storeName (c.env L a cd) x rv) Q' E s := by
  obtain ⟨mr, hn, hm⟩ := r.ns
  exact wpAny_storeName_local (env := c.env L a cd) hl hn (fun h' hn' hs => h _ (r.store hm hv hn' hs))
    (by show (c.scope.kind == .class || (c.scope.kind == .module && L != mainGlobals)) = false; rw [c.fn]; rfl)
theorem wX_assign {x : Str} {pos' pos : Pos} {e : Expr} {Q : F → St → Prop} (h : WE g c e S (fun v S' => Q .next (S'.set x v)))
    (hl : c.scope.names.lookup x = some .local := by rfl) (hs : ∀ L a cd, swapsWith e (some (.Name x pos')) pos.line (c.env L a cd) = pure false := by intro _ _ _; rfl) :
    WX g c (.Assign [.Name x pos'] e pos) S Q :=
  fun A L a cd Z W s Q' lv r po => wpAny_Assign_Name (h A L a cd Z W s _ lv r fun W₁ v x S₁ s₁ e₁ r₁ rr₁ h₁ =>
    store_ rr₁ r₁ hl fun s' r' => po _ _ _ _ _ e₁ .next r' h₁) (hs L a cd)
theorem wX_aug {x : Str} {pos' pos : Pos} {op : Operator} {e : Expr} {v : V} {Q : F → St → Prop} (hv : S.m x = some v)
    (h : WE g c e S (fun y S₁ => Op2 g c Rep (inplaceOp op) v y S₁ (fun z S₂ => Q .next (S₂.set x z)))) (hl : c.scope.names.lookup x = some .local := by rfl) :
    WX g c (.AugAssign (.Name x pos') op e pos) S Q :=
  fun A L a cd Z W s Q' lv r po => by
    obtain ⟨mr, hn, hm⟩ := r.ns
    obtain ⟨rv, e, rp⟩ := hm x v hv
    refine wpAny_AugAssign_Name (wpAny_loadName_local (env := c.env L a cd) c.fn hl hn e ?_)
    exact h A L a cd Z W s _ lv r fun W₁ u y S₁ s₁ e₁ r₁ rr₁ h₁ => h₁ A L Z W₁ s₁ _ rv u lv rr₁ (rp.mono e₁.up) r₁ fun W₂ u2 z S₂ s₂ e₂ r₂ rr₂ h₂ =>
      store_ rr₂ r₂ hl fun s' r' => po _ _ _ _ _ (e₁.trans e₂) .next r' h₂
-- new lists, new tuples
noncomputable def upd (σ : Addr → Option (List V)) (a : Addr) (l : List V) : Addr → Option (List V) := fun b => if b = a then some l else σ b
noncomputable def wadd (W : Fz) (a : Addr) (o : Obj) : Fz := fun b => if b = a then some o else W b
theorem R.none_size {L : Addr} {Z W : Fz} {s : Shared} (r : R g L Z W S s) : Z s.heap.objs.size = none ∧ W s.heap.objs.size = none ∧ g.hB.get? s.heap.objs.size = none ∧ S.σ s.heap.objs.size = none ∧ s.heap.objs.size ≠ L := by
  have key : s.heap.get? s.heap.objs.size = none := Heap.get?_none_of_le (Nat.le_refl _)
  refine ⟨?_, ?_, ?_, ?_, ?_⟩
  · cases q : Z s.heap.objs.size with
    | none => rfl
    | some o => rw [r.z _ _ q] at key; cases key
  · cases q : W s.heap.objs.size with
    | none => rfl
    | some o => rw [r.w _ _ q] at key; cases key
  · cases q : g.hB.get? s.heap.objs.size with
    | none => rfl
    | some o => rw [r.base _ _ q] at key; cases key
  · cases q : S.σ s.heap.objs.size with
    | none => rfl
    | some o => obtain ⟨_, _, h1, _⟩ := r.mu _ _ q; rw [h1] at key; cases key
  · obtain ⟨mr, hn, _⟩ := r.ns
    exact Nat.ne_of_gt hn.lt
/-- a thing put upon the heap, kept for good -/
theorem R.pushF {L : Addr} {Z W : Fz} {s : Shared} (r : R g L Z W S s) (o : Obj) (hf : o.isFreed = false) {tk' : Nat} :
    R g L Z (wadd W s.heap.objs.size o) S { s with heap := s.heap.push o, toks := tk' } ∧ Ext Z W (wadd W s.heap.objs.size o) := by
  obtain ⟨n1, n2, n3, n4, n5⟩ := r.none_size
  have up : ∀ a q, W a = some q → wadd W s.heap.objs.size o a = some q := fun a q e => by
    unfold wadd
    rw [if_neg (fun h => by rw [h, n2] at e; cases e)]; exact e
  have k : ∀ b q, s.heap.get? b = some q → (s.heap.push o).get? b = some q := fun b q e => Heap.get?_push_of_some _ e
  refine ⟨{ rest := ?_, base := fun b q e => k _ _ (r.base b q e), z := fun b q e => k _ _ (r.z b q e), w := fun b q e => ?_, mu := fun a l e => ?_, ns := ?_, lz := r.lz, lw := ?_, lb := r.lb, lm := r.lm }, up, fun a q e => ?_⟩
  · obtain ⟨h, tk, rfl⟩ := r.rest; exact ⟨_, tk', rfl⟩
  · unfold wadd at e
    by_cases h : b = s.heap.objs.size
    · rw [if_pos h] at e; cases e; rw [h]; exact Heap.get?_push_size _ hf
    · rw [if_neg h] at e; exact k _ _ (r.w b q e)
  · obtain ⟨arr, n, h1, h2, h3, h4, h5⟩ := r.mu a l e
    refine ⟨arr, n, k _ _ h1, h2.mono up, h3, ?_, h5⟩
    unfold wadd
    rw [if_neg (fun h => by rw [h, n4] at e; cases e)]; exact h4
  · obtain ⟨mr, hn, hm⟩ := r.ns
    exact ⟨mr, hn.keeps k, fun x v e => let ⟨q, e1, e2⟩ := hm x v e; ⟨q, e1, e2.mono up⟩⟩
  · unfold wadd
    rw [if_neg (fun h => n5 h.symm)]; exact r.lw
  · unfold wadd at e
    by_cases h : a = s.heap.objs.size
    · rw [h]; exact .inr n1
    · rw [if_neg h] at e; exact .inl e
/-- a list put upon the heap, to be changed -/
theorem R.pushM {L : Addr} {Z W : Fz} {s : Shared} (r : R g L Z W S s) {arr : Array Value} {n : Nat} {l : List V} (hl : RepL W arr.toList l) {tk' : Nat} :
    R g L Z W { S with σ := upd S.σ s.heap.objs.size l } { s with heap := s.heap.push (lobj arr n), toks := tk' } := by
  obtain ⟨n1, n2, n3, n4, n5⟩ := r.none_size
  have k : ∀ b q, s.heap.get? b = some q → (s.heap.push (lobj arr n)).get? b = some q := fun b q e => Heap.get?_push_of_some _ e
  refine { rest := ?_, base := fun b q e => k _ _ (r.base b q e), z := fun b q e => k _ _ (r.z b q e), w := fun b q e => k _ _ (r.w b q e), mu := fun a l' e => ?_, ns := ?_, lz := r.lz, lw := r.lw, lb := r.lb, lm := ?_ }
  · obtain ⟨h, tk, rfl⟩ := r.rest; exact ⟨_, tk', rfl⟩
  · simp only [upd] at e
    by_cases h : a = s.heap.objs.size
    · rw [if_pos h] at e; cases e
      rw [h]
      exact ⟨arr, n, Heap.get?_push_size _ rfl, hl, n1, n2, n3⟩
    · rw [if_neg h] at e
      obtain ⟨arr, n, h1, h2⟩ := r.mu a l' e
      exact ⟨arr, n, k _ _ h1, h2⟩
  · obtain ⟨mr, hn, hm⟩ := r.ns
    exact ⟨mr, hn.keeps k, hm⟩
  · simp only [upd]; rw [if_neg (fun h => n5 h.symm)]; exact r.lm
/-- a list that is changed -/
theorem R.turn {L : Addr} {Z W : Fz} {s : Shared} (r : R g L Z W S s) {a : Addr} {l₀ : List V} (ha : S.σ a = some l₀) {arr' : Array Value} {n' : Nat} {l : List V} (hl : RepL W arr'.toList l) {h' : Heap} {tk' : Nat}
    (hn : h'.get? a = some (lobj arr' n')) (hs : ∀ b, b ≠ a → h'.get? b = s.heap.get? b) : R g L Z W { S with σ := upd S.σ a l } { s with heap := h', toks := tk' } := by
  obtain ⟨arr₀, n₀, h1, h2, h3, h4, h5⟩ := r.mu a l₀ ha
  have hLa : L ≠ a := fun q => by rw [← q, r.lm] at ha; cases ha
  refine { rest := ?_, base := fun b q e => (hs b fun h => by rw [h, h5] at e; cases e).trans (r.base b q e), z := fun b q e => (hs b fun h => by rw [h, h3] at e; cases e).trans (r.z b q e), w := fun b q e => (hs b fun h => by rw [h, h4] at e; cases e).trans (r.w b q e), mu := fun b l' e => ?_, ns := ?_, lz := r.lz, lw := r.lw, lb := r.lb, lm := ?_ }
  · obtain ⟨h, tk, rfl⟩ := r.rest; exact ⟨_, tk', rfl⟩
  · simp only [upd] at e
    by_cases h : b = a
    · rw [if_pos h] at e; cases e
      rw [h]
      exact ⟨arr', n', hn, hl, h3, h4, h5⟩
    · rw [if_neg h] at e
      obtain ⟨arr, n, q1, q2⟩ := r.mu b l' e
      exact ⟨arr, n, (hs b h).trans q1, q2⟩
  · obtain ⟨mr, hn, hm⟩ := r.ns
    exact ⟨mr, hn.at' (fun o e => (hs L hLa).trans e), hm⟩
  · simp only [upd]; rw [if_neg hLa]; exact r.lm
theorem wE_tuple {es : List Expr} {k : Nat} {pos : Pos} {Q : V → St → Prop} (h : WA g c pos es S (fun xs S' => xs.length ≤ 2 ^ 24 ∧ Q (.tup xs) S')) : WE g c (.Tuple es k pos) S Q :=
  fun A L a cd Z W s Q' lv r po => Tuple_ (h A L a cd Z W s _ lv r fun W₁ vs xs S₁ s₁ e₁ r₁ rr₁ h₁ => by
    obtain ⟨hsz, hq⟩ := h₁
    obtain ⟨rr, ex⟩ := rr₁.pushF (tobj vs.toArray 0) rfl (tk' := s₁.toks)
    refine wpAny_newObj_type ?_ (by show vs.toArray.size ≤ sizeLine; rw [List.size_toArray, r₁.length]; exact hsz)
    exact po _ _ _ _ _ (e₁.trans ex) (.tup (n := 0) (arr := vs.toArray) (by simp [wadd]) (by simpa using r₁.mono ex.up)) rr hq)
/-- a list display that nothing changes later -/
theorem wE_listF {es : List Expr} {pos : Pos} {Q : V → St → Prop} (h : WA g c pos es S (fun xs S' => xs.length ≤ 2 ^ 24 ∧ Q (.list xs) S')) : WE g c (.List es pos) S Q :=
  fun A L a cd Z W s Q' lv r po => List_ (h A L a cd Z W s _ lv r fun W₁ vs xs S₁ s₁ e₁ r₁ rr₁ h₁ => by
    obtain ⟨hsz, hq⟩ := h₁
    obtain ⟨rr, ex⟩ := rr₁.pushF (lobj vs.toArray 0) rfl (tk' := s₁.toks)
    refine wpAny_newObj_type ?_ (by show vs.toArray.size ≤ sizeLine; rw [List.size_toArray, r₁.length]; exact hsz)
    exact po _ _ _ _ _ (e₁.trans ex) (.list (n := 0) (arr := vs.toArray) (by simp [wadd]) (by simpa using r₁.mono ex.up)) rr hq)
/-- a list display to be changed -/
theorem wE_listM {es : List Expr} {pos : Pos} {Q : V → St → Prop} (h : WA g c pos es S (fun xs S' => xs.length ≤ 2 ^ 24 ∧ ∀ a, S'.σ a = none → Q (.ref a) { S' with σ := upd S'.σ a xs })) : WE g c (.List es pos) S Q :=
  fun A L a cd Z W s Q' lv r po => List_ (h A L a cd Z W s _ lv r fun W₁ vs xs S₁ s₁ e₁ r₁ rr₁ h₁ => by
    obtain ⟨hsz, hq⟩ := h₁
    have rr := rr₁.pushM (arr := vs.toArray) (n := 0) (l := xs) (by simpa using r₁) (tk' := s₁.toks)
    refine wpAny_newObj_type ?_ (by show vs.toArray.size ≤ sizeLine; rw [List.size_toArray, r₁.length]; exact hsz)
    exact po _ _ _ _ _ e₁ (.ref _) rr (hq _ rr₁.none_size.2.2.2.1))
end
section
variable {p : Program} {g : G p} {c : Cx} {α β : Type} {ρ : Fz → α → β → Prop} {S : St}
theorem R.next {L : Addr} {Z W : Fz} {s : Shared} {wr : List Addr} (r : R g L Z W S s) {h' : Heap} {tk' : Nat} (hk : ∀ b o, b ∉ wr → s.heap.get? b = some o → h'.get? b = some o)
    (hL : L ∉ wr) (hw : ∀ b ∈ wr, Z b = none ∧ W b = none ∧ g.hB.get? b = none ∧ S.σ b = none) : R g L Z W S { s with heap := h', toks := tk' } where
  rest := by obtain ⟨h, tk, rfl⟩ := r.rest; exact ⟨h', tk', rfl⟩
  base := fun b o e => hk b o (fun q => by rw [(hw b q).2.2.1] at e; cases e) (r.base b o e)
  z := fun b o e => hk b o (fun q => by rw [(hw b q).1] at e; cases e) (r.z b o e)
  w := fun b o e => hk b o (fun q => by rw [(hw b q).2.1] at e; cases e) (r.w b o e)
  mu := fun a l e => by
    obtain ⟨arr, n, h1, h2⟩ := r.mu a l e
    exact ⟨arr, n, hk a _ (fun q => by rw [(hw a q).2.2.2] at e; cases e) h1, h2⟩
  ns := by
    obtain ⟨mr, hn, hm⟩ := r.ns
    exact ⟨mr, hn.at' fun o e => hk L o hL e, hm⟩
  lz := r.lz
  lw := r.lw
  lb := r.lb
  lm := r.lm
/-- more is kept -/
theorem R.more {L : Addr} {Z W : Fz} {s : Shared} (r : R g L Z W S s) {fp : List Addr} (hL : L ∉ fp) (hs : ∀ b ∈ fp, S.σ b = none) : R g L (fun b => if b ∈ fp then s.heap.get? b else Z b) W S s where
  rest := r.rest
  base := r.base
  z := fun b o e => by
    have e' : (if b ∈ fp then s.heap.get? b else Z b) = some o := e
    by_cases h : b ∈ fp
    · rw [if_pos h] at e'; exact e'
    · rw [if_neg h] at e'; exact r.z b o e'
  w := r.w
  mu := fun a l e => by
    obtain ⟨arr, n, h1, h2, h3, h4⟩ := r.mu a l e
    refine ⟨arr, n, h1, h2, ?_, h4⟩
    show (if a ∈ fp then s.heap.get? a else Z a) = none
    rw [if_neg (fun q => by rw [hs a q] at e; cases e)]; exact h3
  ns := r.ns
  lz := by show (if L ∈ fp then s.heap.get? L else Z L) = none; rw [if_neg hL]; exact r.lz
  lw := r.lw
  lb := r.lb
  lm := r.lm
/-- less is kept -/
theorem R.less {L : Addr} {Z Z' W : Fz} {s : Shared} (r : R g L Z' W S s) (hz : ∀ a o, Z a = some o → Z' a = some o) : R g L Z W S s where
  rest := r.rest
  base := r.base
  z := fun b o e => r.z b o (hz b o e)
  w := r.w
  mu := fun a l e => by
    obtain ⟨arr, n, h1, h2, h3, h4⟩ := r.mu a l e
    refine ⟨arr, n, h1, h2, ?_, h4⟩
    cases q : Z a with
    | none => rfl
    | some o => rw [hz a o q] at h3; cases h3
  ns := r.ns
  lz := by
    cases q : Z L with
    | none => rfl
    | some o => have := hz L o q; rw [r.lz] at this; cases this
  lw := r.lw
  lb := r.lb
  lm := r.lm
theorem Ext.less {Z Z' W W' : Fz} (x : Ext Z' W W') (hz : ∀ a o, Z a = some o → Z' a = some o) : Ext Z W W' :=
  ⟨x.up, fun a o e => (x.fresh a o e).imp id fun h => by
    cases q : Z a with
    | none => rfl
    | some o => rw [hz a o q] at h; cases h⟩
/-- what an iterator yields -/
noncomputable def ItAt (g : G p) (A : Around) (L : Addr) (Z W : Fz) (S : St) (it : Value) (xs : List V) (s : Shared) : Prop :=
  ∃ (I : Addr) (fp wr : List Addr) (P : Nat → Value → Prop) (T : Nat → Heap → Prop), it = .ref I ∧ Walks g.prog g.w A I fp wr xs.length P T ∧ T 0 s.heap ∧ (∀ i v, i < xs.length → P i v → ∃ x, xs[i]? = some x ∧ Rep W v x) ∧
    L ∉ fp ∧ (∀ b ∈ wr, Z b = none ∧ W b = none ∧ g.hB.get? b = none) ∧ (∀ b ∈ fp, S.σ b = none) ∧ (∀ i h, T i h → ∀ b ∈ fp, ∃ o, h.get? b = some o)
noncomputable def WI (g : G p) (c : Cx) (e : Expr) (S : St) (Q : List V → St → Prop) : Prop :=
  ∀ (A : Around) (L a : Addr) (cd : Value) (Z W : Fz) (s : Shared) (Q' : Value → Shared → Prop), LvC c A L → R g L Z W S s →
    (∀ W' it xs S' s', Ext Z W W' → ItAt g A L Z W' S' it xs s' → R g L Z W' S' s' → Q xs S' → Q' it s') →
    wpAny (model g.prog g.w) A (eval e (c.env L a cd)) (fun v s₁ => wpAny (model g.prog g.w) A (pyIter v) Q' (fun _ _ => False) s₁) (fun _ _ => False) s
noncomputable def LoopW (g : G p) (c : Cx) (x : Str) (body : List Stmt) : List V → St → (F → St → Prop) → Prop
  | [], S, Q => Q .next S
  | v :: vs, S, Q => WS g c body (S.set x v) (fun f S' => match f with
      | .next => LoopW g c x body vs S' Q
      | .cont => LoopW g c x body vs S' Q
      | .brk => Q .next S'
      | .ret u => Q (.ret u) S')
theorem wX_for {x : Str} {px pos : Pos} {iter : Expr} {body : List Stmt} {Q : F → St → Prop} (h : WI g c iter S (fun xs S₁ => LoopW g c x body xs S₁ Q))
    (hl : c.scope.names.lookup x = some .local := by rfl) (hs : ∀ L a cd x, foldedSetIterable iter (c.env L a cd) x = pure x := by intro _ _ _ _; rfl) :
    WX g c (.For (.Name x px) iter body [] pos) S Q :=
  fun A L a cd Z W s Q' lv r po => by
    refine wpAny_For (wpAny_mono (h A L a cd Z W s (fun it s₂ => codeAny (model g.prog g.w) A (.forLoop (.Name x px) it body [] (c.env L a cd)) (fun r s' => match r with | .ok f => Q' f s' | .error e => False) s₂) lv r ?_)
      (fun v s₁ h₁ => wpAny_mono h₁ (fun it s₂ h₂ => codeAny_mono h₂ fun r s' h' => by cases r with | ok f => exact h' | error e => exact h'.elim) fun _ _ e => e.elim) fun _ _ e => e.elim) (hs L a cd)
    intro W₁ it xs S₁ s₁ e₁ hit r₁ hq
    obtain ⟨I, fp, wr, P, T, rfl, Wk, hT, hP, hLf, hwr, hfs, hob⟩ := hit
    have hLw : L ∉ wr := fun q => hLf (Wk.sub _ q)
    refine codeAny_forLoop (fun k s' => ∃ (i : Nat) (W' : Fz) (S' : St), Ext Z W₁ W' ∧ T i s'.heap ∧ R g L Z W' S' s' ∧ (∀ b ∈ wr, W' b = none) ∧ (∀ b ∈ fp, S'.σ b = none) ∧ LoopW g c x body (xs.drop i) S' Q ∧ i ≤ xs.length ∧ k = xs.length + 1 - i) ?_ (xs.length + 1)
      ⟨0, W₁, S₁, .refl, hT, r₁, fun b hb => (hwr b hb).2.1, hfs, by simpa using hq, Nat.zero_le _, rfl⟩
    rintro k s' ⟨i, W', S', ex, hT', rr, hw', hf', hq', hi, rfl⟩
    have hnext : ∀ b ∈ wr, Z b = none ∧ W' b = none ∧ g.hB.get? b = none ∧ S'.σ b = none := fun b hb => ⟨(hwr b hb).1, hw' b hb, (hwr b hb).2.2, hf' b (Wk.sub _ hb)⟩
    by_cases hlt : i < xs.length
    · refine Wk.item i _ _ _ hlt hT' fun v h₁ tk₁ hPv hT₁ hk₁ => ?_
      obtain ⟨y, hy, ry⟩ := hP i v hlt hPv
      have rr₁ := rr.next (tk' := tk₁) hk₁ hLw hnext
      have hd : xs.drop i = y :: xs.drop (i + 1) := by
        rw [List.drop_eq_getElem_cons hlt]
        have : xs[i] = y := by rw [List.getElem?_eq_getElem hlt] at hy; exact Option.some.inj hy
        rw [this]
      rw [hd] at hq'
      have step : ∀ (E : Value → Shared → Prop), wpAny (model g.prog g.w) A (assign (.Name x px) (c.env L a cd) v) (fun _ s₂ => wpAny (model g.prog g.w) A (execs body (c.env L a cd)) (fun f s₃ => match f with
          | .next | .cont => ∃ m, m < xs.length + 1 - i ∧ ∃ (i : Nat) (W' : Fz) (S' : St), Ext Z W₁ W' ∧ T i s₃.heap ∧ R g L Z W' S' s₃ ∧ (∀ b ∈ wr, W' b = none) ∧ (∀ b ∈ fp, S'.σ b = none) ∧ LoopW g c x body (xs.drop i) S' Q ∧ i ≤ xs.length ∧ m = xs.length + 1 - i
          | .brk => Q' .next s₃
          | .ret v => Q' (.ret v) s₃) E s₂) E { s' with heap := h₁, toks := tk₁ } := by
        intro E
        have r2 : R g L (fun b => if b ∈ fp then h₁.get? b else Z b) W' S' { s' with heap := h₁, toks := tk₁ } := rr₁.more hLf hf'
        have hzz : ∀ a o, Z a = some o → (if a ∈ fp then h₁.get? a else Z a) = some o := fun a o e => by
          by_cases q : a ∈ fp
          · rw [if_pos q]; exact rr₁.z a o e
          · rw [if_neg q]; exact e
        refine wpAny_assign_Name (store_ r2 (ry.mono ex.up) hl fun s₂ r₂ => ?_)
        refine wpAny_mono (hq' A L a cd _ W' s₂ (fun f s₃ => match f with
          | .next | .cont => ∃ m, m < xs.length + 1 - i ∧ ∃ (i : Nat) (W' : Fz) (S' : St), Ext Z W₁ W' ∧ T i s₃.heap ∧ R g L Z W' S' s₃ ∧ (∀ b ∈ wr, W' b = none) ∧ (∀ b ∈ fp, S'.σ b = none) ∧ LoopW g c x body (xs.drop i) S' Q ∧ i ≤ xs.length ∧ m = xs.length + 1 - i
          | .brk => Q' .next s₃
          | .ret v => Q' (.ret v) s₃) lv r₂ ?_) (fun _ _ h => h) fun _ _ h => h.elim
        intro W₃ f b S₃ s₃ e₃ rf rr₃ h₃
        have ez := e₃.less hzz
        have goOn : LoopW g c x body (xs.drop (i + 1)) S₃ Q → ∃ m, m < xs.length + 1 - i ∧ ∃ (i : Nat) (W' : Fz) (S' : St), Ext Z W₁ W' ∧ T i s₃.heap ∧ R g L Z W' S' s₃ ∧ (∀ b ∈ wr, W' b = none) ∧ (∀ b ∈ fp, S'.σ b = none) ∧ LoopW g c x body (xs.drop i) S' Q ∧ i ≤ xs.length ∧ m = xs.length + 1 - i := fun hl₃ => by
          refine ⟨_, ?_, i + 1, W₃, S₃, ex.trans ez, ?_, rr₃.less hzz, ?_, ?_, hl₃, hlt, rfl⟩
          · (first | lia | omega)
          · refine Wk.frame _ _ _ hT₁ fun b hb o e => rr₃.z b o ?_
            simp only [if_pos hb]; exact e
          · intro b hb
            cases q : W₃ b with
            | none => rfl
            | some o =>
              rcases e₃.fresh b o q with h | h
              · rw [hw' b hb] at h; cases h
              · simp only [if_pos (Wk.sub _ hb)] at h
                obtain ⟨o', ho'⟩ := hob _ _ hT₁ b (Wk.sub _ hb)
                rw [ho'] at h; cases h
          · intro b hb
            cases q : S₃.σ b with
            | none => rfl
            | some l =>
              obtain ⟨arr, n, h1, _, h3, _⟩ := rr₃.mu b l q
              simp only [if_pos hb] at h3
              obtain ⟨o', ho'⟩ := hob _ _ hT₁ b hb
              rw [ho'] at h3; cases h3
        cases rf with
        | next => exact goOn h₃
        | cont => exact goOn h₃
        | brk => exact po _ _ _ _ _ ((e₁.trans ex).trans ez) .next (rr₃.less hzz) h₃
        | ret hr => exact po _ _ _ _ _ ((e₁.trans ex).trans ez) (.ret hr) (rr₃.less hzz) h₃
      exact step _
    · have hin : i = xs.length := by (first | lia | omega)
      subst hin
      refine Wk.done _ _ _ hT' fun h₁ tk₁ hk₁ => wpAny_execs_nil ?_
      rw [List.drop_length] at hq'
      exact po _ _ _ _ _ (e₁.trans ex) .next (rr.next (tk' := tk₁) hk₁ hLw hnext) hq'
end
section
variable {p : Program} {g : G p} {c : Cx} {α β : Type} {ρ : Fz → α → β → Prop} {S : St}
-- while
noncomputable def WhileW (g : G p) (c : Cx) (test : Expr) (body : List Stmt) : Nat → St → (F → St → Prop) → Prop
  | 0, _, _ => False
  | n + 1, S, Q => WT g c test S (fun b S₁ => if b = true then WS g c body S₁ (fun f S' => match f with
      | .next => WhileW g c test body n S' Q
      | .cont => WhileW g c test body n S' Q
      | .brk => Q .next S'
      | .ret u => Q (.ret u) S') else Q .next S₁)
theorem wX_while {test : Expr} {body : List Stmt} {pos : Pos} {Q : F → St → Prop} (n : Nat) (h : WhileW g c test body n S Q) : WX g c (.While test body [] pos) S Q :=
  fun A L a cd Z W s Q' lv r po => by
    refine wpAny_While (codeAny_mono (R := fun r s' => match r with | .ok f => Q' f s' | .error e => False) ?_ fun r s' h' => by cases r with | ok f => exact h' | error e => exact h'.elim)
    refine codeAny_whileLoop (fun k s' => ∃ (W' : Fz) (S' : St), Ext Z W W' ∧ R g L Z W' S' s' ∧ WhileW g c test body k S' Q) ?_ n ⟨W, S, .refl, r, h⟩
    rintro k s' ⟨W', S', ex, rr, hk⟩
    cases k with
    | zero => exact hk.elim
    | succ k =>
      refine wpAny_mono (hk A L a cd Z W' s' _ lv rr ?_) (fun _ _ h => h) fun _ _ h => h.elim
      intro W₁ x b S₁ s₁ e₁ rb rr₁ h₁
      cases rb
      cases x with
      | false => exact wpAny_execs_nil (po _ _ _ _ _ (ex.trans e₁) .next rr₁ h₁)
      | true =>
        refine wpAny_mono (h₁ A L a cd Z W₁ s₁ (fun f s₃ => match f with
            | .next | .cont => ∃ m, m < k + 1 ∧ ∃ (W' : Fz) (S' : St), Ext Z W W' ∧ R g L Z W' S' s₃ ∧ WhileW g c test body m S' Q
            | .brk => Q' .next s₃
            | .ret v => Q' (.ret v) s₃) lv rr₁ ?_) (fun _ _ h => h) fun _ _ h => h.elim
        intro W₂ f b S₂ s₂ e₂ rf rr₂ h₂
        have e3 := (ex.trans e₁).trans e₂
        cases rf with
        | next => exact ⟨k, Nat.lt_succ_self _, W₂, S₂, e3, rr₂, h₂⟩
        | cont => exact ⟨k, Nat.lt_succ_self _, W₂, S₂, e3, rr₂, h₂⟩
        | brk => exact po _ _ _ _ _ e3 .next rr₂ h₂
        | ret hr => exact po _ _ _ _ _ e3 (.ret hr) rr₂ h₂
-- calls
theorem call_name {M : Model} {A : Around} {E : Value → Shared → Prop} {s : Shared} {env : Env} {func : Expr} {args : List Expr} {pos : Pos} {Q : Value → Shared → Prop}
    (hc : eval (.Call func args [] pos) env = (do callWith pos (← eval func env) [] (backTo pos (starEach args env)) []))
    (h : wpAny M A (eval func env) (fun f s₁ => wpAny M A (callWith pos f [] (backTo pos (starEach args env)) []) Q E s₁) E s) : wpAny M A (eval (.Call func args [] pos) env) Q E s := by
  rw [hc]; exact wpAny_bind h
/-- a call that is no method's -/
noncomputable def PlainCall (func : Expr) (args : List Expr) (pos : Pos) : Prop :=
  ∀ env, eval (.Call func args [] pos) env = (do callWith pos (← eval func env) [] (backTo pos (starEach args env)) [])
/-- one argument at least, none starred -/
noncomputable def SomeArgs (args : List Expr) (pos : Pos) : Prop := ∀ env, ∃ x r, backTo pos (starEach args env) = (false, x) :: r ∧ r.any (·.1) = false
theorem wE_callB {id : String} {func : Expr} {args : List Expr} {pos : Pos} {Q : V → St → Prop}
    (h : WE g c func S (fun fv S₁ => fv = .lit (.builtin id) ∧ WA g c pos args S₁ (fun xs S₂ => OpN g c Rep (fun vs => call (.builtin id) vs) xs S₂ Q)))
    (hc : PlainCall func args pos := by intro _; rfl) (hs : SomeArgs args pos := by intro _; exact ⟨_, _, rfl, rfl⟩) : WE g c (.Call func args [] pos) S Q :=
  fun A L a cd Z W s Q' lv r po => call_name (hc _) (h A L a cd Z W s _ lv r fun W₁ f fv S₁ s₁ e₁ rf rr₁ h₁ => by
    obtain ⟨rfl, h₁⟩ := h₁
    cases rf
    obtain ⟨x, q, hx, hq⟩ := hs (c.env L a cd)
    refine Calls.callWith_builtin (by rw [hx]; simpa using hq) ?_
    have := h₁ A L a cd Z W₁ s₁ (fun vs s₂ => wpAny (model g.prog g.w) A (call (.builtin id) vs) Q' (fun _ _ => False) s₂) lv rr₁ fun W₂ vs xs S₂ s₂ e₂ r₂ rr₂ h₂ => h₂ A L Z W₂ s₂ Q' vs lv rr₂ r₂ (po.ext (e₁.trans e₂))
    change wpAny _ _ (spliced (backTo pos (starEach args (c.env L a cd)))) _ _ _ at this
    rw [hx] at this ⊢
    exact Calls.evalArgs_plain (wpAny_mono this (fun vs s₂ h => h) fun _ _ h => h))
theorem wE_callT {T : String} {func : Expr} {args : List Expr} {pos : Pos} {Q : V → St → Prop}
    (h : WE g c func S (fun fv S₁ => fv = .lit (.type T) ∧ WA g c pos args S₁ (fun xs S₂ => OpN g c Rep (fun vs => call (.type T) vs) xs S₂ Q)))
    (hc : PlainCall func args pos := by intro _; rfl) (hs : SomeArgs args pos := by intro _; exact ⟨_, _, rfl, rfl⟩) : WE g c (.Call func args [] pos) S Q :=
  fun A L a cd Z W s Q' lv r po => call_name (hc _) (h A L a cd Z W s _ lv r fun W₁ f fv S₁ s₁ e₁ rf rr₁ h₁ => by
    obtain ⟨rfl, h₁⟩ := h₁
    cases rf
    obtain ⟨x, q, hx, hq⟩ := hs (c.env L a cd)
    refine PySem.callWith_type (by rw [hx]; simpa using hq) ?_
    have := h₁ A L a cd Z W₁ s₁ (fun vs s₂ => wpAny (model g.prog g.w) A (call (.type T) vs) Q' (fun _ _ => False) s₂) lv rr₁ fun W₂ vs xs S₂ s₂ e₂ r₂ rr₂ h₂ => h₂ A L Z W₂ s₂ Q' vs lv rr₂ r₂ (po.ext (e₁.trans e₂))
    change wpAny _ _ (spliced (backTo pos (starEach args (c.env L a cd)))) _ _ _ at this
    rw [hx] at this ⊢
    exact Calls.evalArgs_plain (wpAny_mono this (fun vs s₂ h => h) fun _ _ h => h))
noncomputable def IsFn (g : G p) (f : Addr) : Prop := ∃ o fd, g.hB.get? f = some o ∧ o.data = .func fd
theorem wE_callD {f : Addr} (hf : IsFn g f) {func : Expr} {args : List Expr} {pos : Pos} {Q : V → St → Prop}
    (h : WE g c func S (fun fv S₁ => fv = .lit (.ref f) ∧ WA g c pos args S₁ (fun xs S₂ => OpN g c Rep (fun vs => call (.ref f) vs) xs S₂ Q)))
    (hc : PlainCall func args pos := by intro _; rfl) (hs : SomeArgs args pos := by intro _; exact ⟨_, _, rfl, rfl⟩) : WE g c (.Call func args [] pos) S Q :=
  fun A L a cd Z W s Q' lv r po => call_name (hc _) (h A L a cd Z W s _ lv r fun W₁ fr fv S₁ s₁ e₁ rf rr₁ h₁ => by
    obtain ⟨rfl, h₁⟩ := h₁
    cases rf
    obtain ⟨o, fd, ho, hd⟩ := hf
    obtain ⟨x, q, hx, hq⟩ := hs (c.env L a cd)
    refine Calls.callWith_function (o := o) (fd := fd) ?_
    have := h₁ A L a cd Z W₁ s₁ (fun vs s₂ => (s₂.heap.get? f = some o ∧ o.data = .func fd) ∧ wpAny (model g.prog g.w) A (call (.ref f) vs) Q' (fun _ _ => False) s₂) lv rr₁ fun W₂ vs xs S₂ s₂ e₂ r₂ rr₂ h₂ =>
      ⟨⟨rr₂.base _ _ ho, hd⟩, h₂ A L Z W₂ s₂ Q' vs lv rr₂ r₂ (po.ext (e₁.trans e₂))⟩
    change wpAny _ _ (spliced (backTo pos (starEach args (c.env L a cd)))) _ _ _ at this
    rw [hx] at this ⊢
    exact Calls.evalArgs_plain (wpAny_mono this (fun vs s₂ h => h) fun _ _ h => h))
/-- the contract of a def: from a state that tells σ alone, the call ends in what P tells -/
noncomputable def GCall (g : G p) (f : Addr) (n : Nat) (xs : List V) (σ : Addr → Option (List V)) (P : V → (Addr → Option (List V)) → Prop) : Prop :=
  ∀ (A : Around) (Z W : Fz) (s : Shared) (vs : List Value) (Q' : Value → Shared → Prop), Lv n A → R0 g Z W σ s → RepL W vs xs →
    (∀ W' v x σ' s', Ext Z W W' → Rep W' v x → R0 g Z W' σ' s' → P x σ' → Q' v s') → wpAny (model g.prog g.w) A (call (.ref f) vs) Q' (fun _ _ => False) s
theorem GCall.mono {f : Addr} {n : Nat} {xs : List V} {σ : Addr → Option (List V)} {P P' : V → (Addr → Option (List V)) → Prop} (h : GCall g f n xs σ P) (k : ∀ x σ', P x σ' → P' x σ') : GCall g f n xs σ P' :=
  fun A Z W s vs Q' lv r rv q => h A Z W s vs Q' lv r rv fun W' v x σ' s' e1 e2 e3 e4 => q W' v x σ' s' e1 e2 e3 (k _ _ e4)
theorem repL_lookup {W : Fz} : ∀ {names : List Str} {vs : List Value} {xs : List V}, RepL W vs xs → ∀ y u, ((names.zip xs).reverse.lookup y) = some u → ∃ q, ((names.zip vs).reverse.lookup y) = some q ∧ Rep W q u := by
  intro names
  induction names with
  | nil => intro vs xs h y u e; simp at e
  | cons n r ih =>
    intro vs xs h y u e
    cases h with
    | nil => simp at e
    | cons a b =>
      rename_i v x vs xs
      simp only [List.zip_cons_cons, List.reverse_cons, List.lookup_append, List.lookup_cons, List.lookup_nil] at e ⊢
      cases hq : ((r.zip xs).reverse.lookup y) with
      | some z =>
        rw [hq] at e
        simp only [Option.some_or, Option.some.injEq] at e
        subst e
        obtain ⟨q, e1, e2⟩ := ih b y _ hq
        exact ⟨q, by rw [e1]; rfl, e2⟩
      | none =>
        rw [hq] at e
        simp only [Option.none_or] at e
        have hn : ((r.zip vs).reverse.lookup y) = none := by
          have hl : vs.length = xs.length := b.length
          clear ih e
          rw [List.lookup_eq_none_iff] at hq ⊢
          intro q hm
          rw [List.mem_reverse] at hm
          obtain ⟨i, hi, he⟩ := List.mem_iff_getElem.mp hm
          have hi' : i < r.length ∧ i < vs.length := by simp only [List.length_zip] at hi; (first | lia | omega)
          have h1 : (r[i], xs[i]'(by (first | lia | omega))) ∈ (r.zip xs).reverse := by
            rw [List.mem_reverse]
            exact List.mem_iff_getElem.mpr ⟨i, by simp; (first | lia | omega), by simp⟩
          have h2 := hq _ h1
          rw [← he]
          simpa using h2
        rw [hn]
        simp only [Option.none_or]
        split at e
        · rename_i heq
          cases e
          exact ⟨v, rfl, a⟩
        · cases e
theorem gcall_of {d : DefRec} (hd : d ∈ recsOf p) {f : Addr} (hf : g.mg d.name = some (.ref f)) {n : Nat} {xs : List V} {σ : Addr → Option (List V)} {P : V → (Addr → Option (List V)) → Prop} (names : List Str)
    (hbind : ∀ pm code doc vs, vs.length = xs.length → bindArgs (docDef d.name d.params d.body d.scope pm code doc) ⟨vs, []⟩ = pure (names.zip vs))
    (hloc : ∀ x ∈ names, d.scope.names.lookup x = some .local) (hk : d.scope.kind = .function)
    (h : WS g ⟨n, d.name, d.scope, hk, fun _ _ => True⟩ d.body ⟨fun y => (names.zip xs).reverse.lookup y, σ⟩ (fun fl S' => ∃ x, fl = .ret x ∧ P x S'.σ))
    (hco : d.scope.isCoroutine = false := by rfl) (hgen : d.scope.isGenerator = false := by rfl) (hcell : ∀ x ∈ d.scope.names, x.2 ≠ .cell := by decide) :
    GCall g f (n + 1) xs σ P := by
  intro A Z W s vs Q' lv r rv po
  obtain ⟨a, o, pm, code, doc, h1, h2, h3, h4⟩ := g.T.fn d hd
  rw [hf] at h1
  obtain rfl : f = a := by cases h1; rfl
  refine wpAny_call (call_plain_ret (by have := lv.dep; show A.depth < 1000; (first | lia | omega)) (r.base _ _ h2) h3 (g.T.nolimit.keeps r.base) (h4.keeps r.base) (hbind pm code doc vs rv.length) ?_ (fun h₁ F₁ => ?_) hco hgen hk hcell)
  · intro x hx
    exact hloc _ (List.of_mem_zip hx).1
  · have key : s.heap.get? s.heap.objs.size = none := Heap.get?_none_of_le (Nat.le_refl _)
    have r' : R g s.heap.objs.size Z W ⟨fun y => (names.zip xs).reverse.lookup y, σ⟩ { s with heap := h₁, toks := s.toks + (names.zip vs).length } := by
      refine { toR0 := r.keeps F₁.keep, ns := ⟨_, F₁.ns, fun y u e => repL_lookup rv y u e⟩, lz := ?_, lw := ?_, lb := ?_, lm := ?_ }
      · cases q : Z s.heap.objs.size with
        | none => rfl
        | some o => rw [r.z _ _ q] at key; cases key
      · cases q : W s.heap.objs.size with
        | none => rfl
        | some o => rw [r.w _ _ q] at key; cases key
      · cases q : g.hB.get? s.heap.objs.size with
        | none => rfl
        | some o => rw [r.base _ _ q] at key; cases key
      · show σ s.heap.objs.size = none
        cases q : σ s.heap.objs.size with
        | none => rfl
        | some o => obtain ⟨_, _, h1, _⟩ := r.mu _ _ q; rw [h1] at key; cases key
    refine h _ _ _ _ Z W _ _ ⟨⟨lv.hh, ?_, ?_⟩, trivial⟩ r' ?_
    · show A.depth + 1 + n ≤ 900
      have := lv.dep; (first | lia | omega)
    · show A.units + 3 + 40 * n ≤ 9000
      have := lv.un; (first | lia | omega)
    · intro W' fl b S' s' e rf rr hq
      obtain ⟨x, rfl, hP⟩ := hq
      cases rf with
      | ret hr => exact po W' _ x S'.σ s' e hr rr.toR0 hP
/-- a call that changes nothing -/
theorem op_pure {f : Addr} {n : Nat} {xs : List V} {P : V → Prop} {Q : V → St → Prop} (h : GCall g f n xs (fun _ => none) (fun x _ => P x)) (hn : n ≤ c.lv) (hq : ∀ x, P x → Q x S) :
    OpN g c Rep (fun vs => call (.ref f) vs) xs S Q := by
  intro A L Z W s Q' vs lv r rv po
  refine h A (fun a => s.heap.get? a) W s vs Q' (lv.le hn) ⟨r.rest, r.base, fun _ _ e => e, r.w, fun _ _ e => by cases e⟩ rv fun W' v x σ' s' ex hv r' hP => ?_
  have fr : ∀ a o, W' a = some o → W a = some o ∨ s.heap.get? a = none := fun a o e => ex.fresh a o e
  have ez : Ext Z W W' := ⟨ex.up, fun a o e => (fr a o e).imp id fun h => by
    cases q : Z a with
    | none => rfl
    | some o => rw [r.z _ _ q] at h; cases h⟩
  refine po W' v x S s' ez hv ?_ (hq x hP)
  have off : ∀ a, W a = none → s.heap.get? a ≠ none → W' a = none := fun a h1 h2 => by
    cases q : W' a with
    | none => rfl
    | some o => rcases fr a o q with h | h
                · rw [h1] at h; cases h
                · exact absurd h h2
  obtain ⟨mr, hn, hm⟩ := r.ns
  refine { rest := r'.rest, base := r'.base, z := fun a o e => r'.z a o (r.z a o e), w := r'.w, mu := fun a l e => ?_, ns := ⟨mr, hn.keeps r'.z, fun y u e => let ⟨q, e1, e2⟩ := hm y u e; ⟨q, e1, e2.mono ex.up⟩⟩, lz := r.lz, lw := ?_, lb := r.lb, lm := r.lm }
  · obtain ⟨arr, k, h1, h2, h3, h4, h5⟩ := r.mu a l e
    exact ⟨arr, k, r'.z _ _ h1, h2.mono ex.up, h3, off a h4 (by rw [h1]; exact fun h => nomatch h), h5⟩
  · obtain ⟨oL, _, _, hL, _⟩ := hn
    exact off L r.lw (by rw [hL]; exact fun h => nomatch h)
/-- a call that is lent one list -/
theorem op_lend {f : Addr} {n : Nat} {xs : List V} {P : V → List V → Prop} {Q : V → St → Prop} {a : Addr} {l : List V} (ha : S.σ a = some l)
    (h : GCall g f n xs (fun b => if b = a then some l else none) (fun x σ' => ∃ l', σ' a = some l' ∧ P x l')) (hn : n ≤ c.lv) (hq : ∀ x l', P x l' → Q x { S with σ := upd S.σ a l' }) :
    OpN g c Rep (fun vs => call (.ref f) vs) xs S Q := by
  intro A L Z W s Q' vs lv r rv po
  obtain ⟨arr₀, n₀, m1, m2, m3, m4, m5⟩ := r.mu a l ha
  have hLa : L ≠ a := fun q => by rw [← q, r.lm] at ha; cases ha
  refine h A (fun b => if b = a then none else s.heap.get? b) W s vs Q' (lv.le hn) ⟨r.rest, r.base, fun b o e => ?_, r.w, fun b l' e => ?_⟩ rv fun W' v x σ' s' ex hv r' hP => ?_
  · have e' : (if b = a then none else s.heap.get? b) = some o := e
    by_cases q : b = a
    · rw [if_pos q] at e'; cases e'
    · rw [if_neg q] at e'; exact e'
  · have e' : (if b = a then some l else none) = some l' := e
    by_cases q : b = a
    · rw [if_pos q] at e'; cases e'
      rw [q]
      exact ⟨arr₀, n₀, m1, m2, if_pos rfl, m4, m5⟩
    · rw [if_neg q] at e'; cases e'
  · obtain ⟨l', hl', hP⟩ := hP
    have fr : ∀ b o, W' b = some o → W b = some o ∨ b = a ∨ s.heap.get? b = none := fun b o e => (ex.fresh b o e).imp id fun h => by
      have h' : (if b = a then none else s.heap.get? b) = none := h
      by_cases q : b = a
      · exact .inl q
      · rw [if_neg q] at h'; exact .inr h'
    obtain ⟨arr', n', p1, p2, p3, p4, p5⟩ := r'.mu a l' hl'
    have ez : Ext Z W W' := ⟨ex.up, fun b o e => (fr b o e).imp id fun h => by
      rcases h with h | h
      · rw [h]; exact m3
      · cases q : Z b with
        | none => rfl
        | some o => rw [r.z _ _ q] at h; cases h⟩
    refine po W' v x _ s' ez hv ?_ (hq x l' hP)
    have off : ∀ b, W b = none → b ≠ a → s.heap.get? b ≠ none → W' b = none := fun b h1 hb h2 => by
      cases q : W' b with
      | none => rfl
      | some o => rcases fr b o q with h | h | h
                  · rw [h1] at h; cases h
                  · exact absurd h hb
                  · exact absurd h h2
    have kz : ∀ b o, b ≠ a → s.heap.get? b = some o → s'.heap.get? b = some o := fun b o hb e => r'.z b o (by show (if b = a then none else s.heap.get? b) = some o; rw [if_neg hb]; exact e)
    obtain ⟨mr, hn, hm⟩ := r.ns
    refine { rest := r'.rest, base := r'.base, z := fun b o e => kz b o (fun q => by rw [q, m3] at e; cases e) (r.z b o e), w := r'.w, mu := fun b k e => ?_, ns := ⟨mr, hn.at' fun o e => kz L o hLa e, fun y u e => let ⟨q, e1, e2⟩ := hm y u e; ⟨q, e1, e2.mono ex.up⟩⟩, lz := r.lz, lw := ?_, lb := r.lb, lm := ?_ }
    · simp only [upd] at e
      by_cases q : b = a
      · rw [if_pos q] at e; cases e
        rw [q]
        exact ⟨arr', n', p1, p2, m3, p4, m5⟩
      · rw [if_neg q] at e
        obtain ⟨arr, k', h1, h2, h3, h4, h5⟩ := r.mu b k e
        exact ⟨arr, k', kz _ _ q h1, h2.mono ex.up, h3, off b h4 q (by rw [h1]; exact fun h => nomatch h), h5⟩
    · obtain ⟨oL, _, _, hL, _⟩ := hn
      exact off L r.lw hLa (by rw [hL]; exact fun h => nomatch h)
    · simp only [upd]; rw [if_neg hLa]; exact r.lm
end
section
variable {prog : Program} {wd : World} {A : Around} {E : Value → Shared → Prop} {s : Shared} {D : Addr} {arr : Array Value} {n : Nat} {v : Value} {t : Tok} {i : Int}
/-- what list.__setitem__ itself does with a spot inside the list -/
theorem spot_entry (k1 : s.heap.get? D = some (lobj arr n)) (h0 : 0 ≤ i) (hfit : Builtin.List.listFitsIndex i = true) (hj : i < arr.size) {Q : Value → Shared → Prop} (q : Q .none { s with heap := s.heap.update D (Obj.mapSeq (·.setIfInBounds i.toNat v)) }) :
    wpAny (model prog wd) A (Builtin.«list.__setitem__» ⟨[.ref D, .int i t, v], []⟩) (fun fin s' => ∃ r, fin = .done (.ret r) ∧ Q r s') E s := by
  show wpAny _ _ (Builtin.List.listSubscript? (.int i t) >>= _) _ _ s
  refine wpAny_bind (wpAny_listSubscript_int hfit ?_)
  clear hfit
  obtain ⟨j, rfl⟩ := Int.eq_ofNat_of_zero_le h0
  have hj' : j < arr.size := by omega
  show wpAny _ _ ((seqItemAt D j >>= fun r => pure (r.map (j, ·))) >>= _) _ _ s
  refine wpAny_bind (wpAny_bind (wpAny_seqItemAt k1 rfl (wpAny_pure ?_)))
  rw [Array.getElem?_eq_getElem hj']
  show wpAny _ _ (setSeqItemAt D j v >>= _) _ _ s
  refine wpAny_bind (wpAny_setSeqItemAt k1 rfl ?_)
  first
  | exact wpAny_pure ⟨_, rfl, q⟩
  | exact wpAny_bind (wpAny_pure (wpAny_pure ⟨_, rfl, q⟩))
theorem spot_set (k1 : s.heap.get? D = some (lobj arr n)) (h0 : 0 ≤ i) (hfit : i < 2 ^ 63) (hj : i < arr.size) {Q : Unit → Shared → Prop} (q : Q () { s with heap := s.heap.update D (Obj.mapSeq (·.setIfInBounds i.toNat v)) }) :
    wpAny (model prog wd) A (setItem (.ref D) (.int i t) v) Q E s := by
  have ty := (PySem.IsL.isList (n := n) k1).typeIs
  have hf := fitsIndex_of h0 hfit
  clear hfit
  unfold setItem
  refine wpAny_holding (wpAny_bind (wpAny_sequenceKey ty (by decide) (wpAny_bind (wpAny_callSpecial?_slot ty slot_list_setitem ?_))))
  exact wpAny_call_entry slot_list_setitem ty entry_list_setitem (spot_entry k1 h0 hf hj (wpAny_pure q)) (args_list_setitem _ _ _)
end
noncomputable def noHeap : Heap := {}
theorem noHeap_get (a : Addr) : noHeap.get? a = none := by simp [noHeap, Heap.get?]
noncomputable def allNews (h : Heap) (L : Addr) : List (Addr × Obj) := (List.range h.objs.size).filterMap fun a => if a = L then none else (h.get? a).map fun o => (a, o)
theorem mem_allNews {h : Heap} {L a : Addr} {o : Obj} : (a, o) ∈ allNews h L ↔ a ≠ L ∧ h.get? a = some o := by
  unfold allNews
  rw [List.mem_filterMap]
  constructor
  · rintro ⟨b, _, e⟩
    by_cases hb : b = L
    · rw [if_pos hb] at e; cases e
    · rw [if_neg hb, Option.map_eq_some_iff] at e
      obtain ⟨o', h1, h2⟩ := e
      cases h2
      exact ⟨hb, h1⟩
  · rintro ⟨h1, h2⟩
    exact ⟨a, List.mem_range.mpr (Heap.lt_size h2), by rw [if_neg h1, h2]; rfl⟩
theorem fr_no {h : Heap} {L : Addr} {m : Str → Option Value} (hn : h.Ns L m) : Fr noHeap L h m := ⟨hn, fun b o e => (by rw [noHeap_get] at e; cases e), Nat.zero_le _⟩
theorem news_all (h : Heap) (L : Addr) : News noHeap L h (allNews h L) := fun p hp => by
  obtain ⟨h1, h2⟩ := mem_allNews.mp hp
  exact ⟨h2, h1, noHeap_get _⟩
section
variable {p : Program} {g : G p} {c : Cx} {α β : Type} {ρ : Fz → α → β → Prop} {S : St}
theorem R.of_all {L : Addr} {Z W : Fz} {s : Shared} {mr : Str → Option Value} (r : R g L Z W S s) (hm : ∀ x v, S.m x = some v → ∃ q, mr x = some q ∧ Rep W q v) {h' : Heap} {tk' : Nat}
    (F : Fr noHeap L h' mr) (N : News noHeap L h' (allNews s.heap L)) : R g L Z W S { s with heap := h', toks := tk' } := by
  have k : ∀ b o, b ≠ L → s.heap.get? b = some o → h'.get? b = some o := fun b o hb e => (N _ (mem_allNews.mpr ⟨hb, e⟩)).1
  refine { rest := ?_, base := fun b o e => k b o (fun q => by rw [q, r.lb] at e; cases e) (r.base b o e), z := fun b o e => k b o (fun q => by rw [q, r.lz] at e; cases e) (r.z b o e), w := fun b o e => k b o (fun q => by rw [q, r.lw] at e; cases e) (r.w b o e), mu := fun a l e => ?_, ns := ⟨mr, F.ns, hm⟩, lz := r.lz, lw := r.lw, lb := r.lb, lm := r.lm }
  · obtain ⟨h, tk, rfl⟩ := r.rest; exact ⟨_, tk', rfl⟩
  · obtain ⟨arr, n, h1, h2⟩ := r.mu a l e
    exact ⟨arr, n, k a _ (fun q => by rw [q, r.lm] at e; cases e) h1, h2⟩
theorem R.weak {L : Addr} {Z W : Fz} {S' : St} {s : Shared} (r : R g L Z W S s) (hm : ∀ x v, S'.m x = some v → S.m x = some v) (hs : ∀ a l, S'.σ a = some l → S.σ a = some l) : R g L Z W S' s where
  rest := r.rest
  base := r.base
  z := r.z
  w := r.w
  mu := fun a l e => r.mu a l (hs a l e)
  ns := let ⟨mr, h1, h2⟩ := r.ns; ⟨mr, h1, fun x v e => h2 x v (hm x v e)⟩
  lz := r.lz
  lw := r.lw
  lb := r.lb
  lm := by
    cases q : S'.σ L with
    | none => rfl
    | some l => have := hs L l q; rw [r.lm] at this; cases this
/-- from here on less is told of the state -/
theorem w_weak {t : Env → Sem α} {S' : St} {Q : β → St → Prop} (hm : ∀ x v, S'.m x = some v → S.m x = some v) (hs : ∀ a l, S'.σ a = some l → S.σ a = some l) (h : Wp g c ρ t S' Q) : Wp g c ρ t S Q :=
  fun A L a cd Z W s Q' lv r po => h A L a cd Z W s Q' lv (r.weak hm hs) po
noncomputable def St.freeze (S : St) (x : Str) (a : Addr) (l : List V) : St := ⟨fun y => if y = x then some (.list l) else S.m y, fun b => if b = a then none else S.σ b⟩
theorem R.freeze {L : Addr} {Z W : Fz} {s : Shared} {x : Str} {a : Addr} {l : List V} (r : R g L Z W S s) (hx : S.m x = some (.ref a)) (ha : S.σ a = some l) :
    ∃ W', Ext Z W W' ∧ R g L Z W' (S.freeze x a l) s := by
  obtain ⟨arr, n, h1, h2, h3, h4, h5⟩ := r.mu a l ha
  have hLa : L ≠ a := fun q => by rw [← q, r.lm] at ha; cases ha
  have up : ∀ b o, W b = some o → wadd W a (lobj arr n) b = some o := fun b o e => by
    unfold wadd
    rw [if_neg (fun q => by rw [q, h4] at e; cases e)]; exact e
  refine ⟨wadd W a (lobj arr n), ⟨up, fun b o e => ?_⟩, { rest := r.rest, base := r.base, z := r.z, w := fun b o e => ?_, mu := fun b l' e => ?_, ns := ?_, lz := r.lz, lw := ?_, lb := r.lb, lm := ?_ }⟩
  · unfold wadd at e
    by_cases q : b = a
    · rw [q]; exact .inr h3
    · rw [if_neg q] at e; exact .inl e
  · unfold wadd at e
    by_cases q : b = a
    · rw [if_pos q] at e; cases e; rw [q]; exact h1
    · rw [if_neg q] at e; exact r.w b o e
  · have e' : (if b = a then none else S.σ b) = some l' := e
    by_cases q : b = a
    · rw [if_pos q] at e'; cases e'
    · rw [if_neg q] at e'
      obtain ⟨arr', n', k1, k2, k3, k4, k5⟩ := r.mu b l' e'
      exact ⟨arr', n', k1, k2.mono up, k3, by unfold wadd; rw [if_neg q]; exact k4, k5⟩
  · obtain ⟨mr, hn, hm⟩ := r.ns
    refine ⟨mr, hn, fun y v e => ?_⟩
    have e' : (if y = x then some (.list l) else S.m y) = some v := e
    by_cases q : y = x
    · rw [if_pos q] at e'; cases e'
      obtain ⟨rv, e1, e2⟩ := hm x _ hx
      cases e2
      exact ⟨_, by rw [q]; exact e1, .list (by unfold wadd; exact if_pos rfl) (h2.mono up)⟩
    · rw [if_neg q] at e'
      obtain ⟨rv, e1, e2⟩ := hm y _ e'
      exact ⟨rv, e1, e2.mono up⟩
  · unfold wadd; rw [if_neg hLa]; exact r.lw
  · show (if L = a then none else S.σ L) = none
    rw [if_neg hLa]; exact r.lm
/-- a list of the frame is changed no more -/
theorem w_freeze {t : Env → Sem α} {Q : β → St → Prop} (x : Str) {a : Addr} {l : List V} (hx : S.m x = some (.ref a)) (ha : S.σ a = some l) (h : Wp g c ρ t (S.freeze x a l) Q) : Wp g c ρ t S Q :=
  fun A L k cd Z W s Q' lv r po => by
    obtain ⟨W', ex, r'⟩ := r.freeze hx ha
    exact h A L k cd Z W' s Q' lv r' (po.ext ex)
-- truth by the value
theorem wT_plain {e : Expr} {Q : Bool → St → Prop} (h : WE g c e S (fun v S' => ∃ b, truthV v = some b ∧ Q b S'))
    (he : ∀ env whole, isTrue e env whole = (do let v ← whole; standAt e.pos; holding [v] (truthy v)) := by intros; rfl) : WT g c e S Q :=
  fun A L a cd Z W s Q' lv r po => isTrue_plain (h A L a cd Z W s _ lv r fun W₁ v x S₁ s₁ e₁ r₁ rr₁ h₁ => by
    obtain ⟨b, hb, hq⟩ := h₁
    exact truthy_V r₁ hb (po _ _ _ _ _ e₁ rfl rr₁ hq)) (he _ _)
theorem wT_chain {l q₁ q₂ : Expr} {op₁ op₂ : CmpOp} {pos : Pos} {Q : Bool → St → Prop}
    (h : WE g c l S (fun x S₁ => WE g c q₁ S₁ (fun y S₂ => Op2 g c Rep (compareOp op₁) x y S₂ (fun v S₃ => ∃ b, truthV v = some b ∧
      if b = true then WE g c q₂ S₃ (fun z S₄ => Op2 g c Rep (compareOp op₂) y z S₄ (fun v S₅ => ∃ b, truthV v = some b ∧ Q b S₅)) else Q false S₃))))
    (hm : lastMarks [op₁, op₂] [q₁, q₂] = false := by with_unfolding_all rfl) : WT g c (.Compare l [op₁, op₂] [q₁, q₂] pos) S Q :=
  fun A L a cd Z W s Q' lv r po => by
    refine isTrue_chain (h A L a cd Z W s _ lv r fun W₁ v x S₁ s₁ e₁ r₁ rr₁ h₁ => ?_) hm
    refine test_link (h₁ A L a cd Z W₁ s₁ _ lv rr₁ fun W₂ u y S₂ s₂ e₂ r₂ rr₂ h₂ => h₂ A L Z W₂ s₂ _ v u lv rr₂ (r₁.mono e₂.up) r₂ fun W₃ z vz S₃ s₃ e₃ r₃ rr₃ h₃ => ?_)
    obtain ⟨b, hb, hq⟩ := h₃
    refine truthy_V r₃ hb ?_
    have e123 := (e₁.trans e₂).trans e₃
    cases b with
    | false => exact po _ _ _ _ _ e123 rfl rr₃ hq
    | true =>
      refine test_last (hq A L a cd Z W₃ s₃ _ lv rr₃ fun W₄ z4 y4 S₄ s₄ e₄ r₄ rr₄ h₄ => h₄ A L Z W₄ s₄ _ u z4 lv rr₄ (r₂.mono (fun b o e => e₄.up b o (e₃.up b o e))) r₄ fun W₅ z5 y5 S₅ s₅ e₅ r₅ rr₅ h₅ => ?_)
      obtain ⟨b, hb, hq⟩ := h₅
      exact truthy_V r₅ hb (po _ _ _ _ _ ((e123.trans e₄).trans e₅) rfl rr₅ hq)
-- subscripts
theorem sub_tail {M : Model} {A : Around} {s : Shared} {prog : Program} {w : World} {value slice : Expr} {o i : Value} {T id : String} {E : Value → Shared → Prop} {Q : Value → Shared → Prop} (hT : s.TypeIs o T)
    (hl : typeLookup (.type T) "__getitem__" = pure (some (.builtin id))) (h : wpAny (model prog w) A (getItem o i) Q E s)
    (hs : subscripted slice false o i = operate [o, i] (getItem o i)) : wpAny (model prog w) A (subscriptTail value slice o i) Q E s := by
  unfold subscriptTail
  refine wpAny_bind ?_
  rw [getitemInPython_of_ne hT.not_modules]
  refine wpAny_bind (wpAny_specialOf hT hl ?_)
  refine wpAny_pure (wpAny_bind ?_)
  rw [hs]
  exact wpAny_operating (wpAny_mono h (fun r s₃ h₃ => wpAny_bind (wpAny_letTemporaryGo (wpAny_pure h₃))) fun _ _ x => x)
noncomputable def NoSlice (slice : Expr) : Prop := ∀ o i, subscripted slice false o i = operate [o, i] (getItem o i)
theorem wE_sub {value slice : Expr} {pos : Pos} {Q : V → St → Prop} (h : WE g c value S (fun x S₁ => WE g c slice S₁ (fun y S₂ => Op2 g c Rep (subscriptTail value slice) x y S₂ Q))) :
    WE g c (.Subscript value slice pos) S Q :=
  fun A L a cd Z W s Q' lv r po => Subscript_ (h A L a cd Z W s _ lv r fun W₁ v x S₁ s₁ e₁ r₁ rr₁ h₁ =>
    h₁ A L a cd Z W₁ s₁ _ lv rr₁ fun W₂ u y S₂ s₂ e₂ r₂ rr₂ h₂ => h₂ A L Z W₂ s₂ Q' v u lv rr₂ (r₁.mono e₂.up) r₂ (po.ext (e₁.trans e₂)))
/-- the place an index names -/
noncomputable def place (k : Int) (n : Nat) : Nat := if k < 0 then (k + n).toNat else k.toNat
theorem getItem_any {A : Around} {s : Shared} {l : Addr} {items : Array Value} {k : Int} {t : Tok} {x : Value} {Q : Value → Shared → Prop} {E : Value → Shared → Prop} (hl : s.heap.IsList l items)
    (h1 : -(items.size : Int) ≤ k) (hsz : items.size < 2 ^ 63) (hx : items[place k items.size]? = some x) (h : Q x s) : wpAny (model g.prog g.w) A (getItem (.ref l) (.int k t)) Q E s := by
  have hlt := (Array.getElem?_eq_some_iff.mp hx).1
  by_cases h0 : k < 0
  · rw [place, if_pos h0] at hx hlt
    exact wpAny_getItem_list_neg hl h0 h1 (by (first | lia | omega)) hx h
  · rw [place, if_neg h0] at hx hlt
    exact wpAny_getItem_list hl (by (first | lia | omega)) (by (first | lia | omega)) hx h
/-- an item of a list that is kept -/
theorem s_list {value slice : Expr} {l : List V} {k : Int} {x : V} {Q : V → St → Prop} (hx : l[place k l.length]? = some x) (h1 : -(l.length : Int) ≤ k) (hsz : l.length < 2 ^ 63) (h : Q x S)
    (hs : NoSlice slice := by intro _ _; rfl) : Op2 g c Rep (subscriptTail value slice) (.list l) (.int k) S Q :=
  fun A L Z W s Q' v u lv r rv ru po => by
    cases rv with
    | list ha hr =>
      cases ru
      have hl : s.heap.IsList _ _ := PySem.IsL.isList (r.w _ _ ha)
      have len := hr.length
      rw [Array.length_toList] at len
      obtain ⟨rx, e1, e2⟩ := hr.get hx
      refine sub_tail (M := model g.prog g.w) hl.typeIs slot_list_getitem.lookup (getItem_any hl (by rw [len]; exact h1) (by rw [len]; exact hsz) (by rw [len]; simpa using e1) (po.here e2 r h)) (hs _ _)
/-- an item of a list that may be changed -/
theorem s_ref {value slice : Expr} {a : Addr} {l : List V} {k : Int} {x : V} {Q : V → St → Prop} (ha : S.σ a = some l) (hx : l[place k l.length]? = some x) (h1 : -(l.length : Int) ≤ k) (hsz : l.length < 2 ^ 63) (h : Q x S)
    (hs : NoSlice slice := by intro _ _; rfl) : Op2 g c Rep (subscriptTail value slice) (.ref a) (.int k) S Q :=
  fun A L Z W s Q' v u lv r rv ru po => by
    cases rv; cases ru
    obtain ⟨arr, n, h1', hr, _⟩ := r.mu a l ha
    have hl : s.heap.IsList a arr := PySem.IsL.isList h1'
    have len := hr.length
    rw [Array.length_toList] at len
    obtain ⟨rx, e1, e2⟩ := hr.get hx
    exact sub_tail (M := model g.prog g.w) hl.typeIs slot_list_getitem.lookup (getItem_any hl (by rw [len]; exact h1) (by rw [len]; exact hsz) (by rw [len]; simpa using e1) (po.here e2 r h)) (hs _ _)
/-- an item of a tuple -/
theorem s_tup {value slice : Expr} {l : List V} {k : Int} {x : V} {Q : V → St → Prop} (h0 : 0 ≤ k) (hx : l[k.toNat]? = some x) (hsz : l.length < 2 ^ 63) (h : Q x S)
    (hs : NoSlice slice := by intro _ _; rfl) : Op2 g c Rep (subscriptTail value slice) (.tup l) (.int k) S Q :=
  fun A L Z W s Q' v u lv r rv ru po => by
    cases rv with
    | tup ha hr =>
      rename_i a arr n
      cases ru
      have len := hr.length
      rw [Array.length_toList] at len
      obtain ⟨rx, e1, e2⟩ := hr.get hx
      have hlt := (List.getElem?_eq_some_iff.mp hx).1
      have ho := r.w _ _ ha
      refine sub_tail (M := model g.prog g.w) (T := "tuple") ⟨_, ho, rfl⟩ slot_tuple_getitem.lookup (PySem.P.getItem_tuple (n := n) (items := arr) ho (by (first | lia | omega)) (by (first | lia | omega)) (seqIndex_of h0 (by (first | lia | omega))) (by simpa using e1) (po.here e2 r h)) (hs _ _)
-- slices
noncomputable def RepP (_ : Fz) (v : Value) (o : Option Int) : Prop := IsPart v o
abbrev WP (g : G p) (c : Cx) (e : Option Expr) (S : St) (Q : Option Int → St → Prop) : Prop := Wp g c RepP (fun env => evalPart e env) S Q
theorem wP_none {Q : Option Int → St → Prop} (h : Q none S) : WP g c none S Q := fun A L a cd Z W s Q' lv r po => by
  show wpAny _ _ (evalPart none _) _ _ _
  rw [evalPart_none]; exact wpAny_pure (po.here .none r h)
theorem wP_some {e : Expr} {Q : Option Int → St → Prop} (h : WE g c e S (fun v S' => ∃ i, v = .int i ∧ Q (some i) S')) : WP g c (some e) S Q := fun A L a cd Z W s Q' lv r po => by
  show wpAny _ _ (evalPart (some e) _) _ _ _
  rw [evalPart_some]
  refine h A L a cd Z W s _ lv r fun W₁ v x S₁ s₁ e₁ r₁ rr₁ h₁ => ?_
  obtain ⟨i, rfl, hq⟩ := h₁
  cases r₁
  exact po _ _ _ _ _ e₁ (.int _ _) rr₁ hq
noncomputable def cut {α : Type} (l : List α) (lo hi : Option Int) : List α := (l.drop (lo.elim 0 (clipAt l.length))).take (hi.elim l.length (clipAt l.length) - lo.elim 0 (clipAt l.length))
noncomputable def pick (l : List V) (lo hi : Option Int) : List V := cut l lo hi
theorem cut_eq (items : Array Value) (lo hi : Option Int) : slicePick items lo hi none = (cut items.toList lo hi).toArray := by
  rw [slicePick_plain]; unfold cut; rw [Array.length_toList]
theorem wE_slice {x : Str} {px pp pos : Pos} {lo hi : Option Expr} {l : List V} {Q : V → St → Prop} (hx : S.m x = some (.list l) ∨ ∃ a, S.m x = some (.ref a) ∧ S.σ a = some l) (hsz : l.length ≤ 2 ^ 24)
    (h : WP g c lo S (fun vl S₂ => WP g c hi S₂ (fun vh S₃ => S₃ = S ∧ Q (.list (pick l vl vh)) S)))
    (hl : c.scope.names.lookup x = some .local := by rfl) (hd : (x == ("__debug__" : Str)) = false := by decide) :
    WE g c (.Subscript (.Name x px) (.Slice lo hi none pp) pos) S Q :=
  fun A L a cd Z W s Q' lv r po => by
    obtain ⟨mr, hn, hm⟩ := r.ns
    have nm : ∃ la, mr x = some (.ref la) := by
      rcases hx with hx | ⟨a', hx, _⟩
      · obtain ⟨rv, e, rp⟩ := hm x _ hx
        cases rp; exact ⟨_, e⟩
      · obtain ⟨rv, e, rp⟩ := hm x _ hx
        cases rp; exact ⟨_, e⟩
    obtain ⟨la, hla⟩ := nm
    refine wpAny_Subscript_list_slice (wpAny_Name (wpAny_loadName_local (env := c.env L a cd) c.fn hl hn hla ?_) hd)
    refine h A L a cd Z W s _ lv r fun W₂ v2 x2 S₂ s₂ e₂ r₂ rr₂ h₂ => h₂ A L a cd Z W₂ s₂ _ lv rr₂ fun W₃ v3 x3 S₃ s₃ e₃ r₃ rr₃ h₃ => ?_
    obtain ⟨rfl, hq⟩ := h₃
    have here : ∃ arr n, s₃.heap.get? la = some (lobj arr n) ∧ RepL W₃ arr.toList l := by
      rcases hx with hx | ⟨a', hx, ha'⟩
      · obtain ⟨rv, e, rp⟩ := hm x _ hx
        rw [hla] at e; cases e
        cases rp with
        | list ha hr => exact ⟨_, _, rr₃.w _ _ (e₃.up _ _ (e₂.up _ _ ha)), hr.mono fun b o q => e₃.up _ _ (e₂.up _ _ q)⟩
      · obtain ⟨rv, e, rp⟩ := hm x _ hx
        rw [hla] at e; cases e
        cases rp
        obtain ⟨arr, n, h1, h2, _⟩ := rr₃.mu _ _ ha'
        exact ⟨arr, n, h1, h2⟩
    obtain ⟨arr, n, h1, hr⟩ := here
    have len := hr.length
    rw [Array.length_toList] at len
    have k1 := rr₃.push { cls := .type "slice", data := .fields #[v2, v3, .none] } (tk' := s₃.toks)
    obtain ⟨k2, ex⟩ := k1.pushF (lobj (cut arr.toList x2 x3).toArray 0) rfl (tk' := s₃.toks)
    refine ⟨la, arr, x2, x3, rfl, PySem.IsL.isList h1, by rw [len]; exact hsz, r₂, r₃, ?_⟩
    rw [cut_eq]
    have e23 := e₂.trans e₃
    have hs1 : (s₃.heap.push { cls := .type "slice", data := .fields #[v2, v3, .none] }).objs.size = s₃.heap.objs.size + 1 := Heap.size_push ..
    refine po _ _ _ _ _ (e23.trans ex) (.list (n := 0) (arr := (cut arr.toList x2 x3).toArray) ?_ ?_) k2 hq
    · show wadd W₃ (s₃.heap.push _).objs.size _ _ = _
      rw [hs1]; unfold wadd; exact if_pos rfl
    · have : RepL W₃ (cut arr.toList x2 x3) (pick l x2 x3) := by
        unfold pick cut
        rw [← hr.length]
        exact (hr.drop _).take _
      simpa using this.mono ex.up
-- len
theorem b_len_list {l : List V} {Q : V → St → Prop} (hsz : l.length < 2 ^ 63) (h : Q (.int l.length) S) : OpN g c Rep (fun vs => call (.builtin "len") vs) [.list l] S Q :=
  fun A L Z W s Q' vs lv r rv po => by
    cases rv with
    | cons ra rb =>
      cases rb
      cases ra with
      | list ha hr =>
        have len := hr.length
        rw [Array.length_toList] at len
        refine call_len_list (PySem.IsL.isList (r.w _ _ ha)) (by rw [len]; (first | lia | omega)) ?_
        rw [len]
        exact po.here (.int _ _) r.tk h
theorem b_len_ref {a : Addr} {l : List V} {Q : V → St → Prop} (hal : S.σ a = some l) (hsz : l.length < 2 ^ 63) (h : Q (.int l.length) S) : OpN g c Rep (fun vs => call (.builtin "len") vs) [.ref a] S Q :=
  fun A L Z W s Q' vs lv r rv po => by
    cases rv with
    | cons ra rb =>
      cases rb
      cases ra
      obtain ⟨arr, n, h1, hr, _⟩ := r.mu a l hal
      have len := hr.length
      rw [Array.length_toList] at len
      refine call_len_list (PySem.IsL.isList h1) (by rw [len]; (first | lia | omega)) ?_
      rw [len]
      exact po.here (.int _ _) r.tk h
theorem b_abs {x : Int} {Q : V → St → Prop} (h : Q (.int (if x < 0 then -x else x)) S) : OpN g c Rep (fun vs => call (.builtin "abs") vs) [.int x] S Q :=
  fun A L Z W s Q' vs lv r rv po => by
    cases rv with
    | cons ra rb =>
      cases rb; cases ra
      exact call_abs_int fun u tk => po.here (.int _ _) r.tk h
theorem b_int {x : Int} {Q : V → St → Prop} (h : Q (.int x) S) : OpN g c Rep (fun vs => call (.type "int") vs) [.int x] S Q :=
  fun A L Z W s Q' vs lv r rv po => by
    cases rv with
    | cons ra rb =>
      cases rb; cases ra
      exact call_int_int (po.here (.int _ _) r h)
theorem b_min {x y : Int} {Q : V → St → Prop} (h : Q (.int (if y < x then y else x)) S) : OpN g c Rep (fun vs => call (.builtin "min") vs) [.int x, .int y] S Q :=
  fun A L Z W s Q' vs lv r rv po => by
    cases rv with
    | cons ra rb =>
      cases rb with
      | cons rb rc =>
        cases rc; cases ra; cases rb
        obtain ⟨mr, hn, hm⟩ := r.ns
        exact min_two_N lv.hh (fr_no hn) (news_all s.heap L) fun h' tk F N => po.here (.int _ _) (r.of_all hm F N) h
-- list + list, list * int
theorem o_catF {l k : List V} {Q : V → St → Prop} (hsz : l.length + k.length ≤ 2 ^ 24) (h : Q (.list (l ++ k)) S) : Op2 g c Rep (binaryOp .Add) (.list l) (.list k) S Q :=
  fun A L Z W s Q' v u lv r rv ru po => by
    cases rv with
    | list ha hr =>
      cases ru with
      | list hb hq =>
        rename_i a arr n b arr2 n2
        have len := hr.length
        rw [Array.length_toList] at len
        have len2 := hq.length
        rw [Array.length_toList] at len2
        obtain ⟨k2, ex⟩ := r.pushF (lobj (arr ++ arr2) 0) rfl (tk' := s.toks)
        refine PySem.P.add_list (n := n) (n2 := n2) (r.w _ _ ha) (r.w _ _ hb) ?_ (by rw [len, len2]; exact hsz)
        exact po _ _ _ _ _ ex (.list (n := 0) (arr := arr ++ arr2) (by unfold wadd; exact if_pos rfl) (by simpa using (hr.append hq).mono ex.up)) k2 h
theorem o_catM {l k : List V} {Q : V → St → Prop} (hsz : l.length + k.length ≤ 2 ^ 24) (h : ∀ a, S.σ a = none → Q (.ref a) { S with σ := upd S.σ a (l ++ k) }) : Op2 g c Rep (binaryOp .Add) (.list l) (.list k) S Q :=
  fun A L Z W s Q' v u lv r rv ru po => by
    cases rv with
    | list ha hr =>
      cases ru with
      | list hb hq =>
        rename_i a arr n b arr2 n2
        have len := hr.length
        rw [Array.length_toList] at len
        have len2 := hq.length
        rw [Array.length_toList] at len2
        have k2 := r.pushM (arr := arr ++ arr2) (n := 0) (l := l ++ k) (by simpa using hr.append hq) (tk' := s.toks)
        refine PySem.P.add_list (n := n) (n2 := n2) (r.w _ _ ha) (r.w _ _ hb) ?_ (by rw [len, len2]; exact hsz)
        exact po _ _ _ _ _ .refl (.ref _) k2 (h _ r.none_size.2.2.2.1)
theorem foldl_one (v : Value) : ∀ (n : Nat) (acc : Array Value), (List.foldl (fun x1 x2 => x1 ++ x2) acc (List.replicate n #[v])).toList = acc.toList ++ List.replicate n v
  | 0, acc => by simp
  | n + 1, acc => by
    rw [List.replicate_succ, List.foldl_cons, foldl_one v n, List.replicate_succ]
    simp
theorem R.newAll {L : Addr} {Z W : Fz} {s : Shared} {mr : Str → Option Value} (r : R g L Z W S s) (hm : ∀ x v, S.m x = some v → ∃ q, mr x = some q ∧ Rep W q v) {h' : Heap} {tk' : Nat} {arr : Array Value} {l : List V} {o : Obj}
    (F : Fr noHeap L h' mr) (N : News noHeap L h' ((s.heap.objs.size, o) :: allNews s.heap L)) (ho : o = lobj arr 0) (hr : RepL W arr.toList l) :
    (∃ W', Ext Z W W' ∧ Rep W' (.ref s.heap.objs.size) (.list l) ∧ R g L Z W' S { s with heap := h', toks := tk' }) ∧ R g L Z W { S with σ := upd S.σ s.heap.objs.size l } { s with heap := h', toks := tk' } := by
  subst ho
  have r1 : R g L Z W S { s with heap := h', toks := tk' } := r.of_all hm F (fun p hp => N p (.tail _ hp))
  have hget : h'.get? s.heap.objs.size = some (lobj arr 0) := (N _ (.head _)).1
  obtain ⟨n1, n2, n3, n4, n5⟩ := r.none_size
  have up : ∀ a q, W a = some q → wadd W s.heap.objs.size (lobj arr 0) a = some q := fun a q e => by
    unfold wadd
    rw [if_neg (fun h => by rw [h, n2] at e; cases e)]; exact e
  refine ⟨⟨wadd W s.heap.objs.size (lobj arr 0), ⟨up, fun b o e => ?_⟩, .list (n := 0) (arr := arr) (by unfold wadd; exact if_pos rfl) (hr.mono up), { rest := r1.rest, base := r1.base, z := r1.z, w := fun b o e => ?_, mu := fun b l' e => ?_, ns := ?_, lz := r.lz, lw := ?_, lb := r.lb, lm := r.lm }⟩, { rest := r1.rest, base := r1.base, z := r1.z, w := r1.w, mu := fun b l' e => ?_, ns := r1.ns, lz := r.lz, lw := r.lw, lb := r.lb, lm := ?_ }⟩
  · unfold wadd at e
    by_cases q : b = s.heap.objs.size
    · rw [q]; exact .inr n1
    · rw [if_neg q] at e; exact .inl e
  · unfold wadd at e
    by_cases q : b = s.heap.objs.size
    · rw [if_pos q] at e; cases e; rw [q]; exact hget
    · rw [if_neg q] at e; exact r1.w b o e
  · obtain ⟨arr', n', k1, k2, k3, k4, k5⟩ := r1.mu b l' e
    exact ⟨arr', n', k1, k2.mono up, k3, by unfold wadd; rw [if_neg (fun q => by rw [q, n4] at e; cases e)]; exact k4, k5⟩
  · obtain ⟨mr', hn, hm'⟩ := r1.ns
    exact ⟨mr', hn, fun y v e => let ⟨q, e1, e2⟩ := hm' y v e; ⟨q, e1, e2.mono up⟩⟩
  · unfold wadd; rw [if_neg (fun h => n5 h.symm)]; exact r.lw
  · simp only [upd] at e
    by_cases q : b = s.heap.objs.size
    · rw [if_pos q] at e; cases e
      rw [q]
      exact ⟨arr, 0, hget, hr, n1, n2, n3⟩
    · rw [if_neg q] at e; exact r1.mu b l' e
  · simp only [upd]; rw [if_neg (fun h => n5 h.symm)]; exact r.lm
theorem o_repF {x : V} {k : Int} {Q : V → St → Prop} (hlo : -(2 ^ 63 : Int) ≤ k) (hsz : k.toNat ≤ 2 ^ 24) (h : Q (.list (List.replicate k.toNat x)) S) : Op2 g c Rep (binaryOp .Mult) (.list [x]) (.int k) S Q :=
  fun A L Z W s Q' v u lv r rv ru po => by
    cases ru
    cases rv with
    | list ha hr =>
      rename_i a arr n
      obtain ⟨mr, hn, hm⟩ := r.ns
      have len := hr.length
      rw [Array.length_toList] at len
      obtain ⟨rx, e1, e2⟩ := hr.get (i := 0) (x := x) rfl
      have harr : arr = #[rx] := by
        apply Array.toList_inj.mp
        cases hq : arr.toList with
        | nil => rw [hq] at e1; simp at e1
        | cons y r =>
          rw [hq] at e1 hr
          have : r = [] := by
            have := hr.length; simp at this; exact this
          subst this
          simp at e1; subst e1; rfl
      refine mul_list (k := n) (fr_no hn) (news_all s.heap L) (r.w _ _ ha) hlo (by (first | lia | omega)) (by rw [len]; simpa using hsz) fun h' F N => ?_
      obtain ⟨⟨W', ex, rp, rr⟩, _⟩ := r.newAll hm (tk' := s.toks) (l := List.replicate k.toNat x) F N rfl (by
        rw [harr, if_neg (by simp), foldl_one]; simpa using RepL.replicate e2 k.toNat)
      exact po _ _ _ _ _ ex rp rr h
theorem o_repM {x : V} {k : Int} {Q : V → St → Prop} (hlo : -(2 ^ 63 : Int) ≤ k) (hsz : k.toNat ≤ 2 ^ 24) (h : ∀ a, S.σ a = none → Q (.ref a) { S with σ := upd S.σ a (List.replicate k.toNat x) }) : Op2 g c Rep (binaryOp .Mult) (.list [x]) (.int k) S Q :=
  fun A L Z W s Q' v u lv r rv ru po => by
    cases ru
    cases rv with
    | list ha hr =>
      rename_i a arr n
      obtain ⟨mr, hn, hm⟩ := r.ns
      have len := hr.length
      rw [Array.length_toList] at len
      obtain ⟨rx, e1, e2⟩ := hr.get (i := 0) (x := x) rfl
      have harr : arr = #[rx] := by
        apply Array.toList_inj.mp
        cases hq : arr.toList with
        | nil => rw [hq] at e1; simp at e1
        | cons y r =>
          rw [hq] at e1 hr
          have : r = [] := by
            have := hr.length; simp at this; exact this
          subst this
          simp at e1; subst e1; rfl
      refine mul_list (k := n) (fr_no hn) (news_all s.heap L) (r.w _ _ ha) hlo (by (first | lia | omega)) (by rw [len]; simpa using hsz) fun h' F N => ?_
      obtain ⟨_, rr⟩ := r.newAll hm (tk' := s.toks) (l := List.replicate k.toNat x) F N rfl (by
        rw [harr, if_neg (by simp), foldl_one]; simpa using RepL.replicate e2 k.toNat)
      exact po _ _ _ _ _ .refl (.ref _) rr (h _ r.none_size.2.2.2.1)
-- append, item store
theorem wX_append {o elt : Expr} {apos pos pos2 : Pos} {Q : F → St → Prop}
    (h : WE g c o S (fun x S₁ => ∃ a l, x = .ref a ∧ S₁.σ a = some l ∧ WE g c elt S₁ (fun y S₂ => ∃ l, S₂.σ a = some l ∧ l.length ≤ 2 ^ 24 ∧ Q .next { S₂ with σ := upd S₂.σ a (l ++ [y]) })))
    (hbase : ∀ env, attributeBase o "append" env (eval o env) = eval o env := by intro _; rfl)
    (hline : (apos.endLine == pos.line) = true := by rfl)
    (htrees : ∀ env, backTo pos (starEach [elt] env) = [(false, eval elt env)] := by intro _; rfl)
    (hs : ∀ L a cd, swapsWith (.Call (.Attribute o "append" apos) [elt] [] pos) none pos2.line (c.env L a cd) = pure false := by intro _ _ _; rfl)
    (hi : ∀ L a cd, interactive (c.env L a cd) = false := by intro _ _ _; rfl) :
    WX g c (.Expr (.Call (.Attribute o "append" apos) [elt] [] pos) pos2) S Q :=
  fun A L a cd Z W s Q' lv r po => by
    refine wpAny_Expr_any (wpAny_Call_append (hbase _) (by rw [htrees]; rfl) hline (htrees _) ?_) (hi _ _ _) (hs _ _ _)
    refine h A L a cd Z W s _ lv r fun W₁ v x S₁ s₁ e₁ r₁ rr₁ h₁ => ?_
    obtain ⟨D, l, rfl, hD, h₁⟩ := h₁
    cases r₁
    obtain ⟨arr, n, m1, m2, _⟩ := rr₁.mu D l hD
    refine ⟨D, arr, rfl, ⟨_, n, m1, rfl, rfl, rfl⟩, ?_⟩
    refine h₁ A L a cd Z W₁ s₁ _ lv rr₁ fun W₂ y vy S₂ s₂ e₂ r₂ rr₂ h₂ => ?_
    obtain ⟨l2, hD2, hsz, hq⟩ := h₂
    obtain ⟨arr2, n2, k1, k2, _⟩ := rr₂.mu D l2 hD2
    have len := k2.length
    rw [Array.length_toList] at len
    refine call_meets F.slot_list_append ⟨_, k1, rfl⟩ F.entry_list_append (F.args_list_append_2 _ _) (list_append D arr2 n2 y (by rw [len]; exact hsz)) ⟨k1, ?_⟩
    have hup := PySem.IsL.update (h := s₂.heap) (l := D) (items := arr2) (n := n2) k1 (·.push y)
    have r3 := rr₂.turn hD2 (l := l2 ++ [vy]) (arr' := arr2.push y) (tk' := s₂.toks) (by simpa using k2.append (.cons r₂ .nil)) hup (fun b hb => Heap.get?_update_other s₂.heap _ (Ne.symm hb))
    exact po _ _ _ _ _ (e₁.trans e₂) .next r3 hq
theorem wX_setitem {o i value : Expr} {pos' pos : Pos} {Q : F → St → Prop}
    (h : WE g c value S (fun y S₁ => WE g c o S₁ (fun x S₂ => WE g c i S₂ (fun k S₃ => ∃ a l j, x = .ref a ∧ k = .int j ∧ S₃.σ a = some l ∧ 0 ≤ j ∧ j < l.length ∧ l.length < 2 ^ 63 ∧ Q .next { S₃ with σ := upd S₃.σ a (l.set j.toNat y) }))))
    (hs : ∀ L a cd, swapsWith value (some (.Subscript o i pos')) pos.line (c.env L a cd) = pure false := by intro _ _ _; rfl) :
    WX g c (.Assign [.Subscript o i pos'] value pos) S Q :=
  fun A L a cd Z W s Q' lv r po => by
    refine wpAny_Assign_Subscript (h A L a cd Z W s _ lv r fun W₁ v y S₁ s₁ e₁ r₁ rr₁ h₁ => h₁ A L a cd Z W₁ s₁ _ lv rr₁ fun W₂ ov x S₂ s₂ e₂ r₂ rr₂ h₂ =>
      h₂ A L a cd Z W₂ s₂ _ lv rr₂ fun W₃ iv k S₃ s₃ e₃ r₃ rr₃ h₃ => ?_) (hs _ _ _)
    obtain ⟨D, l, j, rfl, rfl, hD, h0, hlt, hsz, hq⟩ := h₃
    cases r₂; cases r₃
    obtain ⟨arr, n, k1, k2, _⟩ := rr₃.mu D l hD
    have len := k2.length
    rw [Array.length_toList] at len
    refine spot_set (n := n) k1 h0 (by (first | lia | omega)) (by rw [len]; exact hlt) ?_
    have hup := PySem.IsL.update (h := s₃.heap) (l := D) (items := arr) (n := n) k1 (·.setIfInBounds j.toNat v)
    have r3 := rr₃.turn hD (l := l.set j.toNat y) (arr' := arr.setIfInBounds j.toNat v) (tk' := s₃.toks) (by rw [Array.toList_setIfInBounds]; exact k2.set _ (r₁.mono fun b o e => e₃.up _ _ (e₂.up _ _ e))) hup (fun b hb => Heap.get?_update_other s₃.heap _ (Ne.symm hb))
    exact po _ _ _ _ _ ((e₁.trans e₂).trans e₃) .next r3 hq
end
section
variable {p : Program} {g : G p} {c : Cx} {α β : Type} {ρ : Fz → α → β → Prop} {S : St}
/-- an int of the machine's size -/
noncomputable def Fit (n : Int) : Prop := -(2 ^ 61) ≤ n ∧ n ≤ 2 ^ 61
-- iterators
theorem wI_list {e : Expr} {Q : List V → St → Prop} (h : WE g c e S (fun v S₁ => ∃ l, v = .list l ∧ Q l S₁)) : WI g c e S Q :=
  fun A L a cd Z W s Q' lv r k => h A L a cd Z W s _ lv r fun W₁ v x S₁ s₁ e₁ r₁ rr₁ h₁ => by
    obtain ⟨l, rfl, hq⟩ := h₁
    cases r₁ with
    | list ha hr =>
      rename_i ax arr n
      have ho := rr₁.w _ _ ha
      have hl : s₁.heap.IsList ax arr := PySem.IsL.isList ho
      have len := hr.length
      rw [Array.length_toList] at len
      obtain ⟨n1, n2, n3, n4, n5⟩ := rr₁.none_size
      have hne : ax ≠ s₁.heap.objs.size := Nat.ne_of_lt (Heap.lt_size ho)
      refine wpAny_pyIter_list hl ?_
      have rr2 := rr₁.push { cls := .type "list_iterator", data := .fields #[.ref ax, .int 0 0] } (tk' := s₁.toks)
      refine k W₁ _ l S₁ _ e₁ ⟨s₁.heap.objs.size, [s₁.heap.objs.size, ax], [s₁.heap.objs.size], (fun i v => arr[i]? = some v), (fun i h => h.IsListIter s₁.heap.objs.size ax i ∧ h.IsList ax arr), rfl, by rw [← len]; exact Walks.list lv.hh s₁.heap.objs.size ax hne arr, ⟨⟨_, Heap.get?_push_size _ rfl, rfl, rfl⟩, hl.push _⟩, ?_, ?_, ?_, ?_, ?_⟩ rr2 hq
      · intro i v _ hv
        have hv' : arr.toList[i]? = some v := by simpa using hv
        have hlt : i < l.length := by
          have := (List.getElem?_eq_some_iff.mp hv').1; rw [Array.length_toList] at this; (first | lia | omega)
        refine ⟨l[i], List.getElem?_eq_getElem hlt, ?_⟩
        obtain ⟨v', e1, e2⟩ := hr.get (List.getElem?_eq_getElem hlt)
        rw [hv'] at e1; cases e1; exact e2
      · intro hm
        rcases List.mem_cons.mp hm with q | q
        · exact n5 q.symm
        · have := List.mem_singleton.mp q
          rw [← this] at ha
          rw [rr₁.lw] at ha; cases ha
      · intro b hb
        rw [List.mem_singleton.mp hb]; exact ⟨n1, n2, n3⟩
      · intro b hb
        rcases List.mem_cons.mp hb with q | q
        · rw [q]; exact n4
        · rw [List.mem_singleton.mp q]
          cases q : S₁.σ ax with
          | none => rfl
          | some l => obtain ⟨_, _, _, _, _, h4, _⟩ := rr₁.mu _ _ q; rw [h4] at ha; cases ha
      · intro i h hT b hb
        rcases List.mem_cons.mp hb with q | q
        · rw [q]; obtain ⟨o, ho, _⟩ := hT.1; exact ⟨o, ho⟩
        · rw [List.mem_singleton.mp q]; obtain ⟨o, ho, _⟩ := hT.2; exact ⟨o, ho⟩
noncomputable def rangeL (a c : Int) (n : Nat) : List V := (List.range n).map fun (i : Nat) => V.int (a + i * c)
theorem rangeIt {A : Around} {L : Addr} {Z W : Fz} {s : Shared} {S' : St} {rg : Addr} {a b c : Int} {t u v : Tok} {Q' : Value → Shared → Prop} {E : Value → Shared → Prop} (lvh : A.handled = none) (rr : R g L Z W S' s) (hr : IsRange s.heap rg a b c t u v) (hsm : Builtin.Range.small a b c = true) (hn : 0 ≤ Builtin.Range.rangeSize a b c)
    (k : ∀ it s', ItAt g A L Z W S' it (rangeL a c (Builtin.Range.rangeSize a b c).toNat) s' → R g L Z W S' s' → Q' it s') : wpAny (model g.prog g.w) A (pyIter (.ref rg)) Q' E s := by
  obtain ⟨n1, n2, n3, n4, n5⟩ := rr.none_size
  refine wpAny_pyIter_range hr hsm ?_
  have rr2 := rr.push { cls := .type "range_iterator", data := .fields #[rawInt a, rawInt (Builtin.Range.rangeSize a b c), rawInt c] } (tk' := s.toks)
  have len : (rangeL a c (Builtin.Range.rangeSize a b c).toNat).length = (Builtin.Range.rangeSize a b c).toNat := by simp [rangeL]
  refine k _ _ ⟨s.heap.objs.size, [s.heap.objs.size], [s.heap.objs.size], _, _, rfl, by rw [len]; exact Walks.range lvh s.heap.objs.size a c _, ?_, ?_, ?_, ?_, ?_, ?_⟩ rr2
  · show IsRangeIter _ _ (a + ((0 : Nat) : Int) * c) (((Builtin.Range.rangeSize a b c).toNat : Int) - ((0 : Nat) : Int)) c
    have e : a + ((0 : Nat) : Int) * c = a := by simp
    have e2 : ((Builtin.Range.rangeSize a b c).toNat : Int) - ((0 : Nat) : Int) = Builtin.Range.rangeSize a b c := by (first | lia | omega)
    rw [e, e2]
    exact Heap.get?_push_size _ rfl
  · intro i v hi hP
    obtain ⟨t, rfl⟩ := hP
    rw [len] at hi
    exact ⟨_, by rw [rangeL, List.getElem?_map, List.getElem?_range hi]; rfl, .int _ _⟩
  · intro hm; exact n5 (List.mem_singleton.mp hm).symm
  · intro b hb; rw [List.mem_singleton.mp hb]; exact ⟨n1, n2, n3⟩
  · intro b hb; rw [List.mem_singleton.mp hb]; exact n4
  · intro i h hT b hb
    rw [List.mem_singleton.mp hb]; exact ⟨_, hT⟩
end
noncomputable def upTo (a : Int) (k : Nat) : List V := (List.range k).map fun (i : Nat) => V.int (a + i)
noncomputable def downFrom (a : Int) (k : Nat) : List V := (List.range k).map fun (i : Nat) => V.int (a - i)
theorem upTo_zero (a : Int) : upTo a 0 = [] := rfl
theorem upTo_succ (a : Int) (k : Nat) : upTo a (k + 1) = .int a :: upTo (a + 1) k := by
  unfold upTo
  rw [List.range_succ_eq_map, List.map_cons, List.map_map]
  congr 1
  · simp
  · apply List.map_congr_left
    intro i _
    simp only [Function.comp, V.int.injEq]
    (first | lia | omega)
theorem downFrom_zero (a : Int) : downFrom a 0 = [] := rfl
theorem downFrom_succ (a : Int) (k : Nat) : downFrom a (k + 1) = .int a :: downFrom (a - 1) k := by
  unfold downFrom
  rw [List.range_succ_eq_map, List.map_cons, List.map_map]
  congr 1
  · simp
  · apply List.map_congr_left
    intro i _
    simp only [Function.comp, V.int.injEq]
    (first | lia | omega)
theorem upTo_length (a : Int) (k : Nat) : (upTo a k).length = k := by simp [upTo]
theorem downFrom_length (a : Int) (k : Nat) : (downFrom a k).length = k := by simp [downFrom]
theorem rangeSize_down (a b : Int) : Builtin.Range.rangeSize a b (-1) = if b < a then a - b else 0 := by
  unfold Builtin.Range.rangeSize
  rw [if_neg (by decide)]
  by_cases h : b < a
  · rw [if_pos h, if_pos h, show (-(-1) : Int) = 1 by decide, Int.ediv_one]; (first | lia | omega)
  · rw [if_neg h, if_neg (show ¬ a > b from h)]
theorem small_down {a b : Int} (ha : Fit a) (hb : Fit b) : Builtin.Range.small a b (-1) = true := by
  unfold Fit at ha hb
  unfold Builtin.Range.small
  rw [rangeSize_down]
  simp only [Builtin.Range.rangeFitsLong, Bool.and_eq_true, Bool.or_eq_true, decide_eq_true_eq, beq_iff_eq]
  simp only [show ¬ ((-1 : Int) > 0) by decide, if_false, Bool.and_eq_true, decide_eq_true_eq]
  refine ⟨⟨⟨⟨by (first | lia | omega), by (first | lia | omega)⟩, by (first | lia | omega)⟩, by split <;> (first | lia | omega)⟩, .inr (by (first | lia | omega))⟩
theorem small_up {a b : Int} (ha : Fit a) (hb : Fit b) : Builtin.Range.small a b 1 = true := by
  unfold Fit at ha hb
  unfold Builtin.Range.small
  rw [rangeSize_one]
  simp only [Builtin.Range.rangeFitsLong, Bool.and_eq_true, Bool.or_eq_true, decide_eq_true_eq, beq_iff_eq]
  simp only [show ((1 : Int) > 0) by decide, if_true, Bool.and_eq_true, decide_eq_true_eq]
  refine ⟨⟨⟨⟨by (first | lia | omega), by (first | lia | omega)⟩, by (first | lia | omega)⟩, by split <;> (first | lia | omega)⟩, .inr (by (first | lia | omega))⟩
section
variable {p : Program} {g : G p} {c : Cx} {α β : Type} {ρ : Fz → α → β → Prop} {S : St}
inductive RArgs : List V → Int → Int → Int → Prop
  | one (b : Int) : RArgs [.int b] 0 b 1
  | two (a b : Int) : RArgs [.int a, .int b] a b 1
  | down (a b : Int) : RArgs [.int a, .int b, .int (-1)] a b (-1)
theorem wI_range {np pos : Pos} {args : List Expr} {Q : List V → St → Prop} (hf : g.mg "range" = none)
    (h : WA g c pos args S (fun xs S₁ => ∃ a b d, RArgs xs a b d ∧ Fit a ∧ Fit b ∧ (d = 1 → Q (upTo a (b - a).toNat) S₁) ∧ (d = -1 → Q (downFrom a (a - b).toNat) S₁)))
    (hl : c.scope.names.lookup ("range" : Str) = some .globalImplicit := by rfl)
    (hc : PlainCall (.Name "range" np) args pos := by intro _; rfl) (hs : SomeArgs args pos := by intro _; exact ⟨_, _, rfl, rfl⟩) : WI g c (.Call (.Name "range" np) args [] pos) S Q :=
  fun A L a cd Z W s Q' lv r k => by
    refine call_name (hc _) ((wE_builtin (c := c) (S := S) (pos := np) (Q := fun v S' => v = .lit (.type "range") ∧ S' = S) hf boot_range ⟨rfl, rfl⟩ hl) A L a cd Z W s _ lv r fun W₁ f fv S₁ s₁ e₁ rf rr₁ h₁ => ?_)
    obtain ⟨rfl, rfl⟩ := h₁
    cases rf
    obtain ⟨x, q, hx, hq⟩ := hs (c.env L a cd)
    refine PySem.callWith_type (by rw [hx]; simpa using hq) ?_
    have := h A L a cd Z W₁ s₁ (fun vs s₂ => wpAny (model g.prog g.w) A (call (.type "range") vs) (fun v s₃ => wpAny (model g.prog g.w) A (pyIter v) Q' (fun _ _ => False) s₃) (fun _ _ => False) s₂) lv rr₁ fun W₂ vs xs S₂ s₂ e₂ r₂ rr₂ h₂ => by
      obtain ⟨lo, hi, st, ra, fa, fb, hu, hd⟩ := h₂
      have fin : ∀ (rg : Addr) (st : Int) (t u v : Tok) (s₃ : Shared), (st = 1 ∨ st = -1) → (st = 1 → Q (upTo lo (hi - lo).toNat) S₂) → (st = -1 → Q (downFrom lo (lo - hi).toNat) S₂) → R g L Z W₂ S₂ s₃ → IsRange s₃.heap rg lo hi st t u v → wpAny (model g.prog g.w) A (pyIter (.ref rg)) Q' (fun _ _ => False) s₃ := by
        intro rg st t u v s₃ hst hu hd r3 hr
        rcases hst with rfl | rfl
        · refine rangeIt lv.hh r3 hr (small_up fa fb) (by rw [rangeSize_one]; split <;> (first | lia | omega)) fun it s' hit r' => ?_
          have e : rangeL lo 1 (Builtin.Range.rangeSize lo hi 1).toNat = upTo lo (hi - lo).toNat := by
            unfold rangeL upTo
            have : (Builtin.Range.rangeSize lo hi 1).toNat = (hi - lo).toNat := by rw [rangeSize_one]; split <;> (first | lia | omega)
            rw [this]
            apply List.map_congr_left
            intro i _
            simp
          rw [e] at hit
          exact k W₂ it _ S₂ s' (e₁.trans e₂) hit r' (hu rfl)
        · refine rangeIt lv.hh r3 hr (small_down fa fb) (by rw [rangeSize_down]; split <;> (first | lia | omega)) fun it s' hit r' => ?_
          have e : rangeL lo (-1) (Builtin.Range.rangeSize lo hi (-1)).toNat = downFrom lo (lo - hi).toNat := by
            unfold rangeL downFrom
            have : (Builtin.Range.rangeSize lo hi (-1)).toNat = (lo - hi).toNat := by rw [rangeSize_down]; split <;> (first | lia | omega)
            rw [this]
            apply List.map_congr_left
            intro i _
            simp only [V.int.injEq]
            (first | lia | omega)
          rw [e] at hit
          exact k W₂ it _ S₂ s' (e₁.trans e₂) hit r' (hd rfl)
      cases ra with
      | one b =>
        cases r₂ with
        | cons q1 q2 =>
          cases q2; cases q1
          exact call_range_1 (fin _ 1 _ _ _ _ (.inl rfl) hu hd (rr₂.push _) (IsRange.new ..))
      | two a b =>
        cases r₂ with
        | cons q1 q2 =>
          cases q2 with
          | cons q2 q3 =>
            cases q3; cases q1; cases q2
            exact call_range_2 (fin _ 1 _ _ _ _ (.inl rfl) hu hd (rr₂.push _) (IsRange.new ..))
      | down a b =>
        cases r₂ with
        | cons q1 q2 =>
          cases q2 with
          | cons q2 q3 =>
            cases q3 with
            | cons q3 q4 =>
              cases q4; cases q1; cases q2; cases q3
              exact call_range_3 (by decide) (fin _ (-1) _ _ _ _ (.inr rfl) hu hd (rr₂.push _) (IsRange.new ..)) (.inl (PyProof.noPylong_small (by decide)))
    change wpAny _ _ (spliced (backTo pos (starEach args (c.env L a cd)))) _ _ _ at this
    rw [hx] at this ⊢
    exact Calls.evalArgs_plain (wpAny_mono this (fun vs s₂ h => h) fun _ _ h => h)
-- enumerate
noncomputable def LoopE (g : G p) (c : Cx) (x y : Str) (body : List Stmt) : Nat → List V → St → (F → St → Prop) → Prop
  | _, [], S, Q => Q .next S
  | i, v :: vs, S, Q => WS g c body ((S.set x (.int i)).set y v) (fun f S' => match f with
      | .next => LoopE g c x y body (i + 1) vs S' Q
      | .cont => LoopE g c x y body (i + 1) vs S' Q
      | .brk => Q .next S'
      | .ret u => Q (.ret u) S')
theorem wX_enum {x y : Str} {px py pt np cpos pos : Pos} {k : Nat} {e : Expr} {body : List Stmt} {Q : F → St → Prop} (hf : g.mg "enumerate" = none)
    (h : WE g c e S (fun v S₁ => ∃ l, v = .list l ∧ LoopE g c x y body 0 l S₁ Q))
    (hlx : c.scope.names.lookup x = some .local := by rfl) (hly : c.scope.names.lookup y = some .local := by rfl)
    (hle : c.scope.names.lookup ("enumerate" : Str) = some .globalImplicit := by rfl)
    (hc : PlainCall (.Name "enumerate" np) [e] cpos := by intro _; rfl) (hs : ∀ env, backTo cpos (starEach [e] env) = [(false, eval e env)] := by intro _; rfl)
    (hfs : ∀ L a cd v, foldedSetIterable (.Call (.Name "enumerate" np) [e] [] cpos) (c.env L a cd) v = pure v := by intro _ _ _ _; rfl) :
    WX g c (.For (.Tuple [.Name x px, .Name y py] k pt) (.Call (.Name "enumerate" np) [e] [] cpos) body [] pos) S Q :=
  fun A L a cd Z W s Q' lv r po => by
    refine wpAny_For ?_ (hfs L a cd)
    refine call_name (hc _) ((wE_builtin (c := c) (S := S) (pos := np) (Q := fun v S' => v = .lit (.type "enumerate") ∧ S' = S) hf boot_enumerate ⟨rfl, rfl⟩ hle) A L a cd Z W s _ lv r fun W₁ f fv S₁ s₁ e₁ rf rr₁ h₁ => ?_)
    obtain ⟨rfl, rfl⟩ := h₁
    cases rf
    rw [hs]
    refine PySem.callWith_type rfl (Calls.evalArgs_plain (Calls.spliced_cons (wpAny_mono (h A L a cd Z W₁ s₁ (fun v s₂ => wpAny (model g.prog g.w) A (call (.type "enumerate") [v]) (fun it s₃ => wpAny (model g.prog g.w) A (pyIter it) (fun it s₂ => codeAny (model g.prog g.w) A (.forLoop (.Tuple [.Name x px, .Name y py] k pt) it body [] (c.env L a cd)) (fun r s' => match r with | .ok f => Q' f s' | .error e => False) s₂) (fun _ _ => False) s₃) (fun _ _ => False) s₂) lv rr₁ ?_)
      (fun v s₂ h₂ => Calls.spliced_nil (wpAny_mono h₂ (fun it s₃ h₃ => wpAny_mono h₃ (fun it s₄ h₄ => codeAny_mono h₄ fun r s' h' => by cases r with | ok f => exact h' | error e => exact h'.elim) fun _ _ e => e.elim) fun _ _ e => e.elim)) fun _ _ e => e.elim)))
    intro W₂ v xv S₂ s₂ e₂ r₂ rr₂ h₂
    obtain ⟨l, rfl, hq⟩ := h₂
    cases r₂ with
    | list ha hr =>
    rename_i ax arr n
    have ho := rr₂.w _ _ ha
    have len := hr.length
    rw [Array.length_toList] at len
    refine call_enumerate_1 (n := n) ho fun h' hE hI hsz hk => ?_
    have rr3 : R g L Z W₂ S₂ { s₂ with heap := h' } := rr₂.keeps (tk' := s₂.toks) hk
    refine wpAny_pyIter_enum (it := s₂.heap.objs.size) (i := 0) (old := .none) hE ?_
    obtain ⟨n1, n2, n3, n4, n5⟩ := rr₂.none_size
    have kk : ∀ b, s₂.heap.objs.size ≤ b → Z b = none ∧ W₂ b = none ∧ g.hB.get? b = none ∧ S₂.σ b = none ∧ b ≠ L := fun b hb => by
      have key : s₂.heap.get? b = none := Heap.get?_none_of_le hb
      refine ⟨?_, ?_, ?_, ?_, ?_⟩
      · cases q : Z b with
        | none => rfl
        | some o => rw [rr₂.z _ _ q] at key; cases key
      · cases q : W₂ b with
        | none => rfl
        | some o => rw [rr₂.w _ _ q] at key; cases key
      · cases q : g.hB.get? b with
        | none => rfl
        | some o => rw [rr₂.base _ _ q] at key; cases key
      · cases q : S₂.σ b with
        | none => rfl
        | some o => obtain ⟨_, _, h1, _⟩ := rr₂.mu _ _ q; rw [h1] at key; cases key
      · intro q
        obtain ⟨mr, hn, _⟩ := rr₂.ns
        have := hn.lt
        rw [← q] at this
        exact absurd this (Nat.not_lt.mpr hb)
    have haxlt : ax < s₂.heap.objs.size := Heap.lt_size ho
    generalize hit : s₂.heap.objs.size = it at *
    have Wk := WalksT.enumerate (prog := g.prog) (w := g.w) lv.hh (it + 1) it ax (Nat.succ_ne_self it) (Nat.ne_of_lt (Nat.lt_succ_of_lt haxlt)) (Nat.ne_of_lt haxlt) arr
    have hLf : L ∉ [it + 1, it, ax] := by
      intro hm
      rcases List.mem_cons.mp hm with q | hm
      · exact (kk (it + 1) (Nat.le_succ it)).2.2.2.2 q.symm
      · rcases List.mem_cons.mp hm with q | hm
        · exact n5 q.symm
        · have := List.mem_singleton.mp hm
          rw [← this, rr₂.lw] at ha; cases ha
    have hwr : ∀ b ∈ [it + 1, it], Z b = none ∧ W₂ b = none ∧ g.hB.get? b = none := by
      intro b hb
      rcases List.mem_cons.mp hb with q | hb
      · rw [q]; have := kk (it + 1) (Nat.le_succ it); exact ⟨this.1, this.2.1, this.2.2.1⟩
      · rw [List.mem_singleton.mp hb]; exact ⟨n1, n2, n3⟩
    have hfs0 : ∀ b ∈ [it + 1, it, ax], S₂.σ b = none := by
      intro b hb
      rcases List.mem_cons.mp hb with q | hb
      · rw [q]; exact (kk (it + 1) (Nat.le_succ it)).2.2.2.1
      · rcases List.mem_cons.mp hb with q | hb
        · rw [q]; exact n4
        · rw [List.mem_singleton.mp hb]
          cases q : S₂.σ ax with
          | none => rfl
          | some l => obtain ⟨_, _, _, _, _, h4, _⟩ := rr₂.mu _ _ q; rw [h4] at ha; cases ha
    have hLw : L ∉ [it + 1, it] := fun q => hLf (Wk.sub _ q)
    have hob : ∀ (i : Nat) (h : Heap), ((∃ old, IsEnum h (it + 1) it i old) ∧ h.IsListIter it ax i ∧ h.IsList ax arr) → ∀ b ∈ [it + 1, it, ax], ∃ o, h.get? b = some o := by
      intro i h hT b hb
      obtain ⟨⟨old, h1⟩, ⟨o2, h2, _⟩, ⟨o3, h3, _⟩⟩ := hT
      rcases List.mem_cons.mp hb with q | hb
      · rw [q]; exact ⟨_, h1⟩
      · rcases List.mem_cons.mp hb with q | hb
        · rw [q]; exact ⟨_, h2⟩
        · rw [List.mem_singleton.mp hb]; exact ⟨_, h3⟩
    rw [show it = it from rfl] at Wk
    refine codeAny_forLoop_any (fun k s' => ∃ (i : Nat) (W' : Fz) (S' : St), Ext Z W₂ W' ∧ ((∃ old, IsEnum s'.heap (it + 1) it i old) ∧ s'.heap.IsListIter it ax i ∧ s'.heap.IsList ax arr) ∧ R g L Z W' S' s' ∧ (∀ b ∈ [it + 1, it], W' b = none) ∧ (∀ b ∈ [it + 1, it, ax], S'.σ b = none) ∧ LoopE g c x y body i (l.drop i) S' Q ∧ i ≤ l.length ∧ k = l.length + 1 - i) ?_ (l.length + 1)
      ⟨0, W₂, S₂, .refl, ⟨⟨_, hE⟩, hI, (PySem.IsL.isList ho).at fun o e => hk _ _ e⟩, rr3, fun b hb => (hwr b hb).2.1, hfs0, by simpa using hq, Nat.zero_le _, rfl⟩
    rintro k s' ⟨i, W', S', ex, hT', rr, hw', hf', hq', hi, rfl⟩
    have hnext : ∀ b ∈ [it + 1, it], Z b = none ∧ W' b = none ∧ g.hB.get? b = none ∧ S'.σ b = none := fun b hb => ⟨(hwr b hb).1, hw' b hb, (hwr b hb).2.2, hf' b (Wk.sub _ hb)⟩
    by_cases hlt : i < l.length
    · refine Wk.item i _ _ _ (by rw [len]; exact hlt) hT' fun T vals h₁ tk₁ hPv hTge hTup hMid hk₁ => ?_
      obtain ⟨t, rx, hrx, rfl⟩ := hPv
      have rr₁ := rr.next (tk' := tk₁) hk₁ hLw hnext
      have hd : l.drop i = l[i] :: l.drop (i + 1) := List.drop_eq_getElem_cons hlt
      rw [hd] at hq'
      have ry : Rep W₂ rx l[i] := by
        obtain ⟨v', e1, e2⟩ := hr.get (List.getElem?_eq_getElem hlt)
        have hrx' : arr.toList[i]? = some rx := by simpa using hrx
        rw [hrx'] at e1; cases e1; exact e2
      refine Wk.go _ _ _ i T _ _ _ hMid fun h₂ hT₂ hk₂ => ?_
      have rr₂ := rr₁.next (tk' := tk₁) hk₂ hLw hnext
      have hTup2 : h₂.IsTuple T #[.int i t, rx] := hTup.at fun o e => hk₂ T o (Wk.apart _ _ _ hMid) e
      have hzz : ∀ a o, Z a = some o → (if a ∈ [it + 1, it, ax] then h₂.get? a else Z a) = some o := fun a o e => by
        by_cases q : a ∈ [it + 1, it, ax]
        · rw [if_pos q]; exact rr₂.z a o e
        · rw [if_neg q]; exact e
      have r2 : R g L (fun b => if b ∈ [it + 1, it, ax] then h₂.get? b else Z b) W' S' { s' with heap := h₂, toks := tk₁ } := rr₂.more hLf hf'
      refine wpAny_assign_Tuple lv.hh hTup2 rfl rfl fun h₃ hex => ?_
      have r3 : R g L (fun b => if b ∈ [it + 1, it, ax] then h₂.get? b else Z b) W' S' { s' with heap := h₃, toks := tk₁ } := r2.keeps (tk' := tk₁) fun b o e => hex b o (Nat.ne_of_lt (Heap.lt_size e)) e
      show wpAny _ _ (assignInOrder [assign (.Name x px) (c.env L a cd), assign (.Name y py) (c.env L a cd)] [.int i t, rx]) _ _ _
      refine wpAny_bind (wpAny_holding (wpAny_assign_Name (store_ r3 (.int i t) hlx fun s₄ r4 => ?_)))
      refine wpAny_bind (wpAny_holding (wpAny_assign_Name (store_ r4 (ry.mono ex.up) hly fun s₅ r5 => ?_)))
      refine wpAny_pure ?_
      refine wpAny_mono (hq' A L a cd _ W' s₅ (fun f s₃ => match f with
          | .next | .cont => ∃ m, m < l.length + 1 - i ∧ ∃ (i : Nat) (W' : Fz) (S' : St), Ext Z W₂ W' ∧ ((∃ old, IsEnum s₃.heap (it + 1) it i old) ∧ s₃.heap.IsListIter it ax i ∧ s₃.heap.IsList ax arr) ∧ R g L Z W' S' s₃ ∧ (∀ b ∈ [it + 1, it], W' b = none) ∧ (∀ b ∈ [it + 1, it, ax], S'.σ b = none) ∧ LoopE g c x y body i (l.drop i) S' Q ∧ i ≤ l.length ∧ m = l.length + 1 - i
          | .brk => Q' .next s₃
          | .ret v => Q' (.ret v) s₃) lv r5 ?_) (fun _ _ h => h) fun _ _ h => h.elim
      intro W₃ f b S₃ s₃ e₃ rf rr₃ h₃
      have ez := e₃.less hzz
      have goOn : LoopE g c x y body (i + 1) (l.drop (i + 1)) S₃ Q → ∃ m, m < l.length + 1 - i ∧ ∃ (i : Nat) (W' : Fz) (S' : St), Ext Z W₂ W' ∧ ((∃ old, IsEnum s₃.heap (it + 1) it i old) ∧ s₃.heap.IsListIter it ax i ∧ s₃.heap.IsList ax arr) ∧ R g L Z W' S' s₃ ∧ (∀ b ∈ [it + 1, it], W' b = none) ∧ (∀ b ∈ [it + 1, it, ax], S'.σ b = none) ∧ LoopE g c x y body i (l.drop i) S' Q ∧ i ≤ l.length ∧ m = l.length + 1 - i := fun hl₃ => by
        refine ⟨_, ?_, i + 1, W₃, S₃, ex.trans ez, ?_, rr₃.less hzz, ?_, ?_, hl₃, hlt, rfl⟩
        · (first | lia | omega)
        · refine Wk.frame _ _ _ hT₂ fun b hb o e => rr₃.z b o ?_
          show (if b ∈ [it + 1, it, ax] then h₂.get? b else Z b) = some o
          rw [if_pos hb]; exact e
        · intro b hb
          cases q : W₃ b with
          | none => rfl
          | some o =>
            rcases e₃.fresh b o q with h | h
            · rw [hw' b hb] at h; cases h
            · have h' : (if b ∈ [it + 1, it, ax] then h₂.get? b else Z b) = none := h
              rw [if_pos (Wk.sub _ hb)] at h'
              obtain ⟨o', ho'⟩ := hob _ _ hT₂ b (Wk.sub _ hb)
              rw [ho'] at h'; cases h'
        · intro b hb
          cases q : S₃.σ b with
          | none => rfl
          | some l =>
            obtain ⟨arr, n, h1, _, h3, _⟩ := rr₃.mu b l q
            have h3' : (if b ∈ [it + 1, it, ax] then h₂.get? b else Z b) = none := h3
            rw [if_pos hb] at h3'
            obtain ⟨o', ho'⟩ := hob _ _ hT₂ b hb
            rw [ho'] at h3'; cases h3'
      cases rf with
      | next => exact goOn h₃
      | cont => exact goOn h₃
      | brk => exact po _ _ _ _ _ (((e₁.trans e₂).trans ex).trans ez) .next (rr₃.less hzz) h₃
      | ret hr => exact po _ _ _ _ _ (((e₁.trans e₂).trans ex).trans ez) (.ret hr) (rr₃.less hzz) h₃
    · have hin : i = l.length := by (first | lia | omega)
      subst hin
      rw [← len] at hT'
      refine Wk.done _ _ _ hT' fun h₁ tk₁ hk₁ => wpAny_execs_nil ?_
      rw [List.drop_length] at hq'
      exact po _ _ _ _ _ ((e₁.trans e₂).trans ex) .next (rr.next (tk' := tk₁) hk₁ hLw hnext) hq'
end
section
variable {p : Program} {g : G p} {c : Cx} {α β : Type} {ρ : Fz → α → β → Prop} {S : St}
theorem inOrder_ {M : Model} {A : Around} {L a : Addr} {cd : Value} {Z W : Fz} {E : Value → Shared → Prop} : ∀ {xs : List Str} {vs : List Value} {ys : List V} {S : St} {s : Shared} {Q' : Unit → Shared → Prop} {sts : List (Value → Sem Unit)},
    R g L Z W S s → RepL W vs ys → xs.length = ys.length → (∀ x ∈ xs, c.scope.names.lookup x = some .local) →
    sts.length = xs.length → (∀ (i : Nat) (x : Str) (t : Value → Sem Unit), xs[i]? = some x → sts[i]? = some t → ∀ (v : Value) (s : Shared) (Q : Unit → Shared → Prop), wpAny M A (storeName (c.env L a cd) x v) Q E s → wpAny M A (t v) Q E s) →
    (∀ s', R g L Z W ((xs.zip ys).foldl (fun S q => S.set q.1 q.2) S) s' → Q' () s') → wpAny M A (assignInOrder sts vs) Q' E s
  | [], vs, ys, S, s, Q', sts, r, rv, hl, hk, hs, ht, po => by
    have : sts = [] := List.length_eq_zero_iff.mp hs
    subst this
    exact wpAny_pure (po s (by simpa using r))
  | x :: xs, vs, ys, S, s, Q', sts, r, rv, hl, hk, hs, ht, po => by
    cases rv with
    | nil => simp at hl
    | cons ra rb =>
      rename_i v y vs ys
      cases sts with
      | nil => simp at hs
      | cons t sts =>
        show wpAny _ _ (do holding vs (t v); assignInOrder sts vs) _ _ _
        refine wpAny_bind (wpAny_holding (ht 0 x t rfl rfl v s _ (store_ r ra (hk x (.head _)) fun s' r' => ?_)))
        exact inOrder_ (xs := xs) r' rb (by simpa using hl) (fun z hz => hk z (.tail _ hz)) (by simpa using hs) (fun i z t' h1 h2 => ht (i + 1) z t' (by simpa using h1) (by simpa using h2)) (fun s'' r'' => po s'' r'')
theorem wX_unpack2 {x₁ x₂ : Str} {p₁ p₂ tp pos : Pos} {k : Nat} {value : Expr} {Q : F → St → Prop}
    (h : WE g c value S (fun v S₁ => ∃ a b, v = .tup [a, b] ∧ Q .next ((S₁.set x₁ a).set x₂ b)))
    (hl₁ : c.scope.names.lookup x₁ = some .local := by rfl) (hl₂ : c.scope.names.lookup x₂ = some .local := by rfl)
    (hs : ∀ L a cd, swapsWithSole [.Tuple [.Name x₁ p₁, .Name x₂ p₂] k tp] value pos.line (c.env L a cd) = pure false := by intro _ _ _; rfl)
    (hw : ∀ L a cd, swappedStores [.Tuple [.Name x₁ p₁, .Name x₂ p₂] k tp] value (c.env L a cd) = pure none := by intro _ _ _; rfl) :
    WX g c (.Assign [.Tuple [.Name x₁ p₁, .Name x₂ p₂] k tp] value pos) S Q :=
  fun A L a cd Z W s Q' lv r po => Assign_Tuple (h A L a cd Z W s _ lv r fun W₁ v x S₁ s₁ e₁ r₁ rr₁ h₁ => by
    obtain ⟨y, z, rfl, hq⟩ := h₁
    cases r₁ with
    | tup ha hr =>
      rename_i ax arr n
      have len := hr.length
      rw [Array.length_toList] at len
      refine wpAny_assign_Tuple lv.hh ⟨_, rr₁.w _ _ ha, rfl, n, rfl⟩ (by rw [len]; rfl) rfl fun h₃ hex => ?_
      have r3 := rr₁.keeps (tk' := s₁.toks) fun b o e => hex b o (Nat.ne_of_lt (Heap.lt_size e)) e
      refine inOrder_ (a := a) (cd := cd) (xs := [x₁, x₂]) r3 hr rfl (fun q hq => by rcases List.mem_cons.mp hq with e | hq; exact e ▸ hl₁; rw [List.mem_singleton.mp hq]; exact hl₂) rfl ?_ fun s' r' => po _ _ _ _ _ e₁ .next r' hq
      intro i q t h1 h2 v s Q hh
      rcases i with _ | _ | i
      · cases h1; cases h2; exact wpAny_assign_Name hh
      · cases h1; cases h2; exact wpAny_assign_Name hh
      · simp at h1) (hs _ _ _) (hw _ _ _)
theorem wX_unpack3 {x₁ x₂ x₃ : Str} {p₁ p₂ p₃ tp pos : Pos} {k : Nat} {value : Expr} {Q : F → St → Prop}
    (h : WE g c value S (fun v S₁ => ∃ a b d, v = .tup [a, b, d] ∧ Q .next (((S₁.set x₁ a).set x₂ b).set x₃ d)))
    (hl₁ : c.scope.names.lookup x₁ = some .local := by rfl) (hl₂ : c.scope.names.lookup x₂ = some .local := by rfl) (hl₃ : c.scope.names.lookup x₃ = some .local := by rfl)
    (hs : ∀ L a cd, swapsWithSole [.Tuple [.Name x₁ p₁, .Name x₂ p₂, .Name x₃ p₃] k tp] value pos.line (c.env L a cd) = pure false := by intro _ _ _; rfl)
    (hw : ∀ L a cd, swappedStores [.Tuple [.Name x₁ p₁, .Name x₂ p₂, .Name x₃ p₃] k tp] value (c.env L a cd) = pure none := by intro _ _ _; rfl) :
    WX g c (.Assign [.Tuple [.Name x₁ p₁, .Name x₂ p₂, .Name x₃ p₃] k tp] value pos) S Q :=
  fun A L a cd Z W s Q' lv r po => Assign_Tuple (h A L a cd Z W s _ lv r fun W₁ v x S₁ s₁ e₁ r₁ rr₁ h₁ => by
    obtain ⟨y, z, u, rfl, hq⟩ := h₁
    cases r₁ with
    | tup ha hr =>
      rename_i ax arr n
      have len := hr.length
      rw [Array.length_toList] at len
      refine wpAny_assign_Tuple lv.hh ⟨_, rr₁.w _ _ ha, rfl, n, rfl⟩ (by rw [len]; rfl) rfl fun h₃ hex => ?_
      have r3 := rr₁.keeps (tk' := s₁.toks) fun b o e => hex b o (Nat.ne_of_lt (Heap.lt_size e)) e
      refine inOrder_ (a := a) (cd := cd) (xs := [x₁, x₂, x₃]) r3 hr rfl (fun q hq => by rcases List.mem_cons.mp hq with e | hq; exact e ▸ hl₁; rcases List.mem_cons.mp hq with e | hq; exact e ▸ hl₂; rw [List.mem_singleton.mp hq]; exact hl₃) rfl ?_ fun s' r' => po _ _ _ _ _ e₁ .next r' hq
      intro i q t h1 h2 v s Q hh
      rcases i with _ | _ | _ | i
      · cases h1; cases h2; exact wpAny_assign_Name hh
      · cases h1; cases h2; exact wpAny_assign_Name hh
      · cases h1; cases h2; exact wpAny_assign_Name hh
      · simp at h1) (hs _ _ _) (hw _ _ _)
theorem wX_swap2 {x₁ x₂ : Str} {p₁ p₂ tp pos : Pos} {k : Nat} {value : Expr} {Q : F → St → Prop}
    (h : WE g c value S (fun v S₁ => ∃ a b, v = .tup [a, b] ∧ Q .next ((S₁.set x₂ b).set x₁ a)))
    (hl₁ : c.scope.names.lookup x₁ = some .local := by rfl) (hl₂ : c.scope.names.lookup x₂ = some .local := by rfl)
    (hs : ∀ L a cd, swapsWithSole [.Tuple [.Name x₁ p₁, .Name x₂ p₂] k tp] value pos.line (c.env L a cd) = pure false := by intro _ _ _; rfl)
    (hw : ∀ L a cd, swappedStores [.Tuple [.Name x₁ p₁, .Name x₂ p₂] k tp] value (c.env L a cd) = pure (some [x₁, x₂]) := by intro _ _ _; rfl) :
    WX g c (.Assign [.Tuple [.Name x₁ p₁, .Name x₂ p₂] k tp] value pos) S Q :=
  fun A L a cd Z W s Q' lv r po => Assign_Tuple_swapped (h A L a cd Z W s _ lv r fun W₁ v x S₁ s₁ e₁ r₁ rr₁ h₁ => by
    obtain ⟨y, z, rfl, hq⟩ := h₁
    cases r₁ with
    | tup ha hr =>
      rename_i ax arr n
      have len := hr.length
      rw [Array.length_toList] at len
      show wpAny _ _ (unpackItems (.ref ax) 2 none) _ _ _
      rw [show (2 : Nat) = arr.size from len.symm]
      refine wpAny_unpackItems_tuple lv.hh ⟨_, rr₁.w _ _ ha, rfl, n, rfl⟩ fun h₃ hex => ?_
      have r3 := rr₁.keeps (tk' := s₁.toks) fun b o e => hex b o (Nat.ne_of_lt (Heap.lt_size e)) e
      cases hat : arr.toList with
      | nil => rw [hat] at hr; cases hr
      | cons v1 t1 =>
        rw [hat] at hr
        cases hr with
        | cons q1 hr =>
          cases hr with
          | cons q2 hr =>
            cases hr
            refine inOrder_ (a := a) (cd := cd) (xs := [x₂, x₁]) (ys := [z, y]) r3 (.cons q2 (.cons q1 .nil)) rfl (fun q hq => by rcases List.mem_cons.mp hq with e | hq; exact e ▸ hl₂; rw [List.mem_singleton.mp hq]; exact hl₁) rfl ?_ fun s' r' => po _ _ _ _ _ e₁ .next r' hq
            intro i q t h1 h2 v s Q hh
            rcases i with _ | _ | i
            · cases h1; cases h2; exact wpAny_bindName hh
            · cases h1; cases h2; exact wpAny_bindName hh
            · simp at h1) (hs _ _ _) (hw _ _ _)
theorem wX_swap3 {x₁ x₂ x₃ : Str} {p₁ p₂ p₃ tp pos : Pos} {k : Nat} {value : Expr} {Q : F → St → Prop}
    (h : WE g c value S (fun v S₁ => ∃ a b d, v = .tup [a, b, d] ∧ Q .next (((S₁.set x₃ d).set x₂ b).set x₁ a)))
    (hl₁ : c.scope.names.lookup x₁ = some .local := by rfl) (hl₂ : c.scope.names.lookup x₂ = some .local := by rfl) (hl₃ : c.scope.names.lookup x₃ = some .local := by rfl)
    (hs : ∀ L a cd, swapsWithSole [.Tuple [.Name x₁ p₁, .Name x₂ p₂, .Name x₃ p₃] k tp] value pos.line (c.env L a cd) = pure false := by intro _ _ _; rfl)
    (hw : ∀ L a cd, swappedStores [.Tuple [.Name x₁ p₁, .Name x₂ p₂, .Name x₃ p₃] k tp] value (c.env L a cd) = pure (some [x₁, x₂, x₃]) := by intro _ _ _; rfl) :
    WX g c (.Assign [.Tuple [.Name x₁ p₁, .Name x₂ p₂, .Name x₃ p₃] k tp] value pos) S Q :=
  fun A L a cd Z W s Q' lv r po => Assign_Tuple_swapped (h A L a cd Z W s _ lv r fun W₁ v x S₁ s₁ e₁ r₁ rr₁ h₁ => by
    obtain ⟨y, z, u, rfl, hq⟩ := h₁
    cases r₁ with
    | tup ha hr =>
      rename_i ax arr n
      have len := hr.length
      rw [Array.length_toList] at len
      show wpAny _ _ (unpackItems (.ref ax) 3 none) _ _ _
      rw [show (3 : Nat) = arr.size from len.symm]
      refine wpAny_unpackItems_tuple lv.hh ⟨_, rr₁.w _ _ ha, rfl, n, rfl⟩ fun h₃ hex => ?_
      have r3 := rr₁.keeps (tk' := s₁.toks) fun b o e => hex b o (Nat.ne_of_lt (Heap.lt_size e)) e
      cases hat : arr.toList with
      | nil => rw [hat] at hr; cases hr
      | cons v1 t1 =>
        rw [hat] at hr
        cases hr with
        | cons q1 hr =>
          cases hr with
          | cons q2 hr =>
            cases hr with
            | cons q3 hr =>
            cases hr
            refine inOrder_ (a := a) (cd := cd) (xs := [x₃, x₂, x₁]) (ys := [u, z, y]) r3 (.cons q3 (.cons q2 (.cons q1 .nil))) rfl (fun q hq => by rcases List.mem_cons.mp hq with e | hq; exact e ▸ hl₃; rcases List.mem_cons.mp hq with e | hq; exact e ▸ hl₂; rw [List.mem_singleton.mp hq]; exact hl₁) rfl ?_ fun s' r' => po _ _ _ _ _ e₁ .next r' hq
            intro i q t h1 h2 v s Q hh
            rcases i with _ | _ | _ | i
            · cases h1; cases h2; exact wpAny_bindName hh
            · cases h1; cases h2; exact wpAny_bindName hh
            · cases h1; cases h2; exact wpAny_bindName hh
            · simp at h1) (hs _ _ _) (hw _ _ _)
theorem wE_bitlen {o : Expr} {apos pos : Pos} {Q : V → St → Prop} (h : WE g c o S (fun v S₁ => ∃ i, v = .int i ∧ Q (.int (Builtin.Int.intBits i)) S₁))
    (hbase : ∀ env, attributeBase o "bit_length" env (eval o env) = eval o env := by intro _; rfl) (hline : (apos.endLine == pos.line) = true := by rfl) :
    WE g c (.Call (.Attribute o "bit_length" apos) [] [] pos) S Q :=
  fun A L a cd Z W s Q' lv r po => Call_method0 (hbase _) hline (h A L a cd Z W s _ lv r fun W₁ v x S₁ s₁ e₁ r₁ rr₁ h₁ => by
    obtain ⟨i, rfl, hq⟩ := h₁
    cases r₁
    refine ⟨"int", "int.bit_length", F.plainAttrs_int, F.slot_int_bit_length, F.type_int_bit_length, typeIs_int _ _ _, (fun _ e => nomatch e), ?_⟩
    exact seqMethod0_meets F.slot_int_bit_length F.entry_int_bit_length (typeIs_int _ _ _) (F.args_int_bit_length_1 _) ((AutoIntG2.int_bit_length_int_0 i _).meets) (po _ _ _ _ _ e₁ (.int _ _) rr₁.tk hq))
end
section
variable {p : Program} {g : G p} {c : Cx} {α β : Type} {ρ : Fz → α → β → Prop} {S : St}
theorem look_same {x : Str} {v : V} : (S.set x v).m x = some v := if_pos rfl
theorem look_i {x : Str} {a b : Int} (h : a = b) : (S.set x (.int a)).m x = some (.int b) := by rw [h]; exact if_pos rfl
theorem iteF {A B : Prop} (h : B) : if false = true then A else B := by simpa using h
theorem iteT {A B : Prop} (h : A) : if true = true then A else B := by simpa using h
theorem exTB {b : Bool} {Q : Bool → Prop} (h : Q b) : ∃ b', truthV (.bool b) = some b' ∧ Q b' := ⟨b, rfl, h⟩
theorem exTI {i : Int} {Q : Bool → Prop} (h : Q (i != 0)) : ∃ b', truthV (.int i) = some b' ∧ Q b' := ⟨_, rfl, h⟩
theorem exI {i : Int} {Q : Int → Prop} (h : Q i) : ∃ j, V.int i = .int j ∧ Q j := ⟨i, rfl, h⟩
theorem exL {l : List V} {Q : List V → Prop} (h : Q l) : ∃ k, V.list l = .list k ∧ Q k := ⟨l, rfl, h⟩
theorem exT2 {a b : V} {Q : V → V → Prop} (h : Q a b) : ∃ x y, V.tup [a, b] = .tup [x, y] ∧ Q x y := ⟨a, b, rfl, h⟩
theorem exT3 {a b d : V} {Q : V → V → V → Prop} (h : Q a b d) : ∃ x y z, V.tup [a, b, d] = .tup [x, y, z] ∧ Q x y z := ⟨a, b, d, rfl, h⟩
theorem exR {v : V} {Q : V → Prop} (h : Q v) : ∃ x, F.ret v = .ret x ∧ Q x := ⟨v, rfl, h⟩
theorem andLit {v : Value} {Q : Prop} (h : Q) : V.lit v = .lit v ∧ Q := ⟨rfl, h⟩
theorem andSt {S : St} {Q : Prop} (h : Q) : S = S ∧ Q := ⟨rfl, h⟩
theorem andLen {xs : List V} {Q : Prop} (h1 : xs.length ≤ 2 ^ 24) (h : Q) : xs.length ≤ 2 ^ 24 ∧ Q := ⟨h1, h⟩
theorem sig_set {x : Str} {v : V} {a : Addr} {o : Option (List V)} (h : S.σ a = o) : (S.set x v).σ a = o := h
theorem look_ne {x y : Str} {v : V} {o : Option V} (h : y ≠ x) (h2 : S.m y = o) : (S.set x v).m y = o := (if_neg h).trans h2
theorem look_froze {x : Str} {a : Addr} {l : List V} : (S.freeze x a l).m x = some (.list l) := if_pos rfl
theorem look_froze_ne {x y : Str} {a : Addr} {l : List V} {o : Option V} (h : y ≠ x) (h2 : S.m y = o) : (S.freeze x a l).m y = o := (if_neg h).trans h2
theorem sig_freeze {x : Str} {a b : Addr} {l : List V} {o : Option (List V)} (h : a ≠ b) (h2 : S.σ a = o) : (S.freeze x b l).σ a = o := (if_neg h).trans h2
theorem upd_same {σ : Addr → Option (List V)} {a : Addr} {l : List V} : upd σ a l a = some l := if_pos rfl
theorem upd_ne {σ : Addr → Option (List V)} {a b : Addr} {l : List V} {o : Option (List V)} (h : b ≠ a) (h2 : σ b = o) : upd σ a l b = o := (if_neg h).trans h2
theorem upd_upd {σ : Addr → Option (List V)} {a : Addr} {l k : List V} : upd (upd σ a l) a k = upd σ a k := by
  funext b
  unfold upd
  by_cases h : b = a <;> simp [h]
theorem iteD {P : Prop} [Decidable P] {A B : Prop} (h1 : P → A) (h2 : ¬ P → B) : if decide P = true then A else B := by
  by_cases h : P
  · rw [if_pos (decide_eq_true h)]; exact h1 h
  · rw [if_neg (by simpa using h)]; exact h2 h
theorem iteB {b : Bool} {A B : Prop} (h1 : b = true → A) (h2 : b = false → B) : if b = true then A else B := by
  cases b
  · simpa using h2 rfl
  · simpa using h1 rfl
theorem iteEq {x y : Int} {A B : Prop} (h1 : x = y → A) (h2 : x ≠ y → B) : if (x == y) = true then A else B := by
  by_cases h : x = y
  · rw [if_pos (by simpa using h)]; exact h1 h
  · rw [if_neg (by simpa using h)]; exact h2 h
theorem iteNe {x y : Int} {A B : Prop} (h1 : x ≠ y → A) (h2 : x = y → B) : if (x != y) = true then A else B := by
  by_cases h : x = y
  · rw [if_neg (by simpa using h)]; exact h2 h
  · rw [if_pos (by simpa using h)]; exact h1 h
theorem iteNot {b : Bool} {A B : Prop} (h : if b = true then B else A) : if (!b) = true then A else B := by
  cases b <;> simpa using h
/-- how a turn of a loop ends -/
abbrev Turn (next : St → Prop) (Q : F → St → Prop) (f : F) (S : St) : Prop := match f with
  | .next => next S
  | .cont => next S
  | .brk => Q .next S
  | .ret u => Q (.ret u) S
theorem loop_inv {x : Str} {body : List Stmt} {Q : F → St → Prop} (I : List V → St → Prop) (step : ∀ v vs S, I (v :: vs) S → WS g c body (S.set x v) (Turn (I vs) Q)) (done : ∀ S, I [] S → Q .next S) :
    ∀ {xs : List V} {S : St}, I xs S → LoopW g c x body xs S Q
  | [], S, h => done S h
  | v :: vs, S, h => Wp.mono (step v vs S h) fun f S' hf => by
    cases f with
    | next => exact loop_inv I step done hf
    | cont => exact loop_inv I step done hf
    | brk => exact hf
    | ret u => exact hf
theorem loopE_inv {x y : Str} {body : List Stmt} {Q : F → St → Prop} (I : Nat → List V → St → Prop) (step : ∀ i v vs S, I i (v :: vs) S → WS g c body ((S.set x (.int i)).set y v) (Turn (I (i + 1) vs) Q)) (done : ∀ i S, I i [] S → Q .next S) :
    ∀ {i : Nat} {xs : List V} {S : St}, I i xs S → LoopE g c x y body i xs S Q
  | i, [], S, h => done i S h
  | i, v :: vs, S, h => Wp.mono (step i v vs S h) fun f S' hf => by
    cases f with
    | next => exact loopE_inv I step done hf
    | cont => exact loopE_inv I step done hf
    | brk => exact hf
    | ret u => exact hf
theorem whileW_inv {test : Expr} {body : List Stmt} {Q : F → St → Prop} (I : Nat → St → Prop) (step : ∀ n S, I n S → WT g c test S (fun b S₁ => if b = true then WS g c body S₁ (Turn (fun S' => ∃ m, m < n ∧ I m S') Q) else Q .next S₁)) :
    ∀ (n : Nat) {S : St}, I n S → ∀ k, n < k → WhileW g c test body k S Q := by
  intro n
  induction n using Nat.strongRecOn with
  | _ n ih =>
    intro S h k hk
    cases k with
    | zero => exact absurd hk (Nat.not_lt_zero _)
    | succ k =>
      refine Wp.mono (step n S h) fun b S₁ hb => ?_
      cases b with
      | false => simpa using hb
      | true =>
        simp only [if_true] at hb ⊢
        refine Wp.mono hb fun f S' hf => ?_
        cases f with
        | next => obtain ⟨m, h1, h2⟩ := hf; exact ih m h1 h2 k (by (first | lia | omega))
        | cont => obtain ⟨m, h1, h2⟩ := hf; exact ih m h1 h2 k (by (first | lia | omega))
        | brk => exact hf
        | ret u => exact hf
theorem wX_while_inv {test : Expr} {body : List Stmt} {pos : Pos} {Q : F → St → Prop} (I : Nat → St → Prop) (n : Nat) (h : I n S)
    (step : ∀ n S, I n S → WT g c test S (fun b S₁ => if b = true then WS g c body S₁ (Turn (fun S' => ∃ m, m < n ∧ I m S') Q) else Q .next S₁)) : WX g c (.While test body [] pos) S Q :=
  wX_while (n + 1) (whileW_inv I step n h _ (Nat.lt_succ_self _))
theorem op1_int {t : Value → Sem Value} {x : V} {Q : V → St → Prop} (h : Op1 g c Rep t x S Q) : Op1 g c Rep t x S Q := h
noncomputable def zints (l : List Int) : List V := l.map V.int
theorem zints_length (l : List Int) : (zints l).length = l.length := List.length_map ..
theorem zints_get {l : List Int} {i : Nat} {x : Int} (h : l[i]? = some x) : (zints l)[i]? = some (.int x) := by rw [zints, List.getElem?_map, h]; rfl
theorem zints_append (l k : List Int) : zints (l ++ k) = zints l ++ zints k := List.map_append
theorem zints_set (l : List Int) (i : Nat) (x : Int) : (zints l).set i (.int x) = zints (l.set i x) := by simp [zints, List.map_set]
theorem zints_take (l : List Int) (n : Nat) : (zints l).take n = zints (l.take n) := by simp [zints, List.map_take]
theorem zints_drop (l : List Int) (n : Nat) : (zints l).drop n = zints (l.drop n) := by simp [zints, List.map_drop]
theorem zints_replicate (n : Nat) (x : Int) : List.replicate n (V.int x) = zints (List.replicate n x) := by simp [zints]
/-- the function's address -/
noncomputable def G.fa (g : G p) (n : Str) : Addr := match g.mg n with
  | some (.ref a) => a
  | _ => 0
theorem G.fa_of {d : DefRec} (hd : d ∈ recsOf p) : g.mg d.name = some (.ref (g.fa d.name)) ∧ IsFn g (g.fa d.name) := by
  obtain ⟨a, o, pm, code, doc, h1, h2, h3, h4⟩ := g.T.fn d hd
  have : g.fa d.name = a := by unfold G.fa; rw [h1]
  rw [this]
  exact ⟨h1, _, _, h2, h3⟩
theorem pick_to (l : List V) (k : Int) (h0 : 0 ≤ k) : pick l none (some k) = l.take k.toNat := by
  unfold pick cut clipAt
  simp only [Option.elim, if_neg (show ¬ k < 0 by (first | lia | omega)), List.drop_zero, Nat.sub_zero]
  rw [List.take_eq_take_iff]
  (first | lia | omega)
theorem pick_all (l : List V) : pick l none none = l := by
  unfold pick cut
  simp
theorem pick_run (l : List V) (j k : Int) (h0 : 0 ≤ j) (h1 : j ≤ k) (h2 : k ≤ l.length) : pick l (some j) (some k) = (l.drop j.toNat).take (k.toNat - j.toNat) := by
  unfold pick cut clipAt
  simp only [Option.elim, if_neg (show ¬ k < 0 by (first | lia | omega)), if_neg (show ¬ j < 0 by (first | lia | omega))]
  rw [show (max 0 (min j (l.length : Int))).toNat = j.toNat by (first | lia | omega), show (max 0 (min k (l.length : Int))).toNat = k.toNat by (first | lia | omega)]
end
/-- the number that limbs spell, the least first -/
noncomputable def val (B : Int) : List Int → Int
  | [] => 0
  | x :: l => x + B * val B l
noncomputable def Limbs (B : Int) (l : List Int) : Prop := ∀ x ∈ l, 0 ≤ x ∧ x < B
/-- limbs in least form that spell n -/
structure Can (B : Int) (l : List Int) (n : Int) : Prop where
  limbs : Limbs B l
  val : val B l = n
  top : l.getLast? ≠ some 0
theorem Limbs.nil {B : Int} : Limbs B [] := fun _ h => nomatch h
theorem Limbs.tail {B x : Int} {l : List Int} (h : Limbs B (x :: l)) : Limbs B l := fun y hy => h y (.tail _ hy)
theorem Limbs.head {B x : Int} {l : List Int} (h : Limbs B (x :: l)) : 0 ≤ x ∧ x < B := h x (.head _)
theorem Limbs.cons {B x : Int} {l : List Int} (hx : 0 ≤ x ∧ x < B) (h : Limbs B l) : Limbs B (x :: l) := fun y hy => by
  rcases List.mem_cons.mp hy with rfl | hy
  · exact hx
  · exact h y hy
theorem Limbs.append {B : Int} {l k : List Int} (h : Limbs B l) (h' : Limbs B k) : Limbs B (l ++ k) := fun y hy => (List.mem_append.mp hy).elim (h y) (h' y)
theorem Limbs.snoc {B x : Int} {l : List Int} (h : Limbs B l) (hx : 0 ≤ x ∧ x < B) : Limbs B (l ++ [x]) := h.append (Limbs.nil.cons hx)
theorem Limbs.get {B : Int} {l : List Int} (h : Limbs B l) {i : Nat} {x : Int} (e : l[i]? = some x) : 0 ≤ x ∧ x < B := h x (List.mem_of_getElem? e)
theorem Limbs.take {B : Int} {l : List Int} (h : Limbs B l) (n : Nat) : Limbs B (l.take n) := fun y hy => h y (List.mem_of_mem_take hy)
theorem Limbs.drop {B : Int} {l : List Int} (h : Limbs B l) (n : Nat) : Limbs B (l.drop n) := fun y hy => h y (List.mem_of_mem_drop hy)
theorem Limbs.set {B : Int} {l : List Int} (h : Limbs B l) (n : Nat) {x : Int} (hx : 0 ≤ x ∧ x < B) : Limbs B (l.set n x) := fun y hy => by
  rcases List.mem_or_eq_of_mem_set hy with hy | rfl
  · exact h y hy
  · exact hx
theorem Limbs.replicate {B : Int} (hB : 0 < B) (n : Nat) : Limbs B (List.replicate n 0) := fun y hy => by
  rw [(List.mem_replicate.mp hy).2]; (first | lia | omega)
theorem val_append (B : Int) : ∀ l k : List Int, val B (l ++ k) = val B l + B ^ l.length * val B k
  | [], k => by simp [val]
  | x :: l, k => by
    simp only [List.cons_append, val, val_append B l k, List.length_cons, Int.pow_succ]
    rw [Int.mul_add, ← Int.mul_assoc, Int.mul_comm B (B ^ l.length)]
    (first | lia | omega)
theorem val_snoc (B : Int) (l : List Int) (x : Int) : val B (l ++ [x]) = val B l + B ^ l.length * x := by
  rw [val_append]; simp [val]
theorem pow_pos' {B : Int} (hB : 0 < B) (n : Nat) : 0 < B ^ n := Int.pow_pos hB
theorem val_nonneg {B : Int} (hB : 0 < B) : ∀ {l : List Int}, Limbs B l → 0 ≤ val B l
  | [], _ => Int.le_refl _
  | x :: l, h => by
    have h1 := val_nonneg hB h.tail
    have h2 := h.head
    have := Int.mul_nonneg (Int.le_of_lt hB) h1
    simp only [val]; (first | lia | omega)
theorem val_lt {B : Int} (hB : 0 < B) : ∀ {l : List Int}, Limbs B l → val B l < B ^ l.length
  | [], _ => by simp [val]
  | x :: l, h => by
    have h1 := val_lt hB h.tail
    have h2 := h.head
    simp only [val, List.length_cons, Int.pow_succ]
    have : B * (val B l + 1) ≤ B * B ^ l.length := Int.mul_le_mul_of_nonneg_left h1 (Int.le_of_lt hB)
    rw [Int.mul_add, Int.mul_one] at this
    rw [Int.mul_comm (B ^ l.length) B]
    (first | lia | omega)
theorem val_take_succ {B : Int} {l : List Int} {i : Nat} {x : Int} (e : l[i]? = some x) : val B (l.take (i + 1)) = val B (l.take i) + B ^ i * x := by
  have hi := (List.getElem?_eq_some_iff.mp e).1
  rw [List.take_add_one, e]
  simp only [Option.toList]
  rw [val_snoc, List.length_take, Nat.min_eq_left (Nat.le_of_lt hi)]
theorem val_replicate (B : Int) : ∀ n : Nat, val B (List.replicate n 0) = 0
  | 0 => rfl
  | n + 1 => by simp [List.replicate_succ, val, val_replicate B n]
theorem val_take_drop (B : Int) (l : List Int) (n : Nat) (h : n ≤ l.length) : val B l = val B (l.take n) + B ^ n * val B (l.drop n) := by
  conv => lhs; rw [← List.take_append_drop n l]
  rw [val_append, List.length_take, Nat.min_eq_left h]
theorem val_inj {B : Int} (hB : 0 < B) : ∀ {l k : List Int}, Limbs B l → Limbs B k → l.length = k.length → val B l = val B k → l = k
  | [], [], _, _, _, _ => rfl
  | x :: l, y :: k, h1, h2, hl, hv => by
    simp only [val] at hv
    have a := h1.head
    have b := h2.head
    have e : x = y := by
      have hx : (x + B * val B l) % B = x := by rw [Int.add_mul_emod_self_left]; exact Int.emod_eq_of_lt a.1 a.2
      have hy : (y + B * val B k) % B = y := by rw [Int.add_mul_emod_self_left]; exact Int.emod_eq_of_lt b.1 b.2
      rw [← hx, ← hy, hv]
    subst e
    have e2 : val B l = val B k := Int.eq_of_mul_eq_mul_left (Int.ne_of_gt hB) (by (first | lia | omega))
    rw [val_inj hB h1.tail h2.tail (by simpa using hl) e2]
theorem Can.nil {B : Int} : Can B [] 0 := ⟨.nil, rfl, by simp⟩
theorem Can.nonneg {B n : Int} {l : List Int} (hB : 0 < B) (h : Can B l n) : 0 ≤ n := h.val ▸ val_nonneg hB h.limbs
theorem top_le {B : Int} (hB : 1 < B) {l : List Int} (h : Limbs B l) (ht : l.getLast? ≠ some 0) (hl : l ≠ []) : B ^ (l.length - 1) ≤ val B l := by
  obtain ⟨k, x, rfl⟩ : ∃ k x, l = k ++ [x] := ⟨l.dropLast, l.getLast hl, (List.dropLast_concat_getLast hl).symm⟩
  have hx : x ≠ 0 := fun e => ht (by simp [e])
  have h1 := h x (by simp)
  have h2 : Limbs B k := fun y hy => h y (List.mem_append_left _ hy)
  have h3 := val_nonneg (by (first | lia | omega)) h2
  rw [val_snoc]
  simp only [List.length_append, List.length_cons, List.length_nil, Nat.zero_add, Nat.add_sub_cancel]
  have h4 := pow_pos' (B := B) (by (first | lia | omega)) k.length
  have : B ^ k.length * 1 ≤ B ^ k.length * x := Int.mul_le_mul_of_nonneg_left (by (first | lia | omega)) (Int.le_of_lt h4)
  (first | lia | omega)
theorem top_of {B : Int} (hB : 1 < B) {l : List Int} (h : Limbs B l) (hv : l ≠ [] → B ^ (l.length - 1) ≤ val B l) : l.getLast? ≠ some 0 := by
  intro e
  have hl : l ≠ [] := fun q => by rw [q] at e; cases e
  obtain ⟨k, x, rfl⟩ : ∃ k x, l = k ++ [x] := ⟨l.dropLast, l.getLast hl, (List.dropLast_concat_getLast hl).symm⟩
  have hx : x = 0 := by simpa using e
  subst hx
  have h2 : Limbs B k := fun y hy => h y (List.mem_append_left _ hy)
  have h3 := val_lt (by (first | lia | omega)) h2
  have := hv hl
  rw [val_snoc] at this
  simp only [List.length_append, List.length_cons, List.length_nil, Nat.zero_add, Nat.add_sub_cancel] at this
  (first | lia | omega)
theorem Can.low {B n : Int} {l : List Int} (hB : 1 < B) (h : Can B l n) (hl : l ≠ []) : B ^ (l.length - 1) ≤ n := h.val ▸ top_le hB h.limbs h.top hl
theorem Can.lt {B n : Int} {l : List Int} (hB : 1 < B) (h : Can B l n) : n < B ^ l.length := h.val ▸ val_lt (by (first | lia | omega)) h.limbs
theorem pow_mono' {B : Int} (hB : 1 < B) {m n : Nat} (h : m ≤ n) : B ^ m ≤ B ^ n := by
  obtain ⟨k, rfl⟩ := Nat.exists_eq_add_of_le h
  rw [Int.pow_add]
  have h1 := pow_pos' (B := B) (by (first | lia | omega)) m
  have h2 := pow_pos' (B := B) (by (first | lia | omega)) k
  have : B ^ m * 1 ≤ B ^ m * B ^ k := Int.mul_le_mul_of_nonneg_left (by (first | lia | omega)) (Int.le_of_lt h1)
  (first | lia | omega)
theorem Can.len_le {B n : Int} {l : List Int} (hB : 1 < B) (h : Can B l n) {k : Nat} (hn : n < B ^ k) : l.length ≤ k := by
  by_cases hl : l = []
  · subst hl; simp
  · apply Nat.le_of_not_lt
    intro hk
    have h1 := h.low hB hl
    have h2 := pow_mono' hB (show k ≤ l.length - 1 by (first | lia | omega))
    (first | lia | omega)
theorem Can.len_lt {B n m : Int} {l k : List Int} (hB : 1 < B) (h : Can B l n) (h' : Can B k m) (hl : l.length < k.length) : n < m := by
  have h1 := h.lt hB
  have h2 := h'.low hB (fun e => by subst e; simp at hl)
  have h3 := pow_mono' hB (show l.length ≤ k.length - 1 by (first | lia | omega))
  (first | lia | omega)
theorem Can.uniq {B n : Int} {l k : List Int} (hB : 1 < B) (h : Can B l n) (h' : Can B k n) : l = k := by
  have e : l.length = k.length := by
    rcases Nat.lt_trichotomy l.length k.length with q | q | q
    · exact absurd (h.len_lt hB h' q) (Int.lt_irrefl _)
    · exact q
    · exact absurd (h'.len_lt hB h q) (Int.lt_irrefl _)
  exact val_inj (by (first | lia | omega)) h.limbs h'.limbs e (h.val.trans h'.val.symm)
theorem Can.zero {B n : Int} {l : List Int} (hB : 1 < B) (h : Can B l n) : l = [] ↔ n = 0 := by
  constructor
  · intro e; subst e; exact h.val.symm
  · intro e
    subst e
    exact h.uniq hB Can.nil
/-- no noughts at the end -/
noncomputable def normL (l : List Int) : List Int := (l.reverse.dropWhile (· == 0)).reverse
theorem normL_nil : normL [] = [] := rfl
theorem normL_snoc_zero (l : List Int) : normL (l ++ [0]) = normL l := by simp [normL]
theorem normL_snoc {x : Int} (hx : x ≠ 0) (l : List Int) : normL (l ++ [x]) = l ++ [x] := by simp [normL, hx]
theorem normL_can {B : Int} (hB : 0 < B) {l : List Int} (h : Limbs B l) : Can B (normL l) (val B l) := by
  generalize hn : l.length = n
  induction n generalizing l with
  | zero => rw [List.length_eq_zero_iff.mp hn]; exact Can.nil
  | succ n ih =>
    have hl : l ≠ [] := fun e => by subst e; cases hn
    obtain ⟨k, x, rfl⟩ : ∃ k x, l = k ++ [x] := ⟨l.dropLast, l.getLast hl, (List.dropLast_concat_getLast hl).symm⟩
    have h2 : Limbs B k := fun y hy => h y (List.mem_append_left _ hy)
    by_cases hx : x = 0
    · subst hx
      rw [normL_snoc_zero, val_snoc]
      have := ih h2 (by simpa using hn)
      simpa using this
    · rw [normL_snoc hx]
      exact ⟨h, rfl, by simpa using hx⟩
theorem normL_length (l : List Int) : (normL l).length ≤ l.length := by
  unfold normL
  have h := (List.dropWhile_suffix (· == (0:Int)) (l := l.reverse)).length_le
  simpa using h
theorem normL_can' {B n : Int} {l : List Int} (h : Can B l n) : normL l = l := by
  by_cases hl : l = []
  · subst hl; rfl
  · obtain ⟨k, x, rfl⟩ : ∃ k x, l = k ++ [x] := ⟨l.dropLast, l.getLast hl, (List.dropLast_concat_getLast hl).symm⟩
    exact normL_snoc (fun e => h.top (by simp [e])) k
-- bits
theorem bitOr_nat (a b : Nat) : Builtin.bitOr (a : Int) (b : Int) = ((a ||| b : Nat) : Int) := by
  unfold Builtin.bitOr
  have e : ∀ z : Int, Builtin.bitNot (Builtin.bitNot z) = z := fun z => by unfold Builtin.bitNot; (first | lia | omega)
  rw [bitAnd_nn (by unfold Builtin.bitNot; (first | lia | omega)) (by unfold Builtin.bitNot; (first | lia | omega)), e, e, e]
  simp
theorem or_add {x y : Int} (k : Nat) (h0 : 0 ≤ x) (h1 : x < 2 ^ k) (hy : 0 ≤ y) : Builtin.bitOr x (y * 2 ^ k) = x + y * 2 ^ k := by
  obtain ⟨a, rfl⟩ := Int.eq_ofNat_of_zero_le h0
  obtain ⟨b, rfl⟩ := Int.eq_ofNat_of_zero_le hy
  have h1' : a < 2 ^ k := by exact_mod_cast h1
  have e : ((b : Int) * 2 ^ k) = ((b * 2 ^ k : Nat) : Int) := by push_cast; rfl
  rw [e]
  have := Nat.two_pow_add_eq_or_of_lt h1' b
  have hor : Builtin.bitOr ((a : Nat) : Int) ((b * 2 ^ k : Nat) : Int) = ((a ||| b * 2 ^ k : Nat) : Int) := by
    exact bitOr_nat _ _
  rw [hor, Nat.or_comm, Nat.mul_comm b, ← this]
  push_cast
  (first | lia | omega)
theorem or_add' {x y : Int} (k : Nat) (h0 : 0 ≤ x) (h1 : x < 2 ^ k) (hy : 0 ≤ y) : Builtin.bitOr (y * 2 ^ k) x = y * 2 ^ k + x := by
  obtain ⟨a, rfl⟩ := Int.eq_ofNat_of_zero_le h0
  obtain ⟨b, rfl⟩ := Int.eq_ofNat_of_zero_le hy
  have h1' : a < 2 ^ k := by exact_mod_cast h1
  have e : ((b : Int) * 2 ^ k) = ((b * 2 ^ k : Nat) : Int) := by push_cast; rfl
  rw [e]
  have := Nat.two_pow_add_eq_or_of_lt h1' b
  have hor : Builtin.bitOr ((b * 2 ^ k : Nat) : Int) ((a : Nat) : Int) = ((b * 2 ^ k ||| a : Nat) : Int) := by
    exact bitOr_nat _ _
  rw [hor, Nat.mul_comm b, ← this]
  push_cast
  (first | lia | omega)
theorem mask_mod (x : Int) (k : Nat) : Builtin.bitAnd x (2 ^ k - 1) = x % 2 ^ k := by
  have e : ((2 : Int) ^ k - 1).toNat = 2 ^ k - 1 := by
    rw [show (2 : Int) ^ k = ((2 ^ k : Nat) : Int) by simp]; (first | lia | omega)
  have p : (0 : Int) < 2 ^ k := pow_pos' (by decide) k
  cases x with
  | ofNat n =>
    show Builtin.bitAnd (n : Int) _ = (n : Int) % _
    rw [bitAnd_pp (x := (n : Int)) (by (first | lia | omega)) (by (first | lia | omega)), e, Int.toNat_natCast, Nat.and_two_pow_sub_one_eq_mod]
    simp
  | negSucc n =>
    have hn : (Builtin.bitNot (Int.negSucc n)).toNat = n := by unfold Builtin.bitNot; (first | lia | omega)
    rw [bitAnd_np (by (first | lia | omega)) (by (first | lia | omega)), e, hn, Nat.and_comm, Nat.and_two_pow_sub_one_eq_mod, Int.negSucc_emod n p]
    simp
section
variable {p : Program} {g : G p} {c : Cx} {S : St}
theorem zints_at {l : List Int} {k : Int} (h0 : 0 ≤ k) (h1 : k < l.length) : (zints l)[place k (zints l).length]? = some (.int (l.getD k.toNat 0)) := by
  rw [place, if_neg (by (first | lia | omega)), zints, List.getElem?_map]
  have : k.toNat < l.length := by (first | lia | omega)
  rw [List.getElem?_eq_getElem this, List.getD_eq_getElem?_getD, List.getElem?_eq_getElem this]
  rfl
theorem getD_get {l : List Int} {k : Nat} (h : k < l.length) : l[k]? = some (l.getD k 0) := by
  rw [List.getD_eq_getElem?_getD, List.getElem?_eq_getElem h]; rfl
theorem b_len_z {l : List Int} {Q : V → St → Prop} (hsz : l.length < 2 ^ 63) (h : Q (.int l.length) S) : OpN g c Rep (fun vs => call (.builtin "len") vs) [.list (zints l)] S Q :=
  b_len_list (by rw [zints_length]; exact hsz) (by rw [zints_length]; exact h)
theorem b_len_zr {a : Addr} {l : List Int} {Q : V → St → Prop} (ha : S.σ a = some (zints l)) (hsz : l.length < 2 ^ 63) (h : Q (.int l.length) S) : OpN g c Rep (fun vs => call (.builtin "len") vs) [.ref a] S Q :=
  b_len_ref ha (by rw [zints_length]; exact hsz) (by rw [zints_length]; exact h)
theorem s_z {value slice : Expr} {l : List Int} {k : Int} {Q : V → St → Prop} (h0 : 0 ≤ k) (h1 : k < l.length) (hsz : l.length < 2 ^ 63) (h : Q (.int (l.getD k.toNat 0)) S)
    (hs : NoSlice slice := by intro _ _; rfl) : Op2 g c Rep (subscriptTail value slice) (.list (zints l)) (.int k) S Q :=
  s_list (zints_at h0 h1) (by rw [zints_length]; (first | lia | omega)) (by rw [zints_length]; exact hsz) h hs
theorem s_zr {value slice : Expr} {a : Addr} {l : List Int} {k : Int} {Q : V → St → Prop} (ha : S.σ a = some (zints l)) (h0 : 0 ≤ k) (h1 : k < l.length) (hsz : l.length < 2 ^ 63) (h : Q (.int (l.getD k.toNat 0)) S)
    (hs : NoSlice slice := by intro _ _; rfl) : Op2 g c Rep (subscriptTail value slice) (.ref a) (.int k) S Q :=
  s_ref ha (zints_at h0 h1) (by rw [zints_length]; (first | lia | omega)) (by rw [zints_length]; exact hsz) h hs
theorem s_zN {value slice : Expr} {l : List Int} {k : Nat} {Q : V → St → Prop} (h1 : k < l.length) (hsz : l.length < 2 ^ 63) (h : Q (.int (l.getD k 0)) S)
    (hs : NoSlice slice := by intro _ _; rfl) : Op2 g c Rep (subscriptTail value slice) (.list (zints l)) (.int (k : Int)) S Q :=
  s_z (by (first | lia | omega)) (by (first | lia | omega)) hsz h hs
theorem s_zrN {value slice : Expr} {a : Addr} {l : List Int} {k : Nat} {Q : V → St → Prop} (ha : S.σ a = some (zints l)) (h1 : k < l.length) (hsz : l.length < 2 ^ 63) (h : Q (.int (l.getD k 0)) S)
    (hs : NoSlice slice := by intro _ _; rfl) : Op2 g c Rep (subscriptTail value slice) (.ref a) (.int (k : Int)) S Q :=
  s_zr ha (by (first | lia | omega)) (by (first | lia | omega)) hsz h hs
theorem o_shl1 {w : Nat} {Q : V → St → Prop} (hw : w ≤ 1000000) (h : Q (.int (2 ^ w)) S) : Op2 g c Rep (binaryOp .LShift) (.int 1) (.int (w : Int)) S Q :=
  o_lshift (by (first | lia | omega)) (by (first | lia | omega)) (by decide) (by simpa using h)
theorem o_shl {x : Int} {k : Nat} {Q : V → St → Prop} (hk : k ≤ 1000000) (hx : x.natAbs < 2 ^ 64) (h : Q (.int (x * 2 ^ k)) S) : Op2 g c Rep (binaryOp .LShift) (.int x) (.int (k : Int)) S Q :=
  o_lshift (by (first | lia | omega)) (by (first | lia | omega)) hx (by simpa using h)
theorem pow2_nonneg (k : Nat) : (0 : Int) ≤ 2 ^ k := Int.le_of_lt (Int.pow_pos (by decide))
theorem o_shr {x : Int} {k : Nat} {Q : V → St → Prop} (h : Q (.int (x / 2 ^ k)) S) : Op2 g c Rep (binaryOp .RShift) (.int x) (.int (k : Int)) S Q :=
  o_rshift (by (first | lia | omega)) (by rw [Int.fdiv_eq_ediv_of_nonneg _ (by simpa using pow2_nonneg k)]; simpa using h)
theorem i_shr {x : Int} {k : Nat} {Q : V → St → Prop} (h : Q (.int (x / 2 ^ k)) S) : Op2 g c Rep (inplaceOp .RShift) (.int x) (.int (k : Int)) S Q :=
  i_rshift (by (first | lia | omega)) (by rw [Int.fdiv_eq_ediv_of_nonneg _ (by simpa using pow2_nonneg k)]; simpa using h)
theorem o_mask {x : Int} {k : Nat} {Q : V → St → Prop} (h : Q (.int (x % 2 ^ k)) S) : Op2 g c Rep (binaryOp .BitAnd) (.int x) (.int (2 ^ k - 1)) S Q :=
  o_and (by rw [mask_mod]; exact h)
theorem intBits_le {x : Int} {k : Nat} (h : x.natAbs < 2 ^ k) : Builtin.Int.intBits x ≤ k := by
  unfold Builtin.Int.intBits
  by_cases hx : x = 0
  · subst hx; simp
  · have hb : (x == 0) = false := by simpa using hx
    rw [hb]
    simp only [Bool.false_eq_true, if_false]
    have := (Nat.log2_lt (by (first | lia | omega) : x.natAbs ≠ 0)).mpr h
    (first | lia | omega)
theorem o_mulS {x y : Int} {Q : V → St → Prop} (hx : x.natAbs < 2 ^ 64) (h : Q (.int (x * y)) S) : Op2 g c Rep (binaryOp .Mult) (.int x) (.int y) S Q :=
  o_mul h (IntMulOk.of_left (intBits_le hx))
theorem o_mulR {x y : Int} {Q : V → St → Prop} (hy : y.natAbs < 2 ^ 64) (h : Q (.int (x * y)) S) : Op2 g c Rep (binaryOp .Mult) (.int x) (.int y) S Q :=
  o_mul h (IntMulOk.of_right (intBits_le hy))
theorem o_div {x y : Int} {Q : V → St → Prop} (h0 : 0 < y) (h1 : y < 1073741824) (h : Q (.int (x / y)) S) : Op2 g c Rep (binaryOp .FloorDiv) (.int x) (.int y) S Q :=
  o_floordiv (by (first | lia | omega)) (by (first | lia | omega)) (by rw [Int.fdiv_eq_ediv_of_nonneg _ (by (first | lia | omega))]; exact h)
theorem o_md {x y : Int} {Q : V → St → Prop} (h0 : 0 < y) (h : Q (.int (x % y)) S) : Op2 g c Rep (binaryOp .Mod) (.int x) (.int y) S Q :=
  o_mod (by (first | lia | omega)) (by rw [Int.fmod_eq_emod_of_nonneg _ (by (first | lia | omega))]; exact h)
theorem i_md {x y : Int} {Q : V → St → Prop} (h0 : 0 < y) (h : Q (.int (x % y)) S) : Op2 g c Rep (inplaceOp .Mod) (.int x) (.int y) S Q :=
  i_mod (by (first | lia | omega)) (by rw [Int.fmod_eq_emod_of_nonneg _ (by (first | lia | omega))]; exact h)
theorem o_pow2 {w : Nat} {Q : V → St → Prop} (hw : w ≤ 1000000) (h : Q (.int (2 ^ w)) S) : Op2 g c Rep (binaryOp .Pow) (.int 2) (.int (w : Int)) S Q :=
  o_pow (by omega) (by have : Builtin.Int.intBits 2 = 2 := by decide +kernel
                       rw [this]; (first | lia | omega)) (by simpa using h)
theorem wE_sliceZ {x : Str} {px pp pos : Pos} {lo hi : Option Expr} {l : List Int} {Q : V → St → Prop} (hx : S.m x = some (.list (zints l))) (hsz : l.length ≤ 2 ^ 24)
    (h : WP g c lo S (fun vl S₂ => WP g c hi S₂ (fun vh S₃ => S₃ = S ∧ Q (.list (pick (zints l) vl vh)) S)))
    (hl : c.scope.names.lookup x = some .local := by rfl) (hd : (x == ("__debug__" : Str)) = false := by decide) :
    WE g c (.Subscript (.Name x px) (.Slice lo hi none pp) pos) S Q := wE_slice (.inl hx) (by rw [zints_length]; exact hsz) h hl hd
theorem wE_boolop_or {e₁ e₂ : Expr} {rest : List Expr} {pos : Pos} {Q : V → St → Prop}
    (h : WE g c e₁ S (fun x S' => ∃ b, truthV x = some b ∧ if b = true then Q x S' else WE g c (.BoolOp .Or (e₂ :: rest) pos) S' Q)) : WE g c (.BoolOp .Or (e₁ :: e₂ :: rest) pos) S Q :=
  fun A L a cd Z W s Q' lv r po => BoolOp_or (h A L a cd Z W s _ lv r fun W₁ v x S₁ s₁ e₁ r₁ rr₁ h₁ => by
    obtain ⟨b, hb, hq⟩ := h₁
    refine truthy_V r₁ hb ?_
    cases b with
    | false => exact hq A L a cd Z W₁ s₁ Q' lv rr₁ (po.ext e₁)
    | true => exact po _ _ _ _ _ e₁ r₁ rr₁ hq)
theorem o_divN {a b : Nat} {Q : V → St → Prop} (h0 : 0 < b) (h1 : b < 1073741824) (h : Q (.int ((a / b : Nat) : Int)) S) : Op2 g c Rep (binaryOp .FloorDiv) (.int (a : Int)) (.int (b : Int)) S Q :=
  o_div (by (first | lia | omega)) (by (first | lia | omega)) (by rw [← Int.natCast_ediv]; exact h)
theorem o_mdN {a b : Nat} {Q : V → St → Prop} (h0 : 0 < b) (h : Q (.int ((a % b : Nat) : Int)) S) : Op2 g c Rep (binaryOp .Mod) (.int (a : Int)) (.int (b : Int)) S Q :=
  o_md (by (first | lia | omega)) (by rw [← Int.natCast_emod]; exact h)
theorem o_subN {a b : Nat} {Q : V → St → Prop} (h0 : b ≤ a) (h : Q (.int ((a - b : Nat) : Int)) S) : Op2 g c Rep (binaryOp .Sub) (.int (a : Int)) (.int (b : Int)) S Q :=
  o_sub (by rw [← Int.natCast_sub h0]; exact h)
theorem o_orL {x y : Int} {k : Nat} {Q : V → St → Prop} (h0 : 0 ≤ x) (h1 : x < 2 ^ k) (hy : 0 ≤ y) (h : Q (.int (y * 2 ^ k + x)) S) : Op2 g c Rep (binaryOp .BitOr) (.int (y * 2 ^ k)) (.int x) S Q :=
  o_or (by rw [or_add' k h0 h1 hy]; exact h)
theorem o_orR {x y : Int} {k : Nat} {Q : V → St → Prop} (h0 : 0 ≤ x) (h1 : x < 2 ^ k) (hy : 0 ≤ y) (h : Q (.int (x + y * 2 ^ k)) S) : Op2 g c Rep (binaryOp .BitOr) (.int x) (.int (y * 2 ^ k)) S Q :=
  o_or (by rw [or_add k h0 h1 hy]; exact h)
theorem i_orR {x y : Int} {k : Nat} {Q : V → St → Prop} (h0 : 0 ≤ x) (h1 : x < 2 ^ k) (hy : 0 ≤ y) (h : Q (.int (x + y * 2 ^ k)) S) : Op2 g c Rep (inplaceOp .BitOr) (.int x) (.int (y * 2 ^ k)) S Q :=
  i_or (by rw [or_add k h0 h1 hy]; exact h)
theorem o_repMZ {x k : Int} {Q : V → St → Prop} (h0 : 0 ≤ k) (hsz : k ≤ 2 ^ 24) (h : ∀ a, S.σ a = none → Q (.ref a) { S with σ := upd S.σ a (zints (List.replicate k.toNat x)) }) : Op2 g c Rep (binaryOp .Mult) (.list [.int x]) (.int k) S Q :=
  o_repM (by (first | lia | omega)) (by (first | lia | omega)) fun a ha => by rw [zints_replicate]; exact h a ha
theorem o_repMN {x : Int} {k : Nat} {Q : V → St → Prop} (hsz : k ≤ 2 ^ 24) (h : ∀ a, S.σ a = none → Q (.ref a) { S with σ := upd S.σ a (zints (List.replicate k x)) }) : Op2 g c Rep (binaryOp .Mult) (.list [.int x]) (.int (k : Int)) S Q :=
  o_repMZ (by (first | lia | omega)) (by (first | lia | omega)) (by simpa using h)
theorem o_repFN {x : Int} {k : Nat} {Q : V → St → Prop} (hsz : k ≤ 2 ^ 24) (h : Q (.list (zints (List.replicate k x))) S) : Op2 g c Rep (binaryOp .Mult) (.list [.int x]) (.int (k : Int)) S Q :=
  o_repF (by (first | lia | omega)) (by (first | lia | omega)) (by rw [zints_replicate]; simpa using h)
theorem exRng1 {b : Int} {P R : Int → Int → Prop} (hb : Fit b) (h : P 0 b) : ∃ x y d, RArgs [.int b] x y d ∧ Fit x ∧ Fit y ∧ (d = 1 → P x y) ∧ (d = -1 → R x y) :=
  ⟨0, b, 1, .one b, by unfold Fit; (first | lia | omega), hb, fun _ => h, fun q => by cases q⟩
theorem exRng2 {a b : Int} {P R : Int → Int → Prop} (ha : Fit a) (hb : Fit b) (h : P a b) : ∃ x y d, RArgs [.int a, .int b] x y d ∧ Fit x ∧ Fit y ∧ (d = 1 → P x y) ∧ (d = -1 → R x y) :=
  ⟨a, b, 1, .two a b, ha, hb, fun _ => h, fun q => by cases q⟩
theorem exRngD {a b e : Int} {P R : Int → Int → Prop} (he : e = -1) (ha : Fit a) (hb : Fit b) (h : R a b) : ∃ x y d, RArgs [.int a, .int b, .int e] x y d ∧ Fit x ∧ Fit y ∧ (d = 1 → P x y) ∧ (d = -1 → R x y) := by
  subst he
  exact ⟨a, b, -1, .down a b, ha, hb, fun q => (by cases q), fun _ => h⟩
theorem wX_retRef {x : Str} {px pos : Pos} {a : Addr} {l : List V} {Q : F → St → Prop} (hx : S.m x = some (.ref a)) (ha : S.σ a = some l) (h : Q (.ret (.list l)) (S.freeze x a l))
    (hl : c.scope.names.lookup x = some .local := by rfl) (hd : (x == ("__debug__" : Str)) = false := by decide) : WX g c (.Return (some (.Name x px)) pos) S Q :=
  w_freeze x hx ha (wX_return (wE_local look_froze h hl hd))
theorem upd_nil {σ : Addr → Option (List V)} {a : Addr} : upd σ a [] a = some (zints []) := if_pos rfl
theorem exApp {a : Addr} {l : List V} {P : Addr → Prop} (h1 : S.σ a = some l) (h : P a) : ∃ x l, V.ref a = .ref x ∧ S.σ x = some l ∧ P x := ⟨a, l, rfl, h1, h⟩
theorem exAppZ {a : Addr} {l : List Int} {P : List V → Prop} (h1 : S.σ a = some (zints l)) (hsz : l.length ≤ 2 ^ 24) (h : P (zints l)) : ∃ k, S.σ a = some k ∧ k.length ≤ 2 ^ 24 ∧ P k := ⟨_, h1, by rw [zints_length]; exact hsz, h⟩
theorem exAppV {a : Addr} {l : List V} {P : List V → Prop} (h1 : S.σ a = some l) (hsz : l.length ≤ 2 ^ 24) (h : P l) : ∃ k, S.σ a = some k ∧ k.length ≤ 2 ^ 24 ∧ P k := ⟨_, h1, hsz, h⟩
theorem upd_app {σ : Addr → Option (List V)} {a : Addr} {l : List Int} {i j : Int} (h : i = j) : upd σ a (zints l ++ [V.int i]) a = some (zints (l ++ [j])) := by
  subst h
  rw [zints_append]; exact if_pos rfl
theorem exSetZ {a : Addr} {l : List Int} {j : Int} {P : Addr → List V → Int → Prop} (h1 : S.σ a = some (zints l)) (h0 : 0 ≤ j) (hj : j < l.length) (hsz : l.length < 2 ^ 63) (h : P a (zints l) j) :
    ∃ x k i, V.ref a = .ref x ∧ V.int j = .int i ∧ S.σ x = some k ∧ 0 ≤ i ∧ i < k.length ∧ k.length < 2 ^ 63 ∧ P x k i :=
  ⟨a, _, j, rfl, rfl, h1, h0, by rw [zints_length]; exact hj, by rw [zints_length]; exact hsz, h⟩
theorem upd_set {σ : Addr → Option (List V)} {a : Addr} {l : List Int} {n m : Nat} {i j : Int} (hn : n = m) (h : i = j) : upd σ a ((zints l).set n (V.int i)) a = some (zints (l.set m j)) := by
  subst h hn
  rw [zints_set]; exact if_pos rfl
theorem wE_listNew {pos : Pos} {Q : V → St → Prop} (h : ∀ a, S.σ a = none → Q (.ref a) { S with σ := upd S.σ a [] }) : WE g c (.List [] pos) S Q :=
  wE_listM (wA_nil ⟨by simp, h⟩)
theorem wE_listEmp {pos : Pos} {Q : V → St → Prop} (h : Q (.list (zints [])) S) : WE g c (.List [] pos) S Q :=
  wE_listF (wA_nil ⟨by simp, h⟩)
theorem wE_listOf {e : Expr} {es : List Expr} {pos : Pos} {Q : V → St → Prop} (h : WA g c pos (e :: es) S (fun xs S' => xs.length ≤ 2 ^ 24 ∧ Q (.list xs) S')) : WE g c (.List (e :: es) pos) S Q := wE_listF h
/-- one statement, then the others: what holds between -/
theorem wS_seq {st : Stmt} {rest : List Stmt} {Q : F → St → Prop} (J : St → Prop) (h : WX g c st S (fun f S' => f = .next ∧ J S')) (k : ∀ S', J S' → WS g c rest S' Q) : WS g c (st :: rest) S Q :=
  wS_cons (h.mono fun f S' hh => by
    obtain ⟨rfl, hj⟩ := hh
    exact k S' hj)
theorem andNext {Q : Prop} (h : Q) : F.next = .next ∧ Q := ⟨rfl, h⟩
end
theorem upTo_cons {a : Int} {k : Nat} {v : V} {vs : List V} (h : v :: vs = upTo a k) : ∃ q, k = q + 1 ∧ v = .int a ∧ vs = upTo (a + 1) q := by
  cases k with
  | zero => cases h
  | succ q => rw [upTo_succ] at h; exact ⟨q, rfl, (List.cons.inj h).1, (List.cons.inj h).2⟩
theorem upTo_nil {a : Int} {k : Nat} (h : [] = upTo a k) : k = 0 := by
  cases k with
  | zero => rfl
  | succ q => rw [upTo_succ] at h; cases h
theorem downFrom_cons {a : Int} {k : Nat} {v : V} {vs : List V} (h : v :: vs = downFrom a k) : ∃ q, k = q + 1 ∧ v = .int a ∧ vs = downFrom (a - 1) q := by
  cases k with
  | zero => cases h
  | succ q => rw [downFrom_succ] at h; exact ⟨q, rfl, (List.cons.inj h).1, (List.cons.inj h).2⟩
theorem downFrom_nil {a : Int} {k : Nat} (h : [] = downFrom a k) : k = 0 := by
  cases k with
  | zero => rfl
  | succ q => rw [downFrom_succ] at h; cases h
theorem carry_step {B c : Int} {i : Nat} {f : List Int} (hf : f.length = i) : val B (f ++ [c % B]) + B ^ (i + 1) * (c / B) = val B f + B ^ i * c := by
  rw [val_snoc, hf, Int.pow_succ, Int.mul_assoc, Int.add_assoc, ← Int.mul_add, Int.emod_add_mul_ediv]
noncomputable def isAssign : Stmt → Bool
  | .Assign .. => true
  | _ => false
/-- the row's program without the assignments at its top -/
noncomputable def PP : Program := { PySem.Challenge.pw_sj0082_01 with main := { PySem.Challenge.pw_sj0082_01.main with body := PySem.Challenge.pw_sj0082_01.main.body.filter fun st => !isAssign st } }
-- lists of a known length, one by one
section
variable {α β γ δ : Type} {P : α → β → γ → List δ → Prop}
theorem args1 (h : ∀ a b c x, P a b c [x]) : ∀ a b c vs, vs.length = 1 → P a b c vs
  | a, b, c, [x], _ => h a b c x
theorem args2 (h : ∀ a b c x y, P a b c [x, y]) : ∀ a b c vs, vs.length = 2 → P a b c vs
  | a, b, c, x :: r, e => args1 (P := fun a b c l => P a b c (x :: l)) (fun a b c y => h a b c x y) a b c r (Nat.succ.inj e)
theorem args3 (h : ∀ a b c x y z, P a b c [x, y, z]) : ∀ a b c vs, vs.length = 3 → P a b c vs
  | a, b, c, x :: r, e => args2 (P := fun a b c l => P a b c (x :: l)) (fun a b c y z => h a b c x y z) a b c r (Nat.succ.inj e)
theorem args4 (h : ∀ a b c x y z u, P a b c [x, y, z, u]) : ∀ a b c vs, vs.length = 4 → P a b c vs
  | a, b, c, x :: r, e => args3 (P := fun a b c l => P a b c (x :: l)) (fun a b c y z u => h a b c x y z u) a b c r (Nat.succ.inj e)
theorem args5 (h : ∀ a b c x y z u v, P a b c [x, y, z, u, v]) : ∀ a b c vs, vs.length = 5 → P a b c vs
  | a, b, c, x :: r, e => args4 (P := fun a b c l => P a b c (x :: l)) (fun a b c y z u v => h a b c x y z u v) a b c r (Nat.succ.inj e)
end
noncomputable def dNull : DefRec := ⟨Str.ofString "", ⟨[],[],none,[],[],none,[]⟩, [], ⟨.function, [], false, false, []⟩, ⟨0,0,0,0⟩⟩
noncomputable def dOf (i : Nat) : DefRec := ((recsOf PP)[i]?).getD dNull
theorem dOf_len : (recsOf PP).length = 37 := rfl
theorem dOf_mem (i : Nat) (h : i < 37) : dOf i ∈ recsOf PP := by
  have hl := dOf_len
  unfold dOf
  rw [List.getElem?_eq_getElem (by omega)]
  exact List.getElem_mem _
noncomputable def isDef (x : Str) : Bool := (recsOf PP).any fun d => d.name == x
section
variable {g : G PP} {c : Cx} {S : St}
theorem fa_def {x : Str} (h : isDef x = true) : g.mg x = some (.ref (g.fa x)) ∧ IsFn g (g.fa x) := by
  obtain ⟨d, hd, e⟩ := List.any_eq_true.mp h
  have := g.fa_of hd
  rw [beq_iff_eq.mp e] at this
  exact this
theorem wE_def {f : Str} {np pos : Pos} {args : List Expr} {Q : V → St → Prop} (h : WA g c pos args S (fun xs S₂ => OpN g c Rep (fun vs => call (.ref (g.fa f)) vs) xs S₂ Q))
    (hd : isDef f = true := by decide +kernel) (hl : c.scope.names.lookup f = some .globalImplicit := by rfl) (hdb : (f == ("__debug__" : Str)) = false := by decide +kernel)
    (hc : PlainCall (.Name f np) args pos := by intro _; rfl) (hs : SomeArgs args pos := by intro _; exact ⟨_, _, rfl, rfl⟩) : WE g c (.Call (.Name f np) args [] pos) S Q :=
  wE_callD (fa_def hd).2 (wE_global (fa_def hd).1 ⟨rfl, h⟩ hl hdb) hc hs
theorem wE_fn {f : Str} {pos : Pos} {Q : V → St → Prop} (h : Q (.lit (.ref (g.fa f))) S)
    (hd : isDef f = true := by decide +kernel) (hl : c.scope.names.lookup f = some .globalImplicit := by rfl) (hdb : (f == ("__debug__" : Str)) = false := by decide +kernel) : WE g c (.Name f pos) S Q :=
  wE_global (fa_def hd).1 h hl hdb
theorem wE_len {np pos : Pos} {e : Expr} {Q : V → St → Prop} (h : WE g c e S (fun x S₁ => OpN g c Rep (fun vs => call (.builtin "len") vs) [x] S₁ Q))
    (hl : c.scope.names.lookup ("len" : Str) = some .globalImplicit := by rfl) (hc : PlainCall (.Name "len" np) [e] pos := by intro _; rfl) (hs : SomeArgs [e] pos := by intro _; exact ⟨_, _, rfl, rfl⟩)
    (hs' : ∀ env, backTo pos (starEach (e :: []) env) = (false, eval e env) :: backTo pos (starEach [] env) := by intro _; rfl) : WE g c (.Call (.Name "len" np) [e] [] pos) S Q :=
  wE_callB (wE_builtin (g.bi _ (by decide +kernel)) boot_len ⟨rfl, wA_cons (h.mono fun x S₁ q => wA_nil q) hs'⟩ hl) hc hs
theorem wE_abs {np pos : Pos} {e : Expr} {Q : V → St → Prop} (h : WE g c e S (fun x S₁ => OpN g c Rep (fun vs => call (.builtin "abs") vs) [x] S₁ Q))
    (hl : c.scope.names.lookup ("abs" : Str) = some .globalImplicit := by rfl) (hc : PlainCall (.Name "abs" np) [e] pos := by intro _; rfl) (hs : SomeArgs [e] pos := by intro _; exact ⟨_, _, rfl, rfl⟩)
    (hs' : ∀ env, backTo pos (starEach (e :: []) env) = (false, eval e env) :: backTo pos (starEach [] env) := by intro _; rfl) : WE g c (.Call (.Name "abs" np) [e] [] pos) S Q :=
  wE_callB (wE_builtin (g.bi _ (by decide +kernel)) boot_abs ⟨rfl, wA_cons (h.mono fun x S₁ q => wA_nil q) hs'⟩ hl) hc hs
theorem wE_min {np pos : Pos} {es : List Expr} {Q : V → St → Prop} (h : WA g c pos es S (fun xs S₁ => OpN g c Rep (fun vs => call (.builtin "min") vs) xs S₁ Q))
    (hl : c.scope.names.lookup ("min" : Str) = some .globalImplicit := by rfl) (hc : PlainCall (.Name "min" np) es pos := by intro _; rfl) (hs : SomeArgs es pos := by intro _; exact ⟨_, _, rfl, rfl⟩) : WE g c (.Call (.Name "min" np) es [] pos) S Q :=
  wE_callB (wE_builtin (g.bi _ (by decide +kernel)) boot_min ⟨rfl, h⟩ hl) hc hs
theorem wI_rng {np pos : Pos} {args : List Expr} {Q : List V → St → Prop}
    (h : WA g c pos args S (fun xs S₁ => ∃ a b d, RArgs xs a b d ∧ Fit a ∧ Fit b ∧ (d = 1 → Q (upTo a (b - a).toNat) S₁) ∧ (d = -1 → Q (downFrom a (a - b).toNat) S₁)))
    (hl : c.scope.names.lookup ("range" : Str) = some .globalImplicit := by rfl)
    (hc : PlainCall (.Name "range" np) args pos := by intro _; rfl) (hs : SomeArgs args pos := by intro _; exact ⟨_, _, rfl, rfl⟩) : WI g c (.Call (.Name "range" np) args [] pos) S Q :=
  wI_range (g.bi _ (by decide +kernel)) h hl hc hs
theorem gcall {d : DefRec} (hd : d ∈ recsOf PP) {f : Str} {n : Nat} {xs : List V} {σ : Addr → Option (List V)} {P : V → (Addr → Option (List V)) → Prop} {body : List Stmt} {names : List Str} {scope : Scope} {params : Arguments}
    (hname : d.name = f) (hbody : d.body = body) (hscope : d.scope = scope) (hparams : d.params = params) (hk : scope.kind = .function)
    (hbind : ∀ pm code doc vs, vs.length = xs.length → bindArgs (docDef f params body scope pm code doc) ⟨vs, []⟩ = pure (names.zip vs))
    (hloc : ∀ x ∈ names, scope.names.lookup x = some .local)
    (h : WS g ⟨n, f, scope, hk, fun _ _ => True⟩ body ⟨fun y => (names.zip xs).reverse.lookup y, σ⟩ (fun fl S' => ∃ x, fl = .ret x ∧ P x S'.σ))
    (hco : scope.isCoroutine = false) (hgen : scope.isGenerator = false) (hcell : ∀ x ∈ scope.names, x.2 ≠ .cell) :
    GCall g (g.fa f) (n + 1) xs σ P := by
  subst hname hbody hscope hparams
  exact gcall_of hd (g.fa_of hd).1 names hbind hloc hk h hco hgen hcell
end
section
variable {p : Program} {g : G p} {c : Cx} {S : St}
theorem wE_sliceAll {x : Str} {px pp pos : Pos} {l : List Int} {Q : V → St → Prop} (hx : S.m x = some (.list (zints l))) (hsz : l.length ≤ 2 ^ 24) (h : Q (.list (zints l)) S)
    (hl : c.scope.names.lookup x = some .local := by rfl) (hd : (x == ("__debug__" : Str)) = false := by decide) :
    WE g c (.Subscript (.Name x px) (.Slice none none none pp) pos) S Q := wE_sliceZ hx hsz (wP_none (wP_none ⟨rfl, by rw [pick_all]; exact h⟩)) hl hd
theorem wE_sliceTo {x : Str} {px pp pos : Pos} {e : Expr} {l : List Int} {Q : V → St → Prop} (hx : S.m x = some (.list (zints l))) (hsz : l.length ≤ 2 ^ 24)
    (h : WE g c e S (fun v S' => ∃ k : Nat, v = .int k ∧ S' = S ∧ Q (.list (zints (l.take k))) S))
    (hl : c.scope.names.lookup x = some .local := by rfl) (hd : (x == ("__debug__" : Str)) = false := by decide) :
    WE g c (.Subscript (.Name x px) (.Slice none (some e) none pp) pos) S Q :=
  wE_sliceZ hx hsz (wP_none (wP_some (h.mono fun v S' hh => by
    obtain ⟨k, rfl, rfl, hq⟩ := hh
    exact ⟨k, rfl, rfl, by rw [pick_to _ _ (by omega), zints_take]; simpa using hq⟩))) hl hd
theorem exNat {k : Nat} {Q : Nat → Prop} (h : Q k) : ∃ j : Nat, V.int (k : Int) = .int j ∧ Q j := ⟨k, rfl, h⟩
theorem o_addN {a b : Nat} {Q : V → St → Prop} (h : Q (.int ((a + b : Nat) : Int)) S) : Op2 g c Rep (binaryOp .Add) (.int (a : Int)) (.int (b : Int)) S Q :=
  o_add (by rw [← Int.natCast_add]; exact h)
theorem o_addN1 {a : Nat} {Q : V → St → Prop} (h : Q (.int ((a + 1 : Nat) : Int)) S) : Op2 g c Rep (binaryOp .Add) (.int (a : Int)) (.int 1) S Q :=
  o_add (by rw [Int.natCast_add] at h; exact h)
theorem wE_sliceR {x : Str} {px pp pos : Pos} {lo hi : Option Expr} {a : Addr} {l : List Int} {Q : V → St → Prop} (hx : S.m x = some (.ref a)) (ha : S.σ a = some (zints l)) (hsz : l.length ≤ 2 ^ 24)
    (h : WP g c lo S (fun vl S₂ => WP g c hi S₂ (fun vh S₃ => S₃ = S ∧ Q (.list (pick (zints l) vl vh)) S)))
    (hl : c.scope.names.lookup x = some .local := by rfl) (hd : (x == ("__debug__" : Str)) = false := by decide) :
    WE g c (.Subscript (.Name x px) (.Slice lo hi none pp) pos) S Q := wE_slice (.inr ⟨a, hx, ha⟩) (by rw [zints_length]; exact hsz) h hl hd
theorem c_neb {x y : Bool} {Q : V → St → Prop} (h : Q (.bool (x != y)) S) : Op2 g c Rep (compareOp .NotEq) (.bool x) (.bool y) S Q :=
  c_ned (dx := .bool x) (dy := .bool y) rfl rfl rfl rfl (by cases x <;> cases y <;> exact h)
theorem o_notB {x : Bool} {Q : V → St → Prop} (h : Q (.bool (!x)) S) : Op1 g c Rep (unaryOp .Not) (.bool x) S Q := o_not rfl h
theorem iteYes {P : Prop} [Decidable P] {A B : Prop} (h : P) (h1 : A) : if decide P = true then A else B := by rw [if_pos (decide_eq_true h)]; exact h1
theorem iteNo {P : Prop} [Decidable P] {A B : Prop} (h : ¬ P) (h1 : B) : if decide P = true then A else B := by rw [if_neg (by simpa using h)]; exact h1
theorem iteEqY {x y : Int} {A B : Prop} (h : x = y) (h1 : A) : if (x == y) = true then A else B := by rw [if_pos (by simpa using h)]; exact h1
theorem iteEqN {x y : Int} {A B : Prop} (h : x ≠ y) (h1 : B) : if (x == y) = true then A else B := by rw [if_neg (by simpa using h)]; exact h1
end
set_option compiler.extract_closed false
local macro_rules | `(tactic| none_booked) => `(tactic| first
  | with_reducible exact look_same
  | with_reducible exact look_froze
  | ((with_reducible refine' look_i ?nn); (case nn => omega))
  | ((with_reducible refine' look_ne ?nn ?tt); (case nn => decide +kernel); (case tt => none_booked))
  | ((with_reducible refine' look_froze_ne ?nn ?tt); (case nn => decide +kernel); (case tt => none_booked))
  | ((with_reducible refine' sig_set ?tt); (case tt => none_booked))
  | ((with_reducible refine' sig_freeze ?nn ?tt); (case nn => assumption); (case tt => none_booked))
  | ((with_reducible refine' upd_app ?nn); (case nn => first | rfl | omega))
  | ((with_reducible refine' upd_set ?n1 ?n2); (case n1 => first | rfl | omega); (case n2 => first | rfl | omega))
  | with_reducible exact upd_nil
  | with_reducible exact upd_same
  | ((with_reducible refine' upd_ne ?nn ?tt); (case nn => assumption); (case tt => none_booked))
  | assumption
  | exact rfl
  | fail "no look")
set_option compiler.extract_closed true
section
variable {g : G PP}
theorem t_normal (l : List Int) (hl : l.length ≤ 2 ^ 20) : GCall g (g.fa "normal") 1 [.list (zints l)] (fun _ => none) (fun x _ => x = .list (zints (normL l))) := by
  refine' gcall (d := dOf 0) (dOf_mem 0 (by decide)) (hbody := ?enB) (hscope := ?enS) (hparams := ?enP) (hname := rfl) (names := ["a"]) (hk := ?enK) (hbind := ?enI) (hloc := ?enL) (h := ?enH) (hco := ?enC) (hgen := ?enG) (hcell := ?enE)
  case enB => (conv => lhs; whnf)
  case enS => (conv => lhs; whnf)
  case enP => (conv => lhs; whnf)
  case enK => rfl
  case enI => exact args1 fun _ _ _ _ => rfl
  case enL => decide +kernel
  case enC => rfl
  case enG => rfl
  case enE => decide +kernel
  with_reducible refine' wS_cons ?_
  (with_reducible refine' wX_assign ?h_2 ?hl_2 ?hs_2); (case hl_2 => exact rfl); (case hs_2 => (intros; exact rfl))
  (with_reducible refine' wE_len ?h_3 ?h1_3 ?h2_3 ?h3_3 ?h4_3); (case h1_3 => exact rfl); (case h2_3 => (intro _; exact rfl)); (case h3_3 => (intro _; exact ⟨_, _, rfl, rfl⟩)); (case h4_3 => (intro _; exact rfl))
  (with_reducible refine' wE_local ?hv_4 ?h_4 ?hl_4 ?hd_4); (case hl_4 => exact rfl); (case hd_4 => decide +kernel); (case hv_4 => none_booked)
  (with_reducible refine' b_len_z ?h1_5 ?h_5); (case h1_5 => (first | lia | omega))
  with_reducible refine' wS_cons ?_
  obtain ⟨I, hI⟩ : ∃ I : Nat → St → Prop, ∀ n S, I n S ↔ ∃ k : Nat, n = k ∧ k ≤ l.length ∧ S.m "a" = some (.list (zints l)) ∧ S.m "end" = some (.int k) ∧ normL (l.take k) = normL l := ⟨_, fun _ _ => Iff.rfl⟩
  refine wX_while_inv I l.length ((hI _ _).mpr ⟨l.length, rfl, Nat.le_refl _, by none_booked, by none_booked, by rw [List.take_length]⟩) ?_
  intro n S hh
  obtain ⟨k, rfl, hk, ha, he, hn⟩ := (hI _ _).mp hh
  clear hh
  with_reducible refine' wT_and ?_
  (with_reducible refine' wT_cmp ?h_8 ?hm_8); (case hm_8 => with_unfolding_all exact rfl)
  (with_reducible refine' wE_local ?hv_9 ?h_9 ?hl_9 ?hd_9); (case hl_9 => exact rfl); (case hd_9 => decide +kernel); (case hv_9 => none_booked)
  with_reducible refine' wE_int ?_
  with_reducible refine' c_gt ?_
  with_reducible refine' exTB ?_
  refine iteD (fun h => ?_) (fun h => ?_)
  · with_reducible refine' wT_and ?_
    (with_reducible refine' wT_cmp ?h_14 ?hm_14); (case hm_14 => with_unfolding_all exact rfl)
    with_reducible refine' wE_sub ?_
    (with_reducible refine' wE_local ?hv_16 ?h_16 ?hl_16 ?hd_16); (case hl_16 => exact rfl); (case hd_16 => decide +kernel); (case hv_16 => none_booked)
    with_reducible refine' wE_binop ?_
    (with_reducible refine' wE_local ?hv_18 ?h_18 ?hl_18 ?hd_18); (case hl_18 => exact rfl); (case hd_18 => decide +kernel); (case hv_18 => none_booked)
    with_reducible refine' wE_int ?_
    with_reducible refine' o_sub ?_
    (with_reducible refine' s_z ?h0_21 ?h1_21 ?h2_21 ?h_21 ?hs_21); (case hs_21 => (intro _ _; exact rfl)); (case h0_21 => (first | lia | omega)); (case h1_21 => (first | lia | omega)); (case h2_21 => (first | lia | omega))
    with_reducible refine' wE_int ?_
    with_reducible refine' c_eq ?_
    with_reducible refine' exTB ?_
    have h1 : (n : Int).toNat - 1 < l.length := by (first | lia | omega)
    have e : l.take n = l.take (n - 1) ++ [l.getD ((n : Int) - 1).toNat 0] := by
      have : (((n : Int) - 1).toNat) = n - 1 := by (first | lia | omega)
      rw [this]
      have hg := getD_get (l := l) (k := n - 1) (by (first | lia | omega))
      conv => lhs; rw [show n = (n - 1) + 1 by (first | lia | omega), List.take_add_one, hg]
      rfl
    refine iteEq (fun h2 => ?_) (fun h2 => ?_)
    · with_reducible refine' wT_and_nil ?_
      with_reducible refine' iteT ?_
      with_reducible refine' wS_cons ?_
      (with_reducible refine' wX_aug ?hv_28 ?h_28 ?hl_28); (case hl_28 => exact rfl); (case hv_28 => none_booked)
      with_reducible refine' wE_int ?_
      with_reducible refine' i_sub ?_
      with_reducible refine' wS_nil ?_
      refine ⟨n - 1, by (first | lia | omega), (hI _ _).mpr ⟨n - 1, rfl, by (first | lia | omega), by none_booked, by none_booked, ?_⟩⟩
      rw [e, h2, normL_snoc_zero] at hn
      exact hn
    · with_reducible refine' iteF ?_
      with_reducible refine' wS_cons ?_
      with_reducible refine' wX_return ?_
      (with_reducible refine' wE_sliceTo ?hx_35 ?hsz_35 ?h_35 ?hl_35 ?hd_35); (case hl_35 => exact rfl); (case hd_35 => decide +kernel); (case hx_35 => none_booked); (case hsz_35 => (first | lia | omega))
      (with_reducible refine' wE_local ?hv_36 ?h_36 ?hl_36 ?hd_36); (case hl_36 => exact rfl); (case hd_36 => decide +kernel); (case hv_36 => none_booked)
      with_reducible refine' exNat ?_
      with_reducible refine' andSt ?_
      with_reducible refine' exR ?_
      rw [← hn, e, normL_snoc h2]
  · with_reducible refine' iteF ?_
    with_reducible refine' wS_cons ?_
    with_reducible refine' wX_return ?_
    (with_reducible refine' wE_sliceTo ?hx_43 ?hsz_43 ?h_43 ?hl_43 ?hd_43); (case hl_43 => exact rfl); (case hd_43 => decide +kernel); (case hx_43 => none_booked); (case hsz_43 => (first | lia | omega))
    (with_reducible refine' wE_local ?hv_44 ?h_44 ?hl_44 ?hd_44); (case hl_44 => exact rfl); (case hd_44 => decide +kernel); (case hv_44 => none_booked)
    with_reducible refine' exNat ?_
    with_reducible refine' andSt ?_
    with_reducible refine' exR ?_
    have : n = 0 := by (first | lia | omega)
    subst this
    rw [← hn]
    rfl
end
section
variable {g : G PP}
theorem one_lt_pow {w : Nat} (hw : 1 ≤ w) : (1 : Int) < 2 ^ w := by
  have := pow_mono' (B := 2) (by decide) hw
  rw [show (2:Int)^1 = 2 by decide] at this; (first | lia | omega)
theorem val_split (B : Int) {l : List Int} {k : Nat} (hk : k < l.length) : val B l = val B (l.take k) + B ^ k * (l.getD k 0 + B * val B (l.drop (k + 1))) := by
  have h := val_take_drop B l k (by (first | lia | omega))
  rw [List.drop_eq_getElem_cons hk] at h
  simp only [val] at h
  rw [h, List.getD_eq_getElem?_getD, List.getElem?_eq_getElem hk]
  rfl
theorem cmp_lt {B : Int} (hB : 1 < B) {l k : List Int} (h1 : Limbs B l) (h2 : Limbs B k) (hlen : l.length = k.length) {i : Nat} (hi : i < l.length) (hd : l.drop (i + 1) = k.drop (i + 1)) (hlt : l.getD i 0 < k.getD i 0) : val B l < val B k := by
  rw [val_split B hi, val_split B (show i < k.length by (first | lia | omega)), hd]
  have a := val_lt (by (first | lia | omega)) (h1.take i)
  have b := val_nonneg (by (first | lia | omega)) (h2.take i)
  rw [List.length_take, Nat.min_eq_left (by (first | lia | omega))] at a
  generalize val B (List.drop (i + 1) k) = z
  have c : B ^ i * (l.getD i 0 + B * z + 1) ≤ B ^ i * (k.getD i 0 + B * z) := Int.mul_le_mul_of_nonneg_left (by (first | lia | omega)) (Int.le_of_lt (pow_pos' (by (first | lia | omega)) i))
  rw [Int.mul_add _ _ 1, Int.mul_one] at c
  (first | lia | omega)
theorem t_is_even (B : Int) (hB : ∃ k : Nat, B = 2 * k) (l : List Int) (n : Int) (hl : l.length ≤ 2 ^ 20) (hc : Can B l n) : GCall g (g.fa "is_even") 1 [.list (zints l)] (fun _ => none) (fun x _ => x = .bool (n % 2 == 0)) := by
  refine' gcall (d := dOf 1) (dOf_mem 1 (by decide)) (hbody := ?enB) (hscope := ?enS) (hparams := ?enP) (hname := rfl) (names := ["a"]) (hk := ?enK) (hbind := ?enI) (hloc := ?enL) (h := ?enH) (hco := ?enC) (hgen := ?enG) (hcell := ?enE)
  case enB => (conv => lhs; whnf)
  case enS => (conv => lhs; whnf)
  case enP => (conv => lhs; whnf)
  case enK => rfl
  case enI => exact args1 fun _ _ _ _ => rfl
  case enL => decide +kernel
  case enC => rfl
  case enG => rfl
  case enE => decide +kernel
  with_reducible refine' wS_cons ?_
  with_reducible refine' wX_return ?_
  with_reducible refine' wE_boolop_or ?_
  (with_reducible refine' wE_cmp ?h_4 ?hm_4); (case hm_4 => with_unfolding_all exact rfl)
  (with_reducible refine' wE_len ?h_5 ?h1_5 ?h2_5 ?h3_5 ?h4_5); (case h1_5 => exact rfl); (case h2_5 => (intro _; exact rfl)); (case h3_5 => (intro _; exact ⟨_, _, rfl, rfl⟩)); (case h4_5 => (intro _; exact rfl))
  (with_reducible refine' wE_local ?hv_6 ?h_6 ?hl_6 ?hd_6); (case hl_6 => exact rfl); (case hd_6 => decide +kernel); (case hv_6 => none_booked)
  (with_reducible refine' b_len_z ?h1_7 ?h_7); (case h1_7 => (first | lia | omega))
  with_reducible refine' wE_int ?_
  with_reducible refine' c_eq ?_
  with_reducible refine' exTB ?_
  have hev : l ≠ [] → n % 2 = l.getD 0 0 % 2 := by
    intro hne
    cases l with
    | nil => exact absurd rfl hne
    | cons x r =>
      obtain ⟨k, rfl⟩ := hB
      have := hc.val
      simp only [val] at this
      rw [← this, Int.mul_assoc]
      simp only [List.getD_cons_zero]
      (first | lia | omega)
  refine iteEq (fun h => ?_) (fun h => ?_)
  · with_reducible refine' exR ?_
    have : l = [] := List.length_eq_zero_iff.mp (by (first | lia | omega))
    subst this
    have : n = 0 := hc.val.symm
    subst this
    rfl
  · with_reducible refine' wE_boolop_one ?_
    (with_reducible refine' wE_cmp ?h_13 ?hm_13); (case hm_13 => with_unfolding_all exact rfl)
    with_reducible refine' wE_binop ?_
    with_reducible refine' wE_sub ?_
    (with_reducible refine' wE_local ?hv_16 ?h_16 ?hl_16 ?hd_16); (case hl_16 => exact rfl); (case hd_16 => decide +kernel); (case hv_16 => none_booked)
    with_reducible refine' wE_int ?_
    (with_reducible refine' s_z ?h0_18 ?h1_18 ?h2_18 ?h_18 ?hs_18); (case hs_18 => (intro _ _; exact rfl)); (case h0_18 => (first | lia | omega)); (case h1_18 => (first | lia | omega)); (case h2_18 => (first | lia | omega))
    with_reducible refine' wE_int ?_
    refine o_and ?_
    with_reducible refine' wE_int ?_
    with_reducible refine' c_eq ?_
    with_reducible refine' exR ?_
    rw [bitAnd_m1, hev (fun e => h (by rw [e]; rfl))]
    rfl
theorem t_compare (w : Nat) (hw : 1 ≤ w) (l k : List Int) (n m : Int) (hl : l.length ≤ 2 ^ 20) (hk : k.length ≤ 2 ^ 20) (h1 : Can (2 ^ w) l n) (h2 : Can (2 ^ w) k m) :
    GCall g (g.fa "compare") 1 [.list (zints l), .list (zints k)] (fun _ => none) (fun x _ => ∃ c, x = .int c ∧ (c < 0 ↔ n < m)) := by
  have hB := one_lt_pow hw
  refine' gcall (d := dOf 2) (dOf_mem 2 (by decide)) (hbody := ?enB) (hscope := ?enS) (hparams := ?enP) (hname := rfl) (names := ["a", "b"]) (hk := ?enK) (hbind := ?enI) (hloc := ?enL) (h := ?enH) (hco := ?enC) (hgen := ?enG) (hcell := ?enE)
  case enB => (conv => lhs; whnf)
  case enS => (conv => lhs; whnf)
  case enP => (conv => lhs; whnf)
  case enK => rfl
  case enI => exact args2 fun _ _ _ _ _ => rfl
  case enL => decide +kernel
  case enC => rfl
  case enG => rfl
  case enE => decide +kernel
  with_reducible refine' wS_cons ?_
  with_reducible refine' wX_if ?_
  (with_reducible refine' wT_cmp ?h_3 ?hm_3); (case hm_3 => with_unfolding_all exact rfl)
  (with_reducible refine' wE_len ?h_4 ?h1_4 ?h2_4 ?h3_4 ?h4_4); (case h1_4 => exact rfl); (case h2_4 => (intro _; exact rfl)); (case h3_4 => (intro _; exact ⟨_, _, rfl, rfl⟩)); (case h4_4 => (intro _; exact rfl))
  (with_reducible refine' wE_local ?hv_5 ?h_5 ?hl_5 ?hd_5); (case hl_5 => exact rfl); (case hd_5 => decide +kernel); (case hv_5 => none_booked)
  (with_reducible refine' b_len_z ?h1_6 ?h_6); (case h1_6 => (first | lia | omega))
  (with_reducible refine' wE_len ?h_7 ?h1_7 ?h2_7 ?h3_7 ?h4_7); (case h1_7 => exact rfl); (case h2_7 => (intro _; exact rfl)); (case h3_7 => (intro _; exact ⟨_, _, rfl, rfl⟩)); (case h4_7 => (intro _; exact rfl))
  (with_reducible refine' wE_local ?hv_8 ?h_8 ?hl_8 ?hd_8); (case hl_8 => exact rfl); (case hd_8 => decide +kernel); (case hv_8 => none_booked)
  (with_reducible refine' b_len_z ?h1_9 ?h_9); (case h1_9 => (first | lia | omega))
  with_reducible refine' c_ne ?_
  with_reducible refine' exTB ?_
  refine iteNe (fun h => ?_) (fun h => ?_)
  · with_reducible refine' wS_cons ?_
    with_reducible refine' wX_return ?_
    with_reducible refine' wE_ifexp ?_
    (with_reducible refine' wT_cmp ?h_15 ?hm_15); (case hm_15 => with_unfolding_all exact rfl)
    (with_reducible refine' wE_len ?h_16 ?h1_16 ?h2_16 ?h3_16 ?h4_16); (case h1_16 => exact rfl); (case h2_16 => (intro _; exact rfl)); (case h3_16 => (intro _; exact ⟨_, _, rfl, rfl⟩)); (case h4_16 => (intro _; exact rfl))
    (with_reducible refine' wE_local ?hv_17 ?h_17 ?hl_17 ?hd_17); (case hl_17 => exact rfl); (case hd_17 => decide +kernel); (case hv_17 => none_booked)
    (with_reducible refine' b_len_z ?h1_18 ?h_18); (case h1_18 => (first | lia | omega))
    (with_reducible refine' wE_len ?h_19 ?h1_19 ?h2_19 ?h3_19 ?h4_19); (case h1_19 => exact rfl); (case h2_19 => (intro _; exact rfl)); (case h3_19 => (intro _; exact ⟨_, _, rfl, rfl⟩)); (case h4_19 => (intro _; exact rfl))
    (with_reducible refine' wE_local ?hv_20 ?h_20 ?hl_20 ?hd_20); (case hl_20 => exact rfl); (case hd_20 => decide +kernel); (case hv_20 => none_booked)
    (with_reducible refine' b_len_z ?h1_21 ?h_21); (case h1_21 => (first | lia | omega))
    with_reducible refine' c_lt ?_
    with_reducible refine' exTB ?_
    refine iteD (fun h3 => ?_) (fun h3 => ?_)
    · with_reducible refine' wE_unop ?_
      with_reducible refine' wE_int ?_
      with_reducible refine' o_neg ?_
      with_reducible refine' exR ?_
      with_reducible refine' exI ?_
      have := h1.len_lt hB h2 (by (first | lia | omega))
      (first | lia | omega)
    · with_reducible refine' wE_int ?_
      with_reducible refine' exR ?_
      with_reducible refine' exI ?_
      have := h2.len_lt hB h1 (by (first | lia | omega))
      (first | lia | omega)
  · with_reducible refine' wS_nil ?_
    with_reducible refine' wS_cons ?_
    (with_reducible refine' wX_for ?h_34 ?h1_34 ?h2_34); (case h1_34 => exact rfl); (case h2_34 => (intros; exact rfl))
    (with_reducible refine' wI_rng ?h_35 ?h1_35 ?h2_35 ?h3_35); (case h1_35 => exact rfl); (case h2_35 => (intro _; exact rfl)); (case h3_35 => (intro _; exact ⟨_, _, rfl, rfl⟩))
    (with_reducible refine' wA_cons ?h_36 ?hs_36); (case hs_36 => (intro _; exact rfl))
    with_reducible refine' wE_binop ?_
    (with_reducible refine' wE_len ?h_38 ?h1_38 ?h2_38 ?h3_38 ?h4_38); (case h1_38 => exact rfl); (case h2_38 => (intro _; exact rfl)); (case h3_38 => (intro _; exact ⟨_, _, rfl, rfl⟩)); (case h4_38 => (intro _; exact rfl))
    (with_reducible refine' wE_local ?hv_39 ?h_39 ?hl_39 ?hd_39); (case hl_39 => exact rfl); (case hd_39 => decide +kernel); (case hv_39 => none_booked)
    (with_reducible refine' b_len_z ?h1_40 ?h_40); (case h1_40 => (first | lia | omega))
    with_reducible refine' wE_int ?_
    with_reducible refine' o_sub ?_
    (with_reducible refine' wA_cons ?h_43 ?hs_43); (case hs_43 => (intro _; exact rfl))
    with_reducible refine' wE_unop ?_
    with_reducible refine' wE_int ?_
    with_reducible refine' o_neg ?_
    (with_reducible refine' wA_cons ?h_47 ?hs_47); (case hs_47 => (intro _; exact rfl))
    with_reducible refine' wE_unop ?_
    with_reducible refine' wE_int ?_
    with_reducible refine' o_neg ?_
    with_reducible refine' wA_nil ?_
    (with_reducible refine' exRngD ?he_52 ?h1_52 ?h2_52 ?h_52); (case he_52 => (first | lia | omega)); (case h1_52 => (unfold Fit; (first | lia | omega))); (case h2_52 => (unfold Fit; (first | lia | omega)))
    obtain ⟨I, hI⟩ : ∃ I : List V → St → Prop, ∀ vs S, I vs S ↔ ∃ i : Nat, i ≤ l.length ∧ vs = downFrom ((i : Int) - 1) i ∧ S.m "a" = some (.list (zints l)) ∧ S.m "b" = some (.list (zints k)) ∧ l.drop i = k.drop i := ⟨_, fun _ _ => Iff.rfl⟩
    refine loop_inv I ?_ ?_ ?_
    · intro v vs S hh
      obtain ⟨i, hi, hvs, ha, hb, hd⟩ := (hI _ _).mp hh
      clear hh
      cases i with
      | zero => simp [downFrom] at hvs
      | succ i =>
        rw [downFrom_succ] at hvs
        obtain ⟨rfl, rfl⟩ := List.cons.inj hvs
        with_reducible refine' wS_cons ?_
        with_reducible refine' wX_if ?_
        (with_reducible refine' wT_cmp ?h_55 ?hm_55); (case hm_55 => with_unfolding_all exact rfl)
        with_reducible refine' wE_sub ?_
        (with_reducible refine' wE_local ?hv_57 ?h_57 ?hl_57 ?hd_57); (case hl_57 => exact rfl); (case hd_57 => decide +kernel); (case hv_57 => none_booked)
        (with_reducible refine' wE_local ?hv_58 ?h_58 ?hl_58 ?hd_58); (case hl_58 => exact rfl); (case hd_58 => decide +kernel); (case hv_58 => none_booked)
        (with_reducible refine' s_z ?h0_59 ?h1_59 ?h2_59 ?h_59 ?hs_59); (case hs_59 => (intro _ _; exact rfl)); (case h0_59 => (first | lia | omega)); (case h1_59 => (first | lia | omega)); (case h2_59 => (first | lia | omega))
        with_reducible refine' wE_sub ?_
        (with_reducible refine' wE_local ?hv_61 ?h_61 ?hl_61 ?hd_61); (case hl_61 => exact rfl); (case hd_61 => decide +kernel); (case hv_61 => none_booked)
        (with_reducible refine' wE_local ?hv_62 ?h_62 ?hl_62 ?hd_62); (case hl_62 => exact rfl); (case hd_62 => decide +kernel); (case hv_62 => none_booked)
        (with_reducible refine' s_z ?h0_63 ?h1_63 ?h2_63 ?h_63 ?hs_63); (case hs_63 => (intro _ _; exact rfl)); (case h0_63 => (first | lia | omega)); (case h1_63 => (first | lia | omega)); (case h2_63 => (first | lia | omega))
        with_reducible refine' c_ne ?_
        with_reducible refine' exTB ?_
        have e : (((i + 1 : Nat) : Int) - 1).toNat = i := by (first | lia | omega)
        refine iteNe (fun h => ?_) (fun h => ?_)
        · rw [e] at h
          with_reducible refine' wS_cons ?_
          with_reducible refine' wX_return ?_
          with_reducible refine' wE_ifexp ?_
          (with_reducible refine' wT_cmp ?h_69 ?hm_69); (case hm_69 => with_unfolding_all exact rfl)
          with_reducible refine' wE_sub ?_
          (with_reducible refine' wE_local ?hv_71 ?h_71 ?hl_71 ?hd_71); (case hl_71 => exact rfl); (case hd_71 => decide +kernel); (case hv_71 => none_booked)
          (with_reducible refine' wE_local ?hv_72 ?h_72 ?hl_72 ?hd_72); (case hl_72 => exact rfl); (case hd_72 => decide +kernel); (case hv_72 => none_booked)
          (with_reducible refine' s_z ?h0_73 ?h1_73 ?h2_73 ?h_73 ?hs_73); (case hs_73 => (intro _ _; exact rfl)); (case h0_73 => (first | lia | omega)); (case h1_73 => (first | lia | omega)); (case h2_73 => (first | lia | omega))
          with_reducible refine' wE_sub ?_
          (with_reducible refine' wE_local ?hv_75 ?h_75 ?hl_75 ?hd_75); (case hl_75 => exact rfl); (case hd_75 => decide +kernel); (case hv_75 => none_booked)
          (with_reducible refine' wE_local ?hv_76 ?h_76 ?hl_76 ?hd_76); (case hl_76 => exact rfl); (case hd_76 => decide +kernel); (case hv_76 => none_booked)
          (with_reducible refine' s_z ?h0_77 ?h1_77 ?h2_77 ?h_77 ?hs_77); (case hs_77 => (intro _ _; exact rfl)); (case h0_77 => (first | lia | omega)); (case h1_77 => (first | lia | omega)); (case h2_77 => (first | lia | omega))
          with_reducible refine' c_lt ?_
          with_reducible refine' exTB ?_
          rw [e]
          refine iteD (fun h3 => ?_) (fun h3 => ?_)
          · with_reducible refine' wE_unop ?_
            with_reducible refine' wE_int ?_
            with_reducible refine' o_neg ?_
            with_reducible refine' exR ?_
            with_reducible refine' exI ?_
            have := cmp_lt hB h1.limbs h2.limbs (by (first | lia | omega)) (show i < l.length by (first | lia | omega)) hd h3
            rw [h1.val, h2.val] at this
            (first | lia | omega)
          · with_reducible refine' wE_int ?_
            with_reducible refine' exR ?_
            with_reducible refine' exI ?_
            have := cmp_lt hB h2.limbs h1.limbs (by (first | lia | omega)) (show i < k.length by (first | lia | omega)) hd.symm (by (first | lia | omega))
            rw [h1.val, h2.val] at this
            (first | lia | omega)
        · rw [e] at h
          with_reducible refine' wS_nil ?_
          with_reducible refine' wS_nil ?_
          refine (hI _ _).mpr ⟨i, by (first | lia | omega), by congr 1; (first | lia | omega), by none_booked, by none_booked, ?_⟩
          have q1 : i < l.length := by (first | lia | omega)
          have q2 : i < k.length := by (first | lia | omega)
          rw [List.drop_eq_getElem_cons q1, List.drop_eq_getElem_cons q2, hd]
          rw [List.getD_eq_getElem?_getD, List.getElem?_eq_getElem q1, List.getD_eq_getElem?_getD, List.getElem?_eq_getElem q2] at h
          simp only [Option.getD_some] at h
          rw [h]
    · intro S hh
      obtain ⟨i, hi, hvs, ha, hb, hd⟩ := (hI _ _).mp hh
      clear hh
      have : i = 0 := by
        cases i with
        | zero => rfl
        | succ i => rw [downFrom_succ] at hvs; cases hvs
      subst this
      with_reducible refine' wS_cons ?_
      with_reducible refine' wX_return ?_
      with_reducible refine' wE_int ?_
      with_reducible refine' exR ?_
      with_reducible refine' exI ?_
      have : l = k := by simpa using hd
      have e : n = m := by rw [← h1.val, ← h2.val, this]
      (first | lia | omega)
    · refine (hI _ _).mpr ⟨l.length, Nat.le_refl _, by congr 1; (first | lia | omega), by none_booked, by none_booked, ?_⟩
      rw [List.drop_length, List.drop_eq_nil_of_le (by (first | lia | omega))]
end
section
variable {g : G PP}
/-- what is said of a list of limbs -/
noncomputable def IsNat (w : Nat) (x : V) (n : Int) : Prop := ∃ l, x = .list (zints l) ∧ Can (2 ^ w) l n
theorem div_small {B c : Int} (h1 : c < 2 * B) (hB : 0 < B) (h0 : 0 ≤ c) : 0 ≤ c / B ∧ c / B ≤ 1 := by
  refine ⟨Int.ediv_nonneg h0 (by (first | lia | omega)), ?_⟩
  have : c / B < 2 := Int.ediv_lt_of_lt_mul hB h1
  (first | lia | omega)
theorem mod_limb {B c : Int} (hB : 0 < B) : 0 ≤ c % B ∧ c % B < B := ⟨Int.emod_nonneg _ (by (first | lia | omega)), Int.emod_lt_of_pos _ hB⟩
theorem t_add (w : Nat) (hw : 1 ≤ w ∧ w ≤ 30) (l k : List Int) (n m : Int) (hl : l.length ≤ 2 ^ 20) (hk : k.length ≤ 2 ^ 20) (h1 : Can (2 ^ w) l n) (h2 : Can (2 ^ w) k m) :
    GCall g (g.fa "add") 1 [.list (zints l), .list (zints k), .int w] (fun _ => none) (fun x _ => IsNat w x (n + m)) := by
  have hB := one_lt_pow hw.1
  refine' gcall (d := dOf 3) (dOf_mem 3 (by decide)) (hbody := ?enB) (hscope := ?enS) (hparams := ?enP) (hname := rfl) (names := ["a", "b", "w"]) (hk := ?enK) (hbind := ?enI) (hloc := ?enL) (h := ?enH) (hco := ?enC) (hgen := ?enG) (hcell := ?enE)
  case enB => (conv => lhs; whnf)
  case enS => (conv => lhs; whnf)
  case enP => (conv => lhs; whnf)
  case enK => rfl
  case enI => exact args3 fun _ _ _ _ _ _ => rfl
  case enL => decide +kernel
  case enC => rfl
  case enG => rfl
  case enE => decide +kernel
  refine wS_seq (fun S => S.σ = (fun _ => none) ∧ S.m "w" = some (.int w) ∧ ∃ (l' k' : List Int) (n' m' : Int), S.m "a" = some (.list (zints l')) ∧ S.m "b" = some (.list (zints k')) ∧ l'.length ≤ 2 ^ 20 ∧ k'.length ≤ l'.length ∧ Can (2 ^ w) l' n' ∧ Can (2 ^ w) k' m' ∧ n' + m' = n + m) ?_ ?_
  · with_reducible refine' wX_if ?_
    (with_reducible refine' wT_cmp ?h_2 ?hm_2); (case hm_2 => with_unfolding_all exact rfl)
    (with_reducible refine' wE_len ?h_3 ?h1_3 ?h2_3 ?h3_3 ?h4_3); (case h1_3 => exact rfl); (case h2_3 => (intro _; exact rfl)); (case h3_3 => (intro _; exact ⟨_, _, rfl, rfl⟩)); (case h4_3 => (intro _; exact rfl))
    (with_reducible refine' wE_local ?hv_4 ?h_4 ?hl_4 ?hd_4); (case hl_4 => exact rfl); (case hd_4 => decide +kernel); (case hv_4 => none_booked)
    (with_reducible refine' b_len_z ?h1_5 ?h_5); (case h1_5 => (first | lia | omega))
    (with_reducible refine' wE_len ?h_6 ?h1_6 ?h2_6 ?h3_6 ?h4_6); (case h1_6 => exact rfl); (case h2_6 => (intro _; exact rfl)); (case h3_6 => (intro _; exact ⟨_, _, rfl, rfl⟩)); (case h4_6 => (intro _; exact rfl))
    (with_reducible refine' wE_local ?hv_7 ?h_7 ?hl_7 ?hd_7); (case hl_7 => exact rfl); (case hd_7 => decide +kernel); (case hv_7 => none_booked)
    (with_reducible refine' b_len_z ?h1_8 ?h_8); (case h1_8 => (first | lia | omega))
    with_reducible refine' c_lt ?_
    with_reducible refine' exTB ?_
    refine iteD (fun h => ?_) (fun h => ?_)
    · with_reducible refine' wS_cons ?_
      (with_reducible refine' wX_swap2 ?h_12 ?h1_12 ?h2_12 ?h3_12 ?h4_12); (case h4_12 => (intros; exact rfl)); (case h1_12 => exact rfl); (case h2_12 => exact rfl); (case h3_12 => (intros; exact rfl))
      with_reducible refine' wE_tuple ?_
      (with_reducible refine' wA_cons ?h_14 ?hs_14); (case hs_14 => (intro _; exact rfl))
      (with_reducible refine' wE_local ?hv_15 ?h_15 ?hl_15 ?hd_15); (case hl_15 => exact rfl); (case hd_15 => decide +kernel); (case hv_15 => none_booked)
      (with_reducible refine' wA_cons ?h_16 ?hs_16); (case hs_16 => (intro _; exact rfl))
      (with_reducible refine' wE_local ?hv_17 ?h_17 ?hl_17 ?hd_17); (case hl_17 => exact rfl); (case hd_17 => decide +kernel); (case hv_17 => none_booked)
      with_reducible refine' wA_nil ?_
      (with_reducible refine' andLen ?h1_19 ?h_19); (case h1_19 => (simp; done))
      with_reducible refine' exT2 ?_
      with_reducible refine' wS_nil ?_
      with_reducible refine' andNext ?_
      exact ⟨rfl, by none_booked, k, l, m, n, by none_booked, by none_booked, hk, by (first | lia | omega), h2, h1, by (first | lia | omega)⟩
    · with_reducible refine' wS_nil ?_
      with_reducible refine' andNext ?_
      exact ⟨rfl, by none_booked, l, k, n, m, by none_booked, by none_booked, hl, by (first | lia | omega), h1, h2, rfl⟩
  · clear h1 h2 hl hk l k
    rintro S ⟨hσ, hww, l, k, n', m', ha, hb, hl, hk, h1, h2, hnm⟩
    rw [← hnm]
    clear hnm
    with_reducible refine' wS_cons ?_
    (with_reducible refine' wX_swap3 ?h_26 ?h1_26 ?h2_26 ?h5_26 ?h3_26 ?h4_26); (case h4_26 => (intros; exact rfl)); (case h1_26 => exact rfl); (case h2_26 => exact rfl); (case h5_26 => exact rfl); (case h3_26 => (intros; exact rfl))
    with_reducible refine' wE_tuple ?_
    (with_reducible refine' wA_cons ?h_28 ?hs_28); (case hs_28 => (intro _; exact rfl))
    refine wE_listNew fun ad had => ?_
    (with_reducible refine' wA_cons ?h_29 ?hs_29); (case hs_29 => (intro _; exact rfl))
    with_reducible refine' wE_int ?_
    (with_reducible refine' wA_cons ?h_31 ?hs_31); (case hs_31 => (intro _; exact rfl))
    with_reducible refine' wE_binop ?_
    with_reducible refine' wE_binop ?_
    with_reducible refine' wE_int ?_
    (with_reducible refine' wE_local ?hv_35 ?h_35 ?hl_35 ?hd_35); (case hl_35 => exact rfl); (case hd_35 => decide +kernel); (case hv_35 => none_booked)
    (with_reducible refine' o_shl1 ?h1_36 ?h_36); (case h1_36 => (first | lia | omega))
    with_reducible refine' wE_int ?_
    with_reducible refine' o_sub ?_
    with_reducible refine' wA_nil ?_
    (with_reducible refine' andLen ?h1_40 ?h_40); (case h1_40 => (simp; done))
    with_reducible refine' exT3 ?_
    with_reducible refine' wS_cons ?_
    (with_reducible refine' wX_for ?h_43 ?h1_43 ?h2_43); (case h1_43 => exact rfl); (case h2_43 => (intros; exact rfl))
    (with_reducible refine' wI_rng ?h_44 ?h1_44 ?h2_44 ?h3_44); (case h1_44 => exact rfl); (case h2_44 => (intro _; exact rfl)); (case h3_44 => (intro _; exact ⟨_, _, rfl, rfl⟩))
    (with_reducible refine' wA_cons ?h_45 ?hs_45); (case hs_45 => (intro _; exact rfl))
    (with_reducible refine' wE_len ?h_46 ?h1_46 ?h2_46 ?h3_46 ?h4_46); (case h1_46 => exact rfl); (case h2_46 => (intro _; exact rfl)); (case h3_46 => (intro _; exact ⟨_, _, rfl, rfl⟩)); (case h4_46 => (intro _; exact rfl))
    (with_reducible refine' wE_local ?hv_47 ?h_47 ?hl_47 ?hd_47); (case hl_47 => exact rfl); (case hd_47 => decide +kernel); (case hv_47 => none_booked)
    (with_reducible refine' b_len_z ?h1_48 ?h_48); (case h1_48 => (first | lia | omega))
    with_reducible refine' wA_nil ?_
    (with_reducible refine' exRng1 ?h1_50 ?h_50); (case h1_50 => (unfold Fit; (first | lia | omega)))
    -- both
    obtain ⟨I, hI⟩ : ∃ I : List V → St → Prop, ∀ vs S, I vs S ↔ ∃ (i : Nat) (f : List Int) (cr : Int), vs = upTo i (k.length - i) ∧ i ≤ k.length ∧ S.m "a" = some (.list (zints l)) ∧ S.m "b" = some (.list (zints k)) ∧ S.m "w" = some (.int w) ∧ S.m "mask" = some (.int (2 ^ w - 1)) ∧
      S.m "found" = some (.ref ad) ∧ S.m "carry" = some (.int cr) ∧ S.σ ad = some (zints f) ∧ Limbs (2 ^ w) f ∧ f.length = i ∧ (0 ≤ cr ∧ cr ≤ 1) ∧ val (2 ^ w) f + (2 ^ w) ^ i * cr = val (2 ^ w) (l.take i) + val (2 ^ w) (k.take i) := ⟨_, fun _ _ => Iff.rfl⟩
    refine loop_inv I ?_ ?_ ?_
    · intro v vs S hh
      obtain ⟨i, f, cr, hvs, hi, ha, hb, hww, hm, hf, hc, hs, hlf, hlen, hcr, hv⟩ := (hI _ _).mp hh
      clear hh
      obtain ⟨q, hq, rfl, rfl⟩ := upTo_cons hvs
      with_reducible refine' wS_cons ?_
      (with_reducible refine' wX_aug ?hv_52 ?h_52 ?hl_52); (case hl_52 => exact rfl); (case hv_52 => none_booked)
      with_reducible refine' wE_binop ?_
      with_reducible refine' wE_sub ?_
      (with_reducible refine' wE_local ?hv_55 ?h_55 ?hl_55 ?hd_55); (case hl_55 => exact rfl); (case hd_55 => decide +kernel); (case hv_55 => none_booked)
      (with_reducible refine' wE_local ?hv_56 ?h_56 ?hl_56 ?hd_56); (case hl_56 => exact rfl); (case hd_56 => decide +kernel); (case hv_56 => none_booked)
      (with_reducible refine' s_zN ?h1_57 ?h2_57 ?h_57 ?hs_57); (case hs_57 => (intro _ _; exact rfl)); (case h1_57 => (first | lia | omega)); (case h2_57 => (first | lia | omega))
      with_reducible refine' wE_sub ?_
      (with_reducible refine' wE_local ?hv_59 ?h_59 ?hl_59 ?hd_59); (case hl_59 => exact rfl); (case hd_59 => decide +kernel); (case hv_59 => none_booked)
      (with_reducible refine' wE_local ?hv_60 ?h_60 ?hl_60 ?hd_60); (case hl_60 => exact rfl); (case hd_60 => decide +kernel); (case hv_60 => none_booked)
      (with_reducible refine' s_zN ?h1_61 ?h2_61 ?h_61 ?hs_61); (case hs_61 => (intro _ _; exact rfl)); (case h1_61 => (first | lia | omega)); (case h2_61 => (first | lia | omega))
      with_reducible refine' o_add ?_
      with_reducible refine' i_add ?_
      with_reducible refine' wS_cons ?_
      (with_reducible refine' wX_append ?h_65 ?h1_65 ?h2_65 ?h3_65 ?h4_65 ?h5_65); (case h1_65 => (intros; exact rfl)); (case h2_65 => exact rfl); (case h3_65 => (intros; exact rfl)); (case h4_65 => (intros; exact rfl)); (case h5_65 => (intros; exact rfl))
      (with_reducible refine' wE_local ?hv_66 ?h_66 ?hl_66 ?hd_66); (case hl_66 => exact rfl); (case hd_66 => decide +kernel); (case hv_66 => none_booked)
      (with_reducible refine' exApp ?h1_67 ?h_67); (case h1_67 => none_booked)
      with_reducible refine' wE_binop ?_
      (with_reducible refine' wE_local ?hv_69 ?h_69 ?hl_69 ?hd_69); (case hl_69 => exact rfl); (case hd_69 => decide +kernel); (case hv_69 => none_booked)
      (with_reducible refine' wE_local ?hv_70 ?h_70 ?hl_70 ?hd_70); (case hl_70 => exact rfl); (case hd_70 => decide +kernel); (case hv_70 => none_booked)
      with_reducible refine' o_mask ?_
      (with_reducible refine' exAppZ ?h1_72 ?h2_72 ?h_72); (case h1_72 => none_booked); (case h2_72 => (first | lia | omega))
      with_reducible refine' wS_cons ?_
      (with_reducible refine' wX_aug ?hv_74 ?h_74 ?hl_74); (case hl_74 => exact rfl); (case hv_74 => none_booked)
      (with_reducible refine' wE_local ?hv_75 ?h_75 ?hl_75 ?hd_75); (case hl_75 => exact rfl); (case hd_75 => decide +kernel); (case hv_75 => none_booked)
      with_reducible refine' i_shr ?_
      with_reducible refine' wS_nil ?_
      try simp only [Int.toNat_natCast]
      have hx := getD_get (l := l) (k := i) (by (first | lia | omega))
      have hy := getD_get (l := k) (k := i) (by (first | lia | omega))
      have bx := h1.limbs.get hx
      have bq := h2.limbs.get hy
      have hcar := div_small (B := 2 ^ w) (c := cr + (l.getD i 0 + k.getD i 0)) (by (first | lia | omega)) (by (first | lia | omega)) (by (first | lia | omega))
      refine (hI _ _).mpr ⟨i + 1, f ++ [(cr + (l.getD i 0 + k.getD i 0)) % 2 ^ w], (cr + (l.getD i 0 + k.getD i 0)) / 2 ^ w, by rw [show k.length - (i + 1) = q by (first | lia | omega)]; rfl, by (first | lia | omega), by none_booked, by none_booked, by none_booked, by none_booked, by none_booked, by none_booked, by none_booked, hlf.snoc (mod_limb (by (first | lia | omega))), by simp [hlen], hcar, ?_⟩
      rw [carry_step hlen, val_take_succ hx, val_take_succ hy, Int.mul_add, Int.mul_add]
      (first | lia | omega)
    · intro S hh
      obtain ⟨i, f, cr, hvs, hi, ha, hb, hww, hm, hf, hc, hs, hlf, hlen, hcr, hv⟩ := (hI _ _).mp hh
      clear hh
      have : i = k.length := by have := upTo_nil hvs; (first | lia | omega)
      subst this
      rw [List.take_length, h2.val] at hv
      with_reducible refine' wS_cons ?_
      (with_reducible refine' wX_for ?h_79 ?h1_79 ?h2_79); (case h1_79 => exact rfl); (case h2_79 => (intros; exact rfl))
      (with_reducible refine' wI_rng ?h_80 ?h1_80 ?h2_80 ?h3_80); (case h1_80 => exact rfl); (case h2_80 => (intro _; exact rfl)); (case h3_80 => (intro _; exact ⟨_, _, rfl, rfl⟩))
      (with_reducible refine' wA_cons ?h_81 ?hs_81); (case hs_81 => (intro _; exact rfl))
      (with_reducible refine' wE_len ?h_82 ?h1_82 ?h2_82 ?h3_82 ?h4_82); (case h1_82 => exact rfl); (case h2_82 => (intro _; exact rfl)); (case h3_82 => (intro _; exact ⟨_, _, rfl, rfl⟩)); (case h4_82 => (intro _; exact rfl))
      (with_reducible refine' wE_local ?hv_83 ?h_83 ?hl_83 ?hd_83); (case hl_83 => exact rfl); (case hd_83 => decide +kernel); (case hv_83 => none_booked)
      (with_reducible refine' b_len_z ?h1_84 ?h_84); (case h1_84 => (first | lia | omega))
      (with_reducible refine' wA_cons ?h_85 ?hs_85); (case hs_85 => (intro _; exact rfl))
      (with_reducible refine' wE_len ?h_86 ?h1_86 ?h2_86 ?h3_86 ?h4_86); (case h1_86 => exact rfl); (case h2_86 => (intro _; exact rfl)); (case h3_86 => (intro _; exact ⟨_, _, rfl, rfl⟩)); (case h4_86 => (intro _; exact rfl))
      (with_reducible refine' wE_local ?hv_87 ?h_87 ?hl_87 ?hd_87); (case hl_87 => exact rfl); (case hd_87 => decide +kernel); (case hv_87 => none_booked)
      (with_reducible refine' b_len_z ?h1_88 ?h_88); (case h1_88 => (first | lia | omega))
      with_reducible refine' wA_nil ?_
      (with_reducible refine' exRng2 ?h1_90 ?h2_90 ?h_90); (case h1_90 => (unfold Fit; (first | lia | omega))); (case h2_90 => (unfold Fit; (first | lia | omega)))
      obtain ⟨J, hJ⟩ : ∃ J : List V → St → Prop, ∀ vs S, J vs S ↔ ∃ (i : Nat) (f : List Int) (cr : Int), vs = upTo i (l.length - i) ∧ i ≤ l.length ∧ S.m "a" = some (.list (zints l)) ∧ S.m "w" = some (.int w) ∧ S.m "mask" = some (.int (2 ^ w - 1)) ∧
        S.m "found" = some (.ref ad) ∧ S.m "carry" = some (.int cr) ∧ S.σ ad = some (zints f) ∧ Limbs (2 ^ w) f ∧ f.length = i ∧ (0 ≤ cr ∧ cr ≤ 1) ∧ val (2 ^ w) f + (2 ^ w) ^ i * cr = val (2 ^ w) (l.take i) + m' := ⟨_, fun _ _ => Iff.rfl⟩
      refine loop_inv J ?_ ?_ ?_
      · clear hvs hi ha hb hww hm hf hc hs hlf hlen hcr hv f cr S
        intro v vs S hh
        obtain ⟨i, f, cr, hvs, hi, ha, hww, hm, hf, hc, hs, hlf, hlen, hcr, hv⟩ := (hJ _ _).mp hh
        clear hh
        obtain ⟨q, hq, rfl, rfl⟩ := upTo_cons hvs
        with_reducible refine' wS_cons ?_
        (with_reducible refine' wX_aug ?hv_92 ?h_92 ?hl_92); (case hl_92 => exact rfl); (case hv_92 => none_booked)
        with_reducible refine' wE_sub ?_
        (with_reducible refine' wE_local ?hv_94 ?h_94 ?hl_94 ?hd_94); (case hl_94 => exact rfl); (case hd_94 => decide +kernel); (case hv_94 => none_booked)
        (with_reducible refine' wE_local ?hv_95 ?h_95 ?hl_95 ?hd_95); (case hl_95 => exact rfl); (case hd_95 => decide +kernel); (case hv_95 => none_booked)
        (with_reducible refine' s_zN ?h1_96 ?h2_96 ?h_96 ?hs_96); (case hs_96 => (intro _ _; exact rfl)); (case h1_96 => (first | lia | omega)); (case h2_96 => (first | lia | omega))
        with_reducible refine' i_add ?_
        with_reducible refine' wS_cons ?_
        (with_reducible refine' wX_append ?h_99 ?h1_99 ?h2_99 ?h3_99 ?h4_99 ?h5_99); (case h1_99 => (intros; exact rfl)); (case h2_99 => exact rfl); (case h3_99 => (intros; exact rfl)); (case h4_99 => (intros; exact rfl)); (case h5_99 => (intros; exact rfl))
        (with_reducible refine' wE_local ?hv_100 ?h_100 ?hl_100 ?hd_100); (case hl_100 => exact rfl); (case hd_100 => decide +kernel); (case hv_100 => none_booked)
        (with_reducible refine' exApp ?h1_101 ?h_101); (case h1_101 => none_booked)
        with_reducible refine' wE_binop ?_
        (with_reducible refine' wE_local ?hv_103 ?h_103 ?hl_103 ?hd_103); (case hl_103 => exact rfl); (case hd_103 => decide +kernel); (case hv_103 => none_booked)
        (with_reducible refine' wE_local ?hv_104 ?h_104 ?hl_104 ?hd_104); (case hl_104 => exact rfl); (case hd_104 => decide +kernel); (case hv_104 => none_booked)
        with_reducible refine' o_mask ?_
        (with_reducible refine' exAppZ ?h1_106 ?h2_106 ?h_106); (case h1_106 => none_booked); (case h2_106 => (first | lia | omega))
        with_reducible refine' wS_cons ?_
        (with_reducible refine' wX_aug ?hv_108 ?h_108 ?hl_108); (case hl_108 => exact rfl); (case hv_108 => none_booked)
        (with_reducible refine' wE_local ?hv_109 ?h_109 ?hl_109 ?hd_109); (case hl_109 => exact rfl); (case hd_109 => decide +kernel); (case hv_109 => none_booked)
        with_reducible refine' i_shr ?_
        with_reducible refine' wS_nil ?_
        try simp only [Int.toNat_natCast]
        have hx := getD_get (l := l) (k := i) (by (first | lia | omega))
        have bx := h1.limbs.get hx
        have hcar := div_small (B := 2 ^ w) (c := cr + l.getD i 0) (by (first | lia | omega)) (by (first | lia | omega)) (by (first | lia | omega))
        refine (hJ _ _).mpr ⟨i + 1, f ++ [(cr + l.getD i 0) % 2 ^ w], (cr + l.getD i 0) / 2 ^ w, by rw [show l.length - (i + 1) = q by (first | lia | omega)]; rfl, by (first | lia | omega), by none_booked, by none_booked, by none_booked, by none_booked, by none_booked, by none_booked, hlf.snoc (mod_limb (by (first | lia | omega))), by simp [hlen], hcar, ?_⟩
        rw [carry_step hlen, val_take_succ hx, Int.mul_add]
        (first | lia | omega)
      · clear hvs hi ha hb hww hm hf hc hs hlf hlen hcr hv f cr S
        intro S hh
        obtain ⟨i, f, cr, hvs, hi, ha, hww, hm, hf, hc, hs, hlf, hlen, hcr, hv⟩ := (hJ _ _).mp hh
        clear hh
        have : i = l.length := by have := upTo_nil hvs; (first | lia | omega)
        subst this
        rw [List.take_length, h1.val] at hv
        with_reducible refine' wS_cons ?_
        with_reducible refine' wX_if ?_
        (with_reducible refine' wT_cmp ?h_114 ?hm_114); (case hm_114 => with_unfolding_all exact rfl)
        (with_reducible refine' wE_local ?hv_115 ?h_115 ?hl_115 ?hd_115); (case hl_115 => exact rfl); (case hd_115 => decide +kernel); (case hv_115 => none_booked)
        with_reducible refine' wE_int ?_
        with_reducible refine' c_gt ?_
        with_reducible refine' exTB ?_
        refine iteD (fun h => ?_) (fun h => ?_)
        · with_reducible refine' wS_cons ?_
          (with_reducible refine' wX_append ?h_120 ?h1_120 ?h2_120 ?h3_120 ?h4_120 ?h5_120); (case h1_120 => (intros; exact rfl)); (case h2_120 => exact rfl); (case h3_120 => (intros; exact rfl)); (case h4_120 => (intros; exact rfl)); (case h5_120 => (intros; exact rfl))
          (with_reducible refine' wE_local ?hv_121 ?h_121 ?hl_121 ?hd_121); (case hl_121 => exact rfl); (case hd_121 => decide +kernel); (case hv_121 => none_booked)
          (with_reducible refine' exApp ?h1_122 ?h_122); (case h1_122 => none_booked)
          (with_reducible refine' wE_local ?hv_123 ?h_123 ?hl_123 ?hd_123); (case hl_123 => exact rfl); (case hd_123 => decide +kernel); (case hv_123 => none_booked)
          (with_reducible refine' exAppZ ?h1_124 ?h2_124 ?h_124); (case h1_124 => none_booked); (case h2_124 => (first | lia | omega))
          with_reducible refine' wS_nil ?_
          with_reducible refine' wS_cons ?_
          (with_reducible refine' wX_retRef ?h1_127 ?h2_127 ?h_127 ?hl_127 ?hd_127); (case hl_127 => exact rfl); (case hd_127 => decide +kernel); (case h1_127 => none_booked); (case h2_127 => none_booked)
          with_reducible refine' exR ?_
          refine ⟨f ++ [cr], rfl, hlf.snoc (by (first | lia | omega)), ?_, by simp; (first | lia | omega)⟩
          rw [val_snoc, hlen, hv]
        · with_reducible refine' wS_nil ?_
          with_reducible refine' wS_cons ?_
          (with_reducible refine' wX_retRef ?h1_131 ?h2_131 ?h_131 ?hl_131 ?hd_131); (case hl_131 => exact rfl); (case hd_131 => decide +kernel); (case h1_131 => none_booked); (case h2_131 => none_booked)
          with_reducible refine' exR ?_
          have e0 : cr = 0 := by (first | lia | omega)
          subst e0
          rw [Int.mul_zero, Int.add_zero] at hv
          refine ⟨f, rfl, hlf, hv, top_of hB hlf fun hne => ?_⟩
          rw [hv, hlen]
          have q1 := h1.low hB (fun e => by subst e; simp at hlen; exact hne hlen)
          have q2 := h2.nonneg (by (first | lia | omega))
          (first | lia | omega)
      · exact (hJ _ _).mpr ⟨k.length, f, cr, by congr 1; (first | lia | omega), by (first | lia | omega), by none_booked, by none_booked, by none_booked, by none_booked, by none_booked, hs, hlf, hlen, hcr, hv⟩
    · exact (hI _ _).mpr ⟨0, [], 0, by simp, by (first | lia | omega), by none_booked, by none_booked, by none_booked, by none_booked, by none_booked, by none_booked, by none_booked, Limbs.nil, rfl, by (first | lia | omega), by simp [val]⟩
end
section
variable {g : G PP}
theorem val_take_succ' (B : Int) (l : List Int) (i : Nat) : val B (l.take (i + 1)) = val B (l.take i) + B ^ i * l.getD i 0 := by
  by_cases h : i < l.length
  · exact val_take_succ (getD_get h)
  · rw [List.take_of_length_le (by (first | lia | omega)), List.take_of_length_le (by (first | lia | omega)), List.getD_eq_getElem?_getD, List.getElem?_eq_none (by (first | lia | omega))]
    simp
theorem getD_limb {B : Int} (hB : 0 < B) {l : List Int} (h : Limbs B l) (i : Nat) : 0 ≤ l.getD i 0 ∧ l.getD i 0 < B := by
  by_cases hi : i < l.length
  · exact h.get (getD_get hi)
  · rw [List.getD_eq_getElem?_getD, List.getElem?_eq_none (by (first | lia | omega))]
    exact ⟨Int.le_refl _, hB⟩
theorem getD_out {l : List Int} {i : Nat} (h : l.length ≤ i) : l.getD i 0 = 0 := by
  rw [List.getD_eq_getElem?_getD, List.getElem?_eq_none h]; rfl
theorem t_sub (w : Nat) (hw : 1 ≤ w ∧ w ≤ 30) (l k : List Int) (n m : Int) (hl : l.length ≤ 2 ^ 20) (hk : k.length ≤ 2 ^ 20) (h1 : Can (2 ^ w) l n) (h2 : Can (2 ^ w) k m) (hmn : m ≤ n) :
    GCall g (g.fa "sub") 2 [.list (zints l), .list (zints k), .int w] (fun _ => none) (fun x _ => IsNat w x (n - m)) := by
  have hB := one_lt_pow hw.1
  refine' gcall (d := dOf 4) (dOf_mem 4 (by decide)) (hbody := ?enB) (hscope := ?enS) (hparams := ?enP) (hname := rfl) (names := ["a", "b", "w"]) (hk := ?enK) (hbind := ?enI) (hloc := ?enL) (h := ?enH) (hco := ?enC) (hgen := ?enG) (hcell := ?enE)
  case enB => (conv => lhs; whnf)
  case enS => (conv => lhs; whnf)
  case enP => (conv => lhs; whnf)
  case enK => rfl
  case enI => exact args3 fun _ _ _ _ _ _ => rfl
  case enL => decide +kernel
  case enC => rfl
  case enG => rfl
  case enE => decide +kernel
  with_reducible refine' wS_cons ?_
  with_reducible refine' wX_if ?_
  (with_reducible refine' wT_cmp ?h_3 ?hm_3); (case hm_3 => with_unfolding_all exact rfl)
  (with_reducible refine' wE_def ?h_4 ?h1_4 ?h2_4 ?h3_4 ?h4_4 ?h5_4); (case h1_4 => decide +kernel); (case h2_4 => exact rfl); (case h3_4 => decide +kernel); (case h4_4 => (intro _; exact rfl)); (case h5_4 => (intro _; exact ⟨_, _, rfl, rfl⟩))
  (with_reducible refine' wA_cons ?h_5 ?hs_5); (case hs_5 => (intro _; exact rfl))
  (with_reducible refine' wE_local ?hv_6 ?h_6 ?hl_6 ?hd_6); (case hl_6 => exact rfl); (case hd_6 => decide +kernel); (case hv_6 => none_booked)
  (with_reducible refine' wA_cons ?h_7 ?hs_7); (case hs_7 => (intro _; exact rfl))
  (with_reducible refine' wE_local ?hv_8 ?h_8 ?hl_8 ?hd_8); (case hl_8 => exact rfl); (case hd_8 => decide +kernel); (case hv_8 => none_booked)
  with_reducible refine' wA_nil ?_
  refine op_pure (t_compare w hw.1 l k n m hl hk h1 h2) (by decide) fun x hx => ?_
  obtain ⟨c, rfl, hc⟩ := hx
  with_reducible refine' wE_int ?_
  with_reducible refine' c_lt ?_
  with_reducible refine' exTB ?_
  refine iteD (fun h => absurd (hc.mp h) (by (first | lia | omega))) (fun h => ?_)
  with_reducible refine' wS_nil ?_
  with_reducible refine' wS_cons ?_
  (with_reducible refine' wX_swap3 ?h_15 ?h1_15 ?h2_15 ?h5_15 ?h3_15 ?h4_15); (case h4_15 => (intros; exact rfl)); (case h1_15 => exact rfl); (case h2_15 => exact rfl); (case h5_15 => exact rfl); (case h3_15 => (intros; exact rfl))
  with_reducible refine' wE_tuple ?_
  (with_reducible refine' wA_cons ?h_17 ?hs_17); (case hs_17 => (intro _; exact rfl))
  refine wE_listNew fun ad had => ?_
  (with_reducible refine' wA_cons ?h_18 ?hs_18); (case hs_18 => (intro _; exact rfl))
  with_reducible refine' wE_int ?_
  (with_reducible refine' wA_cons ?h_20 ?hs_20); (case hs_20 => (intro _; exact rfl))
  with_reducible refine' wE_binop ?_
  with_reducible refine' wE_int ?_
  (with_reducible refine' wE_local ?hv_23 ?h_23 ?hl_23 ?hd_23); (case hl_23 => exact rfl); (case hd_23 => decide +kernel); (case hv_23 => none_booked)
  (with_reducible refine' o_shl1 ?h1_24 ?h_24); (case h1_24 => (first | lia | omega))
  with_reducible refine' wA_nil ?_
  (with_reducible refine' andLen ?h1_26 ?h_26); (case h1_26 => (simp; done))
  with_reducible refine' exT3 ?_
  with_reducible refine' wS_cons ?_
  (with_reducible refine' wX_for ?h_29 ?h1_29 ?h2_29); (case h1_29 => exact rfl); (case h2_29 => (intros; exact rfl))
  (with_reducible refine' wI_rng ?h_30 ?h1_30 ?h2_30 ?h3_30); (case h1_30 => exact rfl); (case h2_30 => (intro _; exact rfl)); (case h3_30 => (intro _; exact ⟨_, _, rfl, rfl⟩))
  (with_reducible refine' wA_cons ?h_31 ?hs_31); (case hs_31 => (intro _; exact rfl))
  (with_reducible refine' wE_len ?h_32 ?h1_32 ?h2_32 ?h3_32 ?h4_32); (case h1_32 => exact rfl); (case h2_32 => (intro _; exact rfl)); (case h3_32 => (intro _; exact ⟨_, _, rfl, rfl⟩)); (case h4_32 => (intro _; exact rfl))
  (with_reducible refine' wE_local ?hv_33 ?h_33 ?hl_33 ?hd_33); (case hl_33 => exact rfl); (case hd_33 => decide +kernel); (case hv_33 => none_booked)
  (with_reducible refine' b_len_z ?h1_34 ?h_34); (case h1_34 => (first | lia | omega))
  with_reducible refine' wA_nil ?_
  (with_reducible refine' exRng1 ?h1_36 ?h_36); (case h1_36 => (unfold Fit; (first | lia | omega)))
  obtain ⟨I, hI⟩ : ∃ I : List V → St → Prop, ∀ vs S, I vs S ↔ ∃ (i : Nat) (f : List Int) (bw : Int), vs = upTo i (l.length - i) ∧ i ≤ l.length ∧ S.m "a" = some (.list (zints l)) ∧ S.m "b" = some (.list (zints k)) ∧ S.m "base" = some (.int (2 ^ w)) ∧
      S.m "found" = some (.ref ad) ∧ S.m "borrow" = some (.int bw) ∧ S.σ ad = some (zints f) ∧ Limbs (2 ^ w) f ∧ f.length = i ∧ (0 ≤ bw ∧ bw ≤ 1) ∧ val (2 ^ w) f - (2 ^ w) ^ i * bw = val (2 ^ w) (l.take i) - val (2 ^ w) (k.take i) := ⟨_, fun _ _ => Iff.rfl⟩
  refine loop_inv I ?_ ?_ ?_
  · intro v vs S hh
    obtain ⟨i, f, bw, hvs, hi, ha, hb, hm, hf, hc, hs, hlf, hlen, hbw, hv⟩ := (hI _ _).mp hh
    clear hh
    obtain ⟨q, hq, rfl, rfl⟩ := upTo_cons hvs
    have bx := getD_limb (by (first | lia | omega)) h1.limbs i
    have bk := getD_limb (by (first | lia | omega)) h2.limbs i
    refine wS_seq (fun S' => S'.m "a" = some (.list (zints l)) ∧ S'.m "b" = some (.list (zints k)) ∧ S'.m "base" = some (.int (2 ^ w)) ∧ S'.m "found" = some (.ref ad) ∧ S'.m "borrow" = some (.int bw) ∧ S'.σ ad = some (zints f) ∧ S'.m "limb" = some (.int (l.getD i 0 - bw - k.getD i 0))) ?_ ?_
    · (with_reducible refine' wX_assign ?h_37 ?hl_37 ?hs_37); (case hl_37 => exact rfl); (case hs_37 => (intros; exact rfl))
      with_reducible refine' wE_binop ?_
      with_reducible refine' wE_binop ?_
      with_reducible refine' wE_sub ?_
      (with_reducible refine' wE_local ?hv_41 ?h_41 ?hl_41 ?hd_41); (case hl_41 => exact rfl); (case hd_41 => decide +kernel); (case hv_41 => none_booked)
      (with_reducible refine' wE_local ?hv_42 ?h_42 ?hl_42 ?hd_42); (case hl_42 => exact rfl); (case hd_42 => decide +kernel); (case hv_42 => none_booked)
      (with_reducible refine' s_zN ?h1_43 ?h2_43 ?h_43 ?hs_43); (case hs_43 => (intro _ _; exact rfl)); (case h1_43 => (first | lia | omega)); (case h2_43 => (first | lia | omega))
      (with_reducible refine' wE_local ?hv_44 ?h_44 ?hl_44 ?hd_44); (case hl_44 => exact rfl); (case hd_44 => decide +kernel); (case hv_44 => none_booked)
      with_reducible refine' o_sub ?_
      with_reducible refine' wE_ifexp ?_
      (with_reducible refine' wT_cmp ?h_47 ?hm_47); (case hm_47 => with_unfolding_all exact rfl)
      (with_reducible refine' wE_local ?hv_48 ?h_48 ?hl_48 ?hd_48); (case hl_48 => exact rfl); (case hd_48 => decide +kernel); (case hv_48 => none_booked)
      (with_reducible refine' wE_len ?h_49 ?h1_49 ?h2_49 ?h3_49 ?h4_49); (case h1_49 => exact rfl); (case h2_49 => (intro _; exact rfl)); (case h3_49 => (intro _; exact ⟨_, _, rfl, rfl⟩)); (case h4_49 => (intro _; exact rfl))
      (with_reducible refine' wE_local ?hv_50 ?h_50 ?hl_50 ?hd_50); (case hl_50 => exact rfl); (case hd_50 => decide +kernel); (case hv_50 => none_booked)
      (with_reducible refine' b_len_z ?h1_51 ?h_51); (case h1_51 => (first | lia | omega))
      with_reducible refine' c_lt ?_
      with_reducible refine' exTB ?_
      refine iteD (fun h => ?_) (fun h => ?_)
      · with_reducible refine' wE_sub ?_
        (with_reducible refine' wE_local ?hv_55 ?h_55 ?hl_55 ?hd_55); (case hl_55 => exact rfl); (case hd_55 => decide +kernel); (case hv_55 => none_booked)
        (with_reducible refine' wE_local ?hv_56 ?h_56 ?hl_56 ?hd_56); (case hl_56 => exact rfl); (case hd_56 => decide +kernel); (case hv_56 => none_booked)
        (with_reducible refine' s_zN ?h1_57 ?h2_57 ?h_57 ?hs_57); (case hs_57 => (intro _ _; exact rfl)); (case h1_57 => (first | lia | omega)); (case h2_57 => (first | lia | omega))
        with_reducible refine' o_sub ?_
        with_reducible refine' andNext ?_
        try simp only [Int.toNat_natCast]
        exact ⟨by none_booked, by none_booked, by none_booked, by none_booked, by none_booked, by none_booked, by none_booked⟩
      · with_reducible refine' wE_int ?_
        with_reducible refine' o_sub ?_
        with_reducible refine' andNext ?_
        try simp only [Int.toNat_natCast]
        exact ⟨by none_booked, by none_booked, by none_booked, by none_booked, by none_booked, by none_booked, by rw [getD_out (show k.length ≤ i by (first | lia | omega))]; none_booked⟩
    · clear hs hc hf hm hb ha S
      rintro S ⟨ha, hb, hm, hf, hc, hs, hlimb⟩
      with_reducible refine' wS_cons ?_
      (with_reducible refine' wX_assign ?h_64 ?hl_64 ?hs_64); (case hl_64 => exact rfl); (case hs_64 => (intros; exact rfl))
      with_reducible refine' wE_ifexp ?_
      (with_reducible refine' wT_cmp ?h_66 ?hm_66); (case hm_66 => with_unfolding_all exact rfl)
      (with_reducible refine' wE_local ?hv_67 ?h_67 ?hl_67 ?hd_67); (case hl_67 => exact rfl); (case hd_67 => decide +kernel); (case hv_67 => none_booked)
      with_reducible refine' wE_int ?_
      with_reducible refine' c_lt ?_
      with_reducible refine' exTB ?_
      refine iteD (fun h => ?_) (fun h => ?_)
      · with_reducible refine' wE_int ?_
        with_reducible refine' wS_cons ?_
        (with_reducible refine' wX_append ?h_73 ?h1_73 ?h2_73 ?h3_73 ?h4_73 ?h5_73); (case h1_73 => (intros; exact rfl)); (case h2_73 => exact rfl); (case h3_73 => (intros; exact rfl)); (case h4_73 => (intros; exact rfl)); (case h5_73 => (intros; exact rfl))
        (with_reducible refine' wE_local ?hv_74 ?h_74 ?hl_74 ?hd_74); (case hl_74 => exact rfl); (case hd_74 => decide +kernel); (case hv_74 => none_booked)
        (with_reducible refine' exApp ?h1_75 ?h_75); (case h1_75 => none_booked)
        with_reducible refine' wE_ifexp ?_
        (with_reducible refine' wT_cmp ?h_77 ?hm_77); (case hm_77 => with_unfolding_all exact rfl)
        (with_reducible refine' wE_local ?hv_78 ?h_78 ?hl_78 ?hd_78); (case hl_78 => exact rfl); (case hd_78 => decide +kernel); (case hv_78 => none_booked)
        with_reducible refine' wE_int ?_
        with_reducible refine' c_lt ?_
        with_reducible refine' exTB ?_
        refine iteD (fun h => ?_) (fun h' => absurd h h')
        with_reducible refine' wE_binop ?_
        (with_reducible refine' wE_local ?hv_83 ?h_83 ?hl_83 ?hd_83); (case hl_83 => exact rfl); (case hd_83 => decide +kernel); (case hv_83 => none_booked)
        (with_reducible refine' wE_local ?hv_84 ?h_84 ?hl_84 ?hd_84); (case hl_84 => exact rfl); (case hd_84 => decide +kernel); (case hv_84 => none_booked)
        with_reducible refine' o_add ?_
        (with_reducible refine' exAppZ ?h1_86 ?h2_86 ?h_86); (case h1_86 => none_booked); (case h2_86 => (first | lia | omega))
        with_reducible refine' wS_nil ?_
        refine (hI _ _).mpr ⟨i + 1, f ++ [l.getD i 0 - bw - k.getD i 0 + 2 ^ w], 1, by rw [show l.length - (i + 1) = q by (first | lia | omega)]; rfl, by (first | lia | omega), by none_booked, by none_booked, by none_booked, by none_booked, by none_booked, by none_booked, hlf.snoc (by (first | lia | omega)), by simp [hlen], by (first | lia | omega), ?_⟩
        rw [val_snoc, hlen, val_take_succ', val_take_succ', Int.pow_succ, Int.mul_add, Int.mul_sub, Int.mul_sub]
        (first | lia | omega)
      · with_reducible refine' wE_int ?_
        with_reducible refine' wS_cons ?_
        (with_reducible refine' wX_append ?h_90 ?h1_90 ?h2_90 ?h3_90 ?h4_90 ?h5_90); (case h1_90 => (intros; exact rfl)); (case h2_90 => exact rfl); (case h3_90 => (intros; exact rfl)); (case h4_90 => (intros; exact rfl)); (case h5_90 => (intros; exact rfl))
        (with_reducible refine' wE_local ?hv_91 ?h_91 ?hl_91 ?hd_91); (case hl_91 => exact rfl); (case hd_91 => decide +kernel); (case hv_91 => none_booked)
        (with_reducible refine' exApp ?h1_92 ?h_92); (case h1_92 => none_booked)
        with_reducible refine' wE_ifexp ?_
        (with_reducible refine' wT_cmp ?h_94 ?hm_94); (case hm_94 => with_unfolding_all exact rfl)
        (with_reducible refine' wE_local ?hv_95 ?h_95 ?hl_95 ?hd_95); (case hl_95 => exact rfl); (case hd_95 => decide +kernel); (case hv_95 => none_booked)
        with_reducible refine' wE_int ?_
        with_reducible refine' c_lt ?_
        with_reducible refine' exTB ?_
        refine iteD (fun h' => absurd h' h) (fun h => ?_)
        (with_reducible refine' wE_local ?hv_99 ?h_99 ?hl_99 ?hd_99); (case hl_99 => exact rfl); (case hd_99 => decide +kernel); (case hv_99 => none_booked)
        (with_reducible refine' exAppZ ?h1_100 ?h2_100 ?h_100); (case h1_100 => none_booked); (case h2_100 => (first | lia | omega))
        with_reducible refine' wS_nil ?_
        refine (hI _ _).mpr ⟨i + 1, f ++ [l.getD i 0 - bw - k.getD i 0], 0, by rw [show l.length - (i + 1) = q by (first | lia | omega)]; rfl, by (first | lia | omega), by none_booked, by none_booked, by none_booked, by none_booked, by none_booked, by none_booked, hlf.snoc (by (first | lia | omega)), by simp [hlen], by (first | lia | omega), ?_⟩
        rw [val_snoc, hlen, val_take_succ', val_take_succ', Int.mul_sub, Int.mul_sub]
        (first | lia | omega)
  · intro S hh
    obtain ⟨i, f, bw, hvs, hi, ha, hb, hm, hf, hc, hs, hlf, hlen, hbw, hv⟩ := (hI _ _).mp hh
    clear hh
    have : i = l.length := by have := upTo_nil hvs; (first | lia | omega)
    subst this
    have hkl : k.length ≤ l.length := by
      apply Nat.le_of_not_lt
      intro hlt
      have := h1.len_lt hB h2 hlt
      (first | lia | omega)
    rw [List.take_length, List.take_of_length_le hkl, h1.val, h2.val] at hv
    have hvl := val_lt (by (first | lia | omega)) hlf
    rw [hlen] at hvl
    have e0 : bw = 0 := by
      rcases (show bw = 0 ∨ bw = 1 by (first | lia | omega)) with e | e
      · exact e
      · subst e; (first | lia | omega)
    subst e0
    refine w_freeze "found" hf hs ?_
    with_reducible refine' wS_cons ?_
    with_reducible refine' wX_return ?_
    (with_reducible refine' wE_def ?h_104 ?h1_104 ?h2_104 ?h3_104 ?h4_104 ?h5_104); (case h1_104 => decide +kernel); (case h2_104 => exact rfl); (case h3_104 => decide +kernel); (case h4_104 => (intro _; exact rfl)); (case h5_104 => (intro _; exact ⟨_, _, rfl, rfl⟩))
    (with_reducible refine' wA_cons ?h_105 ?hs_105); (case hs_105 => (intro _; exact rfl))
    (with_reducible refine' wE_local ?hv_106 ?h_106 ?hl_106 ?hd_106); (case hl_106 => exact rfl); (case hd_106 => decide +kernel); (case hv_106 => none_booked)
    with_reducible refine' wA_nil ?_
    refine op_pure (t_normal f (by (first | lia | omega))) (by decide) fun x hx => ?_
    subst hx
    with_reducible refine' exR ?_
    have := normL_can (by (first | lia | omega)) hlf
    exact ⟨_, rfl, by rw [show n - m = val (2 ^ w) f by (first | lia | omega)]; exact this⟩
  · exact (hI _ _).mpr ⟨0, [], 0, by simp, by (first | lia | omega), by none_booked, by none_booked, by none_booked, by none_booked, by none_booked, by none_booked, Limbs.nil, rfl, by (first | lia | omega), by simp [val]⟩
theorem t_add_limb (w : Nat) (hw : 1 ≤ w ∧ w ≤ 30) (l : List Int) (n d : Int) (hl : l.length ≤ 2 ^ 20) (h1 : Can (2 ^ w) l n) (hd : 0 ≤ d ∧ d < 2 ^ w) :
    GCall g (g.fa "add_limb") 1 [.list (zints l), .int d, .int w] (fun _ => none) (fun x _ => IsNat w x (n + d)) := by
  have hB := one_lt_pow hw.1
  refine' gcall (d := dOf 5) (dOf_mem 5 (by decide)) (hbody := ?enB) (hscope := ?enS) (hparams := ?enP) (hname := rfl) (names := ["a", "limb", "w"]) (hk := ?enK) (hbind := ?enI) (hloc := ?enL) (h := ?enH) (hco := ?enC) (hgen := ?enG) (hcell := ?enE)
  case enB => (conv => lhs; whnf)
  case enS => (conv => lhs; whnf)
  case enP => (conv => lhs; whnf)
  case enK => rfl
  case enI => exact args3 fun _ _ _ _ _ _ => rfl
  case enL => decide +kernel
  case enC => rfl
  case enG => rfl
  case enE => decide +kernel
  with_reducible refine' wS_cons ?_
  (with_reducible refine' wX_swap2 ?h_2 ?h1_2 ?h2_2 ?h3_2 ?h4_2); (case h4_2 => (intros; exact rfl)); (case h1_2 => exact rfl); (case h2_2 => exact rfl); (case h3_2 => (intros; exact rfl))
  with_reducible refine' wE_tuple ?_
  (with_reducible refine' wA_cons ?h_4 ?hs_4); (case hs_4 => (intro _; exact rfl))
  refine wE_listNew fun ad had => ?_
  (with_reducible refine' wA_cons ?h_5 ?hs_5); (case hs_5 => (intro _; exact rfl))
  with_reducible refine' wE_binop ?_
  with_reducible refine' wE_binop ?_
  with_reducible refine' wE_int ?_
  (with_reducible refine' wE_local ?hv_9 ?h_9 ?hl_9 ?hd_9); (case hl_9 => exact rfl); (case hd_9 => decide +kernel); (case hv_9 => none_booked)
  (with_reducible refine' o_shl1 ?h1_10 ?h_10); (case h1_10 => (first | lia | omega))
  with_reducible refine' wE_int ?_
  with_reducible refine' o_sub ?_
  with_reducible refine' wA_nil ?_
  (with_reducible refine' andLen ?h1_14 ?h_14); (case h1_14 => (simp; done))
  with_reducible refine' exT2 ?_
  with_reducible refine' wS_cons ?_
  (with_reducible refine' wX_for ?h_17 ?h1_17 ?h2_17); (case h1_17 => exact rfl); (case h2_17 => (intros; exact rfl))
  with_reducible refine' wI_list ?_
  (with_reducible refine' wE_local ?hv_19 ?h_19 ?hl_19 ?hd_19); (case hl_19 => exact rfl); (case hd_19 => decide +kernel); (case hv_19 => none_booked)
  with_reducible refine' exL ?_
  obtain ⟨I, hI⟩ : ∃ I : List V → St → Prop, ∀ vs S, I vs S ↔ ∃ (i : Nat) (f : List Int) (cr : Int), vs = zints (l.drop i) ∧ i ≤ l.length ∧ S.m "w" = some (.int w) ∧ S.m "mask" = some (.int (2 ^ w - 1)) ∧
      S.m "found" = some (.ref ad) ∧ S.m "limb" = some (.int cr) ∧ S.σ ad = some (zints f) ∧ Limbs (2 ^ w) f ∧ f.length = i ∧ (0 ≤ cr ∧ cr < 2 ^ w) ∧ val (2 ^ w) f + (2 ^ w) ^ i * cr = val (2 ^ w) (l.take i) + d := ⟨_, fun _ _ => Iff.rfl⟩
  refine loop_inv I ?_ ?_ ?_
  · intro v vs S hh
    obtain ⟨i, f, cr, hvs, hi, hww, hm, hf, hc, hs, hlf, hlen, hcr, hv⟩ := (hI _ _).mp hh
    clear hh
    have hil : i < l.length := by
      apply Nat.lt_of_not_le
      intro hle
      rw [List.drop_eq_nil_of_le hle] at hvs; cases hvs
    have hx := getD_get hil
    rw [List.drop_eq_getElem_cons hil] at hvs
    have hv1 : v = .int (l.getD i 0) := by
      rw [List.getElem?_eq_getElem hil] at hx
      rw [← Option.some.inj hx]
      exact (List.cons.inj hvs).1
    have hv2 : vs = zints (l.drop (i + 1)) := (List.cons.inj hvs).2
    subst hv1 hv2
    with_reducible refine' wS_cons ?_
    (with_reducible refine' wX_aug ?hv_22 ?h_22 ?hl_22); (case hl_22 => exact rfl); (case hv_22 => none_booked)
    (with_reducible refine' wE_local ?hv_23 ?h_23 ?hl_23 ?hd_23); (case hl_23 => exact rfl); (case hd_23 => decide +kernel); (case hv_23 => none_booked)
    with_reducible refine' i_add ?_
    with_reducible refine' wS_cons ?_
    (with_reducible refine' wX_append ?h_26 ?h1_26 ?h2_26 ?h3_26 ?h4_26 ?h5_26); (case h1_26 => (intros; exact rfl)); (case h2_26 => exact rfl); (case h3_26 => (intros; exact rfl)); (case h4_26 => (intros; exact rfl)); (case h5_26 => (intros; exact rfl))
    (with_reducible refine' wE_local ?hv_27 ?h_27 ?hl_27 ?hd_27); (case hl_27 => exact rfl); (case hd_27 => decide +kernel); (case hv_27 => none_booked)
    (with_reducible refine' exApp ?h1_28 ?h_28); (case h1_28 => none_booked)
    with_reducible refine' wE_binop ?_
    (with_reducible refine' wE_local ?hv_30 ?h_30 ?hl_30 ?hd_30); (case hl_30 => exact rfl); (case hd_30 => decide +kernel); (case hv_30 => none_booked)
    (with_reducible refine' wE_local ?hv_31 ?h_31 ?hl_31 ?hd_31); (case hl_31 => exact rfl); (case hd_31 => decide +kernel); (case hv_31 => none_booked)
    with_reducible refine' o_mask ?_
    (with_reducible refine' exAppZ ?h1_33 ?h2_33 ?h_33); (case h1_33 => none_booked); (case h2_33 => (first | lia | omega))
    with_reducible refine' wS_cons ?_
    (with_reducible refine' wX_aug ?hv_35 ?h_35 ?hl_35); (case hl_35 => exact rfl); (case hv_35 => none_booked)
    (with_reducible refine' wE_local ?hv_36 ?h_36 ?hl_36 ?hd_36); (case hl_36 => exact rfl); (case hd_36 => decide +kernel); (case hv_36 => none_booked)
    with_reducible refine' i_shr ?_
    with_reducible refine' wS_nil ?_
    have bx := h1.limbs.get hx
    have hcar := div_small (B := 2 ^ w) (c := cr + l.getD i 0) (by (first | lia | omega)) (by (first | lia | omega)) (by (first | lia | omega))
    refine (hI _ _).mpr ⟨i + 1, f ++ [(cr + l.getD i 0) % 2 ^ w], (cr + l.getD i 0) / 2 ^ w, rfl, by (first | lia | omega), by none_booked, by none_booked, by none_booked, by none_booked, by none_booked, hlf.snoc (mod_limb (by (first | lia | omega))), by simp [hlen], by (first | lia | omega), ?_⟩
    rw [carry_step hlen, val_take_succ', Int.mul_add]
    (first | lia | omega)
  · intro S hh
    obtain ⟨i, f, cr, hvs, hi, hww, hm, hf, hc, hs, hlf, hlen, hcr, hv⟩ := (hI _ _).mp hh
    clear hh
    have : i = l.length := by
      have : (zints (l.drop i)).length = 0 := by rw [← hvs]; rfl
      rw [zints_length, List.length_drop] at this
      (first | lia | omega)
    subst this
    rw [List.take_length, h1.val] at hv
    with_reducible refine' wS_cons ?_
    with_reducible refine' wX_if ?_
    (with_reducible refine' wT_cmp ?h_41 ?hm_41); (case hm_41 => with_unfolding_all exact rfl)
    (with_reducible refine' wE_local ?hv_42 ?h_42 ?hl_42 ?hd_42); (case hl_42 => exact rfl); (case hd_42 => decide +kernel); (case hv_42 => none_booked)
    with_reducible refine' wE_int ?_
    with_reducible refine' c_gt ?_
    with_reducible refine' exTB ?_
    refine iteD (fun h => ?_) (fun h => ?_)
    · with_reducible refine' wS_cons ?_
      (with_reducible refine' wX_append ?h_47 ?h1_47 ?h2_47 ?h3_47 ?h4_47 ?h5_47); (case h1_47 => (intros; exact rfl)); (case h2_47 => exact rfl); (case h3_47 => (intros; exact rfl)); (case h4_47 => (intros; exact rfl)); (case h5_47 => (intros; exact rfl))
      (with_reducible refine' wE_local ?hv_48 ?h_48 ?hl_48 ?hd_48); (case hl_48 => exact rfl); (case hd_48 => decide +kernel); (case hv_48 => none_booked)
      (with_reducible refine' exApp ?h1_49 ?h_49); (case h1_49 => none_booked)
      (with_reducible refine' wE_local ?hv_50 ?h_50 ?hl_50 ?hd_50); (case hl_50 => exact rfl); (case hd_50 => decide +kernel); (case hv_50 => none_booked)
      (with_reducible refine' exAppZ ?h1_51 ?h2_51 ?h_51); (case h1_51 => none_booked); (case h2_51 => (first | lia | omega))
      with_reducible refine' wS_nil ?_
      with_reducible refine' wS_cons ?_
      (with_reducible refine' wX_retRef ?h1_54 ?h2_54 ?h_54 ?hl_54 ?hd_54); (case hl_54 => exact rfl); (case hd_54 => decide +kernel); (case h1_54 => none_booked); (case h2_54 => none_booked)
      with_reducible refine' exR ?_
      refine ⟨f ++ [cr], rfl, hlf.snoc hcr, ?_, by simp; (first | lia | omega)⟩
      rw [val_snoc, hlen, hv]
    · with_reducible refine' wS_nil ?_
      with_reducible refine' wS_cons ?_
      (with_reducible refine' wX_retRef ?h1_58 ?h2_58 ?h_58 ?hl_58 ?hd_58); (case hl_58 => exact rfl); (case hd_58 => decide +kernel); (case h1_58 => none_booked); (case h2_58 => none_booked)
      with_reducible refine' exR ?_
      have e0 : cr = 0 := by (first | lia | omega)
      subst e0
      rw [Int.mul_zero, Int.add_zero] at hv
      refine ⟨f, rfl, hlf, hv, top_of hB hlf fun hne => ?_⟩
      rw [hv, hlen]
      have q1 := h1.low hB (fun e => by subst e; simp at hlen; exact hne hlen)
      (first | lia | omega)
  · exact (hI _ _).mpr ⟨0, [], d, by simp, by (first | lia | omega), by none_booked, by none_booked, by none_booked, by none_booked, by none_booked, Limbs.nil, rfl, hd, by simp [val]⟩
end
section
variable {g : G PP}
theorem drop_step (B : Int) {l : List Int} {i : Nat} (h : i < l.length) : val B (l.drop i) = l.getD i 0 + B * val B (l.drop (i + 1)) := by
  rw [List.drop_eq_getElem_cons h]
  simp only [val]
  rw [List.getD_eq_getElem?_getD, List.getElem?_eq_getElem h]
  rfl
theorem pow_le30 {w : Nat} (hw : w ≤ 30) : (2 : Int) ^ w ≤ 1073741824 := by
  have := pow_mono' (B := 2) (by decide) hw
  rw [show (2 : Int) ^ 30 = 1073741824 by decide] at this
  exact this
theorem t_divrem_limb (w : Nat) (hw : 1 ≤ w ∧ w ≤ 29) (l : List Int) (n d : Int) (hl : l.length ≤ 2 ^ 20) (h1 : Can (2 ^ w) l n) (hd : 1 ≤ d ∧ d < 2 ^ w) :
    GCall g (g.fa "divrem_limb") 2 [.list (zints l), .int d, .int w] (fun _ => none) (fun x _ => ∃ q, x = .tup [q, .int (n % d)] ∧ IsNat w q (n / d)) := by
  have hB := one_lt_pow hw.1
  have hB30 := pow_le30 (w := w) (by (first | lia | omega))
  refine' gcall (d := dOf 6) (dOf_mem 6 (by decide)) (hbody := ?enB) (hscope := ?enS) (hparams := ?enP) (hname := rfl) (names := ["a", "limb", "w"]) (hk := ?enK) (hbind := ?enI) (hloc := ?enL) (h := ?enH) (hco := ?enC) (hgen := ?enG) (hcell := ?enE)
  case enB => (conv => lhs; whnf)
  case enS => (conv => lhs; whnf)
  case enP => (conv => lhs; whnf)
  case enK => rfl
  case enI => exact args3 fun _ _ _ _ _ _ => rfl
  case enL => decide +kernel
  case enC => rfl
  case enG => rfl
  case enE => decide +kernel
  with_reducible refine' wS_cons ?_
  with_reducible refine' wX_if ?_
  (with_reducible refine' wT_cmp ?h_3 ?hm_3); (case hm_3 => with_unfolding_all exact rfl)
  (with_reducible refine' wE_local ?hv_4 ?h_4 ?hl_4 ?hd_4); (case hl_4 => exact rfl); (case hd_4 => decide +kernel); (case hv_4 => none_booked)
  with_reducible refine' wE_int ?_
  with_reducible refine' c_eq ?_
  with_reducible refine' exTB ?_
  refine iteEq (fun h => absurd h (by (first | lia | omega))) (fun h => ?_)
  with_reducible refine' wS_nil ?_
  with_reducible refine' wS_cons ?_
  (with_reducible refine' wX_swap2 ?h_10 ?h1_10 ?h2_10 ?h3_10 ?h4_10); (case h4_10 => (intros; exact rfl)); (case h1_10 => exact rfl); (case h2_10 => exact rfl); (case h3_10 => (intros; exact rfl))
  with_reducible refine' wE_tuple ?_
  (with_reducible refine' wA_cons ?h_12 ?hs_12); (case hs_12 => (intro _; exact rfl))
  with_reducible refine' wE_binop ?_
  with_reducible refine' wE_listOf ?_
  (with_reducible refine' wA_cons ?h_15 ?hs_15); (case hs_15 => (intro _; exact rfl))
  with_reducible refine' wE_int ?_
  with_reducible refine' wA_nil ?_
  (with_reducible refine' andLen ?h1_18 ?h_18); (case h1_18 => (simp; done))
  (with_reducible refine' wE_len ?h_19 ?h1_19 ?h2_19 ?h3_19 ?h4_19); (case h1_19 => exact rfl); (case h2_19 => (intro _; exact rfl)); (case h3_19 => (intro _; exact ⟨_, _, rfl, rfl⟩)); (case h4_19 => (intro _; exact rfl))
  (with_reducible refine' wE_local ?hv_20 ?h_20 ?hl_20 ?hd_20); (case hl_20 => exact rfl); (case hd_20 => decide +kernel); (case hv_20 => none_booked)
  (with_reducible refine' b_len_z ?h1_21 ?h_21); (case h1_21 => (first | lia | omega))
  refine o_repMN (by (first | lia | omega)) fun ad had => ?_
  (with_reducible refine' wA_cons ?h_22 ?hs_22); (case hs_22 => (intro _; exact rfl))
  with_reducible refine' wE_int ?_
  with_reducible refine' wA_nil ?_
  (with_reducible refine' andLen ?h1_25 ?h_25); (case h1_25 => (simp; done))
  with_reducible refine' exT2 ?_
  with_reducible refine' wS_cons ?_
  (with_reducible refine' wX_for ?h_28 ?h1_28 ?h2_28); (case h1_28 => exact rfl); (case h2_28 => (intros; exact rfl))
  (with_reducible refine' wI_rng ?h_29 ?h1_29 ?h2_29 ?h3_29); (case h1_29 => exact rfl); (case h2_29 => (intro _; exact rfl)); (case h3_29 => (intro _; exact ⟨_, _, rfl, rfl⟩))
  (with_reducible refine' wA_cons ?h_30 ?hs_30); (case hs_30 => (intro _; exact rfl))
  with_reducible refine' wE_binop ?_
  (with_reducible refine' wE_len ?h_32 ?h1_32 ?h2_32 ?h3_32 ?h4_32); (case h1_32 => exact rfl); (case h2_32 => (intro _; exact rfl)); (case h3_32 => (intro _; exact ⟨_, _, rfl, rfl⟩)); (case h4_32 => (intro _; exact rfl))
  (with_reducible refine' wE_local ?hv_33 ?h_33 ?hl_33 ?hd_33); (case hl_33 => exact rfl); (case hd_33 => decide +kernel); (case hv_33 => none_booked)
  (with_reducible refine' b_len_z ?h1_34 ?h_34); (case h1_34 => (first | lia | omega))
  with_reducible refine' wE_int ?_
  with_reducible refine' o_sub ?_
  (with_reducible refine' wA_cons ?h_37 ?hs_37); (case hs_37 => (intro _; exact rfl))
  with_reducible refine' wE_unop ?_
  with_reducible refine' wE_int ?_
  with_reducible refine' o_neg ?_
  (with_reducible refine' wA_cons ?h_41 ?hs_41); (case hs_41 => (intro _; exact rfl))
  with_reducible refine' wE_unop ?_
  with_reducible refine' wE_int ?_
  with_reducible refine' o_neg ?_
  with_reducible refine' wA_nil ?_
  (with_reducible refine' exRngD ?he_46 ?h1_46 ?h2_46 ?h_46); (case he_46 => (first | lia | omega)); (case h1_46 => (unfold Fit; (first | lia | omega))); (case h2_46 => (unfold Fit; (first | lia | omega)))
  obtain ⟨I, hI⟩ : ∃ I : List V → St → Prop, ∀ vs S, I vs S ↔ ∃ (i : Nat) (f : List Int) (rs : Int), vs = downFrom ((i : Int) - 1) i ∧ i ≤ l.length ∧ S.m "a" = some (.list (zints l)) ∧ S.m "w" = some (.int w) ∧ S.m "limb" = some (.int d) ∧
      S.m "found" = some (.ref ad) ∧ S.m "rest" = some (.int rs) ∧ S.σ ad = some (zints f) ∧ Limbs (2 ^ w) f ∧ f.length = l.length ∧ rs = val (2 ^ w) (l.drop i) % d ∧ val (2 ^ w) (f.drop i) = val (2 ^ w) (l.drop i) / d := ⟨_, fun _ _ => Iff.rfl⟩
  refine loop_inv I ?_ ?_ ?_
  · intro v vs S hh
    obtain ⟨i, f, rs, hvs, hi, ha, hww, hm, hf, hc, hs, hlf, hlen, hrs, hv⟩ := (hI _ _).mp hh
    clear hh
    obtain ⟨j, rfl, rfl, rfl⟩ := downFrom_cons hvs
    have ej : ((j + 1 : Nat) : Int) - 1 = (j : Int) := by (first | lia | omega)
    rw [ej]
    have bx := getD_limb (by (first | lia | omega)) h1.limbs j
    have br : 0 ≤ rs ∧ rs < d := by rw [hrs]; exact mod_limb (by (first | lia | omega))
    with_reducible refine' wS_cons ?_
    (with_reducible refine' wX_assign ?h_48 ?hl_48 ?hs_48); (case hl_48 => exact rfl); (case hs_48 => (intros; exact rfl))
    with_reducible refine' wE_binop ?_
    with_reducible refine' wE_binop ?_
    (with_reducible refine' wE_local ?hv_51 ?h_51 ?hl_51 ?hd_51); (case hl_51 => exact rfl); (case hd_51 => decide +kernel); (case hv_51 => none_booked)
    (with_reducible refine' wE_local ?hv_52 ?h_52 ?hl_52 ?hd_52); (case hl_52 => exact rfl); (case hd_52 => decide +kernel); (case hv_52 => none_booked)
    (with_reducible refine' o_shl ?h1_53 ?h2_53 ?h_53); (case h1_53 => (first | lia | omega)); (case h2_53 => (first | lia | omega))
    with_reducible refine' wE_sub ?_
    (with_reducible refine' wE_local ?hv_55 ?h_55 ?hl_55 ?hd_55); (case hl_55 => exact rfl); (case hd_55 => decide +kernel); (case hv_55 => none_booked)
    (with_reducible refine' wE_local ?hv_56 ?h_56 ?hl_56 ?hd_56); (case hl_56 => exact rfl); (case hd_56 => decide +kernel); (case hv_56 => none_booked)
    (with_reducible refine' s_zN ?h1_57 ?h2_57 ?h_57 ?hs_57); (case hs_57 => (intro _ _; exact rfl)); (case h1_57 => (first | lia | omega)); (case h2_57 => (first | lia | omega))
    (with_reducible refine' o_orL ?h1_58 ?h2_58 ?h3_58 ?h_58); (case h1_58 => (first | lia | omega)); (case h2_58 => (first | lia | omega)); (case h3_58 => (first | lia | omega))
    with_reducible refine' wS_cons ?_
    (with_reducible refine' wX_setitem ?h_60 ?h1_60); (case h1_60 => (intros; exact rfl))
    with_reducible refine' wE_binop ?_
    (with_reducible refine' wE_local ?hv_62 ?h_62 ?hl_62 ?hd_62); (case hl_62 => exact rfl); (case hd_62 => decide +kernel); (case hv_62 => none_booked)
    (with_reducible refine' wE_local ?hv_63 ?h_63 ?hl_63 ?hd_63); (case hl_63 => exact rfl); (case hd_63 => decide +kernel); (case hv_63 => none_booked)
    (with_reducible refine' o_div ?h1_64 ?h2_64 ?h_64); (case h1_64 => (first | lia | omega)); (case h2_64 => (first | lia | omega))
    (with_reducible refine' wE_local ?hv_65 ?h_65 ?hl_65 ?hd_65); (case hl_65 => exact rfl); (case hd_65 => decide +kernel); (case hv_65 => none_booked)
    (with_reducible refine' wE_local ?hv_66 ?h_66 ?hl_66 ?hd_66); (case hl_66 => exact rfl); (case hd_66 => decide +kernel); (case hv_66 => none_booked)
    (with_reducible refine' exSetZ ?h1_67 ?h2_67 ?h3_67 ?h4_67 ?h_67); (case h1_67 => none_booked); (case h2_67 => (first | lia | omega)); (case h3_67 => ((try simp only [List.length_set, List.length_replicate, List.length_append, List.length_cons, List.length_nil]); (first | lia | omega))); (case h4_67 => ((try simp only [List.length_set, List.length_replicate, List.length_append, List.length_cons, List.length_nil]); (first | lia | omega)))
    with_reducible refine' wS_cons ?_
    (with_reducible refine' wX_aug ?hv_69 ?h_69 ?hl_69); (case hl_69 => exact rfl); (case hv_69 => none_booked)
    (with_reducible refine' wE_local ?hv_70 ?h_70 ?hl_70 ?hd_70); (case hl_70 => exact rfl); (case hd_70 => decide +kernel); (case hv_70 => none_booked)
    (with_reducible refine' i_md ?h1_71 ?h_71); (case h1_71 => (first | lia | omega))
    with_reducible refine' wS_nil ?_
    try simp only [Int.toNat_natCast]
    have hV := drop_step (2 ^ w) (l := l) (i := j) (by (first | lia | omega))
    generalize hVd : val (2 ^ w) (l.drop (j + 1)) = Vn at *
    have hdm := Int.mul_ediv_add_emod Vn d
    have e1 : val (2 ^ w) (l.drop j) = (rs * 2 ^ w + l.getD j 0) + d * (2 ^ w * (Vn / d)) := by
      rw [hV, hrs]
      have : (2 : Int) ^ w * Vn = 2 ^ w * (d * (Vn / d)) + 2 ^ w * (Vn % d) := by rw [← Int.mul_add, hdm]
      rw [this, Int.mul_comm (Vn % d), Int.mul_left_comm]
      (first | lia | omega)
    have e2 : val (2 ^ w) (l.drop j) / d = (rs * 2 ^ w + l.getD j 0) / d + 2 ^ w * (Vn / d) := by
      rw [e1, Int.add_mul_ediv_left _ _ (by (first | lia | omega))]
    have e3 : val (2 ^ w) (l.drop j) % d = (rs * 2 ^ w + l.getD j 0) % d := by
      rw [e1, Int.add_mul_emod_self_left]
    have bq : 0 ≤ (rs * 2 ^ w + l.getD j 0) / d ∧ (rs * 2 ^ w + l.getD j 0) / d < 2 ^ w := by
      have h0 : 0 ≤ rs * 2 ^ w := Int.mul_nonneg br.1 (by (first | lia | omega))
      refine ⟨Int.ediv_nonneg (by (first | lia | omega)) (by (first | lia | omega)), Int.ediv_lt_of_lt_mul (by (first | lia | omega)) ?_⟩
      have : (rs + 1) * 2 ^ w ≤ d * 2 ^ w := Int.mul_le_mul_of_nonneg_right (by (first | lia | omega)) (by (first | lia | omega))
      rw [Int.add_mul, Int.one_mul] at this
      rw [Int.mul_comm (2 ^ w) d]
      (first | lia | omega)
    refine (hI _ _).mpr ⟨j, f.set j ((rs * 2 ^ w + l.getD j 0) / d), (rs * 2 ^ w + l.getD j 0) % d, by congr 1 <;> (first | lia | omega), by (first | lia | omega), by none_booked, by none_booked, by none_booked, by none_booked, by none_booked, by none_booked, hlf.set _ bq, by simp [hlen], e3.symm, ?_⟩
    rw [e2, drop_step (2 ^ w) (by simp; (first | lia | omega))]
    have g1 : (f.set j ((rs * 2 ^ w + l.getD j 0) / d)).getD j 0 = (rs * 2 ^ w + l.getD j 0) / d := by
      rw [List.getD_eq_getElem?_getD, List.getElem?_set_self (by (first | lia | omega))]; rfl
    have g2 : (f.set j ((rs * 2 ^ w + l.getD j 0) / d)).drop (j + 1) = f.drop (j + 1) := by
      rw [List.drop_set_of_lt (by (first | lia | omega))]
    rw [g1, g2, hv]
  · intro S hh
    obtain ⟨i, f, rs, hvs, hi, ha, hww, hm, hf, hc, hs, hlf, hlen, hrs, hv⟩ := (hI _ _).mp hh
    clear hh
    have : i = 0 := downFrom_nil hvs
    subst this
    simp only [List.drop_zero] at hrs hv
    rw [h1.val] at hrs hv
    refine w_freeze "found" hf hs ?_
    with_reducible refine' wS_cons ?_
    with_reducible refine' wX_return ?_
    with_reducible refine' wE_tuple ?_
    (with_reducible refine' wA_cons ?h_76 ?hs_76); (case hs_76 => (intro _; exact rfl))
    (with_reducible refine' wE_def ?h_77 ?h1_77 ?h2_77 ?h3_77 ?h4_77 ?h5_77); (case h1_77 => decide +kernel); (case h2_77 => exact rfl); (case h3_77 => decide +kernel); (case h4_77 => (intro _; exact rfl)); (case h5_77 => (intro _; exact ⟨_, _, rfl, rfl⟩))
    (with_reducible refine' wA_cons ?h_78 ?hs_78); (case hs_78 => (intro _; exact rfl))
    (with_reducible refine' wE_local ?hv_79 ?h_79 ?hl_79 ?hd_79); (case hl_79 => exact rfl); (case hd_79 => decide +kernel); (case hv_79 => none_booked)
    with_reducible refine' wA_nil ?_
    refine op_pure (t_normal f (by (first | lia | omega))) (by decide) fun x hx => ?_
    subst hx
    (with_reducible refine' wA_cons ?h_81 ?hs_81); (case hs_81 => (intro _; exact rfl))
    (with_reducible refine' wE_local ?hv_82 ?h_82 ?hl_82 ?hd_82); (case hl_82 => exact rfl); (case hd_82 => decide +kernel); (case hv_82 => none_booked)
    with_reducible refine' wA_nil ?_
    (with_reducible refine' andLen ?h1_84 ?h_84); (case h1_84 => (simp; done))
    with_reducible refine' exR ?_
    have := normL_can (by (first | lia | omega)) hlf
    rw [hv] at this
    exact ⟨_, by rw [hrs], _, rfl, this⟩
  · refine (hI _ _).mpr ⟨l.length, List.replicate l.length 0, 0, by congr 1; (first | lia | omega), by (first | lia | omega), by none_booked, by none_booked, by none_booked, by none_booked, by none_booked, by none_booked, Limbs.replicate (by (first | lia | omega)) _, by simp, ?_, ?_⟩
    · rw [List.drop_length]; simp [val]
    · rw [List.drop_length, List.drop_eq_nil_of_le (by simp)]; simp [val]
theorem t_bits (w : Nat) (hw : 1 ≤ w ∧ w ≤ 29) (x : Int) : GCall g (g.fa "bits") 1 [.list (zints [x]), .int w] (fun _ => none) (fun v _ => v = .int (Builtin.Int.intBits x)) := by
  refine' gcall (d := dOf 9) (dOf_mem 9 (by decide)) (hbody := ?enB) (hscope := ?enS) (hparams := ?enP) (hname := rfl) (names := ["a", "w"]) (hk := ?enK) (hbind := ?enI) (hloc := ?enL) (h := ?enH) (hco := ?enC) (hgen := ?enG) (hcell := ?enE)
  case enB => (conv => lhs; whnf)
  case enS => (conv => lhs; whnf)
  case enP => (conv => lhs; whnf)
  case enK => rfl
  case enI => exact args2 fun _ _ _ _ _ => rfl
  case enL => decide +kernel
  case enC => rfl
  case enG => rfl
  case enE => decide +kernel
  with_reducible refine' wS_cons ?_
  with_reducible refine' wX_return ?_
  with_reducible refine' wE_ifexp ?_
  (with_reducible refine' wT_cmp ?h_4 ?hm_4); (case hm_4 => with_unfolding_all exact rfl)
  (with_reducible refine' wE_len ?h_5 ?h1_5 ?h2_5 ?h3_5 ?h4_5); (case h1_5 => exact rfl); (case h2_5 => (intro _; exact rfl)); (case h3_5 => (intro _; exact ⟨_, _, rfl, rfl⟩)); (case h4_5 => (intro _; exact rfl))
  (with_reducible refine' wE_local ?hv_6 ?h_6 ?hl_6 ?hd_6); (case hl_6 => exact rfl); (case hd_6 => decide +kernel); (case hv_6 => none_booked)
  refine b_len_z (by simp) ?_
  with_reducible refine' wE_int ?_
  with_reducible refine' c_gt ?_
  with_reducible refine' exTB ?_
  refine iteD (fun h => ?_) (fun h => absurd (show (0:Int) < ([x].length : Nat) by simp) h)
  with_reducible refine' wE_binop ?_
  with_reducible refine' wE_binop ?_
  with_reducible refine' wE_binop ?_
  (with_reducible refine' wE_len ?h_13 ?h1_13 ?h2_13 ?h3_13 ?h4_13); (case h1_13 => exact rfl); (case h2_13 => (intro _; exact rfl)); (case h3_13 => (intro _; exact ⟨_, _, rfl, rfl⟩)); (case h4_13 => (intro _; exact rfl))
  (with_reducible refine' wE_local ?hv_14 ?h_14 ?hl_14 ?hd_14); (case hl_14 => exact rfl); (case hd_14 => decide +kernel); (case hv_14 => none_booked)
  refine b_len_z (by simp) ?_
  with_reducible refine' wE_int ?_
  with_reducible refine' o_sub ?_
  (with_reducible refine' wE_local ?hv_17 ?h_17 ?hl_17 ?hd_17); (case hl_17 => exact rfl); (case hd_17 => decide +kernel); (case hv_17 => none_booked)
  refine o_mulS (by simp) ?_
  (with_reducible refine' wE_bitlen ?h_18 ?h1_18 ?h2_18); (case h1_18 => (intro _; exact rfl)); (case h2_18 => exact rfl)
  with_reducible refine' wE_sub ?_
  (with_reducible refine' wE_local ?hv_20 ?h_20 ?hl_20 ?hd_20); (case hl_20 => exact rfl); (case hd_20 => decide +kernel); (case hv_20 => none_booked)
  with_reducible refine' wE_unop ?_
  with_reducible refine' wE_int ?_
  with_reducible refine' o_neg ?_
  refine s_list (x := .int x) (by rfl) (by simp [zints]) (by simp [zints]) ?_
  with_reducible refine' exI ?_
  with_reducible refine' o_add ?_
  with_reducible refine' exR ?_
  simp
end
section
variable {p : Program} {g : G p} {c : Cx} {S : St}
theorem o_catZ {l : List Int} {x : Int} {Q : V → St → Prop} (hsz : l.length + 1 ≤ 2 ^ 24) (h : Q (.list (zints (l ++ [x]))) S) : Op2 g c Rep (binaryOp .Add) (.list (zints l)) (.list [.int x]) S Q :=
  o_catF (by rw [zints_length]; exact hsz) (by rw [zints_append] at h; exact h)
end
theorem pow_pow (w k : Nat) : ((2 : Int) ^ w) ^ k = 2 ^ (w * k) := Int.pow_mul.symm
theorem zints_cons {v : V} {vs : List V} {l : List Int} {i : Nat} (h : v :: vs = zints (l.drop i)) : i < l.length ∧ v = .int (l.getD i 0) ∧ vs = zints (l.drop (i + 1)) := by
  have hil : i < l.length := by
    apply Nat.lt_of_not_le
    intro hle
    rw [List.drop_eq_nil_of_le hle] at h; cases h
  have hx := getD_get hil
  rw [List.drop_eq_getElem_cons hil] at h
  refine ⟨hil, ?_, (List.cons.inj h).2⟩
  rw [List.getElem?_eq_getElem hil] at hx
  rw [← Option.some.inj hx]
  exact (List.cons.inj h).1
theorem zints_nil {l : List Int} {i : Nat} (h : [] = zints (l.drop i)) : l.length ≤ i := by
  have : (zints (l.drop i)).length = 0 := by rw [← h]; rfl
  rw [zints_length, List.length_drop] at this
  (first | lia | omega)
theorem ediv_ediv_pos {a b c : Int} (hb : 0 < b) (hc : 0 < c) : a / b / c = a / (b * c) := by
  rw [Int.ediv_ediv_of_nonneg (by (first | lia | omega))]
/-- a number and its limbs from a place on -/
theorem val_drop_div {B : Int} (hB : 1 < B) {l : List Int} (h : Limbs B l) (k : Nat) : val B (l.drop k) = val B l / B ^ k := by
  have hp := pow_pos' (B := B) (by (first | lia | omega)) k
  by_cases hk : k ≤ l.length
  · have e := val_take_drop B l k hk
    have a := val_nonneg (by (first | lia | omega)) (h.take k)
    have b := val_lt (by (first | lia | omega)) (h.take k)
    rw [List.length_take, Nat.min_eq_left hk] at b
    rw [e, Int.add_mul_ediv_left _ _ (by (first | lia | omega)), Int.ediv_eq_zero_of_lt a b, Int.zero_add]
  · rw [List.drop_eq_nil_of_le (by (first | lia | omega))]
    have a := val_nonneg (by (first | lia | omega)) h
    have b := val_lt (by (first | lia | omega)) h
    have := pow_mono' hB (show l.length ≤ k by (first | lia | omega))
    rw [Int.ediv_eq_zero_of_lt a (by (first | lia | omega))]; rfl
section
variable {g : G PP}
theorem t_shift_left (w : Nat) (hw : 1 ≤ w ∧ w ≤ 29) (l : List Int) (n : Int) (s : Nat) (hl : l.length ≤ 2 ^ 20) (hs : s ≤ 1000) (h1 : Can (2 ^ w) l n) :
    GCall g (g.fa "shift_left") 1 [.list (zints l), .int s, .int w] (fun _ => none) (fun x _ => IsNat w x (n * 2 ^ s)) := by
  have hB := one_lt_pow hw.1
  have hB30 := pow_le30 (w := w) (by (first | lia | omega))
  refine' gcall (d := dOf 7) (dOf_mem 7 (by decide)) (hbody := ?enB) (hscope := ?enS) (hparams := ?enP) (hname := rfl) (names := ["a", "n", "w"]) (hk := ?enK) (hbind := ?enI) (hloc := ?enL) (h := ?enH) (hco := ?enC) (hgen := ?enG) (hcell := ?enE)
  case enB => (conv => lhs; whnf)
  case enS => (conv => lhs; whnf)
  case enP => (conv => lhs; whnf)
  case enK => rfl
  case enI => exact args3 fun _ _ _ _ _ _ => rfl
  case enL => decide +kernel
  case enC => rfl
  case enG => rfl
  case enE => decide +kernel
  with_reducible refine' wS_cons ?_
  with_reducible refine' wX_if ?_
  (with_reducible refine' wT_cmp ?h_3 ?hm_3); (case hm_3 => with_unfolding_all exact rfl)
  (with_reducible refine' wE_len ?h_4 ?h1_4 ?h2_4 ?h3_4 ?h4_4); (case h1_4 => exact rfl); (case h2_4 => (intro _; exact rfl)); (case h3_4 => (intro _; exact ⟨_, _, rfl, rfl⟩)); (case h4_4 => (intro _; exact rfl))
  (with_reducible refine' wE_local ?hv_5 ?h_5 ?hl_5 ?hd_5); (case hl_5 => exact rfl); (case hd_5 => decide +kernel); (case hv_5 => none_booked)
  (with_reducible refine' b_len_z ?h1_6 ?h_6); (case h1_6 => (first | lia | omega))
  with_reducible refine' wE_int ?_
  with_reducible refine' c_eq ?_
  with_reducible refine' exTB ?_
  refine iteEq (fun h => ?_) (fun h => ?_)
  · with_reducible refine' wS_cons ?_
    with_reducible refine' wX_return ?_
    refine wE_listEmp ?_
    with_reducible refine' exR ?_
    have : l = [] := List.length_eq_zero_iff.mp (by (first | lia | omega))
    subst this
    have : n = 0 := h1.val.symm
    subst this
    exact ⟨[], rfl, by rw [Int.zero_mul]; exact Can.nil⟩
  · with_reducible refine' wS_nil ?_
    with_reducible refine' wS_cons ?_
    (with_reducible refine' wX_swap2 ?h_15 ?h1_15 ?h2_15 ?h3_15 ?h4_15); (case h4_15 => (intros; exact rfl)); (case h1_15 => exact rfl); (case h2_15 => exact rfl); (case h3_15 => (intros; exact rfl))
    with_reducible refine' wE_tuple ?_
    (with_reducible refine' wA_cons ?h_17 ?hs_17); (case hs_17 => (intro _; exact rfl))
    with_reducible refine' wE_binop ?_
    (with_reducible refine' wE_local ?hv_19 ?h_19 ?hl_19 ?hd_19); (case hl_19 => exact rfl); (case hd_19 => decide +kernel); (case hv_19 => none_booked)
    (with_reducible refine' wE_local ?hv_20 ?h_20 ?hl_20 ?hd_20); (case hl_20 => exact rfl); (case hd_20 => decide +kernel); (case hv_20 => none_booked)
    (with_reducible refine' o_divN ?h1_21 ?h2_21 ?h_21); (case h1_21 => (first | lia | omega)); (case h2_21 => (first | lia | omega))
    (with_reducible refine' wA_cons ?h_22 ?hs_22); (case hs_22 => (intro _; exact rfl))
    with_reducible refine' wE_binop ?_
    (with_reducible refine' wE_local ?hv_24 ?h_24 ?hl_24 ?hd_24); (case hl_24 => exact rfl); (case hd_24 => decide +kernel); (case hv_24 => none_booked)
    (with_reducible refine' wE_local ?hv_25 ?h_25 ?hl_25 ?hd_25); (case hl_25 => exact rfl); (case hd_25 => decide +kernel); (case hv_25 => none_booked)
    (with_reducible refine' o_mdN ?h1_26 ?h_26); (case h1_26 => (first | lia | omega))
    with_reducible refine' wA_nil ?_
    (with_reducible refine' andLen ?h1_28 ?h_28); (case h1_28 => (simp; done))
    with_reducible refine' exT2 ?_
    with_reducible refine' wS_cons ?_
    (with_reducible refine' wX_swap3 ?h_31 ?h1_31 ?h2_31 ?h5_31 ?h3_31 ?h4_31); (case h4_31 => (intros; exact rfl)); (case h1_31 => exact rfl); (case h2_31 => exact rfl); (case h5_31 => exact rfl); (case h3_31 => (intros; exact rfl))
    with_reducible refine' wE_tuple ?_
    (with_reducible refine' wA_cons ?h_33 ?hs_33); (case hs_33 => (intro _; exact rfl))
    with_reducible refine' wE_binop ?_
    with_reducible refine' wE_listOf ?_
    (with_reducible refine' wA_cons ?h_36 ?hs_36); (case hs_36 => (intro _; exact rfl))
    with_reducible refine' wE_int ?_
    with_reducible refine' wA_nil ?_
    (with_reducible refine' andLen ?h1_39 ?h_39); (case h1_39 => (simp; done))
    (with_reducible refine' wE_local ?hv_40 ?h_40 ?hl_40 ?hd_40); (case hl_40 => exact rfl); (case hd_40 => decide +kernel); (case hv_40 => none_booked)
    refine o_repMN (by have := Nat.div_le_self s w; (first | lia | omega)) fun ad had => ?_
    (with_reducible refine' wA_cons ?h_41 ?hs_41); (case hs_41 => (intro _; exact rfl))
    with_reducible refine' wE_int ?_
    (with_reducible refine' wA_cons ?h_43 ?hs_43); (case hs_43 => (intro _; exact rfl))
    with_reducible refine' wE_binop ?_
    with_reducible refine' wE_binop ?_
    with_reducible refine' wE_int ?_
    (with_reducible refine' wE_local ?hv_47 ?h_47 ?hl_47 ?hd_47); (case hl_47 => exact rfl); (case hd_47 => decide +kernel); (case hv_47 => none_booked)
    (with_reducible refine' o_shl1 ?h1_48 ?h_48); (case h1_48 => (first | lia | omega))
    with_reducible refine' wE_int ?_
    with_reducible refine' o_sub ?_
    with_reducible refine' wA_nil ?_
    (with_reducible refine' andLen ?h1_52 ?h_52); (case h1_52 => (simp; done))
    with_reducible refine' exT3 ?_
    with_reducible refine' wS_cons ?_
    (with_reducible refine' wX_for ?h_55 ?h1_55 ?h2_55); (case h1_55 => exact rfl); (case h2_55 => (intros; exact rfl))
    with_reducible refine' wI_list ?_
    (with_reducible refine' wE_local ?hv_57 ?h_57 ?hl_57 ?hd_57); (case hl_57 => exact rfl); (case hd_57 => decide +kernel); (case hv_57 => none_booked)
    with_reducible refine' exL ?_
    have hfew : s % w < w := Nat.mod_lt _ (by (first | lia | omega))
    generalize hsp : s / w = sp at *
    generalize hfe : s % w = fe at *
    have hspl : sp ≤ 1000 := by have := Nat.div_le_self s w; (first | lia | omega)
    have hsum : s = w * sp + fe := by rw [← hsp, ← hfe]; exact (Nat.div_add_mod s w).symm
    have hfp := pow2_nonneg fe
    have hfp1 : (0 : Int) < 2 ^ fe := Int.pow_pos (by decide)
    obtain ⟨I, hI⟩ : ∃ I : List V → St → Prop, ∀ vs S, I vs S ↔ ∃ (i : Nat) (f : List Int) (cr : Int), vs = zints (l.drop i) ∧ i ≤ l.length ∧ S.m "few" = some (.int fe) ∧ S.m "w" = some (.int w) ∧ S.m "mask" = some (.int (2 ^ w - 1)) ∧
        S.m "found" = some (.ref ad) ∧ S.m "carry" = some (.int cr) ∧ S.σ ad = some (zints f) ∧ Limbs (2 ^ w) f ∧ f.length = sp + i ∧ (0 ≤ cr ∧ cr < 2 ^ fe) ∧ val (2 ^ w) f + (2 ^ w) ^ (sp + i) * cr = (2 ^ w) ^ sp * (val (2 ^ w) (l.take i) * 2 ^ fe) := ⟨_, fun _ _ => Iff.rfl⟩
    refine loop_inv I ?_ ?_ ?_
    · intro v vs S hh
      obtain ⟨i, f, cr, hvs, hi, hfw, hww, hm, hf, hc, hs', hlf, hlen, hcr, hv⟩ := (hI _ _).mp hh
      clear hh
      obtain ⟨hil, rfl, rfl⟩ := zints_cons hvs
      have bx := getD_limb (by (first | lia | omega)) h1.limbs i
      with_reducible refine' wS_cons ?_
      (with_reducible refine' wX_aug ?hv_60 ?h_60 ?hl_60); (case hl_60 => exact rfl); (case hv_60 => none_booked)
      with_reducible refine' wE_binop ?_
      (with_reducible refine' wE_local ?hv_62 ?h_62 ?hl_62 ?hd_62); (case hl_62 => exact rfl); (case hd_62 => decide +kernel); (case hv_62 => none_booked)
      (with_reducible refine' wE_local ?hv_63 ?h_63 ?hl_63 ?hd_63); (case hl_63 => exact rfl); (case hd_63 => decide +kernel); (case hv_63 => none_booked)
      (with_reducible refine' o_shl ?h1_64 ?h2_64 ?h_64); (case h1_64 => (first | lia | omega)); (case h2_64 => (first | lia | omega))
      (with_reducible refine' i_orR ?h1_65 ?h2_65 ?h3_65 ?h_65); (case h1_65 => (first | lia | omega)); (case h2_65 => (first | lia | omega)); (case h3_65 => (first | lia | omega))
      with_reducible refine' wS_cons ?_
      (with_reducible refine' wX_append ?h_67 ?h1_67 ?h2_67 ?h3_67 ?h4_67 ?h5_67); (case h1_67 => (intros; exact rfl)); (case h2_67 => exact rfl); (case h3_67 => (intros; exact rfl)); (case h4_67 => (intros; exact rfl)); (case h5_67 => (intros; exact rfl))
      (with_reducible refine' wE_local ?hv_68 ?h_68 ?hl_68 ?hd_68); (case hl_68 => exact rfl); (case hd_68 => decide +kernel); (case hv_68 => none_booked)
      (with_reducible refine' exApp ?h1_69 ?h_69); (case h1_69 => none_booked)
      with_reducible refine' wE_binop ?_
      (with_reducible refine' wE_local ?hv_71 ?h_71 ?hl_71 ?hd_71); (case hl_71 => exact rfl); (case hd_71 => decide +kernel); (case hv_71 => none_booked)
      (with_reducible refine' wE_local ?hv_72 ?h_72 ?hl_72 ?hd_72); (case hl_72 => exact rfl); (case hd_72 => decide +kernel); (case hv_72 => none_booked)
      with_reducible refine' o_mask ?_
      (with_reducible refine' exAppZ ?h1_74 ?h2_74 ?h_74); (case h1_74 => none_booked); (case h2_74 => (first | lia | omega))
      with_reducible refine' wS_cons ?_
      (with_reducible refine' wX_aug ?hv_76 ?h_76 ?hl_76); (case hl_76 => exact rfl); (case hv_76 => none_booked)
      (with_reducible refine' wE_local ?hv_77 ?h_77 ?hl_77 ?hd_77); (case hl_77 => exact rfl); (case hd_77 => decide +kernel); (case hv_77 => none_booked)
      with_reducible refine' i_shr ?_
      with_reducible refine' wS_nil ?_
      have hc0 : 0 ≤ l.getD i 0 * 2 ^ fe := Int.mul_nonneg bx.1 hfp
      have hc1 : cr + l.getD i 0 * 2 ^ fe < 2 ^ w * 2 ^ fe := by
        have : (l.getD i 0 + 1) * 2 ^ fe ≤ 2 ^ w * 2 ^ fe := Int.mul_le_mul_of_nonneg_right (by (first | lia | omega)) hfp
        rw [Int.add_mul, Int.one_mul] at this
        (first | lia | omega)
      refine (hI _ _).mpr ⟨i + 1, f ++ [(cr + l.getD i 0 * 2 ^ fe) % 2 ^ w], (cr + l.getD i 0 * 2 ^ fe) / 2 ^ w, rfl, by (first | lia | omega), by none_booked, by none_booked, by none_booked, by none_booked, by none_booked, by none_booked, hlf.snoc (mod_limb (by (first | lia | omega))), by simp [hlen]; (first | lia | omega), ⟨Int.ediv_nonneg (by (first | lia | omega)) (by (first | lia | omega)), Int.ediv_lt_of_lt_mul (by (first | lia | omega)) (by rw [Int.mul_comm (2 ^ fe) (2 ^ w)]; exact hc1)⟩, ?_⟩
      rw [show sp + (i + 1) = (sp + i) + 1 by (first | lia | omega), carry_step hlen, val_take_succ', Int.mul_add, Int.add_mul, Int.mul_add, Int.pow_add]
      rw [Int.pow_add] at hv
      rw [← Int.add_assoc, hv]
      simp only [Int.mul_assoc]
    · intro S hh
      obtain ⟨i, f, cr, hvs, hi, hfw, hww, hm, hf, hc, hs', hlf, hlen, hcr, hv⟩ := (hI _ _).mp hh
      clear hh
      have : i = l.length := by have := zints_nil hvs; (first | lia | omega)
      subst this
      rw [List.take_length, h1.val] at hv
      have hgoal : n * 2 ^ s = (2 ^ w) ^ sp * (n * 2 ^ fe) := by
        rw [hsum, Int.pow_add, ← pow_pow, Int.mul_left_comm]
      rw [hgoal]
      have hpw : (2 : Int) ^ fe ≤ 2 ^ w := pow_mono' (by decide) (by (first | lia | omega))
      with_reducible refine' wS_cons ?_
      with_reducible refine' wX_if ?_
      (with_reducible refine' wT_cmp ?h_82 ?hm_82); (case hm_82 => with_unfolding_all exact rfl)
      (with_reducible refine' wE_local ?hv_83 ?h_83 ?hl_83 ?hd_83); (case hl_83 => exact rfl); (case hd_83 => decide +kernel); (case hv_83 => none_booked)
      with_reducible refine' wE_int ?_
      with_reducible refine' c_gt ?_
      with_reducible refine' exTB ?_
      refine iteD (fun h => ?_) (fun h => ?_)
      · with_reducible refine' wS_cons ?_
        (with_reducible refine' wX_append ?h_88 ?h1_88 ?h2_88 ?h3_88 ?h4_88 ?h5_88); (case h1_88 => (intros; exact rfl)); (case h2_88 => exact rfl); (case h3_88 => (intros; exact rfl)); (case h4_88 => (intros; exact rfl)); (case h5_88 => (intros; exact rfl))
        (with_reducible refine' wE_local ?hv_89 ?h_89 ?hl_89 ?hd_89); (case hl_89 => exact rfl); (case hd_89 => decide +kernel); (case hv_89 => none_booked)
        (with_reducible refine' exApp ?h1_90 ?h_90); (case h1_90 => none_booked)
        (with_reducible refine' wE_local ?hv_91 ?h_91 ?hl_91 ?hd_91); (case hl_91 => exact rfl); (case hd_91 => decide +kernel); (case hv_91 => none_booked)
        (with_reducible refine' exAppZ ?h1_92 ?h2_92 ?h_92); (case h1_92 => none_booked); (case h2_92 => (first | lia | omega))
        with_reducible refine' wS_nil ?_
        with_reducible refine' wS_cons ?_
        (with_reducible refine' wX_retRef ?h1_95 ?h2_95 ?h_95 ?hl_95 ?hd_95); (case hl_95 => exact rfl); (case hd_95 => decide +kernel); (case h1_95 => none_booked); (case h2_95 => none_booked)
        with_reducible refine' exR ?_
        refine ⟨f ++ [cr], rfl, hlf.snoc (by (first | lia | omega)), ?_, by simp; (first | lia | omega)⟩
        rw [val_snoc, hlen, hv]
      · with_reducible refine' wS_nil ?_
        with_reducible refine' wS_cons ?_
        (with_reducible refine' wX_retRef ?h1_99 ?h2_99 ?h_99 ?hl_99 ?hd_99); (case hl_99 => exact rfl); (case hd_99 => decide +kernel); (case h1_99 => none_booked); (case h2_99 => none_booked)
        with_reducible refine' exR ?_
        have e0 : cr = 0 := by (first | lia | omega)
        subst e0
        rw [Int.mul_zero, Int.add_zero] at hv
        refine ⟨f, rfl, hlf, hv, top_of hB hlf fun hne => ?_⟩
        rw [hv, hlen]
        have hlne : l ≠ [] := fun e => by subst e; exact h rfl
        have q1 := h1.low hB hlne
        have q2 : sp + l.length - 1 = sp + (l.length - 1) := by
          have : l.length ≠ 0 := fun e => hlne (List.length_eq_zero_iff.mp e)
          (first | lia | omega)
        rw [q2, Int.pow_add]
        refine Int.mul_le_mul_of_nonneg_left ?_ (Int.le_of_lt (pow_pos' (by (first | lia | omega)) sp))
        have q3 := h1.nonneg (by (first | lia | omega))
        have : n * 1 ≤ n * 2 ^ fe := Int.mul_le_mul_of_nonneg_left (by (first | lia | omega)) q3
        (first | lia | omega)
    · refine (hI _ _).mpr ⟨0, List.replicate sp 0, 0, by simp, by (first | lia | omega), by none_booked, by none_booked, by none_booked, by none_booked, by none_booked, by none_booked, Limbs.replicate (by (first | lia | omega)) _, by simp, by (first | lia | omega), ?_⟩
      rw [val_replicate]; simp [val]
end
section
variable {g : G PP}
/-- one limb of a number moved down -/
theorem shr_step {w fe : Nat} (hfe : fe < w) {x y V' : Int} (hx : 0 ≤ x ∧ x < 2 ^ w) :
    (x + 2 ^ w * (y + 2 ^ w * V')) / 2 ^ fe % 2 ^ w = (x / 2 ^ fe + y * 2 ^ (w - fe)) % 2 ^ w ∧ (x + 2 ^ w * (y + 2 ^ w * V')) / 2 ^ fe / 2 ^ w = (y + 2 ^ w * V') / 2 ^ fe := by
  have e : (2 : Int) ^ w = 2 ^ fe * 2 ^ (w - fe) := by rw [← Int.pow_add]; congr 1; (first | lia | omega)
  have hp : (0 : Int) < 2 ^ fe := Int.pow_pos (by decide)
  have hp2 : (0 : Int) < 2 ^ w := Int.pow_pos (by decide)
  constructor
  · have : x + 2 ^ w * (y + 2 ^ w * V') = x + 2 ^ fe * (2 ^ (w - fe) * (y + 2 ^ w * V')) := by rw [← Int.mul_assoc, ← e]
    rw [this, Int.add_mul_ediv_left _ _ (by (first | lia | omega))]
    have : x / 2 ^ fe + 2 ^ (w - fe) * (y + 2 ^ w * V') = (x / 2 ^ fe + y * 2 ^ (w - fe)) + 2 ^ w * (2 ^ (w - fe) * V') := by
      rw [Int.mul_add, Int.mul_comm y, Int.mul_left_comm]; (first | lia | omega)
    rw [this, Int.add_mul_emod_self_left]
  · rw [ediv_ediv_pos hp hp2, Int.mul_comm ((2 : Int) ^ fe) (2 ^ w), ← ediv_ediv_pos hp2 hp]
    rw [Int.add_mul_ediv_left _ _ (by (first | lia | omega)), Int.ediv_eq_zero_of_lt hx.1 hx.2, Int.zero_add]
theorem t_shift_right (w : Nat) (hw : 1 ≤ w ∧ w ≤ 29) (l : List Int) (n : Int) (s : Nat) (hl : l.length ≤ 2 ^ 20) (hs : s ≤ 1000) (h1 : Limbs (2 ^ w) l) (hn : val (2 ^ w) l = n) :
    GCall g (g.fa "shift_right") 2 [.list (zints l), .int s, .int w] (fun _ => none) (fun x _ => IsNat w x (n / 2 ^ s)) := by
  have hB := one_lt_pow hw.1
  have hB30 := pow_le30 (w := w) (by (first | lia | omega))
  refine' gcall (d := dOf 8) (dOf_mem 8 (by decide)) (hbody := ?enB) (hscope := ?enS) (hparams := ?enP) (hname := rfl) (names := ["a", "n", "w"]) (hk := ?enK) (hbind := ?enI) (hloc := ?enL) (h := ?enH) (hco := ?enC) (hgen := ?enG) (hcell := ?enE)
  case enB => (conv => lhs; whnf)
  case enS => (conv => lhs; whnf)
  case enP => (conv => lhs; whnf)
  case enK => rfl
  case enI => exact args3 fun _ _ _ _ _ _ => rfl
  case enL => decide +kernel
  case enC => rfl
  case enG => rfl
  case enE => decide +kernel
  with_reducible refine' wS_cons ?_
  (with_reducible refine' wX_swap2 ?h_2 ?h1_2 ?h2_2 ?h3_2 ?h4_2); (case h4_2 => (intros; exact rfl)); (case h1_2 => exact rfl); (case h2_2 => exact rfl); (case h3_2 => (intros; exact rfl))
  with_reducible refine' wE_tuple ?_
  (with_reducible refine' wA_cons ?h_4 ?hs_4); (case hs_4 => (intro _; exact rfl))
  with_reducible refine' wE_binop ?_
  (with_reducible refine' wE_local ?hv_6 ?h_6 ?hl_6 ?hd_6); (case hl_6 => exact rfl); (case hd_6 => decide +kernel); (case hv_6 => none_booked)
  (with_reducible refine' wE_local ?hv_7 ?h_7 ?hl_7 ?hd_7); (case hl_7 => exact rfl); (case hd_7 => decide +kernel); (case hv_7 => none_booked)
  (with_reducible refine' o_divN ?h1_8 ?h2_8 ?h_8); (case h1_8 => (first | lia | omega)); (case h2_8 => (first | lia | omega))
  (with_reducible refine' wA_cons ?h_9 ?hs_9); (case hs_9 => (intro _; exact rfl))
  with_reducible refine' wE_binop ?_
  (with_reducible refine' wE_local ?hv_11 ?h_11 ?hl_11 ?hd_11); (case hl_11 => exact rfl); (case hd_11 => decide +kernel); (case hv_11 => none_booked)
  (with_reducible refine' wE_local ?hv_12 ?h_12 ?hl_12 ?hd_12); (case hl_12 => exact rfl); (case hd_12 => decide +kernel); (case hv_12 => none_booked)
  (with_reducible refine' o_mdN ?h1_13 ?h_13); (case h1_13 => (first | lia | omega))
  with_reducible refine' wA_nil ?_
  (with_reducible refine' andLen ?h1_15 ?h_15); (case h1_15 => (simp; done))
  with_reducible refine' exT2 ?_
  with_reducible refine' wS_cons ?_
  (with_reducible refine' wX_swap2 ?h_18 ?h1_18 ?h2_18 ?h3_18 ?h4_18); (case h4_18 => (intros; exact rfl)); (case h1_18 => exact rfl); (case h2_18 => exact rfl); (case h3_18 => (intros; exact rfl))
  with_reducible refine' wE_tuple ?_
  (with_reducible refine' wA_cons ?h_20 ?hs_20); (case hs_20 => (intro _; exact rfl))
  refine wE_listNew fun ad had => ?_
  have hspl0 := Nat.div_le_self s w
  have hspl1 := Int.natCast_nonneg (s / w)
  have hspl2 : ((s / w : Nat) : Int) ≤ 1000 := by exact_mod_cast (by (first | lia | omega) : s / w ≤ 1000)
  (with_reducible refine' wA_cons ?h_21 ?hs_21); (case hs_21 => (intro _; exact rfl))
  with_reducible refine' wE_binop ?_
  with_reducible refine' wE_binop ?_
  with_reducible refine' wE_int ?_
  (with_reducible refine' wE_local ?hv_25 ?h_25 ?hl_25 ?hd_25); (case hl_25 => exact rfl); (case hd_25 => decide +kernel); (case hv_25 => none_booked)
  (with_reducible refine' o_shl1 ?h1_26 ?h_26); (case h1_26 => (first | lia | omega))
  with_reducible refine' wE_int ?_
  with_reducible refine' o_sub ?_
  with_reducible refine' wA_nil ?_
  (with_reducible refine' andLen ?h1_30 ?h_30); (case h1_30 => (simp; done))
  with_reducible refine' exT2 ?_
  with_reducible refine' wS_cons ?_
  (with_reducible refine' wX_for ?h_33 ?h1_33 ?h2_33); (case h1_33 => exact rfl); (case h2_33 => (intros; exact rfl))
  (with_reducible refine' wI_rng ?h_34 ?h1_34 ?h2_34 ?h3_34); (case h1_34 => exact rfl); (case h2_34 => (intro _; exact rfl)); (case h3_34 => (intro _; exact ⟨_, _, rfl, rfl⟩))
  (with_reducible refine' wA_cons ?h_35 ?hs_35); (case hs_35 => (intro _; exact rfl))
  (with_reducible refine' wE_local ?hv_36 ?h_36 ?hl_36 ?hd_36); (case hl_36 => exact rfl); (case hd_36 => decide +kernel); (case hv_36 => none_booked)
  (with_reducible refine' wA_cons ?h_37 ?hs_37); (case hs_37 => (intro _; exact rfl))
  (with_reducible refine' wE_len ?h_38 ?h1_38 ?h2_38 ?h3_38 ?h4_38); (case h1_38 => exact rfl); (case h2_38 => (intro _; exact rfl)); (case h3_38 => (intro _; exact ⟨_, _, rfl, rfl⟩)); (case h4_38 => (intro _; exact rfl))
  (with_reducible refine' wE_local ?hv_39 ?h_39 ?hl_39 ?hd_39); (case hl_39 => exact rfl); (case hd_39 => decide +kernel); (case hv_39 => none_booked)
  (with_reducible refine' b_len_z ?h1_40 ?h_40); (case h1_40 => (first | lia | omega))
  with_reducible refine' wA_nil ?_
  (with_reducible refine' exRng2 ?h1_42 ?h2_42 ?h_42); (case h1_42 => (unfold Fit; (first | lia | omega))); (case h2_42 => (unfold Fit; (first | lia | omega)))
  have hfew : s % w < w := Nat.mod_lt _ (by (first | lia | omega))
  have hsum : s = w * (s / w) + s % w := (Nat.div_add_mod s w).symm
  generalize hsp : s / w = sp at *
  generalize hfe : s % w = fe at *
  have hfp := pow2_nonneg fe
  have hfp1 : (0 : Int) < 2 ^ fe := Int.pow_pos (by decide)
  obtain ⟨I, hI⟩ : ∃ I : List V → St → Prop, ∀ vs S, I vs S ↔ ∃ (j : Nat) (f : List Int), vs = upTo ((sp + j : Nat) : Int) (l.length - (sp + j)) ∧ j ≤ l.length ∧ (j = 0 ∨ sp + j ≤ l.length) ∧ S.m "a" = some (.list (zints l)) ∧ S.m "few" = some (.int fe) ∧ S.m "w" = some (.int w) ∧ S.m "mask" = some (.int (2 ^ w - 1)) ∧
        S.m "found" = some (.ref ad) ∧ S.σ ad = some (zints f) ∧ Limbs (2 ^ w) f ∧ f.length = j ∧ val (2 ^ w) f + (2 ^ w) ^ j * (val (2 ^ w) (l.drop (sp + j)) / 2 ^ fe) = val (2 ^ w) (l.drop sp) / 2 ^ fe := ⟨_, fun _ _ => Iff.rfl⟩
  refine loop_inv I ?_ ?_ ?_
  · intro v vs S hh
    obtain ⟨j, f, hvs, hj, hjl, ha, hfw, hww, hm, hf, hs', hlf, hlen, hv⟩ := (hI _ _).mp hh
    clear hh
    obtain ⟨q, hq, rfl, rfl⟩ := upTo_cons hvs
    have hil : sp + j < l.length := by (first | lia | omega)
    have bx := getD_limb (by (first | lia | omega)) h1 (sp + j)
    have by2 := getD_limb (by (first | lia | omega)) h1 (sp + j + 1)
    refine wS_seq (fun S' => S'.m "a" = some (.list (zints l)) ∧ S'.m "few" = some (.int fe) ∧ S'.m "w" = some (.int w) ∧ S'.m "mask" = some (.int (2 ^ w - 1)) ∧ S'.m "found" = some (.ref ad) ∧ S'.σ ad = some (zints f) ∧ S'.m "at" = some (.int ((sp + j : Nat) : Int)) ∧ S'.m "above" = some (.int (l.getD (sp + j + 1) 0))) ?_ ?_
    · (with_reducible refine' wX_assign ?h_43 ?hl_43 ?hs_43); (case hl_43 => exact rfl); (case hs_43 => (intros; exact rfl))
      with_reducible refine' wE_ifexp ?_
      (with_reducible refine' wT_cmp ?h_45 ?hm_45); (case hm_45 => with_unfolding_all exact rfl)
      with_reducible refine' wE_binop ?_
      (with_reducible refine' wE_local ?hv_47 ?h_47 ?hl_47 ?hd_47); (case hl_47 => exact rfl); (case hd_47 => decide +kernel); (case hv_47 => none_booked)
      with_reducible refine' wE_int ?_
      with_reducible refine' o_addN1 ?_
      (with_reducible refine' wE_len ?h_50 ?h1_50 ?h2_50 ?h3_50 ?h4_50); (case h1_50 => exact rfl); (case h2_50 => (intro _; exact rfl)); (case h3_50 => (intro _; exact ⟨_, _, rfl, rfl⟩)); (case h4_50 => (intro _; exact rfl))
      (with_reducible refine' wE_local ?hv_51 ?h_51 ?hl_51 ?hd_51); (case hl_51 => exact rfl); (case hd_51 => decide +kernel); (case hv_51 => none_booked)
      (with_reducible refine' b_len_z ?h1_52 ?h_52); (case h1_52 => (first | lia | omega))
      with_reducible refine' c_lt ?_
      with_reducible refine' exTB ?_
      refine iteD (fun h => ?_) (fun h => ?_)
      · with_reducible refine' wE_sub ?_
        (with_reducible refine' wE_local ?hv_56 ?h_56 ?hl_56 ?hd_56); (case hl_56 => exact rfl); (case hd_56 => decide +kernel); (case hv_56 => none_booked)
        with_reducible refine' wE_binop ?_
        (with_reducible refine' wE_local ?hv_58 ?h_58 ?hl_58 ?hd_58); (case hl_58 => exact rfl); (case hd_58 => decide +kernel); (case hv_58 => none_booked)
        with_reducible refine' wE_int ?_
        with_reducible refine' o_addN1 ?_
        (with_reducible refine' s_zN ?h1_61 ?h2_61 ?h_61 ?hs_61); (case hs_61 => (intro _ _; exact rfl)); (case h1_61 => (first | lia | omega)); (case h2_61 => (first | lia | omega))
        with_reducible refine' andNext ?_
        exact ⟨by none_booked, by none_booked, by none_booked, by none_booked, by none_booked, by none_booked, by none_booked, by none_booked⟩
      · with_reducible refine' wE_int ?_
        with_reducible refine' andNext ?_
        exact ⟨by none_booked, by none_booked, by none_booked, by none_booked, by none_booked, by none_booked, by none_booked, by rw [getD_out (show l.length ≤ sp + j + 1 by (first | lia | omega))]; none_booked⟩
    · clear hs' hf hm hww hfw ha S
      rintro S ⟨ha, hfw, hww, hm, hf, hs', hat, hab⟩
      have hx0 : 0 ≤ l.getD (sp + j) 0 / 2 ^ fe := Int.ediv_nonneg bx.1 hfp
      have e : (2 : Int) ^ w = 2 ^ fe * 2 ^ (w - fe) := by rw [← Int.pow_add]; congr 1; (first | lia | omega)
      have hx1 : l.getD (sp + j) 0 / 2 ^ fe < 2 ^ (w - fe) := Int.ediv_lt_of_lt_mul hfp1 (by rw [Int.mul_comm, ← e]; exact bx.2)
      with_reducible refine' wS_cons ?_
      (with_reducible refine' wX_append ?h_66 ?h1_66 ?h2_66 ?h3_66 ?h4_66 ?h5_66); (case h1_66 => (intros; exact rfl)); (case h2_66 => exact rfl); (case h3_66 => (intros; exact rfl)); (case h4_66 => (intros; exact rfl)); (case h5_66 => (intros; exact rfl))
      (with_reducible refine' wE_local ?hv_67 ?h_67 ?hl_67 ?hd_67); (case hl_67 => exact rfl); (case hd_67 => decide +kernel); (case hv_67 => none_booked)
      (with_reducible refine' exApp ?h1_68 ?h_68); (case h1_68 => none_booked)
      with_reducible refine' wE_binop ?_
      with_reducible refine' wE_binop ?_
      with_reducible refine' wE_binop ?_
      with_reducible refine' wE_sub ?_
      (with_reducible refine' wE_local ?hv_73 ?h_73 ?hl_73 ?hd_73); (case hl_73 => exact rfl); (case hd_73 => decide +kernel); (case hv_73 => none_booked)
      (with_reducible refine' wE_local ?hv_74 ?h_74 ?hl_74 ?hd_74); (case hl_74 => exact rfl); (case hd_74 => decide +kernel); (case hv_74 => none_booked)
      (with_reducible refine' s_zN ?h1_75 ?h2_75 ?h_75 ?hs_75); (case hs_75 => (intro _ _; exact rfl)); (case h1_75 => (first | lia | omega)); (case h2_75 => (first | lia | omega))
      (with_reducible refine' wE_local ?hv_76 ?h_76 ?hl_76 ?hd_76); (case hl_76 => exact rfl); (case hd_76 => decide +kernel); (case hv_76 => none_booked)
      with_reducible refine' o_shr ?_
      with_reducible refine' wE_binop ?_
      (with_reducible refine' wE_local ?hv_79 ?h_79 ?hl_79 ?hd_79); (case hl_79 => exact rfl); (case hd_79 => decide +kernel); (case hv_79 => none_booked)
      with_reducible refine' wE_binop ?_
      (with_reducible refine' wE_local ?hv_81 ?h_81 ?hl_81 ?hd_81); (case hl_81 => exact rfl); (case hd_81 => decide +kernel); (case hv_81 => none_booked)
      (with_reducible refine' wE_local ?hv_82 ?h_82 ?hl_82 ?hd_82); (case hl_82 => exact rfl); (case hd_82 => decide +kernel); (case hv_82 => none_booked)
      (with_reducible refine' o_subN ?h1_83 ?h_83); (case h1_83 => (first | lia | omega))
      (with_reducible refine' o_shl ?h1_84 ?h2_84 ?h_84); (case h1_84 => (first | lia | omega)); (case h2_84 => (first | lia | omega))
      (with_reducible refine' o_orR ?h1_85 ?h2_85 ?h3_85 ?h_85); (case h1_85 => (first | lia | omega)); (case h2_85 => (first | lia | omega)); (case h3_85 => (first | lia | omega))
      (with_reducible refine' wE_local ?hv_86 ?h_86 ?hl_86 ?hd_86); (case hl_86 => exact rfl); (case hd_86 => decide +kernel); (case hv_86 => none_booked)
      with_reducible refine' o_mask ?_
      (with_reducible refine' exAppZ ?h1_88 ?h2_88 ?h_88); (case h1_88 => none_booked); (case h2_88 => (first | lia | omega))
      with_reducible refine' wS_nil ?_
      have hV : val (2 ^ w) (l.drop (sp + j)) = l.getD (sp + j) 0 + 2 ^ w * (l.getD (sp + j + 1) 0 + 2 ^ w * val (2 ^ w) (l.drop (sp + j + 2))) := by
        rw [drop_step _ hil]
        congr 2
        by_cases h : sp + j + 1 < l.length
        · exact drop_step _ h
        · rw [List.drop_eq_nil_of_le (by (first | lia | omega)), List.drop_eq_nil_of_le (by (first | lia | omega)), getD_out (by (first | lia | omega))]; simp [val]
      have hV1 : val (2 ^ w) (l.drop (sp + (j + 1))) = l.getD (sp + j + 1) 0 + 2 ^ w * val (2 ^ w) (l.drop (sp + j + 2)) := by
        by_cases h : sp + j + 1 < l.length
        · exact drop_step _ h
        · rw [List.drop_eq_nil_of_le (by (first | lia | omega)), List.drop_eq_nil_of_le (by (first | lia | omega)), getD_out (by (first | lia | omega))]; simp [val]
      obtain ⟨st1, st2⟩ := shr_step (V' := val (2 ^ w) (l.drop (sp + j + 2))) hfew bx (y := l.getD (sp + j + 1) 0)
      refine (hI _ _).mpr ⟨j + 1, f ++ [(l.getD (sp + j) 0 / 2 ^ fe + l.getD (sp + j + 1) 0 * 2 ^ (w - fe)) % 2 ^ w], by rw [show l.length - (sp + (j + 1)) = q by (first | lia | omega)]; congr 1 <;> (first | lia | omega), by (first | lia | omega), .inr (by (first | lia | omega)), by none_booked, by none_booked, by none_booked, by none_booked, by none_booked, by none_booked, hlf.snoc (mod_limb (by (first | lia | omega))), by simp [hlen], ?_⟩
      rw [hV1, ← st1, ← st2, carry_step hlen, ← hV, hv]
  · intro S hh
    obtain ⟨j, f, hvs, hj, hjl, ha, hfw, hww, hm, hf, hs', hlf, hlen, hv⟩ := (hI _ _).mp hh
    clear hh
    have h0 := upTo_nil hvs
    rw [List.drop_eq_nil_of_le (show l.length ≤ sp + j by (first | lia | omega))] at hv
    simp only [val, Int.zero_ediv, Int.mul_zero, Int.add_zero] at hv
    refine w_freeze "found" hf hs' ?_
    with_reducible refine' wS_cons ?_
    with_reducible refine' wX_return ?_
    (with_reducible refine' wE_def ?h_92 ?h1_92 ?h2_92 ?h3_92 ?h4_92 ?h5_92); (case h1_92 => decide +kernel); (case h2_92 => exact rfl); (case h3_92 => decide +kernel); (case h4_92 => (intro _; exact rfl)); (case h5_92 => (intro _; exact ⟨_, _, rfl, rfl⟩))
    (with_reducible refine' wA_cons ?h_93 ?hs_93); (case hs_93 => (intro _; exact rfl))
    (with_reducible refine' wE_local ?hv_94 ?h_94 ?hl_94 ?hd_94); (case hl_94 => exact rfl); (case hd_94 => decide +kernel); (case hv_94 => none_booked)
    with_reducible refine' wA_nil ?_
    refine op_pure (t_normal f (by (first | lia | omega))) (by decide) fun x hx => ?_
    subst hx
    with_reducible refine' exR ?_
    have := normL_can (by (first | lia | omega)) hlf
    refine ⟨_, rfl, ?_⟩
    rw [hv, val_drop_div hB h1, hn, ediv_ediv_pos (pow_pos' (by (first | lia | omega)) sp) hfp1, pow_pow, ← Int.pow_add, ← hsum] at this
    exact this
  · exact (hI _ _).mpr ⟨0, [], by rw [Nat.add_zero]; congr 1; (first | lia | omega), by (first | lia | omega), .inl rfl, by none_booked, by none_booked, by none_booked, by none_booked, by none_booked, by none_booked, Limbs.nil, rfl, by simp [val]⟩
theorem t_low (w : Nat) (hw : 1 ≤ w ∧ w ≤ 29) (l : List Int) (n : Int) (s : Nat) (hl : l.length ≤ 2 ^ 20) (hs : s ≤ 1000) (h1 : Can (2 ^ w) l n) :
    GCall g (g.fa "low") 2 [.list (zints l), .int s, .int w] (fun _ => none) (fun x _ => IsNat w x (n % 2 ^ s)) := by
  have hB := one_lt_pow hw.1
  have hB30 := pow_le30 (w := w) (by (first | lia | omega))
  refine' gcall (d := dOf 10) (dOf_mem 10 (by decide)) (hbody := ?enB) (hscope := ?enS) (hparams := ?enP) (hname := rfl) (names := ["a", "n", "w"]) (hk := ?enK) (hbind := ?enI) (hloc := ?enL) (h := ?enH) (hco := ?enC) (hgen := ?enG) (hcell := ?enE)
  case enB => (conv => lhs; whnf)
  case enS => (conv => lhs; whnf)
  case enP => (conv => lhs; whnf)
  case enK => rfl
  case enI => exact args3 fun _ _ _ _ _ _ => rfl
  case enL => decide +kernel
  case enC => rfl
  case enG => rfl
  case enE => decide +kernel
  have hspl0 := Nat.div_le_self s w
  have hspl1 := Int.natCast_nonneg (s / w)
  have hspl2 : ((s / w : Nat) : Int) ≤ 1000 := by exact_mod_cast (by (first | lia | omega) : s / w ≤ 1000)
  with_reducible refine' wS_cons ?_
  (with_reducible refine' wX_swap2 ?h_2 ?h1_2 ?h2_2 ?h3_2 ?h4_2); (case h4_2 => (intros; exact rfl)); (case h1_2 => exact rfl); (case h2_2 => exact rfl); (case h3_2 => (intros; exact rfl))
  with_reducible refine' wE_tuple ?_
  (with_reducible refine' wA_cons ?h_4 ?hs_4); (case hs_4 => (intro _; exact rfl))
  with_reducible refine' wE_binop ?_
  (with_reducible refine' wE_local ?hv_6 ?h_6 ?hl_6 ?hd_6); (case hl_6 => exact rfl); (case hd_6 => decide +kernel); (case hv_6 => none_booked)
  (with_reducible refine' wE_local ?hv_7 ?h_7 ?hl_7 ?hd_7); (case hl_7 => exact rfl); (case hd_7 => decide +kernel); (case hv_7 => none_booked)
  (with_reducible refine' o_divN ?h1_8 ?h2_8 ?h_8); (case h1_8 => (first | lia | omega)); (case h2_8 => (first | lia | omega))
  (with_reducible refine' wA_cons ?h_9 ?hs_9); (case hs_9 => (intro _; exact rfl))
  with_reducible refine' wE_binop ?_
  (with_reducible refine' wE_local ?hv_11 ?h_11 ?hl_11 ?hd_11); (case hl_11 => exact rfl); (case hd_11 => decide +kernel); (case hv_11 => none_booked)
  (with_reducible refine' wE_local ?hv_12 ?h_12 ?hl_12 ?hd_12); (case hl_12 => exact rfl); (case hd_12 => decide +kernel); (case hv_12 => none_booked)
  (with_reducible refine' o_mdN ?h1_13 ?h_13); (case h1_13 => (first | lia | omega))
  with_reducible refine' wA_nil ?_
  (with_reducible refine' andLen ?h1_15 ?h_15); (case h1_15 => (simp; done))
  with_reducible refine' exT2 ?_
  with_reducible refine' wS_cons ?_
  with_reducible refine' wX_if ?_
  (with_reducible refine' wT_cmp ?h_19 ?hm_19); (case hm_19 => with_unfolding_all exact rfl)
  (with_reducible refine' wE_local ?hv_20 ?h_20 ?hl_20 ?hd_20); (case hl_20 => exact rfl); (case hd_20 => decide +kernel); (case hv_20 => none_booked)
  (with_reducible refine' wE_len ?h_21 ?h1_21 ?h2_21 ?h3_21 ?h4_21); (case h1_21 => exact rfl); (case h2_21 => (intro _; exact rfl)); (case h3_21 => (intro _; exact ⟨_, _, rfl, rfl⟩)); (case h4_21 => (intro _; exact rfl))
  (with_reducible refine' wE_local ?hv_22 ?h_22 ?hl_22 ?hd_22); (case hl_22 => exact rfl); (case hd_22 => decide +kernel); (case hv_22 => none_booked)
  (with_reducible refine' b_len_z ?h1_23 ?h_23); (case h1_23 => (first | lia | omega))
  with_reducible refine' c_ge ?_
  with_reducible refine' exTB ?_
  have hfew : s % w < w := Nat.mod_lt _ (by (first | lia | omega))
  have hsum : s = w * (s / w) + s % w := (Nat.div_add_mod s w).symm
  generalize hsp : s / w = sp at *
  generalize hfe : s % w = fe at *
  have hfp := pow2_nonneg fe
  have hfp1 : (0 : Int) < 2 ^ fe := Int.pow_pos (by decide)
  have hn0 := h1.nonneg (by (first | lia | omega))
  refine iteD (fun h => ?_) (fun h => ?_)
  · with_reducible refine' wS_cons ?_
    with_reducible refine' wX_return ?_
    (with_reducible refine' wE_sliceAll ?hx_28 ?hsz_28 ?h_28 ?hl_28 ?hd_28); (case hl_28 => exact rfl); (case hd_28 => decide +kernel); (case hx_28 => none_booked); (case hsz_28 => (first | lia | omega))
    with_reducible refine' exR ?_
    have a := h1.lt hB
    have b := pow_mono' hB (show l.length ≤ sp by (first | lia | omega))
    have c : ((2 : Int) ^ w) ^ sp ≤ 2 ^ s := by rw [pow_pow]; exact pow_mono' (by decide) (by (first | lia | omega))
    rw [Int.emod_eq_of_lt hn0 (by (first | lia | omega))]
    exact ⟨l, rfl, h1⟩
  · with_reducible refine' wS_nil ?_
    with_reducible refine' wS_cons ?_
    with_reducible refine' wX_return ?_
    (with_reducible refine' wE_def ?h_33 ?h1_33 ?h2_33 ?h3_33 ?h4_33 ?h5_33); (case h1_33 => decide +kernel); (case h2_33 => exact rfl); (case h3_33 => decide +kernel); (case h4_33 => (intro _; exact rfl)); (case h5_33 => (intro _; exact ⟨_, _, rfl, rfl⟩))
    (with_reducible refine' wA_cons ?h_34 ?hs_34); (case hs_34 => (intro _; exact rfl))
    with_reducible refine' wE_binop ?_
    (with_reducible refine' wE_sliceTo ?hx_36 ?hsz_36 ?h_36 ?hl_36 ?hd_36); (case hl_36 => exact rfl); (case hd_36 => decide +kernel); (case hx_36 => none_booked); (case hsz_36 => (first | lia | omega))
    (with_reducible refine' wE_local ?hv_37 ?h_37 ?hl_37 ?hd_37); (case hl_37 => exact rfl); (case hd_37 => decide +kernel); (case hv_37 => none_booked)
    with_reducible refine' exNat ?_
    with_reducible refine' andSt ?_
    with_reducible refine' wE_listOf ?_
    (with_reducible refine' wA_cons ?h_41 ?hs_41); (case hs_41 => (intro _; exact rfl))
    with_reducible refine' wE_binop ?_
    with_reducible refine' wE_sub ?_
    (with_reducible refine' wE_local ?hv_44 ?h_44 ?hl_44 ?hd_44); (case hl_44 => exact rfl); (case hd_44 => decide +kernel); (case hv_44 => none_booked)
    (with_reducible refine' wE_local ?hv_45 ?h_45 ?hl_45 ?hd_45); (case hl_45 => exact rfl); (case hd_45 => decide +kernel); (case hv_45 => none_booked)
    (with_reducible refine' s_zN ?h1_46 ?h2_46 ?h_46 ?hs_46); (case hs_46 => (intro _ _; exact rfl)); (case h1_46 => (first | lia | omega)); (case h2_46 => (first | lia | omega))
    with_reducible refine' wE_binop ?_
    with_reducible refine' wE_binop ?_
    with_reducible refine' wE_int ?_
    (with_reducible refine' wE_local ?hv_50 ?h_50 ?hl_50 ?hd_50); (case hl_50 => exact rfl); (case hd_50 => decide +kernel); (case hv_50 => none_booked)
    (with_reducible refine' o_shl1 ?h1_51 ?h_51); (case h1_51 => (first | lia | omega))
    with_reducible refine' wE_int ?_
    with_reducible refine' o_sub ?_
    with_reducible refine' o_mask ?_
    with_reducible refine' wA_nil ?_
    (with_reducible refine' andLen ?h1_56 ?h_56); (case h1_56 => (simp; done))
    refine o_catZ (by simp; (first | lia | omega)) ?_
    with_reducible refine' wA_nil ?_
    refine op_pure (t_normal _ ?h1) ?h2 fun x hx => ?h3
    case h1 => (simp; (first | lia | omega))
    case h2 => decide
    subst hx
    with_reducible refine' exR ?_
    have hil : sp < l.length := by (first | lia | omega)
    have bx := getD_limb (by (first | lia | omega)) h1.limbs sp
    have hpw : (2 : Int) ^ fe ≤ 2 ^ w := pow_mono' (by decide) (by (first | lia | omega))
    have hm := mod_limb (B := (2 : Int) ^ fe) (c := l.getD sp 0) hfp1
    have hlm : Limbs (2 ^ w) (l.take sp ++ [l.getD sp 0 % 2 ^ fe]) := (h1.limbs.take sp).snoc (by (first | lia | omega))
    have := normL_can (by (first | lia | omega)) hlm
    rw [val_snoc, List.length_take, Nat.min_eq_left (by (first | lia | omega))] at this
    have hP := pow_pos' (B := (2 : Int) ^ w) (by (first | lia | omega)) sp
    have e : n % 2 ^ s = val (2 ^ w) (l.take sp) + (2 ^ w) ^ sp * (l.getD sp 0 % 2 ^ fe) := by
      have hv := val_take_drop (2 ^ w) l sp (by (first | lia | omega))
      rw [h1.val, drop_step _ hil] at hv
      have a := val_nonneg (B := (2 : Int) ^ w) (by (first | lia | omega)) (h1.limbs.take sp)
      have b := val_lt (B := (2 : Int) ^ w) (by (first | lia | omega)) (h1.limbs.take sp)
      rw [List.length_take, Nat.min_eq_left (by (first | lia | omega))] at b
      have hw2 : (2 : Int) ^ w = 2 ^ fe * 2 ^ (w - fe) := by rw [← Int.pow_add]; congr 1; (first | lia | omega)
      have hd := Int.mul_ediv_add_emod (l.getD sp 0) (2 ^ fe)
      have e1 : n = (val (2 ^ w) (l.take sp) + (2 ^ w) ^ sp * (l.getD sp 0 % 2 ^ fe)) + 2 ^ s * (l.getD sp 0 / 2 ^ fe + 2 ^ (w - fe) * val (2 ^ w) (l.drop (sp + 1))) := by
        rw [hv]
        have hs2 : (2 : Int) ^ s = (2 ^ w) ^ sp * 2 ^ fe := by rw [pow_pow, ← Int.pow_add, ← hsum]
        rw [hs2, Int.add_assoc]
        congr 1
        rw [Int.mul_assoc, ← Int.mul_add]
        congr 1
        rw [Int.mul_add, ← Int.mul_assoc, ← hw2]
        (first | lia | omega)
      rw [e1, Int.add_mul_emod_self_left]
      apply Int.emod_eq_of_lt
      · have := Int.mul_nonneg (Int.le_of_lt hP) hm.1
        (first | lia | omega)
      · have hs2 : (2 : Int) ^ s = (2 ^ w) ^ sp * 2 ^ fe := by rw [pow_pow, ← Int.pow_add, ← hsum]
        rw [hs2]
        have : (2 ^ w) ^ sp * (l.getD sp 0 % 2 ^ fe + 1) ≤ (2 ^ w) ^ sp * 2 ^ fe := Int.mul_le_mul_of_nonneg_left (by (first | lia | omega)) (Int.le_of_lt hP)
        rw [Int.mul_add, Int.mul_one] at this
        (first | lia | omega)
    rw [← e] at this
    exact ⟨_, rfl, this⟩
end
section
variable {p : Program} {g : G p} {c : Cx} {S : St}
end
theorem getD_set_self {f : List Int} {k : Nat} {v : Int} (h : k < f.length) : (f.set k v).getD k 0 = v := by
  rw [List.getD_eq_getElem?_getD, List.getElem?_set_self h]; rfl
theorem getD_set_ne {f : List Int} {k m : Nat} {v : Int} (h : k ≠ m) : (f.set k v).getD m 0 = f.getD m 0 := by
  rw [List.getD_eq_getElem?_getD, List.getElem?_set_ne h, ← List.getD_eq_getElem?_getD]
theorem val_set (B : Int) {f : List Int} {k : Nat} {v : Int} (h : k < f.length) : val B (f.set k v) = val B f + B ^ k * (v - f.getD k 0) := by
  rw [val_split B (l := f.set k v) (k := k) (by simpa using h), val_split B h, getD_set_self h, List.drop_set_of_lt (by (first | lia | omega)), List.take_set_of_le (Nat.le_refl k)]
  rw [Int.mul_add, Int.mul_add, Int.mul_sub]
  (first | lia | omega)
/-- the limbs above a bound are nought -/
theorem zero_above {B : Int} (hB : 1 < B) {l : List Int} (h : Limbs B l) {k : Nat} (hv : val B l < B ^ k) : ∀ j, k ≤ j → l.getD j 0 = 0 := by
  intro j hj
  by_cases hl : j < l.length
  · have e := val_split B hl
    have a := val_nonneg (by (first | lia | omega)) (h.take j)
    have b := val_nonneg (by (first | lia | omega)) (h.drop (j + 1))
    have c := getD_limb (by (first | lia | omega)) h j
    have d := pow_mono' hB hj
    have hp := pow_pos' (B := B) (by (first | lia | omega)) j
    rcases (show l.getD j 0 = 0 ∨ 1 ≤ l.getD j 0 by (first | lia | omega)) with q | q
    · exact q
    · exfalso
      have b' := Int.mul_nonneg (show 0 ≤ B by (first | lia | omega)) b
      have : B ^ j * 1 ≤ B ^ j * (l.getD j 0 + B * val B (l.drop (j + 1))) := Int.mul_le_mul_of_nonneg_left (by (first | lia | omega)) (Int.le_of_lt hp)
      (first | lia | omega)
  · exact getD_out (by (first | lia | omega))
theorem val_of_zero {B : Int} {l : List Int} {k : Nat} (h : ∀ j, k ≤ j → l.getD j 0 = 0) : val B l = val B (l.take k) := by
  have all : ∀ m, val B (l.take (k + m)) = val B (l.take k) := by
    intro m
    induction m with
    | zero => rfl
    | succ m ih => rw [← Nat.add_assoc, val_take_succ', h (k + m) (by (first | lia | omega)), ih]; simp
  have := all l.length
  rw [List.take_of_length_le (by (first | lia | omega))] at this
  exact this
section
variable {g : G PP}
theorem mul_carry {B x y c r : Int} (hB : 0 < B) (hx : 0 ≤ x ∧ x < B) (hy : 0 ≤ y ∧ y < B) (hc : 0 ≤ c ∧ c < B) (hr : 0 ≤ r ∧ r < B) : 0 ≤ x * y ∧ 0 ≤ (c + (r + x * y)) / B ∧ (c + (r + x * y)) / B < B := by
  have h0 : 0 ≤ x * y := Int.mul_nonneg hx.1 hy.1
  have h1 : x * y ≤ (B - 1) * (B - 1) := Int.mul_le_mul (by (first | lia | omega)) (by (first | lia | omega)) hy.1 (by (first | lia | omega))
  have e : (B - 1) * (B - 1) = B * B - 2 * B + 1 := by rw [Int.sub_mul, Int.mul_sub]; (first | lia | omega)
  refine ⟨h0, Int.ediv_nonneg (by (first | lia | omega)) (by (first | lia | omega)), Int.ediv_lt_of_lt_mul hB (by (first | lia | omega))⟩
theorem t_mul_school (w : Nat) (hw : 1 ≤ w ∧ w ≤ 29) (l k : List Int) (n m : Int) (hl : l.length ≤ 2 ^ 18) (hk : k.length ≤ 2 ^ 18) (h1 : Can (2 ^ w) l n) (h2 : Can (2 ^ w) k m) :
    GCall g (g.fa "mul_school") 2 [.list (zints l), .list (zints k), .int w] (fun _ => none) (fun x _ => IsNat w x (n * m)) := by
  have hB := one_lt_pow hw.1
  have hB30 := pow_le30 (w := w) (by (first | lia | omega))
  refine' gcall (d := dOf 21) (dOf_mem 21 (by decide)) (hbody := ?enB) (hscope := ?enS) (hparams := ?enP) (hname := rfl) (names := ["a", "b", "w"]) (hk := ?enK) (hbind := ?enI) (hloc := ?enL) (h := ?enH) (hco := ?enC) (hgen := ?enG) (hcell := ?enE)
  case enB => (conv => lhs; whnf)
  case enS => (conv => lhs; whnf)
  case enP => (conv => lhs; whnf)
  case enK => rfl
  case enI => exact args3 fun _ _ _ _ _ _ => rfl
  case enL => decide +kernel
  case enC => rfl
  case enG => rfl
  case enE => decide +kernel
  with_reducible refine' wS_cons ?_
  (with_reducible refine' wX_swap2 ?h_2 ?h1_2 ?h2_2 ?h3_2 ?h4_2); (case h4_2 => (intros; exact rfl)); (case h1_2 => exact rfl); (case h2_2 => exact rfl); (case h3_2 => (intros; exact rfl))
  with_reducible refine' wE_tuple ?_
  (with_reducible refine' wA_cons ?h_4 ?hs_4); (case hs_4 => (intro _; exact rfl))
  with_reducible refine' wE_binop ?_
  with_reducible refine' wE_listOf ?_
  (with_reducible refine' wA_cons ?h_7 ?hs_7); (case hs_7 => (intro _; exact rfl))
  with_reducible refine' wE_int ?_
  with_reducible refine' wA_nil ?_
  (with_reducible refine' andLen ?h1_10 ?h_10); (case h1_10 => (simp; done))
  with_reducible refine' wE_binop ?_
  (with_reducible refine' wE_len ?h_12 ?h1_12 ?h2_12 ?h3_12 ?h4_12); (case h1_12 => exact rfl); (case h2_12 => (intro _; exact rfl)); (case h3_12 => (intro _; exact ⟨_, _, rfl, rfl⟩)); (case h4_12 => (intro _; exact rfl))
  (with_reducible refine' wE_local ?hv_13 ?h_13 ?hl_13 ?hd_13); (case hl_13 => exact rfl); (case hd_13 => decide +kernel); (case hv_13 => none_booked)
  (with_reducible refine' b_len_z ?h1_14 ?h_14); (case h1_14 => (first | lia | omega))
  (with_reducible refine' wE_len ?h_15 ?h1_15 ?h2_15 ?h3_15 ?h4_15); (case h1_15 => exact rfl); (case h2_15 => (intro _; exact rfl)); (case h3_15 => (intro _; exact ⟨_, _, rfl, rfl⟩)); (case h4_15 => (intro _; exact rfl))
  (with_reducible refine' wE_local ?hv_16 ?h_16 ?hl_16 ?hd_16); (case hl_16 => exact rfl); (case hd_16 => decide +kernel); (case hv_16 => none_booked)
  (with_reducible refine' b_len_z ?h1_17 ?h_17); (case h1_17 => (first | lia | omega))
  with_reducible refine' o_addN ?_
  refine o_repMN (by (first | lia | omega)) fun ad had => ?_
  (with_reducible refine' wA_cons ?h_19 ?hs_19); (case hs_19 => (intro _; exact rfl))
  with_reducible refine' wE_binop ?_
  with_reducible refine' wE_binop ?_
  with_reducible refine' wE_int ?_
  (with_reducible refine' wE_local ?hv_23 ?h_23 ?hl_23 ?hd_23); (case hl_23 => exact rfl); (case hd_23 => decide +kernel); (case hv_23 => none_booked)
  (with_reducible refine' o_shl1 ?h1_24 ?h_24); (case h1_24 => (first | lia | omega))
  with_reducible refine' wE_int ?_
  with_reducible refine' o_sub ?_
  with_reducible refine' wA_nil ?_
  (with_reducible refine' andLen ?h1_28 ?h_28); (case h1_28 => (simp; done))
  with_reducible refine' exT2 ?_
  with_reducible refine' wS_cons ?_
  refine wX_enum (g.bi _ (by decide +kernel)) ?_
  (with_reducible refine' wE_local ?hv_31 ?h_31 ?hl_31 ?hd_31); (case hl_31 => exact rfl); (case hd_31 => decide +kernel); (case hv_31 => none_booked)
  with_reducible refine' exL ?_
  obtain ⟨I, hI⟩ : ∃ I : Nat → List V → St → Prop, ∀ i vs S, I i vs S ↔ ∃ (f : List Int), vs = zints (l.drop i) ∧ i ≤ l.length ∧ S.m "b" = some (.list (zints k)) ∧ S.m "w" = some (.int w) ∧ S.m "mask" = some (.int (2 ^ w - 1)) ∧
      S.m "found" = some (.ref ad) ∧ S.σ ad = some (zints f) ∧ Limbs (2 ^ w) f ∧ f.length = l.length + k.length ∧ (∀ j, i + k.length ≤ j → f.getD j 0 = 0) ∧ val (2 ^ w) f = val (2 ^ w) (l.take i) * m := ⟨_, fun _ _ _ => Iff.rfl⟩
  refine loopE_inv I ?_ ?_ ?_
  · intro i v vs S hh
    obtain ⟨f, hvs, hi, hb, hww, hm, hf, hs, hlf, hlen, hz, hv⟩ := (hI _ _ _).mp hh
    clear hh
    obtain ⟨hil, rfl, rfl⟩ := zints_cons hvs
    have bx := getD_limb (by (first | lia | omega)) h1.limbs i
    with_reducible refine' wS_cons ?_
    (with_reducible refine' wX_assign ?h_34 ?hl_34 ?hs_34); (case hl_34 => exact rfl); (case hs_34 => (intros; exact rfl))
    with_reducible refine' wE_int ?_
    with_reducible refine' wS_cons ?_
    refine wX_enum (g.bi _ (by decide +kernel)) ?_
    (with_reducible refine' wE_local ?hv_37 ?h_37 ?hl_37 ?hd_37); (case hl_37 => exact rfl); (case hd_37 => decide +kernel); (case hv_37 => none_booked)
    with_reducible refine' exL ?_
    obtain ⟨J, hJ⟩ : ∃ J : Nat → List V → St → Prop, ∀ j us S, J j us S ↔ ∃ (f : List Int) (cr : Int), us = zints (k.drop j) ∧ j ≤ k.length ∧ S.m "b" = some (.list (zints k)) ∧ S.m "w" = some (.int w) ∧ S.m "mask" = some (.int (2 ^ w - 1)) ∧ S.m "at" = some (.int i) ∧ S.m "limb" = some (.int (l.getD i 0)) ∧
        S.m "found" = some (.ref ad) ∧ S.m "carry" = some (.int cr) ∧ (0 ≤ cr ∧ cr < 2 ^ w) ∧ S.σ ad = some (zints f) ∧ Limbs (2 ^ w) f ∧ f.length = l.length + k.length ∧ (∀ j, i + k.length ≤ j → f.getD j 0 = 0) ∧
        val (2 ^ w) f + (2 ^ w) ^ (i + j) * cr = val (2 ^ w) (l.take i) * m + (2 ^ w) ^ i * (l.getD i 0 * val (2 ^ w) (k.take j)) := ⟨_, fun _ _ _ => Iff.rfl⟩
    refine loopE_inv J ?_ ?_ ?_
    · clear hb hww hm hf hs hlf hlen hz hv f S hvs
      intro j u us S hh
      obtain ⟨f, cr, hus, hj, hb, hww, hm, hat, hlimb, hf, hc, hcr, hs, hlf, hlen, hz, hv⟩ := (hJ _ _ _).mp hh
      clear hh
      obtain ⟨hjl, rfl, rfl⟩ := zints_cons hus
      have bk := getD_limb (by (first | lia | omega)) h2.limbs j
      have bf := getD_limb (by (first | lia | omega)) hlf (i + j)
      have mc := mul_carry (by (first | lia | omega)) bx bk hcr bf
      with_reducible refine' wS_cons ?_
      (with_reducible refine' wX_aug ?hv_40 ?h_40 ?hl_40); (case hl_40 => exact rfl); (case hv_40 => none_booked)
      with_reducible refine' wE_binop ?_
      with_reducible refine' wE_sub ?_
      (with_reducible refine' wE_local ?hv_43 ?h_43 ?hl_43 ?hd_43); (case hl_43 => exact rfl); (case hd_43 => decide +kernel); (case hv_43 => none_booked)
      with_reducible refine' wE_binop ?_
      (with_reducible refine' wE_local ?hv_45 ?h_45 ?hl_45 ?hd_45); (case hl_45 => exact rfl); (case hd_45 => decide +kernel); (case hv_45 => none_booked)
      (with_reducible refine' wE_local ?hv_46 ?h_46 ?hl_46 ?hd_46); (case hl_46 => exact rfl); (case hd_46 => decide +kernel); (case hv_46 => none_booked)
      with_reducible refine' o_addN ?_
      (with_reducible refine' s_zrN ?ha_48 ?h1_48 ?h2_48 ?h_48 ?hs_48); (case hs_48 => (intro _ _; exact rfl)); (case ha_48 => none_booked); (case h1_48 => (first | lia | omega)); (case h2_48 => (first | lia | omega))
      with_reducible refine' wE_binop ?_
      (with_reducible refine' wE_local ?hv_50 ?h_50 ?hl_50 ?hd_50); (case hl_50 => exact rfl); (case hd_50 => decide +kernel); (case hv_50 => none_booked)
      (with_reducible refine' wE_local ?hv_51 ?h_51 ?hl_51 ?hd_51); (case hl_51 => exact rfl); (case hd_51 => decide +kernel); (case hv_51 => none_booked)
      refine o_mulS (by (first | lia | omega)) ?_
      with_reducible refine' o_add ?_
      with_reducible refine' i_add ?_
      with_reducible refine' wS_cons ?_
      (with_reducible refine' wX_setitem ?h_55 ?h1_55); (case h1_55 => (intros; exact rfl))
      with_reducible refine' wE_binop ?_
      (with_reducible refine' wE_local ?hv_57 ?h_57 ?hl_57 ?hd_57); (case hl_57 => exact rfl); (case hd_57 => decide +kernel); (case hv_57 => none_booked)
      (with_reducible refine' wE_local ?hv_58 ?h_58 ?hl_58 ?hd_58); (case hl_58 => exact rfl); (case hd_58 => decide +kernel); (case hv_58 => none_booked)
      with_reducible refine' o_mask ?_
      (with_reducible refine' wE_local ?hv_60 ?h_60 ?hl_60 ?hd_60); (case hl_60 => exact rfl); (case hd_60 => decide +kernel); (case hv_60 => none_booked)
      with_reducible refine' wE_binop ?_
      (with_reducible refine' wE_local ?hv_62 ?h_62 ?hl_62 ?hd_62); (case hl_62 => exact rfl); (case hd_62 => decide +kernel); (case hv_62 => none_booked)
      (with_reducible refine' wE_local ?hv_63 ?h_63 ?hl_63 ?hd_63); (case hl_63 => exact rfl); (case hd_63 => decide +kernel); (case hv_63 => none_booked)
      with_reducible refine' o_addN ?_
      (with_reducible refine' exSetZ ?h1_65 ?h2_65 ?h3_65 ?h4_65 ?h_65); (case h1_65 => none_booked); (case h2_65 => (first | lia | omega)); (case h3_65 => ((try simp only [List.length_set, List.length_replicate, List.length_append, List.length_cons, List.length_nil]); (first | lia | omega))); (case h4_65 => ((try simp only [List.length_set, List.length_replicate, List.length_append, List.length_cons, List.length_nil]); (first | lia | omega)))
      with_reducible refine' wS_cons ?_
      (with_reducible refine' wX_aug ?hv_67 ?h_67 ?hl_67); (case hl_67 => exact rfl); (case hv_67 => none_booked)
      (with_reducible refine' wE_local ?hv_68 ?h_68 ?hl_68 ?hd_68); (case hl_68 => exact rfl); (case hd_68 => decide +kernel); (case hv_68 => none_booked)
      with_reducible refine' i_shr ?_
      with_reducible refine' wS_nil ?_
      have h3 : i + j < f.length := by (first | lia | omega)
      refine (hJ _ _ _).mpr ⟨f.set (i + j) ((cr + (f.getD (i + j) 0 + l.getD i 0 * k.getD j 0)) % 2 ^ w), (cr + (f.getD (i + j) 0 + l.getD i 0 * k.getD j 0)) / 2 ^ w, rfl, by (first | lia | omega), by none_booked, by none_booked, by none_booked, by none_booked, by none_booked, by none_booked, by none_booked, mc.2, by none_booked, hlf.set _ (mod_limb (by (first | lia | omega))), by simp [hlen], ?_, ?_⟩
      · intro q hq
        rw [getD_set_ne (by (first | lia | omega))]
        exact hz q hq
      · rw [val_set _ h3, val_take_succ', ← Nat.add_assoc, Int.pow_succ, Int.mul_sub, Int.mul_assoc]
        have e := Int.emod_add_mul_ediv (cr + (f.getD (i + j) 0 + l.getD i 0 * k.getD j 0)) (2 ^ w)
        generalize (cr + (f.getD (i + j) 0 + l.getD i 0 * k.getD j 0)) % 2 ^ w = md at *
        generalize (cr + (f.getD (i + j) 0 + l.getD i 0 * k.getD j 0)) / 2 ^ w = dv at *
        have e2 : (2 ^ w) ^ (i + j) * md + (2 ^ w) ^ (i + j) * (2 ^ w * dv) = (2 ^ w) ^ (i + j) * cr + ((2 ^ w) ^ (i + j) * f.getD (i + j) 0 + (2 ^ w) ^ (i + j) * (l.getD i 0 * k.getD j 0)) := by
          rw [← Int.mul_add, e, Int.mul_add, Int.mul_add]
        rw [Int.mul_add, Int.mul_add, Int.mul_left_comm (l.getD i 0), ← Int.mul_assoc ((2 ^ w) ^ i) ((2 ^ w) ^ j), ← Int.pow_add]
        (first | lia | omega)
    · clear hb hww hm hf hs hlf hlen hz hv f S hvs
      intro j S hh
      obtain ⟨f, cr, hus, hj, hb, hww, hm, hat, hlimb, hf, hc, hcr, hs, hlf, hlen, hz, hv⟩ := (hJ _ _ _).mp hh
      clear hh
      have : j = k.length := by have := zints_nil hus; (first | lia | omega)
      subst this
      rw [List.take_length, h2.val] at hv
      with_reducible refine' wS_cons ?_
      (with_reducible refine' wX_setitem ?h_72 ?h1_72); (case h1_72 => (intros; exact rfl))
      (with_reducible refine' wE_local ?hv_73 ?h_73 ?hl_73 ?hd_73); (case hl_73 => exact rfl); (case hd_73 => decide +kernel); (case hv_73 => none_booked)
      (with_reducible refine' wE_local ?hv_74 ?h_74 ?hl_74 ?hd_74); (case hl_74 => exact rfl); (case hd_74 => decide +kernel); (case hv_74 => none_booked)
      with_reducible refine' wE_binop ?_
      (with_reducible refine' wE_local ?hv_76 ?h_76 ?hl_76 ?hd_76); (case hl_76 => exact rfl); (case hd_76 => decide +kernel); (case hv_76 => none_booked)
      (with_reducible refine' wE_len ?h_77 ?h1_77 ?h2_77 ?h3_77 ?h4_77); (case h1_77 => exact rfl); (case h2_77 => (intro _; exact rfl)); (case h3_77 => (intro _; exact ⟨_, _, rfl, rfl⟩)); (case h4_77 => (intro _; exact rfl))
      (with_reducible refine' wE_local ?hv_78 ?h_78 ?hl_78 ?hd_78); (case hl_78 => exact rfl); (case hd_78 => decide +kernel); (case hv_78 => none_booked)
      (with_reducible refine' b_len_z ?h1_79 ?h_79); (case h1_79 => (first | lia | omega))
      with_reducible refine' o_addN ?_
      (with_reducible refine' exSetZ ?h1_81 ?h2_81 ?h3_81 ?h4_81 ?h_81); (case h1_81 => none_booked); (case h2_81 => (first | lia | omega)); (case h3_81 => ((try simp only [List.length_set, List.length_replicate, List.length_append, List.length_cons, List.length_nil]); (first | lia | omega))); (case h4_81 => ((try simp only [List.length_set, List.length_replicate, List.length_append, List.length_cons, List.length_nil]); (first | lia | omega)))
      with_reducible refine' wS_nil ?_
      have h3 : i + k.length < f.length := by (first | lia | omega)
      refine (hI _ _ _).mpr ⟨f.set (i + k.length) cr, rfl, by (first | lia | omega), by none_booked, by none_booked, by none_booked, by none_booked, by none_booked, hlf.set _ hcr, by simp [hlen], ?_, ?_⟩
      · intro q hq
        rw [getD_set_ne (by (first | lia | omega))]
        exact hz q (by (first | lia | omega))
      · rw [val_set _ h3, hz _ (Nat.le_refl _), Int.sub_zero, hv, val_take_succ', Int.add_mul, Int.mul_assoc]
    · exact (hJ _ _ _).mpr ⟨f, 0, by simp, by (first | lia | omega), by none_booked, by none_booked, by none_booked, by none_booked, by none_booked, by none_booked, by none_booked, by (first | lia | omega), by none_booked, hlf, hlen, hz, by simp [val, hv]⟩
  · intro i S hh
    obtain ⟨f, hvs, hi, hb, hww, hm, hf, hs, hlf, hlen, hz, hv⟩ := (hI _ _ _).mp hh
    clear hh
    have : i = l.length := by have := zints_nil hvs; (first | lia | omega)
    subst this
    rw [List.take_length, h1.val] at hv
    refine w_freeze "found" hf hs ?_
    with_reducible refine' wS_cons ?_
    with_reducible refine' wX_return ?_
    (with_reducible refine' wE_def ?h_85 ?h1_85 ?h2_85 ?h3_85 ?h4_85 ?h5_85); (case h1_85 => decide +kernel); (case h2_85 => exact rfl); (case h3_85 => decide +kernel); (case h4_85 => (intro _; exact rfl)); (case h5_85 => (intro _; exact ⟨_, _, rfl, rfl⟩))
    (with_reducible refine' wA_cons ?h_86 ?hs_86); (case hs_86 => (intro _; exact rfl))
    (with_reducible refine' wE_local ?hv_87 ?h_87 ?hl_87 ?hd_87); (case hl_87 => exact rfl); (case hd_87 => decide +kernel); (case hv_87 => none_booked)
    with_reducible refine' wA_nil ?_
    refine op_pure (t_normal f (by (first | lia | omega))) (by decide) fun x hx => ?_
    subst hx
    with_reducible refine' exR ?_
    have := normL_can (by (first | lia | omega)) hlf
    rw [hv] at this
    exact ⟨_, rfl, this⟩
  · refine (hI _ _ _).mpr ⟨List.replicate (l.length + k.length) 0, by simp, by (first | lia | omega), by none_booked, by none_booked, by none_booked, by none_booked, by none_booked, Limbs.replicate (by (first | lia | omega)) _, by simp, ?_, ?_⟩
    · intro j hj
      rw [List.getD_eq_getElem?_getD, List.getElem?_replicate]; split <;> rfl
    · rw [val_replicate]; simp [val]
theorem t_divrem_small (w : Nat) (hw : 1 ≤ w ∧ w ≤ 29) (l : List Int) (n d : Int) (hl : l.length ≤ 2 ^ 20) (h1 : Can (2 ^ w) l n) (hd : 1 ≤ d ∧ d < 2 ^ w) :
    GCall g (g.fa "divrem_small") 3 [.list (zints l), .list (zints [d]), .int w] (fun _ => none) (fun x _ => ∃ q r, x = .tup [q, r] ∧ IsNat w q (n / d) ∧ IsNat w r (n % d)) := by
  have hB := one_lt_pow hw.1
  refine' gcall (d := dOf 22) (dOf_mem 22 (by decide)) (hbody := ?enB) (hscope := ?enS) (hparams := ?enP) (hname := rfl) (names := ["a", "b", "w"]) (hk := ?enK) (hbind := ?enI) (hloc := ?enL) (h := ?enH) (hco := ?enC) (hgen := ?enG) (hcell := ?enE)
  case enB => (conv => lhs; whnf)
  case enS => (conv => lhs; whnf)
  case enP => (conv => lhs; whnf)
  case enK => rfl
  case enI => exact args3 fun _ _ _ _ _ _ => rfl
  case enL => decide +kernel
  case enC => rfl
  case enG => rfl
  case enE => decide +kernel
  with_reducible refine' wS_cons ?_
  (with_reducible refine' wX_unpack2 ?h_2 ?h1_2 ?h2_2 ?h3_2 ?h4_2); (case h4_2 => (intros; exact rfl)); (case h1_2 => exact rfl); (case h2_2 => exact rfl); (case h3_2 => (intros; exact rfl))
  (with_reducible refine' wE_def ?h_3 ?h1_3 ?h2_3 ?h3_3 ?h4_3 ?h5_3); (case h1_3 => decide +kernel); (case h2_3 => exact rfl); (case h3_3 => decide +kernel); (case h4_3 => (intro _; exact rfl)); (case h5_3 => (intro _; exact ⟨_, _, rfl, rfl⟩))
  (with_reducible refine' wA_cons ?h_4 ?hs_4); (case hs_4 => (intro _; exact rfl))
  (with_reducible refine' wE_local ?hv_5 ?h_5 ?hl_5 ?hd_5); (case hl_5 => exact rfl); (case hd_5 => decide +kernel); (case hv_5 => none_booked)
  (with_reducible refine' wA_cons ?h_6 ?hs_6); (case hs_6 => (intro _; exact rfl))
  with_reducible refine' wE_sub ?_
  (with_reducible refine' wE_local ?hv_8 ?h_8 ?hl_8 ?hd_8); (case hl_8 => exact rfl); (case hd_8 => decide +kernel); (case hv_8 => none_booked)
  with_reducible refine' wE_int ?_
  refine s_list (x := .int d) (by rfl) (by simp [zints]) (by simp [zints]) ?_
  (with_reducible refine' wA_cons ?h_10 ?hs_10); (case hs_10 => (intro _; exact rfl))
  (with_reducible refine' wE_local ?hv_11 ?h_11 ?hl_11 ?hd_11); (case hl_11 => exact rfl); (case hd_11 => decide +kernel); (case hv_11 => none_booked)
  with_reducible refine' wA_nil ?_
  refine op_pure (t_divrem_limb w hw l n d hl h1 hd) (by decide) fun x hx => ?_
  obtain ⟨q, rfl, hq⟩ := hx
  have hm := mod_limb (B := d) (c := n) (by (first | lia | omega))
  with_reducible refine' exT2 ?_
  with_reducible refine' wS_cons ?_
  with_reducible refine' wX_return ?_
  with_reducible refine' wE_tuple ?_
  (with_reducible refine' wA_cons ?h_17 ?hs_17); (case hs_17 => (intro _; exact rfl))
  (with_reducible refine' wE_local ?hv_18 ?h_18 ?hl_18 ?hd_18); (case hl_18 => exact rfl); (case hd_18 => decide +kernel); (case hv_18 => none_booked)
  (with_reducible refine' wA_cons ?h_19 ?hs_19); (case hs_19 => (intro _; exact rfl))
  with_reducible refine' wE_ifexp ?_
  (with_reducible refine' wT_cmp ?h_21 ?hm_21); (case hm_21 => with_unfolding_all exact rfl)
  (with_reducible refine' wE_local ?hv_22 ?h_22 ?hl_22 ?hd_22); (case hl_22 => exact rfl); (case hd_22 => decide +kernel); (case hv_22 => none_booked)
  with_reducible refine' wE_int ?_
  with_reducible refine' c_gt ?_
  with_reducible refine' exTB ?_
  refine iteD (fun h => ?_) (fun h => ?_)
  · with_reducible refine' wE_listOf ?_
    (with_reducible refine' wA_cons ?h_27 ?hs_27); (case hs_27 => (intro _; exact rfl))
    (with_reducible refine' wE_local ?hv_28 ?h_28 ?hl_28 ?hd_28); (case hl_28 => exact rfl); (case hd_28 => decide +kernel); (case hv_28 => none_booked)
    with_reducible refine' wA_nil ?_
    (with_reducible refine' andLen ?h1_30 ?h_30); (case h1_30 => (simp; done))
    with_reducible refine' wA_nil ?_
    (with_reducible refine' andLen ?h1_32 ?h_32); (case h1_32 => (simp; done))
    with_reducible refine' exR ?_
    with_reducible refine' exT2 ?_
    refine ⟨hq, [n % d], rfl, Limbs.nil.cons (by (first | lia | omega)), by simp [val], by simp; (first | lia | omega)⟩
  · skip
    refine wE_listEmp ?_
    with_reducible refine' wA_nil ?_
    (with_reducible refine' andLen ?h1_36 ?h_36); (case h1_36 => (simp; done))
    with_reducible refine' exR ?_
    with_reducible refine' exT2 ?_
    refine ⟨hq, [], rfl, ?_⟩
    rw [show n % d = 0 by (first | lia | omega)]
    exact Can.nil
end
section
variable {g : G PP}
theorem guess_eq {B b1 b0 t0 high limb : Int} : (high - limb * b1) * B + t0 - limb * b0 = (high * B + t0) - limb * (b1 * B + b0) := by
  rw [Int.sub_mul, Int.mul_add, Int.mul_assoc]; (first | lia | omega)
theorem t_guessed_limb (w : Nat) (hw : 1 ≤ w ∧ w ≤ 29) (tp : List Int) (ht : tp.length = 3) (hl : Limbs (2 ^ w) tp) (b1 b0 : Int) (h1 : 1 ≤ b1 ∧ b1 < 2 ^ w) (h0 : 0 ≤ b0 ∧ b0 < 2 ^ w)
    (hT : (tp.getD 2 0 * 2 ^ w + tp.getD 1 0) * 2 ^ w + tp.getD 0 0 < 2 ^ w * (b1 * 2 ^ w + b0)) :
    GCall g (g.fa "guessed_limb") 1 [.list (zints tp), .int b1, .int b0, .int w] (fun _ => none)
      (fun x _ => x = .int (((tp.getD 2 0 * 2 ^ w + tp.getD 1 0) * 2 ^ w + tp.getD 0 0) / (b1 * 2 ^ w + b0))) := by
  have hB := one_lt_pow hw.1
  have hB30 := pow_le30 (w := w) (by (first | lia | omega))
  have l0 := getD_limb (by (first | lia | omega)) hl 0
  have l1 := getD_limb (by (first | lia | omega)) hl 1
  have l2 := getD_limb (by (first | lia | omega)) hl 2
  refine' gcall (d := dOf 23) (dOf_mem 23 (by decide)) (hbody := ?enB) (hscope := ?enS) (hparams := ?enP) (hname := rfl) (names := ["top", "first", "second", "w"]) (hk := ?enK) (hbind := ?enI) (hloc := ?enL) (h := ?enH) (hco := ?enC) (hgen := ?enG) (hcell := ?enE)
  case enB => (conv => lhs; whnf)
  case enS => (conv => lhs; whnf)
  case enP => (conv => lhs; whnf)
  case enK => rfl
  case enI => exact args4 fun _ _ _ _ _ _ _ => rfl
  case enL => decide +kernel
  case enC => rfl
  case enG => rfl
  case enE => decide +kernel
  with_reducible refine' wS_cons ?_
  (with_reducible refine' wX_swap2 ?h_2 ?h1_2 ?h2_2 ?h3_2 ?h4_2); (case h4_2 => (intros; exact rfl)); (case h1_2 => exact rfl); (case h2_2 => exact rfl); (case h3_2 => (intros; exact rfl))
  with_reducible refine' wE_tuple ?_
  (with_reducible refine' wA_cons ?h_4 ?hs_4); (case hs_4 => (intro _; exact rfl))
  with_reducible refine' wE_binop ?_
  with_reducible refine' wE_binop ?_
  with_reducible refine' wE_sub ?_
  (with_reducible refine' wE_local ?hv_8 ?h_8 ?hl_8 ?hd_8); (case hl_8 => exact rfl); (case hd_8 => decide +kernel); (case hv_8 => none_booked)
  with_reducible refine' wE_int ?_
  (with_reducible refine' s_z ?h0_10 ?h1_10 ?h2_10 ?h_10 ?hs_10); (case hs_10 => (intro _ _; exact rfl)); (case h0_10 => (first | lia | omega)); (case h1_10 => (first | lia | omega)); (case h2_10 => (first | lia | omega))
  (with_reducible refine' wE_local ?hv_11 ?h_11 ?hl_11 ?hd_11); (case hl_11 => exact rfl); (case hd_11 => decide +kernel); (case hv_11 => none_booked)
  simp only [show Int.toNat 2 = 2 from rfl]
  (with_reducible refine' o_shl ?h1_12 ?h2_12 ?h_12); (case h1_12 => (first | lia | omega)); (case h2_12 => (first | lia | omega))
  with_reducible refine' wE_sub ?_
  (with_reducible refine' wE_local ?hv_14 ?h_14 ?hl_14 ?hd_14); (case hl_14 => exact rfl); (case hd_14 => decide +kernel); (case hv_14 => none_booked)
  with_reducible refine' wE_int ?_
  (with_reducible refine' s_z ?h0_16 ?h1_16 ?h2_16 ?h_16 ?hs_16); (case hs_16 => (intro _ _; exact rfl)); (case h0_16 => (first | lia | omega)); (case h1_16 => (first | lia | omega)); (case h2_16 => (first | lia | omega))
  simp only [show Int.toNat 1 = 1 from rfl]
  (with_reducible refine' o_orL ?h1_17 ?h2_17 ?h3_17 ?h_17); (case h1_17 => (first | lia | omega)); (case h2_17 => (first | lia | omega)); (case h3_17 => (first | lia | omega))
  (with_reducible refine' wA_cons ?h_18 ?hs_18); (case hs_18 => (intro _; exact rfl))
  with_reducible refine' wE_binop ?_
  with_reducible refine' wE_int ?_
  (with_reducible refine' wE_local ?hv_21 ?h_21 ?hl_21 ?hd_21); (case hl_21 => exact rfl); (case hd_21 => decide +kernel); (case hv_21 => none_booked)
  (with_reducible refine' o_shl1 ?h1_22 ?h_22); (case h1_22 => (first | lia | omega))
  with_reducible refine' wA_nil ?_
  (with_reducible refine' andLen ?h1_24 ?h_24); (case h1_24 => (simp; done))
  with_reducible refine' exT2 ?_
  with_reducible refine' wS_cons ?_
  (with_reducible refine' wX_assign ?h_27 ?hl_27 ?hs_27); (case hl_27 => exact rfl); (case hs_27 => (intros; exact rfl))
  (with_reducible refine' wE_min ?h_28 ?h1_28 ?h2_28 ?h3_28); (case h1_28 => exact rfl); (case h2_28 => (intro _; exact rfl)); (case h3_28 => (intro _; exact ⟨_, _, rfl, rfl⟩))
  (with_reducible refine' wA_cons ?h_29 ?hs_29); (case hs_29 => (intro _; exact rfl))
  with_reducible refine' wE_binop ?_
  (with_reducible refine' wE_local ?hv_31 ?h_31 ?hl_31 ?hd_31); (case hl_31 => exact rfl); (case hd_31 => decide +kernel); (case hv_31 => none_booked)
  (with_reducible refine' wE_local ?hv_32 ?h_32 ?hl_32 ?hd_32); (case hl_32 => exact rfl); (case hd_32 => decide +kernel); (case hv_32 => none_booked)
  (with_reducible refine' o_div ?h1_33 ?h2_33 ?h_33); (case h1_33 => (first | lia | omega)); (case h2_33 => (first | lia | omega))
  (with_reducible refine' wA_cons ?h_34 ?hs_34); (case hs_34 => (intro _; exact rfl))
  with_reducible refine' wE_binop ?_
  (with_reducible refine' wE_local ?hv_36 ?h_36 ?hl_36 ?hd_36); (case hl_36 => exact rfl); (case hd_36 => decide +kernel); (case hv_36 => none_booked)
  with_reducible refine' wE_int ?_
  with_reducible refine' o_sub ?_
  with_reducible refine' wA_nil ?_
  generalize ht0 : tp.getD 0 0 = t0 at *
  generalize tp.getD 1 0 = t1 at *
  generalize tp.getD 2 0 = t2 at *
  have hm : 0 ≤ t2 * 2 ^ w := Int.mul_nonneg l2.1 (by (first | lia | omega))
  generalize hh : t2 * 2 ^ w + t1 = high at *
  have hD0 : 0 < b1 * 2 ^ w := Int.mul_pos (by (first | lia | omega)) (by (first | lia | omega))
  have hD : 0 < b1 * 2 ^ w + b0 := by (first | lia | omega)
  have hq0 : 0 ≤ (high * 2 ^ w + t0) / (b1 * 2 ^ w + b0) := Int.ediv_nonneg (by have := Int.mul_nonneg (show 0 ≤ high by (first | lia | omega)) (show (0:Int) ≤ 2 ^ w by (first | lia | omega)); (first | lia | omega)) (by (first | lia | omega))
  have hq1 : (high * 2 ^ w + t0) / (b1 * 2 ^ w + b0) < 2 ^ w := Int.ediv_lt_of_lt_mul hD hT
  have hq2 : (high * 2 ^ w + t0) / (b1 * 2 ^ w + b0) ≤ high / b1 := by
    rw [Int.le_ediv_iff_mul_le (by (first | lia | omega))]
    have e := Int.ediv_mul_le (high * 2 ^ w + t0) (show b1 * 2 ^ w + b0 ≠ 0 by (first | lia | omega))
    generalize (high * 2 ^ w + t0) / (b1 * 2 ^ w + b0) = q at *
    have e2 : q * b1 * 2 ^ w ≤ high * 2 ^ w + t0 := by
      rw [Int.mul_add, ← Int.mul_assoc] at e
      have := Int.mul_nonneg hq0 h0.1
      (first | lia | omega)
    have e3 : q * b1 * 2 ^ w < (high + 1) * 2 ^ w := by rw [Int.add_mul]; (first | lia | omega)
    have := Int.lt_of_mul_lt_mul_right e3 (by (first | lia | omega))
    (first | lia | omega)
  refine b_min ?_
  have hmin : ∃ m, (if 2 ^ w - 1 < high / b1 then 2 ^ w - 1 else high / b1) = m ∧ (high * 2 ^ w + t0) / (b1 * 2 ^ w + b0) ≤ m ∧ m ≤ 2 ^ w - 1 ∧ m * b1 ≤ high := by
    refine ⟨_, rfl, ?_, ?_, ?_⟩
    · split <;> (first | lia | omega)
    · split <;> (first | lia | omega)
    · have e := Int.ediv_mul_le high (show b1 ≠ 0 by (first | lia | omega))
      split
      · have : (2 ^ w - 1) * b1 ≤ high / b1 * b1 := Int.mul_le_mul_of_nonneg_right (by (first | lia | omega)) (by (first | lia | omega))
        (first | lia | omega)
      · exact e
  obtain ⟨m, hme, hm1, hm2, hm3⟩ := hmin
  rw [hme]
  with_reducible refine' wS_cons ?_
  (with_reducible refine' wX_assign ?h_41 ?hl_41 ?hs_41); (case hl_41 => exact rfl); (case hs_41 => (intros; exact rfl))
  with_reducible refine' wE_binop ?_
  (with_reducible refine' wE_local ?hv_43 ?h_43 ?hl_43 ?hd_43); (case hl_43 => exact rfl); (case hd_43 => decide +kernel); (case hv_43 => none_booked)
  with_reducible refine' wE_binop ?_
  (with_reducible refine' wE_local ?hv_45 ?h_45 ?hl_45 ?hd_45); (case hl_45 => exact rfl); (case hd_45 => decide +kernel); (case hv_45 => none_booked)
  (with_reducible refine' wE_local ?hv_46 ?h_46 ?hl_46 ?hd_46); (case hl_46 => exact rfl); (case hd_46 => decide +kernel); (case hv_46 => none_booked)
  refine o_mulS (by (first | lia | omega)) ?_
  with_reducible refine' o_sub ?_
  with_reducible refine' wS_cons ?_
  refine wX_while_inv (fun n S => ∃ limb : Int, n = limb.toNat ∧ S.m "limb" = some (.int limb) ∧ S.m "rest" = some (.int (high - limb * b1)) ∧ S.m "base" = some (.int (2 ^ w)) ∧ S.m "second" = some (.int b0) ∧ S.m "first" = some (.int b1) ∧ S.m "top" = some (.list (zints tp)) ∧ S.m "w" = some (.int w) ∧
      (high * 2 ^ w + t0) / (b1 * 2 ^ w + b0) ≤ limb ∧ limb ≤ 2 ^ w - 1 ∧ limb * b1 ≤ high) m.toNat ?_ ?_
  · exact ⟨m, rfl, by none_booked, by none_booked, by none_booked, by none_booked, by none_booked, by none_booked, by none_booked, hm1, hm2, hm3⟩
  · rintro n S ⟨limb, rfl, hli, hre, hba, hse, hfi, hto, hww, hx1, hx2, hx3⟩
    have hmb : 0 ≤ limb * b0 := Int.mul_nonneg (by (first | lia | omega)) (by (first | lia | omega))
    have hmb2 : limb * b0 ≤ (2 ^ w - 1) * (2 ^ w - 1) := Int.mul_le_mul (by (first | lia | omega)) (by (first | lia | omega)) h0.1 (by (first | lia | omega))
    have e1 : ((2:Int) ^ w - 1) * (2 ^ w - 1) = 2 ^ w * 2 ^ w - 2 * 2 ^ w + 1 := by rw [Int.sub_mul, Int.mul_sub]; (first | lia | omega)
    have ge := guess_eq (B := 2 ^ w) (b1 := b1) (b0 := b0) (t0 := t0) (high := high) (limb := limb)
    with_reducible refine' wT_and ?_
    (with_reducible refine' wT_cmp ?h_50 ?hm_50); (case hm_50 => with_unfolding_all exact rfl)
    (with_reducible refine' wE_local ?hv_51 ?h_51 ?hl_51 ?hd_51); (case hl_51 => exact rfl); (case hd_51 => decide +kernel); (case hv_51 => none_booked)
    (with_reducible refine' wE_local ?hv_52 ?h_52 ?hl_52 ?hd_52); (case hl_52 => exact rfl); (case hd_52 => decide +kernel); (case hv_52 => none_booked)
    with_reducible refine' c_lt ?_
    with_reducible refine' exTB ?_
    refine iteD (fun h => ?_) (fun h => ?_)
    · with_reducible refine' wT_and ?_
      (with_reducible refine' wT_cmp ?h_56 ?hm_56); (case hm_56 => with_unfolding_all exact rfl)
      with_reducible refine' wE_binop ?_
      (with_reducible refine' wE_local ?hv_58 ?h_58 ?hl_58 ?hd_58); (case hl_58 => exact rfl); (case hd_58 => decide +kernel); (case hv_58 => none_booked)
      (with_reducible refine' wE_local ?hv_59 ?h_59 ?hl_59 ?hd_59); (case hl_59 => exact rfl); (case hd_59 => decide +kernel); (case hv_59 => none_booked)
      refine o_mulS (by (first | lia | omega)) ?_
      with_reducible refine' wE_binop ?_
      with_reducible refine' wE_binop ?_
      (with_reducible refine' wE_local ?hv_62 ?h_62 ?hl_62 ?hd_62); (case hl_62 => exact rfl); (case hd_62 => decide +kernel); (case hv_62 => none_booked)
      (with_reducible refine' wE_local ?hv_63 ?h_63 ?hl_63 ?hd_63); (case hl_63 => exact rfl); (case hd_63 => decide +kernel); (case hv_63 => none_booked)
      (with_reducible refine' o_shl ?h1_64 ?h2_64 ?h_64); (case h1_64 => (first | lia | omega)); (case h2_64 => (first | lia | omega))
      with_reducible refine' wE_sub ?_
      (with_reducible refine' wE_local ?hv_66 ?h_66 ?hl_66 ?hd_66); (case hl_66 => exact rfl); (case hd_66 => decide +kernel); (case hv_66 => none_booked)
      with_reducible refine' wE_int ?_
      (with_reducible refine' s_z ?h0_68 ?h1_68 ?h2_68 ?h_68 ?hs_68); (case hs_68 => (intro _ _; exact rfl)); (case h0_68 => (first | lia | omega)); (case h1_68 => (first | lia | omega)); (case h2_68 => (first | lia | omega))
      simp only [show Int.toNat 0 = 0 from rfl, ht0]
      have hr : 0 ≤ high - limb * b1 := by (first | lia | omega)
      generalize hrr : high - limb * b1 = rr at *
      refine o_orL (by (first | lia | omega)) (by (first | lia | omega)) (by (first | lia | omega)) ?_
      with_reducible refine' c_gt ?_
      with_reducible refine' exTB ?_
      refine iteD (fun h2 => ?_) (fun h2 => ?_)
      · with_reducible refine' wT_and_nil ?_
        with_reducible refine' iteT ?_
        with_reducible refine' wS_cons ?_
        (with_reducible refine' wX_aug ?hv_74 ?h_74 ?hl_74); (case hl_74 => exact rfl); (case hv_74 => none_booked)
        with_reducible refine' wE_int ?_
        with_reducible refine' i_sub ?_
        with_reducible refine' wS_cons ?_
        (with_reducible refine' wX_aug ?hv_78 ?h_78 ?hl_78); (case hl_78 => exact rfl); (case hv_78 => none_booked)
        (with_reducible refine' wE_local ?hv_79 ?h_79 ?hl_79 ?hd_79); (case hl_79 => exact rfl); (case hd_79 => decide +kernel); (case hv_79 => none_booked)
        with_reducible refine' i_add ?_
        with_reducible refine' wS_nil ?_
        have hlt : (high * 2 ^ w + t0) / (b1 * 2 ^ w + b0) < limb := by
          rw [Int.ediv_lt_iff_lt_mul hD]; (first | lia | omega)
        have e5 : (limb - 1) * b1 = limb * b1 - b1 := by rw [Int.sub_mul]; (first | lia | omega)
        refine ⟨_, ?_, limb - 1, rfl, by none_booked, ?_, by none_booked, by none_booked, by none_booked, by none_booked, by none_booked, by (first | lia | omega), by (first | lia | omega), by (first | lia | omega)⟩
        · (first | lia | omega)
        · rw [show high - (limb - 1) * b1 = rr + b1 by (first | lia | omega)]; none_booked
      · with_reducible refine' iteF ?_
        with_reducible refine' wS_cons ?_
        with_reducible refine' wX_return ?_
        (with_reducible refine' wE_local ?hv_85 ?h_85 ?hl_85 ?hd_85); (case hl_85 => exact rfl); (case hd_85 => decide +kernel); (case hv_85 => none_booked)
        with_reducible refine' exR ?_
        have : limb = (high * 2 ^ w + t0) / (b1 * 2 ^ w + b0) := by
          have : limb ≤ (high * 2 ^ w + t0) / (b1 * 2 ^ w + b0) := by rw [Int.le_ediv_iff_mul_le hD]; (first | lia | omega)
          (first | lia | omega)
        rw [← this]
    · with_reducible refine' iteF ?_
      with_reducible refine' wS_cons ?_
      with_reducible refine' wX_return ?_
      (with_reducible refine' wE_local ?hv_90 ?h_90 ?hl_90 ?hd_90); (case hl_90 => exact rfl); (case hd_90 => decide +kernel); (case hv_90 => none_booked)
      with_reducible refine' exR ?_
      have h3 : 2 ^ w * 2 ^ w ≤ (high - limb * b1) * 2 ^ w := Int.mul_le_mul_of_nonneg_right (by (first | lia | omega)) (by (first | lia | omega))
      have : limb = (high * 2 ^ w + t0) / (b1 * 2 ^ w + b0) := by
        have : limb ≤ (high * 2 ^ w + t0) / (b1 * 2 ^ w + b0) := by rw [Int.le_ediv_iff_mul_le hD]; (first | lia | omega)
        (first | lia | omega)
      rw [← this]
theorem borrow_step {B x f c : Int} (hB : 0 < B) (hf : 0 ≤ f ∧ f < B) : ∃ n c' : Int, (if f - (x + c) % B < 0 then f - (x + c) % B + B else f - (x + c) % B) = n ∧ (x + c) / B + (if f - (x + c) % B < 0 then 1 else 0) = c' ∧ 0 ≤ n ∧ n < B ∧ n - f = B * c' - x - c := by
  have e := Int.emod_add_mul_ediv (x + c) B
  have b := mod_limb (B := B) (c := x + c) hB
  refine ⟨_, _, rfl, rfl, ?_, ?_, ?_⟩
  · split <;> (first | lia | omega)
  · split <;> (first | lia | omega)
  · rw [Int.mul_add]
    generalize B * ((x + c) / B) = z at *
    split <;> (first | lia | omega)
theorem t_take_away (w : Nat) (hw : 1 ≤ w ∧ w ≤ 29) (a : Addr) (r b : List Int) (limb : Int) (at' : Nat) (hr : Limbs (2 ^ w) r) (hb : Limbs (2 ^ w) b) (hrl : r.length ≤ 2 ^ 20)
    (hlen : at' + b.length < r.length) (hq : 0 ≤ limb ∧ limb < 2 ^ w) (hle : (2 ^ w) ^ at' * (limb * val (2 ^ w) b) ≤ val (2 ^ w) r) (hhi : val (2 ^ w) r < (2 ^ w) ^ (at' + b.length + 1)) :
    GCall g (g.fa "take_away") 1 [.ref a, .list (zints b), .int limb, .int at', .int w] (fun q => if q = a then some (zints r) else none)
      (fun x σ' => ∃ l', σ' a = some l' ∧ (x = .int 0 ∧ ∃ r', l' = zints r' ∧ Limbs (2 ^ w) r' ∧ r'.length = r.length ∧ val (2 ^ w) r' = val (2 ^ w) r - (2 ^ w) ^ at' * (limb * val (2 ^ w) b))) := by
  have hB := one_lt_pow hw.1
  have hB30 := pow_le30 (w := w) (by (first | lia | omega))
  have hz := zero_above hB hr hhi
  have hB29 : (2:Int) ^ w * 2 ≤ 1073741824 := by have := pow_le30 (w := w+1) (by (first | lia | omega)); rw [Int.pow_succ] at this; exact this
  refine' gcall (d := dOf 24) (dOf_mem 24 (by decide)) (hbody := ?enB) (hscope := ?enS) (hparams := ?enP) (hname := rfl) (names := ["rest", "b", "limb", "at", "w"]) (hk := ?enK) (hbind := ?enI) (hloc := ?enL) (h := ?enH) (hco := ?enC) (hgen := ?enG) (hcell := ?enE)
  case enB => (conv => lhs; whnf)
  case enS => (conv => lhs; whnf)
  case enP => (conv => lhs; whnf)
  case enK => rfl
  case enI => exact args5 fun _ _ _ _ _ _ _ _ => rfl
  case enL => decide +kernel
  case enC => rfl
  case enG => rfl
  case enE => decide +kernel
  with_reducible refine' wS_cons ?_
  (with_reducible refine' wX_swap2 ?h_2 ?h1_2 ?h2_2 ?h3_2 ?h4_2); (case h4_2 => (intros; exact rfl)); (case h1_2 => exact rfl); (case h2_2 => exact rfl); (case h3_2 => (intros; exact rfl))
  with_reducible refine' wE_tuple ?_
  (with_reducible refine' wA_cons ?h_4 ?hs_4); (case hs_4 => (intro _; exact rfl))
  with_reducible refine' wE_int ?_
  (with_reducible refine' wA_cons ?h_6 ?hs_6); (case hs_6 => (intro _; exact rfl))
  with_reducible refine' wE_binop ?_
  with_reducible refine' wE_int ?_
  (with_reducible refine' wE_local ?hv_9 ?h_9 ?hl_9 ?hd_9); (case hl_9 => exact rfl); (case hd_9 => decide +kernel); (case hv_9 => none_booked)
  (with_reducible refine' o_shl1 ?h1_10 ?h_10); (case h1_10 => (first | lia | omega))
  with_reducible refine' wA_nil ?_
  (with_reducible refine' andLen ?h1_12 ?h_12); (case h1_12 => (simp; done))
  with_reducible refine' exT2 ?_
  with_reducible refine' wS_cons ?_
  refine wX_enum (g.bi _ (by decide +kernel)) ?_
  (with_reducible refine' wE_local ?hv_15 ?h_15 ?hl_15 ?hd_15); (case hl_15 => exact rfl); (case hd_15 => decide +kernel); (case hv_15 => none_booked)
  with_reducible refine' exL ?_
  obtain ⟨I, hI⟩ : ∃ I : Nat → List V → St → Prop, ∀ j us S, I j us S ↔ ∃ (f : List Int) (cr : Int), us = zints (b.drop j) ∧ j ≤ b.length ∧ S.m "b" = some (.list (zints b)) ∧ S.m "base" = some (.int (2 ^ w)) ∧ S.m "at" = some (.int at') ∧ S.m "limb" = some (.int limb) ∧
        S.m "rest" = some (.ref a) ∧ S.m "carry" = some (.int cr) ∧ (0 ≤ cr ∧ cr < 2 ^ w) ∧ S.σ a = some (zints f) ∧ Limbs (2 ^ w) f ∧ f.length = r.length ∧ (∀ j, at' + b.length + 1 ≤ j → f.getD j 0 = 0) ∧
        val (2 ^ w) f = val (2 ^ w) r - (2 ^ w) ^ at' * (limb * val (2 ^ w) (b.take j)) + (2 ^ w) ^ (at' + j) * cr := ⟨_, fun _ _ _ => Iff.rfl⟩
  refine loopE_inv I ?_ ?_ ?_
  · intro j u us S hh
    obtain ⟨f, cr, hus, hj, hb', hba, hat, hlimb, hrs, hc, hcr, hs, hlf, hfl, hz', hv⟩ := (hI _ _ _).mp hh
    clear hh
    obtain ⟨hjl, rfl, rfl⟩ := zints_cons hus
    have bo := getD_limb (by (first | lia | omega)) hb j
    have bf := getD_limb (by (first | lia | omega)) hlf (at' + j)
    obtain ⟨nn, c', hn, hc', hn0, hn1, hne⟩ := borrow_step (B := 2 ^ w) (x := limb * b.getD j 0) (f := f.getD (at' + j) 0) (c := cr) (by (first | lia | omega)) bf
    have hm0 : 0 ≤ limb * b.getD j 0 := Int.mul_nonneg hq.1 bo.1
    have hm1 : limb * b.getD j 0 ≤ (2 ^ w - 1) * (2 ^ w - 1) := Int.mul_le_mul (by (first | lia | omega)) (by (first | lia | omega)) bo.1 (by (first | lia | omega))
    have e1 : ((2:Int) ^ w - 1) * (2 ^ w - 1) = 2 ^ w * 2 ^ w - 2 * 2 ^ w + 1 := by rw [Int.sub_mul, Int.mul_sub]; (first | lia | omega)
    have hc'1 : c' < 2 ^ w := Int.lt_of_mul_lt_mul_left (a := 2 ^ w) (by (first | lia | omega)) (by (first | lia | omega))
    have hc'0 : 0 ≤ c' := by
      have := Int.ediv_nonneg (show 0 ≤ limb * b.getD j 0 + cr by (first | lia | omega)) (show (0:Int) ≤ 2 ^ w by (first | lia | omega))
      rw [← hc']; split <;> (first | lia | omega)
    have h3 : at' + j < f.length := by (first | lia | omega)
    have fin : ∃ (f' : List Int) (cr' : Int), f' = f.set (at' + j) nn ∧ cr' = c' ∧ Limbs (2 ^ w) f' ∧ f'.length = r.length ∧ (∀ j, at' + b.length + 1 ≤ j → f'.getD j 0 = 0) ∧
        val (2 ^ w) f' = val (2 ^ w) r - (2 ^ w) ^ at' * (limb * val (2 ^ w) (b.take (j + 1))) + (2 ^ w) ^ (at' + (j + 1)) * cr' := by
      refine ⟨_, _, rfl, rfl, hlf.set _ ⟨hn0, hn1⟩, by simp [hfl], ?_, ?_⟩
      · intro q hq
        rw [getD_set_ne (by (first | lia | omega))]
        exact hz' q hq
      · rw [val_set _ h3, hne, hv, val_take_succ', ← Nat.add_assoc, Int.pow_succ]
        rw [Int.mul_sub, Int.mul_sub, Int.mul_add, Int.mul_add, Int.mul_left_comm limb, ← Int.mul_assoc ((2 ^ w) ^ at') ((2 ^ w) ^ j), ← Int.pow_add, Int.mul_assoc ((2 ^ w) ^ (at' + j)) (2 ^ w) c']
        (first | lia | omega)
    obtain ⟨f', cr', rfl, rfl, g1, g2, g3, g4⟩ := fin
    with_reducible refine' wS_cons ?_
    (with_reducible refine' wX_assign ?h_18 ?hl_18 ?hs_18); (case hl_18 => exact rfl); (case hs_18 => (intros; exact rfl))
    with_reducible refine' wE_binop ?_
    with_reducible refine' wE_sub ?_
    (with_reducible refine' wE_local ?hv_21 ?h_21 ?hl_21 ?hd_21); (case hl_21 => exact rfl); (case hd_21 => decide +kernel); (case hv_21 => none_booked)
    with_reducible refine' wE_binop ?_
    (with_reducible refine' wE_local ?hv_23 ?h_23 ?hl_23 ?hd_23); (case hl_23 => exact rfl); (case hd_23 => decide +kernel); (case hv_23 => none_booked)
    (with_reducible refine' wE_local ?hv_24 ?h_24 ?hl_24 ?hd_24); (case hl_24 => exact rfl); (case hd_24 => decide +kernel); (case hv_24 => none_booked)
    with_reducible refine' o_addN ?_
    (with_reducible refine' s_zrN ?ha_26 ?h1_26 ?h2_26 ?h_26 ?hs_26); (case hs_26 => (intro _ _; exact rfl)); (case ha_26 => none_booked); (case h1_26 => (first | lia | omega)); (case h2_26 => (first | lia | omega))
    with_reducible refine' wE_binop ?_
    with_reducible refine' wE_binop ?_
    with_reducible refine' wE_binop ?_
    (with_reducible refine' wE_local ?hv_30 ?h_30 ?hl_30 ?hd_30); (case hl_30 => exact rfl); (case hd_30 => decide +kernel); (case hv_30 => none_booked)
    (with_reducible refine' wE_local ?hv_31 ?h_31 ?hl_31 ?hd_31); (case hl_31 => exact rfl); (case hd_31 => decide +kernel); (case hv_31 => none_booked)
    refine o_mulS (by (first | lia | omega)) ?_
    (with_reducible refine' wE_local ?hv_32 ?h_32 ?hl_32 ?hd_32); (case hl_32 => exact rfl); (case hd_32 => decide +kernel); (case hv_32 => none_booked)
    with_reducible refine' o_add ?_
    (with_reducible refine' wE_local ?hv_34 ?h_34 ?hl_34 ?hd_34); (case hl_34 => exact rfl); (case hd_34 => decide +kernel); (case hv_34 => none_booked)
    (with_reducible refine' o_md ?h1_35 ?h_35); (case h1_35 => (first | lia | omega))
    with_reducible refine' o_sub ?_
    with_reducible refine' wS_cons ?_
    (with_reducible refine' wX_assign ?h_38 ?hl_38 ?hs_38); (case hl_38 => exact rfl); (case hs_38 => (intros; exact rfl))
    with_reducible refine' wE_binop ?_
    with_reducible refine' wE_binop ?_
    with_reducible refine' wE_binop ?_
    with_reducible refine' wE_binop ?_
    (with_reducible refine' wE_local ?hv_43 ?h_43 ?hl_43 ?hd_43); (case hl_43 => exact rfl); (case hd_43 => decide +kernel); (case hv_43 => none_booked)
    (with_reducible refine' wE_local ?hv_44 ?h_44 ?hl_44 ?hd_44); (case hl_44 => exact rfl); (case hd_44 => decide +kernel); (case hv_44 => none_booked)
    refine o_mulS (by (first | lia | omega)) ?_
    (with_reducible refine' wE_local ?hv_45 ?h_45 ?hl_45 ?hd_45); (case hl_45 => exact rfl); (case hd_45 => decide +kernel); (case hv_45 => none_booked)
    with_reducible refine' o_add ?_
    (with_reducible refine' wE_local ?hv_47 ?h_47 ?hl_47 ?hd_47); (case hl_47 => exact rfl); (case hd_47 => decide +kernel); (case hv_47 => none_booked)
    (with_reducible refine' o_div ?h1_48 ?h2_48 ?h_48); (case h1_48 => (first | lia | omega)); (case h2_48 => (first | lia | omega))
    with_reducible refine' wE_ifexp ?_
    (with_reducible refine' wT_cmp ?h_50 ?hm_50); (case hm_50 => with_unfolding_all exact rfl)
    (with_reducible refine' wE_local ?hv_51 ?h_51 ?hl_51 ?hd_51); (case hl_51 => exact rfl); (case hd_51 => decide +kernel); (case hv_51 => none_booked)
    with_reducible refine' wE_int ?_
    with_reducible refine' c_lt ?_
    with_reducible refine' exTB ?_
    refine iteD (fun h => ?_) (fun h => ?_)
    · rw [if_pos h] at hn hc'
      with_reducible refine' wE_int ?_
      with_reducible refine' o_add ?_
      with_reducible refine' wS_cons ?_
      (with_reducible refine' wX_setitem ?h_58 ?h1_58); (case h1_58 => (intros; exact rfl))
      with_reducible refine' wE_ifexp ?_
      (with_reducible refine' wT_cmp ?h_60 ?hm_60); (case hm_60 => with_unfolding_all exact rfl)
      (with_reducible refine' wE_local ?hv_61 ?h_61 ?hl_61 ?hd_61); (case hl_61 => exact rfl); (case hd_61 => decide +kernel); (case hv_61 => none_booked)
      with_reducible refine' wE_int ?_
      with_reducible refine' c_lt ?_
      with_reducible refine' exTB ?_
      refine iteD (fun _ => ?_) (fun h' => ?_)
      rotate_left
      · exact absurd h h'
      with_reducible refine' wE_binop ?_
      (with_reducible refine' wE_local ?hv_66 ?h_66 ?hl_66 ?hd_66); (case hl_66 => exact rfl); (case hd_66 => decide +kernel); (case hv_66 => none_booked)
      (with_reducible refine' wE_local ?hv_67 ?h_67 ?hl_67 ?hd_67); (case hl_67 => exact rfl); (case hd_67 => decide +kernel); (case hv_67 => none_booked)
      with_reducible refine' o_add ?_
      (with_reducible refine' wE_local ?hv_69 ?h_69 ?hl_69 ?hd_69); (case hl_69 => exact rfl); (case hd_69 => decide +kernel); (case hv_69 => none_booked)
      with_reducible refine' wE_binop ?_
      (with_reducible refine' wE_local ?hv_71 ?h_71 ?hl_71 ?hd_71); (case hl_71 => exact rfl); (case hd_71 => decide +kernel); (case hv_71 => none_booked)
      (with_reducible refine' wE_local ?hv_72 ?h_72 ?hl_72 ?hd_72); (case hl_72 => exact rfl); (case hd_72 => decide +kernel); (case hv_72 => none_booked)
      with_reducible refine' o_addN ?_
      (with_reducible refine' exSetZ ?h1_74 ?h2_74 ?h3_74 ?h4_74 ?h_74); (case h1_74 => none_booked); (case h2_74 => (first | lia | omega)); (case h3_74 => ((try simp only [List.length_set, List.length_replicate, List.length_append, List.length_cons, List.length_nil]); (first | lia | omega))); (case h4_74 => ((try simp only [List.length_set, List.length_replicate, List.length_append, List.length_cons, List.length_nil]); (first | lia | omega)))
      with_reducible refine' wS_nil ?_
      rw [hn, hc']
      exact (hI _ _ _).mpr ⟨_, _, rfl, by (first | lia | omega), by none_booked, by none_booked, by none_booked, by none_booked, by none_booked, by none_booked, ⟨hc'0, hc'1⟩, by none_booked, g1, g2, g3, g4⟩
    · rw [if_neg h] at hn hc'
      with_reducible refine' wE_int ?_
      with_reducible refine' o_add ?_
      with_reducible refine' wS_cons ?_
      (with_reducible refine' wX_setitem ?h_79 ?h1_79); (case h1_79 => (intros; exact rfl))
      with_reducible refine' wE_ifexp ?_
      (with_reducible refine' wT_cmp ?h_81 ?hm_81); (case hm_81 => with_unfolding_all exact rfl)
      (with_reducible refine' wE_local ?hv_82 ?h_82 ?hl_82 ?hd_82); (case hl_82 => exact rfl); (case hd_82 => decide +kernel); (case hv_82 => none_booked)
      with_reducible refine' wE_int ?_
      with_reducible refine' c_lt ?_
      with_reducible refine' exTB ?_
      refine iteD (fun h' => absurd h' h) (fun h' => ?_)
      (with_reducible refine' wE_local ?hv_86 ?h_86 ?hl_86 ?hd_86); (case hl_86 => exact rfl); (case hd_86 => decide +kernel); (case hv_86 => none_booked)
      (with_reducible refine' wE_local ?hv_87 ?h_87 ?hl_87 ?hd_87); (case hl_87 => exact rfl); (case hd_87 => decide +kernel); (case hv_87 => none_booked)
      with_reducible refine' wE_binop ?_
      (with_reducible refine' wE_local ?hv_89 ?h_89 ?hl_89 ?hd_89); (case hl_89 => exact rfl); (case hd_89 => decide +kernel); (case hv_89 => none_booked)
      (with_reducible refine' wE_local ?hv_90 ?h_90 ?hl_90 ?hd_90); (case hl_90 => exact rfl); (case hd_90 => decide +kernel); (case hv_90 => none_booked)
      with_reducible refine' o_addN ?_
      (with_reducible refine' exSetZ ?h1_92 ?h2_92 ?h3_92 ?h4_92 ?h_92); (case h1_92 => none_booked); (case h2_92 => (first | lia | omega)); (case h3_92 => ((try simp only [List.length_set, List.length_replicate, List.length_append, List.length_cons, List.length_nil]); (first | lia | omega))); (case h4_92 => ((try simp only [List.length_set, List.length_replicate, List.length_append, List.length_cons, List.length_nil]); (first | lia | omega)))
      with_reducible refine' wS_nil ?_
      rw [hn, hc']
      exact (hI _ _ _).mpr ⟨_, _, rfl, by (first | lia | omega), by none_booked, by none_booked, by none_booked, by none_booked, by none_booked, by none_booked, ⟨hc'0, hc'1⟩, by none_booked, g1, g2, g3, g4⟩
  · intro j S hh
    obtain ⟨f, cr, hus, hj, hb', hba, hat, hlimb, hrs, hc, hcr, hs, hlf, hfl, hz', hv⟩ := (hI _ _ _).mp hh
    clear hh
    have : j = b.length := by have := zints_nil hus; (first | lia | omega)
    subst this
    rw [List.take_length] at hv
    have h3 : at' + b.length < f.length := by (first | lia | omega)
    have hge : 0 ≤ f.getD (at' + b.length) 0 - cr := by
      apply Int.not_lt.mp
      intro hlt
      have e := val_of_zero (B := 2 ^ w) hz'
      rw [val_take_succ'] at e
      have e2 := val_lt (by (first | lia | omega)) (hlf.take (at' + b.length))
      rw [List.length_take, Nat.min_eq_left (by (first | lia | omega))] at e2
      have hp := pow_pos' (B := 2 ^ w) (by (first | lia | omega)) (at' + b.length)
      generalize ((2:Int) ^ w) ^ (at' + b.length) = P at *
      have e3 : P * (f.getD (at' + b.length) 0 + 1) ≤ P * cr := Int.mul_le_mul_of_nonneg_left (by (first | lia | omega)) (by (first | lia | omega))
      rw [Int.mul_add] at e3
      (first | lia | omega)
    have bf := getD_limb (by (first | lia | omega)) hlf (at' + b.length)
    with_reducible refine' wS_cons ?_
    (with_reducible refine' wX_assign ?h_95 ?hl_95 ?hs_95); (case hl_95 => exact rfl); (case hs_95 => (intros; exact rfl))
    with_reducible refine' wE_binop ?_
    with_reducible refine' wE_sub ?_
    (with_reducible refine' wE_local ?hv_98 ?h_98 ?hl_98 ?hd_98); (case hl_98 => exact rfl); (case hd_98 => decide +kernel); (case hv_98 => none_booked)
    with_reducible refine' wE_binop ?_
    (with_reducible refine' wE_local ?hv_100 ?h_100 ?hl_100 ?hd_100); (case hl_100 => exact rfl); (case hd_100 => decide +kernel); (case hv_100 => none_booked)
    (with_reducible refine' wE_len ?h_101 ?h1_101 ?h2_101 ?h3_101 ?h4_101); (case h1_101 => exact rfl); (case h2_101 => (intro _; exact rfl)); (case h3_101 => (intro _; exact ⟨_, _, rfl, rfl⟩)); (case h4_101 => (intro _; exact rfl))
    (with_reducible refine' wE_local ?hv_102 ?h_102 ?hl_102 ?hd_102); (case hl_102 => exact rfl); (case hd_102 => decide +kernel); (case hv_102 => none_booked)
    (with_reducible refine' b_len_z ?h1_103 ?h_103); (case h1_103 => (first | lia | omega))
    with_reducible refine' o_addN ?_
    (with_reducible refine' s_zrN ?ha_105 ?h1_105 ?h2_105 ?h_105 ?hs_105); (case hs_105 => (intro _ _; exact rfl)); (case ha_105 => none_booked); (case h1_105 => (first | lia | omega)); (case h2_105 => (first | lia | omega))
    (with_reducible refine' wE_local ?hv_106 ?h_106 ?hl_106 ?hd_106); (case hl_106 => exact rfl); (case hd_106 => decide +kernel); (case hv_106 => none_booked)
    with_reducible refine' o_sub ?_
    with_reducible refine' wS_cons ?_
    (with_reducible refine' wX_setitem ?h_109 ?h1_109); (case h1_109 => (intros; exact rfl))
    with_reducible refine' wE_ifexp ?_
    (with_reducible refine' wT_cmp ?h_111 ?hm_111); (case hm_111 => with_unfolding_all exact rfl)
    (with_reducible refine' wE_local ?hv_112 ?h_112 ?hl_112 ?hd_112); (case hl_112 => exact rfl); (case hd_112 => decide +kernel); (case hv_112 => none_booked)
    with_reducible refine' wE_int ?_
    with_reducible refine' c_lt ?_
    with_reducible refine' exTB ?_
    refine iteD (fun h => absurd h (by (first | lia | omega))) (fun h => ?_)
    (with_reducible refine' wE_local ?hv_116 ?h_116 ?hl_116 ?hd_116); (case hl_116 => exact rfl); (case hd_116 => decide +kernel); (case hv_116 => none_booked)
    (with_reducible refine' wE_local ?hv_117 ?h_117 ?hl_117 ?hd_117); (case hl_117 => exact rfl); (case hd_117 => decide +kernel); (case hv_117 => none_booked)
    with_reducible refine' wE_binop ?_
    (with_reducible refine' wE_local ?hv_119 ?h_119 ?hl_119 ?hd_119); (case hl_119 => exact rfl); (case hd_119 => decide +kernel); (case hv_119 => none_booked)
    (with_reducible refine' wE_len ?h_120 ?h1_120 ?h2_120 ?h3_120 ?h4_120); (case h1_120 => exact rfl); (case h2_120 => (intro _; exact rfl)); (case h3_120 => (intro _; exact ⟨_, _, rfl, rfl⟩)); (case h4_120 => (intro _; exact rfl))
    (with_reducible refine' wE_local ?hv_121 ?h_121 ?hl_121 ?hd_121); (case hl_121 => exact rfl); (case hd_121 => decide +kernel); (case hv_121 => none_booked)
    (with_reducible refine' b_len_z ?h1_122 ?h_122); (case h1_122 => (first | lia | omega))
    with_reducible refine' o_addN ?_
    (with_reducible refine' exSetZ ?h1_124 ?h2_124 ?h3_124 ?h4_124 ?h_124); (case h1_124 => none_booked); (case h2_124 => (first | lia | omega)); (case h3_124 => ((try simp only [List.length_set, List.length_replicate, List.length_append, List.length_cons, List.length_nil]); (first | lia | omega))); (case h4_124 => ((try simp only [List.length_set, List.length_replicate, List.length_append, List.length_cons, List.length_nil]); (first | lia | omega)))
    with_reducible refine' wS_cons ?_
    with_reducible refine' wX_return ?_
    with_reducible refine' wE_ifexp ?_
    (with_reducible refine' wT_cmp ?h_128 ?hm_128); (case hm_128 => with_unfolding_all exact rfl)
    (with_reducible refine' wE_local ?hv_129 ?h_129 ?hl_129 ?hd_129); (case hl_129 => exact rfl); (case hd_129 => decide +kernel); (case hv_129 => none_booked)
    with_reducible refine' wE_int ?_
    with_reducible refine' c_lt ?_
    with_reducible refine' exTB ?_
    refine iteD (fun h => absurd h (by (first | lia | omega))) (fun h => ?_)
    with_reducible refine' wE_int ?_
    with_reducible refine' exR ?_
    refine ⟨_, by none_booked, rfl, _, rfl, hlf.set _ ?_, by simp [hfl], ?_⟩
    · exact ⟨hge, by (first | lia | omega)⟩
    · rw [Int.toNat_natCast, val_set _ h3, Int.mul_sub, Int.mul_sub, hv]
      (first | lia | omega)
  · exact (hI _ _ _).mpr ⟨r, 0, by simp, by (first | lia | omega), by none_booked, by none_booked, by none_booked, by none_booked, by none_booked, by none_booked, by (first | lia | omega), if_pos rfl, hr, rfl, hz, by simp [val]⟩
end
section
variable {g : G PP} {c : Cx} {S : St}
theorem exPart {i : Int} {Q : Option Int → St → Prop} (h : Q (some i) S) : ∃ k, V.int i = .int k ∧ Q (some k) S := ⟨i, rfl, h⟩
theorem o_catMZ {l k : List Int} {Q : V → St → Prop} (hsz : l.length + k.length ≤ 2 ^ 24) (h : ∀ a, S.σ a = none → Q (.ref a) { S with σ := upd S.σ a (zints (l ++ k)) }) : Op2 g c Rep (binaryOp .Add) (.list (zints l)) (.list (zints k)) S Q :=
  o_catM (by rw [zints_length, zints_length]; exact hsz) (by simpa only [zints_append] using h)
end
section
variable {g : G PP} {c : Cx} {S : St}
theorem pickZ (l : List Int) (j k : Nat) (h1 : j ≤ k) (h2 : k ≤ l.length) : pick (zints l) (some (j : Int)) (some (k : Int)) = zints ((l.drop j).take (k - j)) := by
  rw [pick_run _ _ _ (by (first | lia | omega)) (by (first | lia | omega)) (by rw [zints_length]; (first | lia | omega))]
  simp [zints, List.map_drop, List.map_take]
theorem bits_lt (x : Int) : x < 2 ^ Builtin.Int.intBits x := by
  by_cases h : x < 0
  · have := pow2_nonneg (Builtin.Int.intBits x); (first | lia | omega)
  · have e : x.natAbs < 2 ^ Builtin.Int.intBits x := by
      unfold Builtin.Int.intBits
      split
      · rename_i h0; rw [beq_iff_eq.mp h0]; decide
      · exact Nat.lt_log2_self
    have e2 : ((x.natAbs : Nat) : Int) < ((2 ^ Builtin.Int.intBits x : Nat) : Int) := by exact_mod_cast e
    rw [Int.natCast_pow] at e2
    have e3 : (x.natAbs : Int) = x := by (first | lia | omega)
    rw [e3] at e2
    exact e2
theorem bits_le_w {w : Nat} {x : Int} (h0 : 0 ≤ x) (h : x < 2 ^ w) : Builtin.Int.intBits x ≤ w := by
  apply intBits_le
  have : ((x.natAbs : Nat) : Int) < ((2 ^ w : Nat) : Int) := by
    rw [Int.natCast_pow]
    have e3 : (x.natAbs : Int) = x := by (first | lia | omega)
    rw [e3]; exact h
  exact_mod_cast this
/-- one row of the long division -/
theorem row_step {B P D V q T v' : Int} (hP : 0 < P) (hD : 0 < D) (hT : T = V / P) (hq : q = T / D) (hv : v' = V - P * (q * D)) : P * (q * D) ≤ V ∧ v' < P * D := by
  have e1 := Int.mul_ediv_add_emod V P
  have e2 := Int.mul_ediv_add_emod T D
  have b1 := mod_limb (B := P) (c := V) hP
  have b2 := mod_limb (B := D) (c := T) hD
  rw [← hT] at e1
  rw [← hq] at e2
  have e3 : P * T = P * (q * D) + P * (T % D) := by rw [← Int.mul_add, Int.mul_comm q D, e2]
  have m1 := Int.mul_nonneg (show 0 ≤ P by (first | lia | omega)) b2.1
  have m2 : P * (T % D + 1) ≤ P * D := Int.mul_le_mul_of_nonneg_left (by (first | lia | omega)) (by (first | lia | omega))
  rw [Int.mul_add] at m2
  (first | lia | omega)
theorem t_divide_rows (w : Nat) (hw : 1 ≤ w ∧ w ≤ 29) (a : Addr) (r : List Int) (b0 b1 : Int) (hr : Limbs (2 ^ w) r) (h0 : 0 ≤ b0 ∧ b0 < 2 ^ w) (h1 : 1 ≤ b1 ∧ b1 < 2 ^ w) (hrl : r.length ≤ 2 ^ 20)
    (hlen : 2 ≤ r.length) (hhi : val (2 ^ w) r < (2 ^ w) ^ (r.length - 2) * (b1 * 2 ^ w + b0)) :
    GCall g (g.fa "divide_rows") 2 [.ref a, .list (zints [b0, b1]), .int w] (fun q => if q = a then some (zints r) else none)
      (fun x σ' => ∃ l', σ' a = some l' ∧ ∃ qs r', x = .list (zints qs) ∧ l' = zints r' ∧ Limbs (2 ^ w) qs ∧ qs.length ≤ 2 ^ 20 ∧ Limbs (2 ^ w) r' ∧ r'.length = r.length ∧ val (2 ^ w) qs = val (2 ^ w) r / (b1 * 2 ^ w + b0) ∧ val (2 ^ w) r' = val (2 ^ w) r % (b1 * 2 ^ w + b0)) := by
  have hB := one_lt_pow hw.1
  have hB30 := pow_le30 (w := w) (by (first | lia | omega))
  have hD0 : 0 < b1 * 2 ^ w := Int.mul_pos (by (first | lia | omega)) (by (first | lia | omega))
  have hvb : val (2 ^ w) [b0, b1] = b1 * 2 ^ w + b0 := by simp [val, Int.mul_comm]; (first | lia | omega)
  refine' gcall (d := dOf 26) (dOf_mem 26 (by decide)) (hbody := ?enB) (hscope := ?enS) (hparams := ?enP) (hname := rfl) (names := ["rest", "b", "w"]) (hk := ?enK) (hbind := ?enI) (hloc := ?enL) (h := ?enH) (hco := ?enC) (hgen := ?enG) (hcell := ?enE)
  case enB => (conv => lhs; whnf)
  case enS => (conv => lhs; whnf)
  case enP => (conv => lhs; whnf)
  case enK => rfl
  case enI => exact args3 fun _ _ _ _ _ _ => rfl
  case enL => decide +kernel
  case enC => rfl
  case enG => rfl
  case enE => decide +kernel
  with_reducible refine' wS_cons ?_
  (with_reducible refine' wX_assign ?h_2 ?hl_2 ?hs_2); (case hl_2 => exact rfl); (case hs_2 => (intros; exact rfl))
  (with_reducible refine' wE_len ?h_3 ?h1_3 ?h2_3 ?h3_3 ?h4_3); (case h1_3 => exact rfl); (case h2_3 => (intro _; exact rfl)); (case h3_3 => (intro _; exact ⟨_, _, rfl, rfl⟩)); (case h4_3 => (intro _; exact rfl))
  (with_reducible refine' wE_local ?hv_4 ?h_4 ?hl_4 ?hd_4); (case hl_4 => exact rfl); (case hd_4 => decide +kernel); (case hv_4 => none_booked)
  refine b_len_z (by simp) ?_
  simp only [List.length_cons, List.length_nil, Nat.reduceAdd, Nat.zero_add]
  with_reducible refine' wS_cons ?_
  (with_reducible refine' wX_assign ?h_6 ?hl_6 ?hs_6); (case hl_6 => exact rfl); (case hs_6 => (intros; exact rfl))
  with_reducible refine' wE_binop ?_
  with_reducible refine' wE_listOf ?_
  (with_reducible refine' wA_cons ?h_9 ?hs_9); (case hs_9 => (intro _; exact rfl))
  with_reducible refine' wE_int ?_
  with_reducible refine' wA_nil ?_
  (with_reducible refine' andLen ?h1_12 ?h_12); (case h1_12 => (simp; done))
  with_reducible refine' wE_binop ?_
  (with_reducible refine' wE_len ?h_14 ?h1_14 ?h2_14 ?h3_14 ?h4_14); (case h1_14 => exact rfl); (case h2_14 => (intro _; exact rfl)); (case h3_14 => (intro _; exact ⟨_, _, rfl, rfl⟩)); (case h4_14 => (intro _; exact rfl))
  (with_reducible refine' wE_local ?hv_15 ?h_15 ?hl_15 ?hd_15); (case hl_15 => exact rfl); (case hd_15 => decide +kernel); (case hv_15 => none_booked)
  refine b_len_zr (l := r) (if_pos rfl) (by (first | lia | omega)) ?_
  (with_reducible refine' wE_local ?hv_16 ?h_16 ?hl_16 ?hd_16); (case hl_16 => exact rfl); (case hd_16 => decide +kernel); (case hv_16 => none_booked)
  (with_reducible refine' o_subN ?h1_17 ?h_17); (case h1_17 => (first | lia | omega))
  refine o_repMN (by (first | lia | omega)) fun ad had => ?_
  have hne : ad ≠ a := by
    intro h
    rw [h] at had
    have had' : (if a = a then some (zints r) else none) = none := had
    simp at had'
  have hne' : a ≠ ad := fun h => hne h.symm
  with_reducible refine' wS_cons ?_
  (with_reducible refine' wX_for ?h_19 ?h1_19 ?h2_19); (case h1_19 => exact rfl); (case h2_19 => (intros; exact rfl))
  (with_reducible refine' wI_rng ?h_20 ?h1_20 ?h2_20 ?h3_20); (case h1_20 => exact rfl); (case h2_20 => (intro _; exact rfl)); (case h3_20 => (intro _; exact ⟨_, _, rfl, rfl⟩))
  (with_reducible refine' wA_cons ?h_21 ?hs_21); (case hs_21 => (intro _; exact rfl))
  with_reducible refine' wE_binop ?_
  with_reducible refine' wE_binop ?_
  (with_reducible refine' wE_len ?h_24 ?h1_24 ?h2_24 ?h3_24 ?h4_24); (case h1_24 => exact rfl); (case h2_24 => (intro _; exact rfl)); (case h3_24 => (intro _; exact ⟨_, _, rfl, rfl⟩)); (case h4_24 => (intro _; exact rfl))
  (with_reducible refine' wE_local ?hv_25 ?h_25 ?hl_25 ?hd_25); (case hl_25 => exact rfl); (case hd_25 => decide +kernel); (case hv_25 => none_booked)
  refine b_len_zr (l := r) ((upd_ne hne' (if_pos rfl))) (by (first | lia | omega)) ?_
  (with_reducible refine' wE_local ?hv_26 ?h_26 ?hl_26 ?hd_26); (case hl_26 => exact rfl); (case hd_26 => decide +kernel); (case hv_26 => none_booked)
  (with_reducible refine' o_subN ?h1_27 ?h_27); (case h1_27 => (first | lia | omega))
  with_reducible refine' wE_int ?_
  with_reducible refine' o_sub ?_
  (with_reducible refine' wA_cons ?h_30 ?hs_30); (case hs_30 => (intro _; exact rfl))
  with_reducible refine' wE_unop ?_
  with_reducible refine' wE_int ?_
  with_reducible refine' o_neg ?_
  (with_reducible refine' wA_cons ?h_34 ?hs_34); (case hs_34 => (intro _; exact rfl))
  with_reducible refine' wE_unop ?_
  with_reducible refine' wE_int ?_
  with_reducible refine' o_neg ?_
  with_reducible refine' wA_nil ?_
  (with_reducible refine' exRngD ?he_39 ?h1_39 ?h2_39 ?h_39); (case he_39 => (first | lia | omega)); (case h1_39 => (unfold Fit; (first | lia | omega))); (case h2_39 => (unfold Fit; (first | lia | omega)))
  obtain ⟨I, hI⟩ : ∃ I : List V → St → Prop, ∀ vs S, I vs S ↔ ∃ (k : Nat) (f qs : List Int), vs = downFrom ((k : Int) - 1) k ∧ k + 2 ≤ r.length ∧ S.m "b" = some (.list (zints [b0, b1])) ∧ S.m "w" = some (.int w) ∧ S.m "size" = some (.int ((2 : Nat) : Int)) ∧
      S.m "rest" = some (.ref a) ∧ S.m "quotient" = some (.ref ad) ∧ S.σ a = some (zints f) ∧ S.σ ad = some (zints qs) ∧ Limbs (2 ^ w) f ∧ f.length = r.length ∧ Limbs (2 ^ w) qs ∧ qs.length = r.length - 2 ∧
      (∀ j, j < k → qs.getD j 0 = 0) ∧ val (2 ^ w) f < (2 ^ w) ^ k * (b1 * 2 ^ w + b0) ∧ val (2 ^ w) qs * (b1 * 2 ^ w + b0) + val (2 ^ w) f = val (2 ^ w) r := ⟨_, fun _ _ => Iff.rfl⟩
  refine loop_inv I ?_ ?_ ?_
  · clear hhi
    intro v vs S hh
    obtain ⟨k, f, qs, hvs, hk, hb, hww, hsz, hre, hqu, hsf, hsq, hlf, hfl, hlq, hql, hz, hlt, hv⟩ := (hI _ _).mp hh
    clear hh
    obtain ⟨j, rfl, rfl, rfl⟩ := downFrom_cons hvs
    have ej : ((j + 1 : Nat) : Int) - 1 = (j : Int) := by (first | lia | omega)
    rw [ej]
    have hp := pow_pos' (B := 2 ^ w) (by (first | lia | omega)) j
    with_reducible refine' wS_cons ?_
    (with_reducible refine' wX_assign ?h_41 ?hl_41 ?hs_41); (case hl_41 => exact rfl); (case hs_41 => (intros; exact rfl))
    (with_reducible refine' wE_def ?h_42 ?h1_42 ?h2_42 ?h3_42 ?h4_42 ?h5_42); (case h1_42 => decide +kernel); (case h2_42 => exact rfl); (case h3_42 => decide +kernel); (case h4_42 => (intro _; exact rfl)); (case h5_42 => (intro _; exact ⟨_, _, rfl, rfl⟩))
    (with_reducible refine' wA_cons ?h_43 ?hs_43); (case hs_43 => (intro _; exact rfl))
    (with_reducible refine' wE_sliceR ?hx_44 ?ha_44 ?hsz_44 ?h_44 ?hl_44 ?hd_44); (case hl_44 => exact rfl); (case hd_44 => decide +kernel); (case hx_44 => none_booked); (case ha_44 => none_booked); (case hsz_44 => (first | lia | omega))
    with_reducible refine' wP_some ?_
    with_reducible refine' wE_binop ?_
    with_reducible refine' wE_binop ?_
    (with_reducible refine' wE_local ?hv_48 ?h_48 ?hl_48 ?hd_48); (case hl_48 => exact rfl); (case hd_48 => decide +kernel); (case hv_48 => none_booked)
    (with_reducible refine' wE_local ?hv_49 ?h_49 ?hl_49 ?hd_49); (case hl_49 => exact rfl); (case hd_49 => decide +kernel); (case hv_49 => none_booked)
    with_reducible refine' o_addN ?_
    with_reducible refine' wE_int ?_
    with_reducible refine' o_sub ?_
    with_reducible refine' exI ?_
    with_reducible refine' wP_some ?_
    with_reducible refine' wE_binop ?_
    with_reducible refine' wE_binop ?_
    (with_reducible refine' wE_local ?hv_57 ?h_57 ?hl_57 ?hd_57); (case hl_57 => exact rfl); (case hd_57 => decide +kernel); (case hv_57 => none_booked)
    (with_reducible refine' wE_local ?hv_58 ?h_58 ?hl_58 ?hd_58); (case hl_58 => exact rfl); (case hd_58 => decide +kernel); (case hv_58 => none_booked)
    with_reducible refine' o_addN ?_
    with_reducible refine' wE_int ?_
    with_reducible refine' o_addN1 ?_
    with_reducible refine' exI ?_
    with_reducible refine' andSt ?_
    (with_reducible refine' wA_cons ?h_64 ?hs_64); (case hs_64 => (intro _; exact rfl))
    with_reducible refine' wE_sub ?_
    (with_reducible refine' wE_local ?hv_66 ?h_66 ?hl_66 ?hd_66); (case hl_66 => exact rfl); (case hd_66 => decide +kernel); (case hv_66 => none_booked)
    with_reducible refine' wE_binop ?_
    (with_reducible refine' wE_local ?hv_68 ?h_68 ?hl_68 ?hd_68); (case hl_68 => exact rfl); (case hd_68 => decide +kernel); (case hv_68 => none_booked)
    with_reducible refine' wE_int ?_
    with_reducible refine' o_sub ?_
    have hPD := hD0
    have hfl2 : f.length ≤ 2 ^ 20 := by (first | lia | omega)
    have hpk : pick (zints f) (some (((j + 2 : Nat) : Int) - 2)) (some ((j + 2 + 1 : Nat) : Int)) = zints ((f.drop j).take 3) := by
      have e : ((j + 2 : Nat) : Int) - 2 = (j : Int) := by (first | lia | omega)
      rw [e, pickZ _ _ _ (by (first | lia | omega)) (by (first | lia | omega))]
      congr 2
      (first | lia | omega)
    -- what the three limbs say
    have hd0 : ∀ i, ((f.drop j).take 3).getD i 0 = if i < 3 then f.getD (j + i) 0 else 0 := by
      intro i
      rw [List.getD_eq_getElem?_getD, List.getElem?_take]
      split
      · rw [List.getElem?_drop, ← List.getD_eq_getElem?_getD]
      · rfl
    have hup : val (2 ^ w) f < (2 ^ w) ^ (j + 3) := by
      have : (2 ^ w) ^ (j + 1) * (b1 * 2 ^ w + b0) ≤ (2 ^ w) ^ (j + 1) * (2 ^ w * 2 ^ w) := by
        apply Int.mul_le_mul_of_nonneg_left
        · have : (b1 + 1) * 2 ^ w ≤ 2 ^ w * 2 ^ w := Int.mul_le_mul_of_nonneg_right (by (first | lia | omega)) (by (first | lia | omega))
          rw [Int.add_mul] at this
          (first | lia | omega)
        · exact Int.le_of_lt (pow_pos' (by (first | lia | omega)) _)
      have e : ((2:Int) ^ w) ^ (j + 3) = (2 ^ w) ^ (j + 1) * (2 ^ w * 2 ^ w) := by
        rw [show j + 3 = j + 1 + 1 + 1 by (first | lia | omega), Int.pow_succ, Int.pow_succ ((2:Int) ^ w) (j + 1), Int.mul_assoc]
      (first | lia | omega)
    have hz3 := zero_above hB hlf hup
    have hT : ((((f.drop j).take 3).getD 2 0) * 2 ^ w + ((f.drop j).take 3).getD 1 0) * 2 ^ w + ((f.drop j).take 3).getD 0 0 = val (2 ^ w) f / (2 ^ w) ^ j := by
      rw [hd0, hd0, hd0, if_pos (by (first | lia | omega)), if_pos (by (first | lia | omega)), if_pos (by (first | lia | omega))]
      rw [← val_drop_div hB hlf j, drop_step _ (by (first | lia | omega)), drop_step _ (by (first | lia | omega)), drop_step _ (by (first | lia | omega))]
      have e0 : val (2 ^ w) (f.drop (j + 1 + 1 + 1)) = 0 := by
        rw [val_drop_div hB hlf, Int.ediv_eq_zero_of_lt (val_nonneg (by (first | lia | omega)) hlf) hup]
      rw [e0, Int.mul_zero, Int.add_zero, Nat.add_zero]
      have e1 : j + 1 + 1 = j + 2 := rfl
      rw [e1]
      generalize f.getD (j + 2) 0 = z2
      generalize f.getD (j + 1) 0 = z1
      rw [Int.mul_comm (2 ^ w) (z1 + _), Int.mul_comm (2 ^ w) z2, Int.add_comm z1]
      exact Int.add_comm _ _
    have hTD : val (2 ^ w) f / (2 ^ w) ^ j < 2 ^ w * (b1 * 2 ^ w + b0) := by
      apply Int.ediv_lt_of_lt_mul hp
      rw [Int.pow_succ, Int.mul_assoc] at hlt
      rw [Int.mul_comm]
      exact hlt
    have hV0 := val_nonneg (B := 2 ^ w) (by (first | lia | omega)) hlf
    have hT0 : 0 ≤ val (2 ^ w) f / (2 ^ w) ^ j := Int.ediv_nonneg hV0 (by (first | lia | omega))
    refine s_list (x := .int b1) (by rfl) (by simp [zints]) (by simp [zints]) ?_
    (with_reducible refine' wA_cons ?h_71 ?hs_71); (case hs_71 => (intro _; exact rfl))
    with_reducible refine' wE_sub ?_
    (with_reducible refine' wE_local ?hv_73 ?h_73 ?hl_73 ?hd_73); (case hl_73 => exact rfl); (case hd_73 => decide +kernel); (case hv_73 => none_booked)
    with_reducible refine' wE_binop ?_
    (with_reducible refine' wE_local ?hv_75 ?h_75 ?hl_75 ?hd_75); (case hl_75 => exact rfl); (case hd_75 => decide +kernel); (case hv_75 => none_booked)
    with_reducible refine' wE_int ?_
    with_reducible refine' o_sub ?_
    refine s_list (x := .int b0) (by rfl) (by simp [zints]) (by simp [zints]) ?_
    (with_reducible refine' wA_cons ?h_78 ?hs_78); (case hs_78 => (intro _; exact rfl))
    (with_reducible refine' wE_local ?hv_79 ?h_79 ?hl_79 ?hd_79); (case hl_79 => exact rfl); (case hd_79 => decide +kernel); (case hv_79 => none_booked)
    with_reducible refine' wA_nil ?_
    rw [hpk]
    refine op_pure (t_guessed_limb w hw ((f.drop j).take 3) (by rw [List.length_take, List.length_drop]; (first | lia | omega)) ((hlf.drop j).take 3) b1 b0 h1 h0 (by rw [hT]; exact hTD)) (by decide) fun x hx => ?_
    rw [hT] at hx
    subst hx
    have hq0 : 0 ≤ val (2 ^ w) f / (2 ^ w) ^ j / (b1 * 2 ^ w + b0) := Int.ediv_nonneg hT0 (by (first | lia | omega))
    have hq1 : val (2 ^ w) f / (2 ^ w) ^ j / (b1 * 2 ^ w + b0) < 2 ^ w := Int.ediv_lt_of_lt_mul (show 0 < b1 * 2 ^ w + b0 by (first | lia | omega)) hTD
    obtain ⟨rs1, rs2⟩ := row_step (P := (2 ^ w) ^ j) (B := 2 ^ w) (V := val (2 ^ w) f) (D := b1 * 2 ^ w + b0) hp (by (first | lia | omega)) rfl rfl rfl
    generalize hqq : val (2 ^ w) f / (2 ^ w) ^ j / (b1 * 2 ^ w + b0) = q at *
    with_reducible refine' wS_cons ?_
    with_reducible refine' wX_if ?_
    (with_reducible refine' wT_cmp ?h_83 ?hm_83); (case hm_83 => with_unfolding_all exact rfl)
    (with_reducible refine' wE_def ?h_84 ?h1_84 ?h2_84 ?h3_84 ?h4_84 ?h5_84); (case h1_84 => decide +kernel); (case h2_84 => exact rfl); (case h3_84 => decide +kernel); (case h4_84 => (intro _; exact rfl)); (case h5_84 => (intro _; exact ⟨_, _, rfl, rfl⟩))
    (with_reducible refine' wA_cons ?h_85 ?hs_85); (case hs_85 => (intro _; exact rfl))
    (with_reducible refine' wE_local ?hv_86 ?h_86 ?hl_86 ?hd_86); (case hl_86 => exact rfl); (case hd_86 => decide +kernel); (case hv_86 => none_booked)
    (with_reducible refine' wA_cons ?h_87 ?hs_87); (case hs_87 => (intro _; exact rfl))
    (with_reducible refine' wE_local ?hv_88 ?h_88 ?hl_88 ?hd_88); (case hl_88 => exact rfl); (case hd_88 => decide +kernel); (case hv_88 => none_booked)
    (with_reducible refine' wA_cons ?h_89 ?hs_89); (case hs_89 => (intro _; exact rfl))
    (with_reducible refine' wE_local ?hv_90 ?h_90 ?hl_90 ?hd_90); (case hl_90 => exact rfl); (case hd_90 => decide +kernel); (case hv_90 => none_booked)
    (with_reducible refine' wA_cons ?h_91 ?hs_91); (case hs_91 => (intro _; exact rfl))
    (with_reducible refine' wE_local ?hv_92 ?h_92 ?hl_92 ?hd_92); (case hl_92 => exact rfl); (case hd_92 => decide +kernel); (case hv_92 => none_booked)
    (with_reducible refine' wA_cons ?h_93 ?hs_93); (case hs_93 => (intro _; exact rfl))
    (with_reducible refine' wE_local ?hv_94 ?h_94 ?hl_94 ?hd_94); (case hl_94 => exact rfl); (case hd_94 => decide +kernel); (case hv_94 => none_booked)
    with_reducible refine' wA_nil ?_
    have hlb : Limbs (2 ^ w) [b0, b1] := (Limbs.nil.cons (by (first | lia | omega))).cons h0
    refine op_lend (a := a) (l := zints f) (by none_booked) (t_take_away w hw a f [b0, b1] q j hlf hlb hfl2 (by simp; (first | lia | omega)) ⟨hq0, hq1⟩ (by rw [hvb]; exact rs1) hup) (by decide) ?_
    rintro x l' ⟨rfl, f', rfl, hlf', hfl', hv'⟩
    rw [hvb] at hv'
    with_reducible refine' wE_int ?_
    with_reducible refine' c_eq ?_
    with_reducible refine' exTB ?_
    (with_reducible refine' iteEqN ?hp_99 ?h1_99); (case hp_99 => decide)
    with_reducible refine' wS_nil ?_
    with_reducible refine' wS_cons ?_
    (with_reducible refine' wX_setitem ?h_102 ?h1_102); (case h1_102 => (intros; exact rfl))
    (with_reducible refine' wE_local ?hv_103 ?h_103 ?hl_103 ?hd_103); (case hl_103 => exact rfl); (case hd_103 => decide +kernel); (case hv_103 => none_booked)
    (with_reducible refine' wE_local ?hv_104 ?h_104 ?hl_104 ?hd_104); (case hl_104 => exact rfl); (case hd_104 => decide +kernel); (case hv_104 => none_booked)
    (with_reducible refine' wE_local ?hv_105 ?h_105 ?hl_105 ?hd_105); (case hl_105 => exact rfl); (case hd_105 => decide +kernel); (case hv_105 => none_booked)
    (with_reducible refine' exSetZ ?h1_106 ?h2_106 ?h3_106 ?h4_106 ?h_106); (case h1_106 => none_booked); (case h2_106 => (first | lia | omega)); (case h3_106 => ((try simp only [List.length_set, List.length_replicate, List.length_append, List.length_cons, List.length_nil]); (first | lia | omega))); (case h4_106 => ((try simp only [List.length_set, List.length_replicate, List.length_append, List.length_cons, List.length_nil]); (first | lia | omega)))
    with_reducible refine' wS_nil ?_
    have hjq : j < qs.length := by (first | lia | omega)
    refine (hI _ _).mpr ⟨j, f', qs.set j q, by congr 1 <;> (first | lia | omega), by (first | lia | omega), by none_booked, by none_booked, by none_booked, by none_booked, by none_booked, by none_booked, ?_, hlf', by (first | lia | omega), hlq.set _ ⟨hq0, hq1⟩, by simp [hql], ?_, ?_, ?_⟩
    · simp only [Int.toNat_natCast]; none_booked
    · intro i hi
      rw [getD_set_ne (by (first | lia | omega))]
      exact hz i (by (first | lia | omega))
    · rw [hv']; exact rs2
    · rw [val_set _ hjq, hz j (by (first | lia | omega)), Int.sub_zero, hv', Int.add_mul, Int.mul_assoc]
      (first | lia | omega)
  · intro S hh
    obtain ⟨k, f, qs, hvs, hk, hb, hww, hsz, hre, hqu, hsf, hsq, hlf, hfl, hlq, hql, hz, hlt, hv⟩ := (hI _ _).mp hh
    clear hh
    have : k = 0 := downFrom_nil hvs
    subst this
    rw [Int.pow_zero, Int.one_mul] at hlt
    have hV0 := val_nonneg (B := 2 ^ w) (by (first | lia | omega)) hlf
    with_reducible refine' wS_cons ?_
    (with_reducible refine' wX_retRef ?h1_109 ?h2_109 ?h_109 ?hl_109 ?hd_109); (case hl_109 => exact rfl); (case hd_109 => decide +kernel); (case h1_109 => none_booked); (case h2_109 => none_booked)
    with_reducible refine' exR ?_
    refine ⟨_, by none_booked, qs, f, rfl, rfl, hlq, by (first | lia | omega), hlf, hfl, ?_, ?_⟩
    · rw [← hv, Int.add_comm, Int.add_mul_ediv_right _ _ (by (first | lia | omega)), Int.ediv_eq_zero_of_lt hV0 hlt]; (first | lia | omega)
    · rw [← hv, Int.add_comm, Int.add_mul_emod_self_right, Int.emod_eq_of_lt hV0 hlt]
  · refine (hI _ _).mpr ⟨r.length - 2, r, List.replicate (r.length - 2) 0, by congr 1 <;> (first | lia | omega), by (first | lia | omega), by none_booked, by none_booked, by none_booked, by none_booked, by none_booked, upd_ne hne' (if_pos rfl), by none_booked, hr, rfl, Limbs.replicate (by (first | lia | omega)) _, by simp, ?_, hhi, ?_⟩
    · intro i _
      rw [List.getD_eq_getElem?_getD, List.getElem?_replicate]; split <;> rfl
    · rw [val_replicate]; (first | lia | omega)
end
section
variable {g : G PP} {c : Cx} {S : St}
theorem len_two {l : List Int} (h : l.length = 2) : ∃ a b, l = [a, b] := by
  match l, h with
  | [a, b], _ => exact ⟨a, b, rfl⟩
theorem t_divrem_school (w : Nat) (hw : 1 ≤ w ∧ w ≤ 29) (l k : List Int) (n m : Int) (hl : l.length ≤ 2 ^ 18) (h1 : Can (2 ^ w) l n) (h2 : Can (2 ^ w) k m) (hm : 1 ≤ m ∧ m < 2 ^ w * 2 ^ w) :
    GCall g (g.fa "divrem_school") 5 [.list (zints l), .list (zints k), .int w] (fun _ => none) (fun x _ => ∃ q r, x = .tup [q, r] ∧ IsNat w q (n / m) ∧ IsNat w r (n % m)) := by
  have hB := one_lt_pow hw.1
  have hB30 := pow_le30 (w := w) (by (first | lia | omega))
  have hkl : k.length ≤ 2 := h2.len_le hB (by rw [Int.pow_succ, Int.pow_succ, Int.pow_zero, Int.one_mul]; exact hm.2)
  have hk0 : 0 < k.length := by
    apply Nat.pos_of_ne_zero
    intro h
    have := (h2.zero hB).mp (List.length_eq_zero_iff.mp h)
    (first | lia | omega)
  have hn0 := h1.nonneg (by (first | lia | omega))
  refine' gcall (d := dOf 27) (dOf_mem 27 (by decide)) (hbody := ?enB) (hscope := ?enS) (hparams := ?enP) (hname := rfl) (names := ["a", "b", "w"]) (hk := ?enK) (hbind := ?enI) (hloc := ?enL) (h := ?enH) (hco := ?enC) (hgen := ?enG) (hcell := ?enE)
  case enB => (conv => lhs; whnf)
  case enS => (conv => lhs; whnf)
  case enP => (conv => lhs; whnf)
  case enK => rfl
  case enI => exact args3 fun _ _ _ _ _ _ => rfl
  case enL => decide +kernel
  case enC => rfl
  case enG => rfl
  case enE => decide +kernel
  with_reducible refine' wS_cons ?_
  with_reducible refine' wX_if ?_
  (with_reducible refine' wT_cmp ?h_3 ?hm_3); (case hm_3 => with_unfolding_all exact rfl)
  (with_reducible refine' wE_len ?h_4 ?h1_4 ?h2_4 ?h3_4 ?h4_4); (case h1_4 => exact rfl); (case h2_4 => (intro _; exact rfl)); (case h3_4 => (intro _; exact ⟨_, _, rfl, rfl⟩)); (case h4_4 => (intro _; exact rfl))
  (with_reducible refine' wE_local ?hv_5 ?h_5 ?hl_5 ?hd_5); (case hl_5 => exact rfl); (case hd_5 => decide +kernel); (case hv_5 => none_booked)
  (with_reducible refine' b_len_z ?h1_6 ?h_6); (case h1_6 => (first | lia | omega))
  with_reducible refine' wE_int ?_
  with_reducible refine' c_eq ?_
  with_reducible refine' exTB ?_
  refine iteEq (fun h => absurd h (by (first | lia | omega))) (fun _ => ?_)
  with_reducible refine' wS_nil ?_
  with_reducible refine' wS_cons ?_
  with_reducible refine' wX_if ?_
  (with_reducible refine' wT_cmp ?h_13 ?hm_13); (case hm_13 => with_unfolding_all exact rfl)
  (with_reducible refine' wE_def ?h_14 ?h1_14 ?h2_14 ?h3_14 ?h4_14 ?h5_14); (case h1_14 => decide +kernel); (case h2_14 => exact rfl); (case h3_14 => decide +kernel); (case h4_14 => (intro _; exact rfl)); (case h5_14 => (intro _; exact ⟨_, _, rfl, rfl⟩))
  (with_reducible refine' wA_cons ?h_15 ?hs_15); (case hs_15 => (intro _; exact rfl))
  (with_reducible refine' wE_local ?hv_16 ?h_16 ?hl_16 ?hd_16); (case hl_16 => exact rfl); (case hd_16 => decide +kernel); (case hv_16 => none_booked)
  (with_reducible refine' wA_cons ?h_17 ?hs_17); (case hs_17 => (intro _; exact rfl))
  (with_reducible refine' wE_local ?hv_18 ?h_18 ?hl_18 ?hd_18); (case hl_18 => exact rfl); (case hd_18 => decide +kernel); (case hv_18 => none_booked)
  with_reducible refine' wA_nil ?_
  refine op_pure (t_compare w hw.1 l k n m (by (first | lia | omega)) (by (first | lia | omega)) h1 h2) (by decide) fun x hx => ?_
  obtain ⟨cc, rfl, hcc⟩ := hx
  with_reducible refine' wE_int ?_
  with_reducible refine' c_lt ?_
  with_reducible refine' exTB ?_
  refine iteD (fun h => ?_) (fun h => ?_)
  · with_reducible refine' wS_cons ?_
    with_reducible refine' wX_return ?_
    with_reducible refine' wE_tuple ?_
    (with_reducible refine' wA_cons ?h_26 ?hs_26); (case hs_26 => (intro _; exact rfl))
    refine wE_listEmp ?_
    (with_reducible refine' wA_cons ?h_27 ?hs_27); (case hs_27 => (intro _; exact rfl))
    (with_reducible refine' wE_sliceAll ?hx_28 ?hsz_28 ?h_28 ?hl_28 ?hd_28); (case hl_28 => exact rfl); (case hd_28 => decide +kernel); (case hx_28 => none_booked); (case hsz_28 => (first | lia | omega))
    with_reducible refine' wA_nil ?_
    (with_reducible refine' andLen ?h1_30 ?h_30); (case h1_30 => (simp; done))
    with_reducible refine' exR ?_
    with_reducible refine' exT2 ?_
    have hlt := hcc.1 h
    rw [Int.ediv_eq_zero_of_lt hn0 hlt, Int.emod_eq_of_lt hn0 hlt]
    exact ⟨⟨[], rfl, Can.nil⟩, ⟨l, rfl, h1⟩⟩
  · have hge : ¬ n < m := fun hh => h (hcc.2 hh)
    with_reducible refine' wS_nil ?_
    with_reducible refine' wS_cons ?_
    with_reducible refine' wX_if ?_
    (with_reducible refine' wT_cmp ?h_36 ?hm_36); (case hm_36 => with_unfolding_all exact rfl)
    (with_reducible refine' wE_len ?h_37 ?h1_37 ?h2_37 ?h3_37 ?h4_37); (case h1_37 => exact rfl); (case h2_37 => (intro _; exact rfl)); (case h3_37 => (intro _; exact ⟨_, _, rfl, rfl⟩)); (case h4_37 => (intro _; exact rfl))
    (with_reducible refine' wE_local ?hv_38 ?h_38 ?hl_38 ?hd_38); (case hl_38 => exact rfl); (case hd_38 => decide +kernel); (case hv_38 => none_booked)
    (with_reducible refine' b_len_z ?h1_39 ?h_39); (case h1_39 => (first | lia | omega))
    with_reducible refine' wE_int ?_
    with_reducible refine' c_eq ?_
    with_reducible refine' exTB ?_
    refine iteEq (fun hk1 => ?_) (fun hk2 => ?_)
    · obtain ⟨d, rfl⟩ : ∃ d, k = [d] := List.length_eq_one_iff.mp (by (first | lia | omega))
      have hd : m = d := by have := h2.val; simp [val] at this; (first | lia | omega)
      subst hd
      have := h2.limbs m (by simp)
      with_reducible refine' wS_cons ?_
      with_reducible refine' wX_return ?_
      (with_reducible refine' wE_def ?h_45 ?h1_45 ?h2_45 ?h3_45 ?h4_45 ?h5_45); (case h1_45 => decide +kernel); (case h2_45 => exact rfl); (case h3_45 => decide +kernel); (case h4_45 => (intro _; exact rfl)); (case h5_45 => (intro _; exact ⟨_, _, rfl, rfl⟩))
      (with_reducible refine' wA_cons ?h_46 ?hs_46); (case hs_46 => (intro _; exact rfl))
      (with_reducible refine' wE_local ?hv_47 ?h_47 ?hl_47 ?hd_47); (case hl_47 => exact rfl); (case hd_47 => decide +kernel); (case hv_47 => none_booked)
      (with_reducible refine' wA_cons ?h_48 ?hs_48); (case hs_48 => (intro _; exact rfl))
      (with_reducible refine' wE_local ?hv_49 ?h_49 ?hl_49 ?hd_49); (case hl_49 => exact rfl); (case hd_49 => decide +kernel); (case hv_49 => none_booked)
      (with_reducible refine' wA_cons ?h_50 ?hs_50); (case hs_50 => (intro _; exact rfl))
      (with_reducible refine' wE_local ?hv_51 ?h_51 ?hl_51 ?hd_51); (case hl_51 => exact rfl); (case hd_51 => decide +kernel); (case hv_51 => none_booked)
      with_reducible refine' wA_nil ?_
      refine op_pure (t_divrem_small w hw l n m (by (first | lia | omega)) h1 ⟨hm.1, this.2⟩) (by decide) fun x hx => ?_
      obtain ⟨q, r, rfl, hq, hr⟩ := hx
      with_reducible refine' exR ?_
      with_reducible refine' exT2 ?_
      exact ⟨hq, hr⟩
    · obtain ⟨b0, b1, rfl⟩ : ∃ b0 b1, k = [b0, b1] := len_two (by (first | lia | omega))
      have l0 := h2.limbs b0 (by simp)
      have l1 := h2.limbs b1 (by simp)
      have hmv : m = b0 + 2 ^ w * b1 := by have := h2.val; simp [val] at this; (first | lia | omega)
      have hb1 : 1 ≤ b1 := by
        have := h2.top
        simp at this
        (first | lia | omega)
      have hib : 1 ≤ Builtin.Int.intBits b1 := by
        apply Nat.pos_of_ne_zero
        intro h
        have := bits_lt b1
        rw [h] at this
        (first | lia | omega)
      have hiw : Builtin.Int.intBits b1 ≤ w := bits_le_w l1.1 l1.2
      with_reducible refine' wS_nil ?_
      with_reducible refine' wS_cons ?_
      (with_reducible refine' wX_assign ?h_57 ?hl_57 ?hs_57); (case hl_57 => exact rfl); (case hs_57 => (intros; exact rfl))
      with_reducible refine' wE_binop ?_
      (with_reducible refine' wE_local ?hv_59 ?h_59 ?hl_59 ?hd_59); (case hl_59 => exact rfl); (case hd_59 => decide +kernel); (case hv_59 => none_booked)
      (with_reducible refine' wE_def ?h_60 ?h1_60 ?h2_60 ?h3_60 ?h4_60 ?h5_60); (case h1_60 => decide +kernel); (case h2_60 => exact rfl); (case h3_60 => decide +kernel); (case h4_60 => (intro _; exact rfl)); (case h5_60 => (intro _; exact ⟨_, _, rfl, rfl⟩))
      (with_reducible refine' wA_cons ?h_61 ?hs_61); (case hs_61 => (intro _; exact rfl))
      with_reducible refine' wE_listOf ?_
      (with_reducible refine' wA_cons ?h_63 ?hs_63); (case hs_63 => (intro _; exact rfl))
      with_reducible refine' wE_sub ?_
      (with_reducible refine' wE_local ?hv_65 ?h_65 ?hl_65 ?hd_65); (case hl_65 => exact rfl); (case hd_65 => decide +kernel); (case hv_65 => none_booked)
      with_reducible refine' wE_unop ?_
      with_reducible refine' wE_int ?_
      with_reducible refine' o_neg ?_
      refine s_list (x := .int b1) (by rfl) (by simp [zints]) (by simp [zints]) ?_
      with_reducible refine' wA_nil ?_
      (with_reducible refine' andLen ?h1_70 ?h_70); (case h1_70 => (simp; done))
      (with_reducible refine' wA_cons ?h_71 ?hs_71); (case hs_71 => (intro _; exact rfl))
      (with_reducible refine' wE_local ?hv_72 ?h_72 ?hl_72 ?hd_72); (case hl_72 => exact rfl); (case hd_72 => decide +kernel); (case hv_72 => none_booked)
      with_reducible refine' wA_nil ?_
      refine op_pure (t_bits w hw b1) (by decide) fun x hx => ?_
      subst hx
      (with_reducible refine' o_subN ?h1_74 ?h_74); (case h1_74 => (first | lia | omega))
      with_reducible refine' wS_cons ?_
      (with_reducible refine' wX_assign ?h_76 ?hl_76 ?hs_76); (case hl_76 => exact rfl); (case hs_76 => (intros; exact rfl))
      (with_reducible refine' wE_def ?h_77 ?h1_77 ?h2_77 ?h3_77 ?h4_77 ?h5_77); (case h1_77 => decide +kernel); (case h2_77 => exact rfl); (case h3_77 => decide +kernel); (case h4_77 => (intro _; exact rfl)); (case h5_77 => (intro _; exact ⟨_, _, rfl, rfl⟩))
      (with_reducible refine' wA_cons ?h_78 ?hs_78); (case hs_78 => (intro _; exact rfl))
      (with_reducible refine' wE_local ?hv_79 ?h_79 ?hl_79 ?hd_79); (case hl_79 => exact rfl); (case hd_79 => decide +kernel); (case hv_79 => none_booked)
      (with_reducible refine' wA_cons ?h_80 ?hs_80); (case hs_80 => (intro _; exact rfl))
      (with_reducible refine' wE_local ?hv_81 ?h_81 ?hl_81 ?hd_81); (case hl_81 => exact rfl); (case hd_81 => decide +kernel); (case hv_81 => none_booked)
      (with_reducible refine' wA_cons ?h_82 ?hs_82); (case hs_82 => (intro _; exact rfl))
      (with_reducible refine' wE_local ?hv_83 ?h_83 ?hl_83 ?hd_83); (case hl_83 => exact rfl); (case hd_83 => decide +kernel); (case hv_83 => none_booked)
      with_reducible refine' wA_nil ?_
      have hbl := bits_lt b1
      generalize Builtin.Int.intBits b1 = ib at *
      obtain ⟨s, hs⟩ : ∃ s : Nat, s = w - ib := ⟨_, rfl⟩
      rw [← hs]
      have hmB : 2 ^ w ≤ m := by
        have := Int.mul_le_mul_of_nonneg_left hb1 (show (0:Int) ≤ 2 ^ w by (first | lia | omega))
        (first | lia | omega)
      have hsp : (0:Int) < 2 ^ s := Int.pow_pos (by decide)
      have hsp1 : (1:Int) ≤ 2 ^ s := hsp
      have hm2 : m * 2 ^ s < 2 ^ w * 2 ^ w := by
        have e : (2:Int) ^ w = 2 ^ ib * 2 ^ s := by rw [← Int.pow_add]; congr 1; (first | lia | omega)
        have a1 : 2 ^ w * (b1 + 1) ≤ 2 ^ w * 2 ^ ib := Int.mul_le_mul_of_nonneg_left (by (first | lia | omega)) (by (first | lia | omega))
        rw [Int.mul_add] at a1
        have a2 : m < 2 ^ w * 2 ^ ib := by (first | lia | omega)
        have a3 : m * 2 ^ s < 2 ^ w * 2 ^ ib * 2 ^ s := Int.mul_lt_mul_of_pos_right a2 hsp
        rw [Int.mul_assoc, ← e] at a3
        exact a3
      have hm3 : 2 ^ w ≤ m * 2 ^ s := by
        have := Int.mul_le_mul_of_nonneg_left hsp1 (show 0 ≤ m by (first | lia | omega))
        (first | lia | omega)
      refine op_pure (t_shift_left w hw [b0, b1] m s (by simp) (by (first | lia | omega)) h2) (by decide) fun x hx => ?_
      obtain ⟨dl, rfl, hdl⟩ := hx
      have hdl2 : dl.length ≤ 2 := hdl.len_le hB (by rw [Int.pow_succ, Int.pow_succ, Int.pow_zero, Int.one_mul]; exact hm2)
      have hdl1 : 2 ≤ dl.length := by
        apply Nat.le_of_not_lt
        intro hh
        have a := hdl.lt hB
        have b := pow_mono' hB (m := dl.length) (n := 1) (by (first | lia | omega))
        rw [Int.pow_succ, Int.pow_zero, Int.one_mul] at b
        (first | lia | omega)
      obtain ⟨d0, d1, rfl⟩ : ∃ b0 b1, dl = [b0, b1] := len_two (by (first | lia | omega))
      have k0 := hdl.limbs d0 (by simp)
      have k1 := hdl.limbs d1 (by simp)
      have hdv : m * 2 ^ s = d1 * 2 ^ w + d0 := by have := hdl.val; simp [val, Int.mul_comm (2 ^ w) d1] at this; (first | lia | omega)
      have hd1 : 1 ≤ d1 := by
        have := hdl.top
        simp at this
        (first | lia | omega)
      with_reducible refine' wS_cons ?_
      (with_reducible refine' wX_assign ?h_86 ?hl_86 ?hs_86); (case hl_86 => exact rfl); (case hs_86 => (intros; exact rfl))
      (with_reducible refine' wE_def ?h_87 ?h1_87 ?h2_87 ?h3_87 ?h4_87 ?h5_87); (case h1_87 => decide +kernel); (case h2_87 => exact rfl); (case h3_87 => decide +kernel); (case h4_87 => (intro _; exact rfl)); (case h5_87 => (intro _; exact ⟨_, _, rfl, rfl⟩))
      (with_reducible refine' wA_cons ?h_88 ?hs_88); (case hs_88 => (intro _; exact rfl))
      (with_reducible refine' wE_local ?hv_89 ?h_89 ?hl_89 ?hd_89); (case hl_89 => exact rfl); (case hd_89 => decide +kernel); (case hv_89 => none_booked)
      (with_reducible refine' wA_cons ?h_90 ?hs_90); (case hs_90 => (intro _; exact rfl))
      (with_reducible refine' wE_local ?hv_91 ?h_91 ?hl_91 ?hd_91); (case hl_91 => exact rfl); (case hd_91 => decide +kernel); (case hv_91 => none_booked)
      (with_reducible refine' wA_cons ?h_92 ?hs_92); (case hs_92 => (intro _; exact rfl))
      (with_reducible refine' wE_local ?hv_93 ?h_93 ?hl_93 ?hd_93); (case hl_93 => exact rfl); (case hd_93 => decide +kernel); (case hv_93 => none_booked)
      with_reducible refine' wA_nil ?_
      refine op_pure (t_shift_left w hw l n s (by (first | lia | omega)) (by (first | lia | omega)) h1) (by decide) fun x hx => ?_
      obtain ⟨lr, rfl, hlr⟩ := hx
      have hl1 : 1 ≤ l.length := by
        apply Nat.pos_of_ne_zero
        intro h
        have := (h1.zero hB).mp (List.length_eq_zero_iff.mp h)
        (first | lia | omega)
      have hnl := h1.lt hB
      have hsw : (2:Int) ^ s ≤ 2 ^ w := by
        have e : (2:Int) ^ w = 2 ^ ib * 2 ^ s := by rw [← Int.pow_add]; congr 1; (first | lia | omega)
        have p : (0:Int) < 2 ^ ib := Int.pow_pos (by decide)
        have := Int.mul_le_mul_of_nonneg_right (show (1:Int) ≤ 2 ^ ib by (first | lia | omega)) (show (0:Int) ≤ 2 ^ s by (first | lia | omega))
        (first | lia | omega)
      have hlrl : lr.length ≤ l.length + 1 := by
        apply hlr.len_le hB
        rw [Int.pow_succ]
        have a : n * 2 ^ s ≤ n * 2 ^ w := Int.mul_le_mul_of_nonneg_left hsw hn0
        have b := Int.mul_lt_mul_of_pos_right hnl (show (0:Int) < 2 ^ w by (first | lia | omega))
        (first | lia | omega)
      with_reducible refine' wS_cons ?_
      (with_reducible refine' wX_assign ?h_96 ?hl_96 ?hs_96); (case hl_96 => exact rfl); (case hs_96 => (intros; exact rfl))
      with_reducible refine' wE_binop ?_
      (with_reducible refine' wE_local ?hv_98 ?h_98 ?hl_98 ?hd_98); (case hl_98 => exact rfl); (case hd_98 => decide +kernel); (case hv_98 => none_booked)
      with_reducible refine' wE_binop ?_
      with_reducible refine' wE_listOf ?_
      (with_reducible refine' wA_cons ?h_101 ?hs_101); (case hs_101 => (intro _; exact rfl))
      with_reducible refine' wE_int ?_
      with_reducible refine' wA_nil ?_
      (with_reducible refine' andLen ?h1_104 ?h_104); (case h1_104 => (simp; done))
      with_reducible refine' wE_binop ?_
      with_reducible refine' wE_binop ?_
      (with_reducible refine' wE_len ?h_107 ?h1_107 ?h2_107 ?h3_107 ?h4_107); (case h1_107 => exact rfl); (case h2_107 => (intro _; exact rfl)); (case h3_107 => (intro _; exact ⟨_, _, rfl, rfl⟩)); (case h4_107 => (intro _; exact rfl))
      (with_reducible refine' wE_local ?hv_108 ?h_108 ?hl_108 ?hd_108); (case hl_108 => exact rfl); (case hd_108 => decide +kernel); (case hv_108 => none_booked)
      (with_reducible refine' b_len_z ?h1_109 ?h_109); (case h1_109 => (first | lia | omega))
      with_reducible refine' wE_int ?_
      with_reducible refine' o_addN1 ?_
      (with_reducible refine' wE_len ?h_112 ?h1_112 ?h2_112 ?h3_112 ?h4_112); (case h1_112 => exact rfl); (case h2_112 => (intro _; exact rfl)); (case h3_112 => (intro _; exact ⟨_, _, rfl, rfl⟩)); (case h4_112 => (intro _; exact rfl))
      (with_reducible refine' wE_local ?hv_113 ?h_113 ?hl_113 ?hd_113); (case hl_113 => exact rfl); (case hd_113 => decide +kernel); (case hv_113 => none_booked)
      (with_reducible refine' b_len_z ?h1_114 ?h_114); (case h1_114 => (first | lia | omega))
      (with_reducible refine' o_subN ?h1_115 ?h_115); (case h1_115 => (first | lia | omega))
      refine o_repFN (by (first | lia | omega)) ?_
      refine o_catMZ (by rw [List.length_replicate]; (first | lia | omega)) fun ad had => ?_
      with_reducible refine' wS_cons ?_
      (with_reducible refine' wX_assign ?h_117 ?hl_117 ?hs_117); (case hl_117 => exact rfl); (case hs_117 => (intros; exact rfl))
      (with_reducible refine' wE_def ?h_118 ?h1_118 ?h2_118 ?h3_118 ?h4_118 ?h5_118); (case h1_118 => decide +kernel); (case h2_118 => exact rfl); (case h3_118 => decide +kernel); (case h4_118 => (intro _; exact rfl)); (case h5_118 => (intro _; exact ⟨_, _, rfl, rfl⟩))
      (with_reducible refine' wA_cons ?h_119 ?hs_119); (case hs_119 => (intro _; exact rfl))
      (with_reducible refine' wE_local ?hv_120 ?h_120 ?hl_120 ?hd_120); (case hl_120 => exact rfl); (case hd_120 => decide +kernel); (case hv_120 => none_booked)
      (with_reducible refine' wA_cons ?h_121 ?hs_121); (case hs_121 => (intro _; exact rfl))
      (with_reducible refine' wE_local ?hv_122 ?h_122 ?hl_122 ?hd_122); (case hl_122 => exact rfl); (case hd_122 => decide +kernel); (case hv_122 => none_booked)
      (with_reducible refine' wA_cons ?h_123 ?hs_123); (case hs_123 => (intro _; exact rfl))
      (with_reducible refine' wE_local ?hv_124 ?h_124 ?hl_124 ?hd_124); (case hl_124 => exact rfl); (case hd_124 => decide +kernel); (case hv_124 => none_booked)
      with_reducible refine' wA_nil ?_
      have hr' : Limbs (2 ^ w) (lr ++ List.replicate (l.length + 1 - lr.length) 0) := hlr.limbs.append (Limbs.replicate (by (first | lia | omega)) _)
      have hrv : val (2 ^ w) (lr ++ List.replicate (l.length + 1 - lr.length) 0) = n * 2 ^ s := by rw [val_append, val_replicate, hlr.val]; (first | lia | omega)
      have hrl : (lr ++ List.replicate (l.length + 1 - lr.length) 0).length = l.length + 1 := by rw [List.length_append, List.length_replicate]; (first | lia | omega)
      generalize lr ++ List.replicate (l.length + 1 - lr.length) 0 = r at *
      refine op_lend (a := ad) (l := zints r) (by none_booked) (t_divide_rows w hw ad r d0 d1 hr' k0 ⟨hd1, k1.2⟩ (by (first | lia | omega)) (by (first | lia | omega)) ?_) (by decide) ?_
      · rw [hrv, hrl, ← hdv, show l.length + 1 - 2 = l.length - 1 by (first | lia | omega), ← Int.mul_assoc]
        apply Int.mul_lt_mul_of_pos_right _ hsp
        have a : (2 ^ w) ^ (l.length - 1) * 2 ^ w ≤ (2 ^ w) ^ (l.length - 1) * m := Int.mul_le_mul_of_nonneg_left hmB (Int.le_of_lt (pow_pos' (by (first | lia | omega)) _))
        rw [← Int.pow_succ, show (l.length - 1).succ = l.length by (first | lia | omega)] at a
        (first | lia | omega)
      rintro x l' ⟨qs, r', rfl, rfl, hlq, hql, hlr', hrl', hqv, hrv'⟩
      rw [hrv, ← hdv, Int.mul_ediv_mul_of_pos_left _ _ hsp] at hqv
      rw [hrv, ← hdv, Int.mul_comm n, Int.mul_comm m, Int.mul_emod_mul_of_pos _ _ hsp] at hrv'
      dsimp only
      refine' w_freeze "rest" (a := ad) (l := zints r') ?hxx ?hss ?hqq
      case hxx => none_booked
      case hss => none_booked
      with_reducible refine' wS_cons ?_
      with_reducible refine' wX_return ?_
      with_reducible refine' wE_tuple ?_
      (with_reducible refine' wA_cons ?h_129 ?hs_129); (case hs_129 => (intro _; exact rfl))
      (with_reducible refine' wE_def ?h_130 ?h1_130 ?h2_130 ?h3_130 ?h4_130 ?h5_130); (case h1_130 => decide +kernel); (case h2_130 => exact rfl); (case h3_130 => decide +kernel); (case h4_130 => (intro _; exact rfl)); (case h5_130 => (intro _; exact ⟨_, _, rfl, rfl⟩))
      (with_reducible refine' wA_cons ?h_131 ?hs_131); (case hs_131 => (intro _; exact rfl))
      (with_reducible refine' wE_local ?hv_132 ?h_132 ?hl_132 ?hd_132); (case hl_132 => exact rfl); (case hd_132 => decide +kernel); (case hv_132 => none_booked)
      with_reducible refine' wA_nil ?_
      refine op_pure (t_normal qs (by (first | lia | omega))) (by decide) fun x hx => ?_
      subst hx
      (with_reducible refine' wA_cons ?h_134 ?hs_134); (case hs_134 => (intro _; exact rfl))
      (with_reducible refine' wE_def ?h_135 ?h1_135 ?h2_135 ?h3_135 ?h4_135 ?h5_135); (case h1_135 => decide +kernel); (case h2_135 => exact rfl); (case h3_135 => decide +kernel); (case h4_135 => (intro _; exact rfl)); (case h5_135 => (intro _; exact ⟨_, _, rfl, rfl⟩))
      (with_reducible refine' wA_cons ?h_136 ?hs_136); (case hs_136 => (intro _; exact rfl))
      (with_reducible refine' wE_def ?h_137 ?h1_137 ?h2_137 ?h3_137 ?h4_137 ?h5_137); (case h1_137 => decide +kernel); (case h2_137 => exact rfl); (case h3_137 => decide +kernel); (case h4_137 => (intro _; exact rfl)); (case h5_137 => (intro _; exact ⟨_, _, rfl, rfl⟩))
      (with_reducible refine' wA_cons ?h_138 ?hs_138); (case hs_138 => (intro _; exact rfl))
      (with_reducible refine' wE_local ?hv_139 ?h_139 ?hl_139 ?hd_139); (case hl_139 => exact rfl); (case hd_139 => decide +kernel); (case hv_139 => none_booked)
      with_reducible refine' wA_nil ?_
      refine op_pure (t_normal r' (by (first | lia | omega))) (by decide) fun x hx => ?_
      subst hx
      (with_reducible refine' wA_cons ?h_141 ?hs_141); (case hs_141 => (intro _; exact rfl))
      (with_reducible refine' wE_local ?hv_142 ?h_142 ?hl_142 ?hd_142); (case hl_142 => exact rfl); (case hd_142 => decide +kernel); (case hv_142 => none_booked)
      (with_reducible refine' wA_cons ?h_143 ?hs_143); (case hs_143 => (intro _; exact rfl))
      (with_reducible refine' wE_local ?hv_144 ?h_144 ?hl_144 ?hd_144); (case hl_144 => exact rfl); (case hd_144 => decide +kernel); (case hv_144 => none_booked)
      with_reducible refine' wA_nil ?_
      have c1 := normL_can (by (first | lia | omega)) hlq
      have c2 := normL_can (by (first | lia | omega)) hlr'
      refine op_pure (t_shift_right w hw (normL r') _ s (by have := normL_length r'; (first | lia | omega)) (by (first | lia | omega)) c2.limbs c2.val) (by decide) fun x hx => ?_
      rw [hrv', Int.mul_ediv_cancel_left _ (by (first | lia | omega))] at hx
      rw [hqv] at c1
      with_reducible refine' wA_nil ?_
      (with_reducible refine' andLen ?h1_147 ?h_147); (case h1_147 => (simp; done))
      with_reducible refine' exR ?_
      with_reducible refine' exT2 ?_
      exact ⟨⟨_, rfl, c1⟩, hx⟩
end
section
variable {p : Program} {g : G p} {c : Cx} {S : St}
end
/-- a number as sign and size -/
noncomputable def Num (w : Nat) (v : V) (z : Int) : Prop := ∃ l, v = .tup [.bool (decide (z < 0)), .list (zints l)] ∧ Can (2 ^ w) l z.natAbs
/-- of a size that the text is asked for -/
noncomputable def Sm (z : Int) : Prop := z.natAbs < 2 ^ 200
theorem two_pow_le {w k : Nat} (hw : 1 ≤ w) : (2 : Int) ^ k ≤ (2 ^ w) ^ k := by
  rw [pow_pow]
  have := pow_mono' (B := 2) (by decide) (show k ≤ w * k by exact Nat.le_mul_of_pos_left k hw)
  exact this
theorem Sm.short {w : Nat} (hw : 1 ≤ w) {z : Int} (h : Sm z) {l : List Int} (hc : Can (2 ^ w) l z.natAbs) : l.length ≤ 200 := by
  apply hc.len_le (one_lt_pow hw)
  have h1 : (z.natAbs : Int) < ((2 ^ 200 : Nat) : Int) := by exact_mod_cast h
  rw [Int.natCast_pow] at h1
  exact Int.lt_of_lt_of_le h1 (two_pow_le hw)
theorem Num.of {w : Nat} (hw : 1 ≤ w) {l : List Int} {n : Int} (hc : Can (2 ^ w) l n) (b : Bool) {z : Int} (hz : z = if b = true then -n else n) :
    Num w (.tup [.bool (b && decide (0 < l.length)), .list (zints l)]) z := by
  have hn := hc.nonneg (by have := one_lt_pow hw; (first | lia | omega))
  have h0 := hc.zero (one_lt_pow hw)
  have hl : 0 < l.length ↔ n ≠ 0 := by
    rw [Nat.pos_iff_ne_zero, Ne, List.length_eq_zero_iff, h0]
  refine ⟨l, ?_, ?_⟩
  · have : (b && decide (0 < l.length)) = decide (z < 0) := by
      cases b
      · simp at hz; subst hz; simp; (first | lia | omega)
      · simp at hz; subst hz
        simp only [Bool.true_and, decide_eq_decide, hl]
        (first | lia | omega)
    rw [this]
  · have : (z.natAbs : Int) = n := by cases b <;> simp at hz <;> (first | lia | omega)
    rw [this]; exact hc
theorem Num.uniq {w : Nat} (hw : 1 ≤ w) {v u : V} {z : Int} (h : Num w v z) (h' : Num w u z) : v = u := by
  obtain ⟨l, rfl, hl⟩ := h
  obtain ⟨k, rfl, hk⟩ := h'
  rw [hl.uniq (one_lt_pow hw) hk]
theorem Can.to {B n m : Int} {l : List Int} (h : Can B l n) (e : n = m) : Can B l m := e ▸ h
theorem abs_pos_iff {x : Int} : (0 ≤ x → (x.natAbs : Int) = x) ∧ (x < 0 → (x.natAbs : Int) = -x) := ⟨by (first | lia | omega), by (first | lia | omega)⟩
section
variable {g : G PP} {c : Cx} {S : St}
theorem t_signed (w : Nat) (hw : 1 ≤ w) (b : Bool) (l : List Int) (n z : Int) (hl : l.length ≤ 2 ^ 20) (hc : Can (2 ^ w) l n) (hz : z = if b = true then -n else n) :
    GCall g (g.fa "signed") 1 [.bool b, .list (zints l)] (fun _ => none) (fun x _ => Num w x z) := by
  refine' gcall (d := dOf 11) (dOf_mem 11 (by decide)) (hbody := ?enB) (hscope := ?enS) (hparams := ?enP) (hname := rfl) (names := ["is_below", "nat"]) (hk := ?enK) (hbind := ?enI) (hloc := ?enL) (h := ?enH) (hco := ?enC) (hgen := ?enG) (hcell := ?enE)
  case enB => (conv => lhs; whnf)
  case enS => (conv => lhs; whnf)
  case enP => (conv => lhs; whnf)
  case enK => rfl
  case enI => exact args2 fun _ _ _ _ _ => rfl
  case enL => decide +kernel
  case enC => rfl
  case enG => rfl
  case enE => decide +kernel
  with_reducible refine' wS_cons ?_
  with_reducible refine' wX_return ?_
  with_reducible refine' wE_tuple ?_
  (with_reducible refine' wA_cons ?h_4 ?hs_4); (case hs_4 => (intro _; exact rfl))
  with_reducible refine' wE_boolop_and ?_
  (with_reducible refine' wE_local ?hv_6 ?h_6 ?hl_6 ?hd_6); (case hl_6 => exact rfl); (case hd_6 => decide +kernel); (case hv_6 => none_booked)
  with_reducible refine' exTB ?_
  have := Num.of hw hc b hz
  cases b
  · with_reducible refine' iteF ?_
    (with_reducible refine' wA_cons ?h_9 ?hs_9); (case hs_9 => (intro _; exact rfl))
    (with_reducible refine' wE_local ?hv_10 ?h_10 ?hl_10 ?hd_10); (case hl_10 => exact rfl); (case hd_10 => decide +kernel); (case hv_10 => none_booked)
    with_reducible refine' wA_nil ?_
    (with_reducible refine' andLen ?h1_12 ?h_12); (case h1_12 => (simp; done))
    with_reducible refine' exR ?_
    exact this
  · with_reducible refine' iteT ?_
    with_reducible refine' wE_boolop_one ?_
    (with_reducible refine' wE_cmp ?h_16 ?hm_16); (case hm_16 => with_unfolding_all exact rfl)
    (with_reducible refine' wE_len ?h_17 ?h1_17 ?h2_17 ?h3_17 ?h4_17); (case h1_17 => exact rfl); (case h2_17 => (intro _; exact rfl)); (case h3_17 => (intro _; exact ⟨_, _, rfl, rfl⟩)); (case h4_17 => (intro _; exact rfl))
    (with_reducible refine' wE_local ?hv_18 ?h_18 ?hl_18 ?hd_18); (case hl_18 => exact rfl); (case hd_18 => decide +kernel); (case hv_18 => none_booked)
    (with_reducible refine' b_len_z ?h1_19 ?h_19); (case h1_19 => (first | lia | omega))
    with_reducible refine' wE_int ?_
    with_reducible refine' c_gt ?_
    (with_reducible refine' wA_cons ?h_22 ?hs_22); (case hs_22 => (intro _; exact rfl))
    (with_reducible refine' wE_local ?hv_23 ?h_23 ?hl_23 ?hd_23); (case hl_23 => exact rfl); (case hd_23 => decide +kernel); (case hv_23 => none_booked)
    with_reducible refine' wA_nil ?_
    (with_reducible refine' andLen ?h1_25 ?h_25); (case h1_25 => (simp; done))
    with_reducible refine' exR ?_
    simpa using this
theorem t_s_neg (w : Nat) (hw : 1 ≤ w) (v : V) (x : Int) (hv : Num w v x) (hx : Sm x) :
    GCall g (g.fa "s_neg") 2 [v] (fun _ => none) (fun r _ => Num w r (-x)) := by
  obtain ⟨l, rfl, hl⟩ := hv
  have hs := hx.short hw hl
  refine' gcall (d := dOf 12) (dOf_mem 12 (by decide)) (hbody := ?enB) (hscope := ?enS) (hparams := ?enP) (hname := rfl) (names := ["x"]) (hk := ?enK) (hbind := ?enI) (hloc := ?enL) (h := ?enH) (hco := ?enC) (hgen := ?enG) (hcell := ?enE)
  case enB => (conv => lhs; whnf)
  case enS => (conv => lhs; whnf)
  case enP => (conv => lhs; whnf)
  case enK => rfl
  case enI => exact args1 fun _ _ _ _ => rfl
  case enL => decide +kernel
  case enC => rfl
  case enG => rfl
  case enE => decide +kernel
  with_reducible refine' wS_cons ?_
  with_reducible refine' wX_return ?_
  (with_reducible refine' wE_def ?h_3 ?h1_3 ?h2_3 ?h3_3 ?h4_3 ?h5_3); (case h1_3 => decide +kernel); (case h2_3 => exact rfl); (case h3_3 => decide +kernel); (case h4_3 => (intro _; exact rfl)); (case h5_3 => (intro _; exact ⟨_, _, rfl, rfl⟩))
  (with_reducible refine' wA_cons ?h_4 ?hs_4); (case hs_4 => (intro _; exact rfl))
  with_reducible refine' wE_unop ?_
  with_reducible refine' wE_sub ?_
  (with_reducible refine' wE_local ?hv_7 ?h_7 ?hl_7 ?hd_7); (case hl_7 => exact rfl); (case hd_7 => decide +kernel); (case hv_7 => none_booked)
  with_reducible refine' wE_int ?_
  (with_reducible refine' s_tup ?h0_9 ?hx_9 ?hsz_9 ?h_9 ?hs_9); (case hs_9 => (intro _ _; exact rfl)); (case h0_9 => (first | lia | omega)); (case hx_9 => exact rfl); (case hsz_9 => (simp; done))
  with_reducible refine' o_notB ?_
  (with_reducible refine' wA_cons ?h_11 ?hs_11); (case hs_11 => (intro _; exact rfl))
  with_reducible refine' wE_sub ?_
  (with_reducible refine' wE_local ?hv_13 ?h_13 ?hl_13 ?hd_13); (case hl_13 => exact rfl); (case hd_13 => decide +kernel); (case hv_13 => none_booked)
  with_reducible refine' wE_int ?_
  (with_reducible refine' s_tup ?h0_15 ?hx_15 ?hsz_15 ?h_15 ?hs_15); (case hs_15 => (intro _ _; exact rfl)); (case h0_15 => (first | lia | omega)); (case hx_15 => exact rfl); (case hsz_15 => (simp; done))
  with_reducible refine' wA_nil ?_
  refine op_pure (t_signed w hw _ l _ (-x) (by (first | lia | omega)) hl ?_) (by decide) fun r hr => ?_
  · by_cases h : x < 0 <;> simp [h] <;> (first | lia | omega)
  with_reducible refine' exR ?_
  exact hr
theorem t_s_add (w : Nat) (hw : 1 ≤ w ∧ w ≤ 29) (v u : V) (x y : Int) (hv : Num w v x) (hu : Num w u y) (hx : Sm x) (hy : Sm y) :
    GCall g (g.fa "s_add") 3 [v, u, .int w] (fun _ => none) (fun r _ => Num w r (x + y)) := by
  obtain ⟨l, rfl, hl⟩ := hv
  obtain ⟨k, rfl, hk⟩ := hu
  have hs1 := hx.short hw.1 hl
  have hs2 := hy.short hw.1 hk
  have hB := one_lt_pow hw.1
  refine' gcall (d := dOf 13) (dOf_mem 13 (by decide)) (hbody := ?enB) (hscope := ?enS) (hparams := ?enP) (hname := rfl) (names := ["x", "y", "w"]) (hk := ?enK) (hbind := ?enI) (hloc := ?enL) (h := ?enH) (hco := ?enC) (hgen := ?enG) (hcell := ?enE)
  case enB => (conv => lhs; whnf)
  case enS => (conv => lhs; whnf)
  case enP => (conv => lhs; whnf)
  case enK => rfl
  case enI => exact args3 fun _ _ _ _ _ _ => rfl
  case enL => decide +kernel
  case enC => rfl
  case enG => rfl
  case enE => decide +kernel
  with_reducible refine' wS_cons ?_
  with_reducible refine' wX_if ?_
  (with_reducible refine' wT_cmp ?h_3 ?hm_3); (case hm_3 => with_unfolding_all exact rfl)
  with_reducible refine' wE_sub ?_
  (with_reducible refine' wE_local ?hv_5 ?h_5 ?hl_5 ?hd_5); (case hl_5 => exact rfl); (case hd_5 => decide +kernel); (case hv_5 => none_booked)
  with_reducible refine' wE_int ?_
  (with_reducible refine' s_tup ?h0_7 ?hx_7 ?hsz_7 ?h_7 ?hs_7); (case hs_7 => (intro _ _; exact rfl)); (case h0_7 => (first | lia | omega)); (case hx_7 => exact rfl); (case hsz_7 => (simp; done))
  with_reducible refine' wE_sub ?_
  (with_reducible refine' wE_local ?hv_9 ?h_9 ?hl_9 ?hd_9); (case hl_9 => exact rfl); (case hd_9 => decide +kernel); (case hv_9 => none_booked)
  with_reducible refine' wE_int ?_
  (with_reducible refine' s_tup ?h0_11 ?hx_11 ?hsz_11 ?h_11 ?hs_11); (case hs_11 => (intro _ _; exact rfl)); (case h0_11 => (first | lia | omega)); (case hx_11 => exact rfl); (case hsz_11 => (simp; done))
  with_reducible refine' c_eqb ?_
  with_reducible refine' exTB ?_
  refine iteB (fun h => ?_) (fun h => ?_)
  · have hs : x < 0 ↔ y < 0 := by simpa using h
    with_reducible refine' wS_cons ?_
    with_reducible refine' wX_return ?_
    (with_reducible refine' wE_def ?h_16 ?h1_16 ?h2_16 ?h3_16 ?h4_16 ?h5_16); (case h1_16 => decide +kernel); (case h2_16 => exact rfl); (case h3_16 => decide +kernel); (case h4_16 => (intro _; exact rfl)); (case h5_16 => (intro _; exact ⟨_, _, rfl, rfl⟩))
    (with_reducible refine' wA_cons ?h_17 ?hs_17); (case hs_17 => (intro _; exact rfl))
    with_reducible refine' wE_sub ?_
    (with_reducible refine' wE_local ?hv_19 ?h_19 ?hl_19 ?hd_19); (case hl_19 => exact rfl); (case hd_19 => decide +kernel); (case hv_19 => none_booked)
    with_reducible refine' wE_int ?_
    (with_reducible refine' s_tup ?h0_21 ?hx_21 ?hsz_21 ?h_21 ?hs_21); (case hs_21 => (intro _ _; exact rfl)); (case h0_21 => (first | lia | omega)); (case hx_21 => exact rfl); (case hsz_21 => (simp; done))
    (with_reducible refine' wA_cons ?h_22 ?hs_22); (case hs_22 => (intro _; exact rfl))
    (with_reducible refine' wE_def ?h_23 ?h1_23 ?h2_23 ?h3_23 ?h4_23 ?h5_23); (case h1_23 => decide +kernel); (case h2_23 => exact rfl); (case h3_23 => decide +kernel); (case h4_23 => (intro _; exact rfl)); (case h5_23 => (intro _; exact ⟨_, _, rfl, rfl⟩))
    (with_reducible refine' wA_cons ?h_24 ?hs_24); (case hs_24 => (intro _; exact rfl))
    with_reducible refine' wE_sub ?_
    (with_reducible refine' wE_local ?hv_26 ?h_26 ?hl_26 ?hd_26); (case hl_26 => exact rfl); (case hd_26 => decide +kernel); (case hv_26 => none_booked)
    with_reducible refine' wE_int ?_
    (with_reducible refine' s_tup ?h0_28 ?hx_28 ?hsz_28 ?h_28 ?hs_28); (case hs_28 => (intro _ _; exact rfl)); (case h0_28 => (first | lia | omega)); (case hx_28 => exact rfl); (case hsz_28 => (simp; done))
    (with_reducible refine' wA_cons ?h_29 ?hs_29); (case hs_29 => (intro _; exact rfl))
    with_reducible refine' wE_sub ?_
    (with_reducible refine' wE_local ?hv_31 ?h_31 ?hl_31 ?hd_31); (case hl_31 => exact rfl); (case hd_31 => decide +kernel); (case hv_31 => none_booked)
    with_reducible refine' wE_int ?_
    (with_reducible refine' s_tup ?h0_33 ?hx_33 ?hsz_33 ?h_33 ?hs_33); (case hs_33 => (intro _ _; exact rfl)); (case h0_33 => (first | lia | omega)); (case hx_33 => exact rfl); (case hsz_33 => (simp; done))
    (with_reducible refine' wA_cons ?h_34 ?hs_34); (case hs_34 => (intro _; exact rfl))
    (with_reducible refine' wE_local ?hv_35 ?h_35 ?hl_35 ?hd_35); (case hl_35 => exact rfl); (case hd_35 => decide +kernel); (case hv_35 => none_booked)
    with_reducible refine' wA_nil ?_
    refine op_pure (t_add w (by (first | lia | omega)) l k _ _ (by (first | lia | omega)) (by (first | lia | omega)) hl hk) (by decide) fun r hr => ?_
    obtain ⟨q, rfl, hq⟩ := hr
    have hql : q.length ≤ 201 := by
      apply hq.len_le hB
      have := (Sm.short hw.1 hx hl)
      have h1 : (x.natAbs : Int) < ((2 ^ 200 : Nat) : Int) := by exact_mod_cast hx
      have h2 : (y.natAbs : Int) < ((2 ^ 200 : Nat) : Int) := by exact_mod_cast hy
      have h3 := two_pow_le (w := w) (k := 201) hw.1
      rw [Int.natCast_pow] at h1 h2
      have e : ((2:Int)) ^ 201 = 2 ^ 200 * 2 := rfl
      have e2 : ((2:Nat):Int) ^ 200 = 2 ^ 200 := rfl
      (first | lia | omega)
    with_reducible refine' wA_nil ?_
    refine op_pure (t_signed w hw.1 _ q _ (x + y) (by (first | lia | omega)) hq ?_) (by decide) fun r hr => ?_
    · by_cases h : x < 0 <;> simp [h] <;> (first | lia | omega)
    with_reducible refine' exR ?_
    exact hr
  · have hs : ¬ (x < 0 ↔ y < 0) := by
      intro hh
      have e : decide (x < 0) = decide (y < 0) := by simp [hh]
      rw [e] at h
      simp at h
    with_reducible refine' wS_nil ?_
    with_reducible refine' wS_cons ?_
    with_reducible refine' wX_if ?_
    (with_reducible refine' wT_cmp ?h_42 ?hm_42); (case hm_42 => with_unfolding_all exact rfl)
    (with_reducible refine' wE_def ?h_43 ?h1_43 ?h2_43 ?h3_43 ?h4_43 ?h5_43); (case h1_43 => decide +kernel); (case h2_43 => exact rfl); (case h3_43 => decide +kernel); (case h4_43 => (intro _; exact rfl)); (case h5_43 => (intro _; exact ⟨_, _, rfl, rfl⟩))
    (with_reducible refine' wA_cons ?h_44 ?hs_44); (case hs_44 => (intro _; exact rfl))
    with_reducible refine' wE_sub ?_
    (with_reducible refine' wE_local ?hv_46 ?h_46 ?hl_46 ?hd_46); (case hl_46 => exact rfl); (case hd_46 => decide +kernel); (case hv_46 => none_booked)
    with_reducible refine' wE_int ?_
    (with_reducible refine' s_tup ?h0_48 ?hx_48 ?hsz_48 ?h_48 ?hs_48); (case hs_48 => (intro _ _; exact rfl)); (case h0_48 => (first | lia | omega)); (case hx_48 => exact rfl); (case hsz_48 => (simp; done))
    (with_reducible refine' wA_cons ?h_49 ?hs_49); (case hs_49 => (intro _; exact rfl))
    with_reducible refine' wE_sub ?_
    (with_reducible refine' wE_local ?hv_51 ?h_51 ?hl_51 ?hd_51); (case hl_51 => exact rfl); (case hd_51 => decide +kernel); (case hv_51 => none_booked)
    with_reducible refine' wE_int ?_
    (with_reducible refine' s_tup ?h0_53 ?hx_53 ?hsz_53 ?h_53 ?hs_53); (case hs_53 => (intro _ _; exact rfl)); (case h0_53 => (first | lia | omega)); (case hx_53 => exact rfl); (case hsz_53 => (simp; done))
    with_reducible refine' wA_nil ?_
    refine op_pure (t_compare w hw.1 l k _ _ (by (first | lia | omega)) (by (first | lia | omega)) hl hk) (by decide) fun r hr => ?_
    obtain ⟨cc, rfl, hcc⟩ := hr
    with_reducible refine' wE_int ?_
    with_reducible refine' c_lt ?_
    with_reducible refine' exTB ?_
    refine iteD (fun h => ?_) (fun h => ?_)
    · have hlt := hcc.1 h
      with_reducible refine' wS_cons ?_
      with_reducible refine' wX_return ?_
      (with_reducible refine' wE_def ?h_60 ?h1_60 ?h2_60 ?h3_60 ?h4_60 ?h5_60); (case h1_60 => decide +kernel); (case h2_60 => exact rfl); (case h3_60 => decide +kernel); (case h4_60 => (intro _; exact rfl)); (case h5_60 => (intro _; exact ⟨_, _, rfl, rfl⟩))
      (with_reducible refine' wA_cons ?h_61 ?hs_61); (case hs_61 => (intro _; exact rfl))
      with_reducible refine' wE_sub ?_
      (with_reducible refine' wE_local ?hv_63 ?h_63 ?hl_63 ?hd_63); (case hl_63 => exact rfl); (case hd_63 => decide +kernel); (case hv_63 => none_booked)
      with_reducible refine' wE_int ?_
      (with_reducible refine' s_tup ?h0_65 ?hx_65 ?hsz_65 ?h_65 ?hs_65); (case hs_65 => (intro _ _; exact rfl)); (case h0_65 => (first | lia | omega)); (case hx_65 => exact rfl); (case hsz_65 => (simp; done))
      (with_reducible refine' wA_cons ?h_66 ?hs_66); (case hs_66 => (intro _; exact rfl))
      (with_reducible refine' wE_def ?h_67 ?h1_67 ?h2_67 ?h3_67 ?h4_67 ?h5_67); (case h1_67 => decide +kernel); (case h2_67 => exact rfl); (case h3_67 => decide +kernel); (case h4_67 => (intro _; exact rfl)); (case h5_67 => (intro _; exact ⟨_, _, rfl, rfl⟩))
      (with_reducible refine' wA_cons ?h_68 ?hs_68); (case hs_68 => (intro _; exact rfl))
      with_reducible refine' wE_sub ?_
      (with_reducible refine' wE_local ?hv_70 ?h_70 ?hl_70 ?hd_70); (case hl_70 => exact rfl); (case hd_70 => decide +kernel); (case hv_70 => none_booked)
      with_reducible refine' wE_int ?_
      (with_reducible refine' s_tup ?h0_72 ?hx_72 ?hsz_72 ?h_72 ?hs_72); (case hs_72 => (intro _ _; exact rfl)); (case h0_72 => (first | lia | omega)); (case hx_72 => exact rfl); (case hsz_72 => (simp; done))
      (with_reducible refine' wA_cons ?h_73 ?hs_73); (case hs_73 => (intro _; exact rfl))
      with_reducible refine' wE_sub ?_
      (with_reducible refine' wE_local ?hv_75 ?h_75 ?hl_75 ?hd_75); (case hl_75 => exact rfl); (case hd_75 => decide +kernel); (case hv_75 => none_booked)
      with_reducible refine' wE_int ?_
      (with_reducible refine' s_tup ?h0_77 ?hx_77 ?hsz_77 ?h_77 ?hs_77); (case hs_77 => (intro _ _; exact rfl)); (case h0_77 => (first | lia | omega)); (case hx_77 => exact rfl); (case hsz_77 => (simp; done))
      (with_reducible refine' wA_cons ?h_78 ?hs_78); (case hs_78 => (intro _; exact rfl))
      (with_reducible refine' wE_local ?hv_79 ?h_79 ?hl_79 ?hd_79); (case hl_79 => exact rfl); (case hd_79 => decide +kernel); (case hv_79 => none_booked)
      with_reducible refine' wA_nil ?_
      refine op_pure (t_sub w (by (first | lia | omega)) k l _ _ (by (first | lia | omega)) (by (first | lia | omega)) hk hl (by (first | lia | omega))) (by decide) fun r hr => ?_
      obtain ⟨q, rfl, hq⟩ := hr
      have hql : q.length ≤ 200 := by
        apply hq.len_le hB
        have h2 : (y.natAbs : Int) < ((2 ^ 200 : Nat) : Int) := by exact_mod_cast hy
        have h3 := two_pow_le (w := w) (k := 200) hw.1
        rw [Int.natCast_pow] at h2
        have e2 : ((2:Nat):Int) ^ 200 = 2 ^ 200 := rfl
        (first | lia | omega)
      with_reducible refine' wA_nil ?_
      refine op_pure (t_signed w hw.1 _ q _ (x + y) (by (first | lia | omega)) hq ?_) (by decide) fun r hr => ?_
      · by_cases h : y < 0 <;> simp [h] <;> (first | lia | omega)
      with_reducible refine' exR ?_
      exact hr
    · have hge : ¬ (x.natAbs : Int) < y.natAbs := fun hh => h (hcc.2 hh)
      with_reducible refine' wS_nil ?_
      with_reducible refine' wS_cons ?_
      with_reducible refine' wX_return ?_
      (with_reducible refine' wE_def ?h_86 ?h1_86 ?h2_86 ?h3_86 ?h4_86 ?h5_86); (case h1_86 => decide +kernel); (case h2_86 => exact rfl); (case h3_86 => decide +kernel); (case h4_86 => (intro _; exact rfl)); (case h5_86 => (intro _; exact ⟨_, _, rfl, rfl⟩))
      (with_reducible refine' wA_cons ?h_87 ?hs_87); (case hs_87 => (intro _; exact rfl))
      with_reducible refine' wE_sub ?_
      (with_reducible refine' wE_local ?hv_89 ?h_89 ?hl_89 ?hd_89); (case hl_89 => exact rfl); (case hd_89 => decide +kernel); (case hv_89 => none_booked)
      with_reducible refine' wE_int ?_
      (with_reducible refine' s_tup ?h0_91 ?hx_91 ?hsz_91 ?h_91 ?hs_91); (case hs_91 => (intro _ _; exact rfl)); (case h0_91 => (first | lia | omega)); (case hx_91 => exact rfl); (case hsz_91 => (simp; done))
      (with_reducible refine' wA_cons ?h_92 ?hs_92); (case hs_92 => (intro _; exact rfl))
      (with_reducible refine' wE_def ?h_93 ?h1_93 ?h2_93 ?h3_93 ?h4_93 ?h5_93); (case h1_93 => decide +kernel); (case h2_93 => exact rfl); (case h3_93 => decide +kernel); (case h4_93 => (intro _; exact rfl)); (case h5_93 => (intro _; exact ⟨_, _, rfl, rfl⟩))
      (with_reducible refine' wA_cons ?h_94 ?hs_94); (case hs_94 => (intro _; exact rfl))
      with_reducible refine' wE_sub ?_
      (with_reducible refine' wE_local ?hv_96 ?h_96 ?hl_96 ?hd_96); (case hl_96 => exact rfl); (case hd_96 => decide +kernel); (case hv_96 => none_booked)
      with_reducible refine' wE_int ?_
      (with_reducible refine' s_tup ?h0_98 ?hx_98 ?hsz_98 ?h_98 ?hs_98); (case hs_98 => (intro _ _; exact rfl)); (case h0_98 => (first | lia | omega)); (case hx_98 => exact rfl); (case hsz_98 => (simp; done))
      (with_reducible refine' wA_cons ?h_99 ?hs_99); (case hs_99 => (intro _; exact rfl))
      with_reducible refine' wE_sub ?_
      (with_reducible refine' wE_local ?hv_101 ?h_101 ?hl_101 ?hd_101); (case hl_101 => exact rfl); (case hd_101 => decide +kernel); (case hv_101 => none_booked)
      with_reducible refine' wE_int ?_
      (with_reducible refine' s_tup ?h0_103 ?hx_103 ?hsz_103 ?h_103 ?hs_103); (case hs_103 => (intro _ _; exact rfl)); (case h0_103 => (first | lia | omega)); (case hx_103 => exact rfl); (case hsz_103 => (simp; done))
      (with_reducible refine' wA_cons ?h_104 ?hs_104); (case hs_104 => (intro _; exact rfl))
      (with_reducible refine' wE_local ?hv_105 ?h_105 ?hl_105 ?hd_105); (case hl_105 => exact rfl); (case hd_105 => decide +kernel); (case hv_105 => none_booked)
      with_reducible refine' wA_nil ?_
      refine op_pure (t_sub w (by (first | lia | omega)) l k _ _ (by (first | lia | omega)) (by (first | lia | omega)) hl hk (by (first | lia | omega))) (by decide) fun r hr => ?_
      obtain ⟨q, rfl, hq⟩ := hr
      have hql : q.length ≤ 200 := by
        apply hq.len_le hB
        have h2 : (x.natAbs : Int) < ((2 ^ 200 : Nat) : Int) := by exact_mod_cast hx
        have h3 := two_pow_le (w := w) (k := 200) hw.1
        rw [Int.natCast_pow] at h2
        have e2 : ((2:Nat):Int) ^ 200 = 2 ^ 200 := rfl
        (first | lia | omega)
      with_reducible refine' wA_nil ?_
      refine op_pure (t_signed w hw.1 _ q _ (x + y) (by (first | lia | omega)) hq ?_) (by decide) fun r hr => ?_
      · by_cases h : x < 0 <;> simp [h] <;> (first | lia | omega)
      with_reducible refine' exR ?_
      exact hr
theorem Sm.neg {x : Int} (h : Sm x) : Sm (-x) := by unfold Sm at *; (first | lia | omega)
theorem t_s_sub (w : Nat) (hw : 1 ≤ w ∧ w ≤ 29) (v u : V) (x y : Int) (hv : Num w v x) (hu : Num w u y) (hx : Sm x) (hy : Sm y) :
    GCall g (g.fa "s_sub") 4 [v, u, .int w] (fun _ => none) (fun r _ => Num w r (x - y)) := by
  refine' gcall (d := dOf 14) (dOf_mem 14 (by decide)) (hbody := ?enB) (hscope := ?enS) (hparams := ?enP) (hname := rfl) (names := ["x", "y", "w"]) (hk := ?enK) (hbind := ?enI) (hloc := ?enL) (h := ?enH) (hco := ?enC) (hgen := ?enG) (hcell := ?enE)
  case enB => (conv => lhs; whnf)
  case enS => (conv => lhs; whnf)
  case enP => (conv => lhs; whnf)
  case enK => rfl
  case enI => exact args3 fun _ _ _ _ _ _ => rfl
  case enL => decide +kernel
  case enC => rfl
  case enG => rfl
  case enE => decide +kernel
  with_reducible refine' wS_cons ?_
  with_reducible refine' wX_return ?_
  (with_reducible refine' wE_def ?h_3 ?h1_3 ?h2_3 ?h3_3 ?h4_3 ?h5_3); (case h1_3 => decide +kernel); (case h2_3 => exact rfl); (case h3_3 => decide +kernel); (case h4_3 => (intro _; exact rfl)); (case h5_3 => (intro _; exact ⟨_, _, rfl, rfl⟩))
  (with_reducible refine' wA_cons ?h_4 ?hs_4); (case hs_4 => (intro _; exact rfl))
  (with_reducible refine' wE_local ?hv_5 ?h_5 ?hl_5 ?hd_5); (case hl_5 => exact rfl); (case hd_5 => decide +kernel); (case hv_5 => none_booked)
  (with_reducible refine' wA_cons ?h_6 ?hs_6); (case hs_6 => (intro _; exact rfl))
  (with_reducible refine' wE_def ?h_7 ?h1_7 ?h2_7 ?h3_7 ?h4_7 ?h5_7); (case h1_7 => decide +kernel); (case h2_7 => exact rfl); (case h3_7 => decide +kernel); (case h4_7 => (intro _; exact rfl)); (case h5_7 => (intro _; exact ⟨_, _, rfl, rfl⟩))
  (with_reducible refine' wA_cons ?h_8 ?hs_8); (case hs_8 => (intro _; exact rfl))
  (with_reducible refine' wE_local ?hv_9 ?h_9 ?hl_9 ?hd_9); (case hl_9 => exact rfl); (case hd_9 => decide +kernel); (case hv_9 => none_booked)
  with_reducible refine' wA_nil ?_
  refine op_pure (t_s_neg w hw.1 u y hu hy) (by decide) fun r hr => ?_
  (with_reducible refine' wA_cons ?h_11 ?hs_11); (case hs_11 => (intro _; exact rfl))
  (with_reducible refine' wE_local ?hv_12 ?h_12 ?hl_12 ?hd_12); (case hl_12 => exact rfl); (case hd_12 => decide +kernel); (case hv_12 => none_booked)
  with_reducible refine' wA_nil ?_
  refine op_pure (t_s_add w hw v r x (-y) hv hr hx hy.neg) (by decide) fun r hr => ?_
  with_reducible refine' exR ?_
  rw [Int.sub_eq_add_neg]
  exact hr
theorem t_s_mul (w : Nat) (hw : 1 ≤ w ∧ w ≤ 29) (v u : V) (x y : Int) (hv : Num w v x) (hu : Num w u y) (hx : Sm x) (hy : Sm y) :
    GCall g (g.fa "s_mul") 3 [v, u, .int w, .lit (.ref (g.fa "mul_school"))] (fun _ => none) (fun r _ => Num w r (x * y)) := by
  obtain ⟨l, rfl, hl⟩ := hv
  obtain ⟨k, rfl, hk⟩ := hu
  have hs1 := hx.short hw.1 hl
  have hs2 := hy.short hw.1 hk
  have hB := one_lt_pow hw.1
  refine' gcall (d := dOf 15) (dOf_mem 15 (by decide)) (hbody := ?enB) (hscope := ?enS) (hparams := ?enP) (hname := rfl) (names := ["x", "y", "w", "mul"]) (hk := ?enK) (hbind := ?enI) (hloc := ?enL) (h := ?enH) (hco := ?enC) (hgen := ?enG) (hcell := ?enE)
  case enB => (conv => lhs; whnf)
  case enS => (conv => lhs; whnf)
  case enP => (conv => lhs; whnf)
  case enK => rfl
  case enI => exact args4 fun _ _ _ _ _ _ _ => rfl
  case enL => decide +kernel
  case enC => rfl
  case enG => rfl
  case enE => decide +kernel
  with_reducible refine' wS_cons ?_
  with_reducible refine' wX_return ?_
  (with_reducible refine' wE_def ?h_3 ?h1_3 ?h2_3 ?h3_3 ?h4_3 ?h5_3); (case h1_3 => decide +kernel); (case h2_3 => exact rfl); (case h3_3 => decide +kernel); (case h4_3 => (intro _; exact rfl)); (case h5_3 => (intro _; exact ⟨_, _, rfl, rfl⟩))
  (with_reducible refine' wA_cons ?h_4 ?hs_4); (case hs_4 => (intro _; exact rfl))
  (with_reducible refine' wE_cmp ?h_5 ?hm_5); (case hm_5 => with_unfolding_all exact rfl)
  with_reducible refine' wE_sub ?_
  (with_reducible refine' wE_local ?hv_7 ?h_7 ?hl_7 ?hd_7); (case hl_7 => exact rfl); (case hd_7 => decide +kernel); (case hv_7 => none_booked)
  with_reducible refine' wE_int ?_
  (with_reducible refine' s_tup ?h0_9 ?hx_9 ?hsz_9 ?h_9 ?hs_9); (case hs_9 => (intro _ _; exact rfl)); (case h0_9 => (first | lia | omega)); (case hx_9 => exact rfl); (case hsz_9 => (simp; done))
  with_reducible refine' wE_sub ?_
  (with_reducible refine' wE_local ?hv_11 ?h_11 ?hl_11 ?hd_11); (case hl_11 => exact rfl); (case hd_11 => decide +kernel); (case hv_11 => none_booked)
  with_reducible refine' wE_int ?_
  (with_reducible refine' s_tup ?h0_13 ?hx_13 ?hsz_13 ?h_13 ?hs_13); (case hs_13 => (intro _ _; exact rfl)); (case h0_13 => (first | lia | omega)); (case hx_13 => exact rfl); (case hsz_13 => (simp; done))
  with_reducible refine' c_neb ?_
  (with_reducible refine' wA_cons ?h_15 ?hs_15); (case hs_15 => (intro _; exact rfl))
  refine wE_callD (fa_def (x := "mul_school") (by decide +kernel)).2 ?_
  (with_reducible refine' wE_local ?hv_16 ?h_16 ?hl_16 ?hd_16); (case hl_16 => exact rfl); (case hd_16 => decide +kernel); (case hv_16 => none_booked)
  with_reducible refine' andLit ?_
  (with_reducible refine' wA_cons ?h_18 ?hs_18); (case hs_18 => (intro _; exact rfl))
  with_reducible refine' wE_sub ?_
  (with_reducible refine' wE_local ?hv_20 ?h_20 ?hl_20 ?hd_20); (case hl_20 => exact rfl); (case hd_20 => decide +kernel); (case hv_20 => none_booked)
  with_reducible refine' wE_int ?_
  (with_reducible refine' s_tup ?h0_22 ?hx_22 ?hsz_22 ?h_22 ?hs_22); (case hs_22 => (intro _ _; exact rfl)); (case h0_22 => (first | lia | omega)); (case hx_22 => exact rfl); (case hsz_22 => (simp; done))
  (with_reducible refine' wA_cons ?h_23 ?hs_23); (case hs_23 => (intro _; exact rfl))
  with_reducible refine' wE_sub ?_
  (with_reducible refine' wE_local ?hv_25 ?h_25 ?hl_25 ?hd_25); (case hl_25 => exact rfl); (case hd_25 => decide +kernel); (case hv_25 => none_booked)
  with_reducible refine' wE_int ?_
  (with_reducible refine' s_tup ?h0_27 ?hx_27 ?hsz_27 ?h_27 ?hs_27); (case hs_27 => (intro _ _; exact rfl)); (case h0_27 => (first | lia | omega)); (case hx_27 => exact rfl); (case hsz_27 => (simp; done))
  (with_reducible refine' wA_cons ?h_28 ?hs_28); (case hs_28 => (intro _; exact rfl))
  (with_reducible refine' wE_local ?hv_29 ?h_29 ?hl_29 ?hd_29); (case hl_29 => exact rfl); (case hd_29 => decide +kernel); (case hv_29 => none_booked)
  with_reducible refine' wA_nil ?_
  refine op_pure (t_mul_school w hw l k _ _ (by (first | lia | omega)) (by (first | lia | omega)) hl hk) (by decide) fun r hr => ?_
  obtain ⟨q, rfl, hq⟩ := hr
  have hql : q.length ≤ 400 := by
    apply hq.len_le hB
    have h1 : (x.natAbs : Int) < ((2 ^ 200 : Nat) : Int) := by exact_mod_cast hx
    have h2 : (y.natAbs : Int) < ((2 ^ 200 : Nat) : Int) := by exact_mod_cast hy
    have h3 := two_pow_le (w := w) (k := 400) hw.1
    rw [Int.natCast_pow] at h1 h2
    have e2 : ((2:Nat):Int) ^ 200 = 2 ^ 200 := rfl
    rw [e2] at h1 h2
    have e : (2:Int) ^ 400 = 2 ^ 200 * 2 ^ 200 := by rw [← Int.pow_add]
    rw [e] at h3
    refine Int.lt_of_lt_of_le ?_ h3
    generalize (2:Int) ^ 200 = T at *
    have a1 : (x.natAbs : Int) * y.natAbs ≤ x.natAbs * T := Int.mul_le_mul_of_nonneg_left (by (first | lia | omega)) (by (first | lia | omega))
    have a2 : (x.natAbs : Int) * T < T * T := Int.mul_lt_mul_of_pos_right h1 (by (first | lia | omega))
    (first | lia | omega)
  with_reducible refine' wA_nil ?_
  refine op_pure (t_signed w hw.1 _ q _ (x * y) (by (first | lia | omega)) hq ?_) (by decide) fun r hr => ?_
  · rcases Int.lt_or_le x 0 with h | h <;> rcases Int.lt_or_le y 0 with h' | h' <;> simp only [abs_pos_iff.1, abs_pos_iff.2, h, h', decide_true, Int.not_lt.mpr, decide_false] <;> simp [Int.neg_mul, Int.mul_neg]
  with_reducible refine' exR ?_
  exact hr
end
section
variable {g : G PP} {c : Cx} {S : St}
theorem Sm.cast {x : Int} (h : Sm x) : (x.natAbs : Int) < 2 ^ 200 := by
  have h1 : (x.natAbs : Int) < ((2 ^ 200 : Nat) : Int) := by exact_mod_cast h
  rw [Int.natCast_pow] at h1
  exact h1
theorem short_of {w : Nat} (hw : 1 ≤ w) {q : List Int} {n m : Int} (hq : Can (2 ^ w) q n) (hn : n ≤ m) {k : Nat} (hm : m < 2 ^ k) : q.length ≤ k := by
  apply hq.len_le (one_lt_pow hw)
  have h3 := two_pow_le (w := w) (k := k) hw
  (first | lia | omega)
theorem even_pow {w : Nat} (hw : 1 ≤ w) : ∃ k : Nat, (2:Int) ^ w = 2 * k := by
  obtain ⟨v, rfl⟩ : ∃ v, w = v + 1 := ⟨w - 1, by (first | lia | omega)⟩
  exact ⟨2 ^ v, by rw [Int.pow_succ, Int.mul_comm, Int.natCast_pow]; rfl⟩
theorem t_s_half (w : Nat) (hw : 1 ≤ w ∧ w ≤ 29) (v : V) (x : Int) (hv : Num w v x) (hx : Sm x) (he : x % 2 = 0) :
    GCall g (g.fa "s_half") 3 [v, .int w] (fun _ => none) (fun r _ => Num w r (x / 2)) := by
  obtain ⟨l, rfl, hl⟩ := hv
  have hs1 := hx.short hw.1 hl
  have hB := one_lt_pow hw.1
  have hpw := even_pow hw.1
  refine' gcall (d := dOf 16) (dOf_mem 16 (by decide)) (hbody := ?enB) (hscope := ?enS) (hparams := ?enP) (hname := rfl) (names := ["x", "w"]) (hk := ?enK) (hbind := ?enI) (hloc := ?enL) (h := ?enH) (hco := ?enC) (hgen := ?enG) (hcell := ?enE)
  case enB => (conv => lhs; whnf)
  case enS => (conv => lhs; whnf)
  case enP => (conv => lhs; whnf)
  case enK => rfl
  case enI => exact args2 fun _ _ _ _ _ => rfl
  case enL => decide +kernel
  case enC => rfl
  case enG => rfl
  case enE => decide +kernel
  with_reducible refine' wS_cons ?_
  with_reducible refine' wX_if ?_
  with_reducible refine' wT_not ?_
  (with_reducible refine' wT_plain ?h_4 ?he_4); (case he_4 => (intros; exact rfl))
  (with_reducible refine' wE_def ?h_5 ?h1_5 ?h2_5 ?h3_5 ?h4_5 ?h5_5); (case h1_5 => decide +kernel); (case h2_5 => exact rfl); (case h3_5 => decide +kernel); (case h4_5 => (intro _; exact rfl)); (case h5_5 => (intro _; exact ⟨_, _, rfl, rfl⟩))
  (with_reducible refine' wA_cons ?h_6 ?hs_6); (case hs_6 => (intro _; exact rfl))
  with_reducible refine' wE_sub ?_
  (with_reducible refine' wE_local ?hv_8 ?h_8 ?hl_8 ?hd_8); (case hl_8 => exact rfl); (case hd_8 => decide +kernel); (case hv_8 => none_booked)
  with_reducible refine' wE_int ?_
  (with_reducible refine' s_tup ?h0_10 ?hx_10 ?hsz_10 ?h_10 ?hs_10); (case hs_10 => (intro _ _; exact rfl)); (case h0_10 => (first | lia | omega)); (case hx_10 => exact rfl); (case hsz_10 => (simp; done))
  with_reducible refine' wA_nil ?_
  refine op_pure (t_is_even (2 ^ w) hpw l _ (by (first | lia | omega)) hl) (by decide) fun r hr => ?_
  subst hr
  with_reducible refine' exTB ?_
  refine iteNot ?_
  refine iteEq (fun _ => ?_) (fun h => absurd (show (x.natAbs : Int) % 2 = 0 by (first | lia | omega)) h)
  with_reducible refine' wS_nil ?_
  with_reducible refine' wS_cons ?_
  with_reducible refine' wX_return ?_
  (with_reducible refine' wE_def ?h_16 ?h1_16 ?h2_16 ?h3_16 ?h4_16 ?h5_16); (case h1_16 => decide +kernel); (case h2_16 => exact rfl); (case h3_16 => decide +kernel); (case h4_16 => (intro _; exact rfl)); (case h5_16 => (intro _; exact ⟨_, _, rfl, rfl⟩))
  (with_reducible refine' wA_cons ?h_17 ?hs_17); (case hs_17 => (intro _; exact rfl))
  with_reducible refine' wE_sub ?_
  (with_reducible refine' wE_local ?hv_19 ?h_19 ?hl_19 ?hd_19); (case hl_19 => exact rfl); (case hd_19 => decide +kernel); (case hv_19 => none_booked)
  with_reducible refine' wE_int ?_
  (with_reducible refine' s_tup ?h0_21 ?hx_21 ?hsz_21 ?h_21 ?hs_21); (case hs_21 => (intro _ _; exact rfl)); (case h0_21 => (first | lia | omega)); (case hx_21 => exact rfl); (case hsz_21 => (simp; done))
  (with_reducible refine' wA_cons ?h_22 ?hs_22); (case hs_22 => (intro _; exact rfl))
  (with_reducible refine' wE_def ?h_23 ?h1_23 ?h2_23 ?h3_23 ?h4_23 ?h5_23); (case h1_23 => decide +kernel); (case h2_23 => exact rfl); (case h3_23 => decide +kernel); (case h4_23 => (intro _; exact rfl)); (case h5_23 => (intro _; exact ⟨_, _, rfl, rfl⟩))
  (with_reducible refine' wA_cons ?h_24 ?hs_24); (case hs_24 => (intro _; exact rfl))
  with_reducible refine' wE_sub ?_
  (with_reducible refine' wE_local ?hv_26 ?h_26 ?hl_26 ?hd_26); (case hl_26 => exact rfl); (case hd_26 => decide +kernel); (case hv_26 => none_booked)
  with_reducible refine' wE_int ?_
  (with_reducible refine' s_tup ?h0_28 ?hx_28 ?hsz_28 ?h_28 ?hs_28); (case hs_28 => (intro _ _; exact rfl)); (case h0_28 => (first | lia | omega)); (case hx_28 => exact rfl); (case hsz_28 => (simp; done))
  (with_reducible refine' wA_cons ?h_29 ?hs_29); (case hs_29 => (intro _; exact rfl))
  with_reducible refine' wE_int ?_
  (with_reducible refine' wA_cons ?h_31 ?hs_31); (case hs_31 => (intro _; exact rfl))
  (with_reducible refine' wE_local ?hv_32 ?h_32 ?hl_32 ?hd_32); (case hl_32 => exact rfl); (case hd_32 => decide +kernel); (case hv_32 => none_booked)
  with_reducible refine' wA_nil ?_
  refine op_pure (t_shift_right w hw l _ 1 (by (first | lia | omega)) (by (first | lia | omega)) hl.limbs hl.val) (by decide) fun r hr => ?_
  obtain ⟨q, rfl, hq⟩ := hr
  have hql : q.length ≤ 200 := short_of hw.1 hq (Int.ediv_le_self _ (by (first | lia | omega))) hx.cast
  with_reducible refine' wA_nil ?_
  refine op_pure (t_signed w hw.1 _ q _ (x / 2) (by (first | lia | omega)) hq ?_) (by decide) fun r hr => ?_
  · by_cases h : x < 0 <;> simp [h] <;> (first | lia | omega)
  with_reducible refine' exR ?_
  exact hr
/-- divided towards nought -/
noncomputable def tq (x y : Int) : Int := if (x < 0) = (y < 0) then (x.natAbs : Int) / y.natAbs else -((x.natAbs : Int) / y.natAbs)
theorem tq_rest {x y : Int} : x - tq x y * y = if x < 0 then -((x.natAbs : Int) % y.natAbs) else (x.natAbs : Int) % y.natAbs := by
  have e := Int.mul_ediv_add_emod (x.natAbs : Int) y.natAbs
  unfold tq
  rcases Int.lt_or_le x 0 with h | h <;> rcases Int.lt_or_le y 0 with h' | h'
  · rw [if_pos (by simp [h, h']), if_pos h]
    rw [abs_pos_iff.2 h, abs_pos_iff.2 h'] at *
    rw [Int.neg_mul, Int.mul_comm] at e
    (first | lia | omega)
  · rw [if_neg (by simp [h]; (first | lia | omega)), if_pos h]
    rw [abs_pos_iff.2 h, abs_pos_iff.1 h'] at *
    rw [Int.mul_comm] at e
    rw [Int.neg_mul]
    (first | lia | omega)
  · rw [if_neg (by simp [h']; (first | lia | omega)), if_neg (by (first | lia | omega))]
    rw [abs_pos_iff.1 h, abs_pos_iff.2 h'] at *
    rw [Int.neg_mul, Int.mul_comm] at e
    rw [Int.neg_mul]
    (first | lia | omega)
  · rw [if_pos (by simp; (first | lia | omega)), if_neg (by (first | lia | omega))]
    rw [abs_pos_iff.1 h, abs_pos_iff.1 h'] at *
    rw [Int.mul_comm] at e
    (first | lia | omega)
theorem tq_sm {x y : Int} (hx : Sm x) : (tq x y).natAbs ≤ x.natAbs ∧ (x - tq x y * y).natAbs ≤ x.natAbs := by
  have a := Int.ediv_le_self (a := (x.natAbs : Int)) (y.natAbs : Int) (by (first | lia | omega))
  have b : (0 : Int) ≤ (x.natAbs : Int) / y.natAbs := Int.ediv_nonneg (by (first | lia | omega)) (by (first | lia | omega))
  have c : (x.natAbs : Int) % y.natAbs ≤ x.natAbs := by
    have := Nat.mod_le x.natAbs y.natAbs
    exact_mod_cast this
  have d : (0 : Int) ≤ (x.natAbs : Int) % y.natAbs := by
    have := Nat.zero_le (x.natAbs % y.natAbs)
    exact_mod_cast this
  rw [tq_rest]
  unfold tq
  constructor <;> split <;> (first | lia | omega)
theorem t_tdiv (w : Nat) (hw : 4 ≤ w ∧ w ≤ 29) (v u : V) (x y : Int) (hv : Num w v x) (hu : Num w u y) (hx : Sm x) (hy : y ≠ 0 ∧ y.natAbs ≤ 63) :
    GCall g (g.fa "tdiv") 6 [v, u, .int w, .lit (.ref (g.fa "divrem_school"))] (fun _ => none) (fun r _ => ∃ a b, r = .tup [a, b] ∧ Num w a (tq x y) ∧ Num w b (x - tq x y * y)) := by
  obtain ⟨l, rfl, hl⟩ := hv
  obtain ⟨k, rfl, hk⟩ := hu
  have hy' : Sm y := by unfold Sm; (first | lia | omega)
  have hs1 := hx.short (w := w) (by (first | lia | omega)) hl
  have hs2 := hy'.short (w := w) (by (first | lia | omega)) hk
  have hB := one_lt_pow (w := w) (by (first | lia | omega))
  have hB16 : (16:Int) ≤ 2 ^ w := pow_mono' (B := 2) (by decide) hw.1
  have hBB : (16:Int) * 16 ≤ 2 ^ w * 2 ^ w := Int.mul_le_mul hB16 hB16 (by (first | lia | omega)) (by (first | lia | omega))
  have hk0 : k.length ≠ 0 := by
    intro h
    have := (hk.zero hB).mp (List.length_eq_zero_iff.mp h)
    (first | lia | omega)
  refine' gcall (d := dOf 17) (dOf_mem 17 (by decide)) (hbody := ?enB) (hscope := ?enS) (hparams := ?enP) (hname := rfl) (names := ["x", "y", "w", "divrem"]) (hk := ?enK) (hbind := ?enI) (hloc := ?enL) (h := ?enH) (hco := ?enC) (hgen := ?enG) (hcell := ?enE)
  case enB => (conv => lhs; whnf)
  case enS => (conv => lhs; whnf)
  case enP => (conv => lhs; whnf)
  case enK => rfl
  case enI => exact args4 fun _ _ _ _ _ _ _ => rfl
  case enL => decide +kernel
  case enC => rfl
  case enG => rfl
  case enE => decide +kernel
  with_reducible refine' wS_cons ?_
  with_reducible refine' wX_if ?_
  (with_reducible refine' wT_cmp ?h_3 ?hm_3); (case hm_3 => with_unfolding_all exact rfl)
  (with_reducible refine' wE_len ?h_4 ?h1_4 ?h2_4 ?h3_4 ?h4_4); (case h1_4 => exact rfl); (case h2_4 => (intro _; exact rfl)); (case h3_4 => (intro _; exact ⟨_, _, rfl, rfl⟩)); (case h4_4 => (intro _; exact rfl))
  with_reducible refine' wE_sub ?_
  (with_reducible refine' wE_local ?hv_6 ?h_6 ?hl_6 ?hd_6); (case hl_6 => exact rfl); (case hd_6 => decide +kernel); (case hv_6 => none_booked)
  with_reducible refine' wE_int ?_
  (with_reducible refine' s_tup ?h0_8 ?hx_8 ?hsz_8 ?h_8 ?hs_8); (case hs_8 => (intro _ _; exact rfl)); (case h0_8 => (first | lia | omega)); (case hx_8 => exact rfl); (case hsz_8 => (simp; done))
  (with_reducible refine' b_len_z ?h1_9 ?h_9); (case h1_9 => (first | lia | omega))
  with_reducible refine' wE_int ?_
  with_reducible refine' c_eq ?_
  with_reducible refine' exTB ?_
  refine iteEq (fun h => absurd h (by (first | lia | omega))) (fun _ => ?_)
  with_reducible refine' wS_nil ?_
  with_reducible refine' wS_cons ?_
  (with_reducible refine' wX_unpack2 ?h_15 ?h1_15 ?h2_15 ?h3_15 ?h4_15); (case h4_15 => (intros; exact rfl)); (case h1_15 => exact rfl); (case h2_15 => exact rfl); (case h3_15 => (intros; exact rfl))
  refine wE_callD (fa_def (x := "divrem_school") (by decide +kernel)).2 ?_
  (with_reducible refine' wE_local ?hv_16 ?h_16 ?hl_16 ?hd_16); (case hl_16 => exact rfl); (case hd_16 => decide +kernel); (case hv_16 => none_booked)
  with_reducible refine' andLit ?_
  (with_reducible refine' wA_cons ?h_18 ?hs_18); (case hs_18 => (intro _; exact rfl))
  with_reducible refine' wE_sub ?_
  (with_reducible refine' wE_local ?hv_20 ?h_20 ?hl_20 ?hd_20); (case hl_20 => exact rfl); (case hd_20 => decide +kernel); (case hv_20 => none_booked)
  with_reducible refine' wE_int ?_
  (with_reducible refine' s_tup ?h0_22 ?hx_22 ?hsz_22 ?h_22 ?hs_22); (case hs_22 => (intro _ _; exact rfl)); (case h0_22 => (first | lia | omega)); (case hx_22 => exact rfl); (case hsz_22 => (simp; done))
  (with_reducible refine' wA_cons ?h_23 ?hs_23); (case hs_23 => (intro _; exact rfl))
  with_reducible refine' wE_sub ?_
  (with_reducible refine' wE_local ?hv_25 ?h_25 ?hl_25 ?hd_25); (case hl_25 => exact rfl); (case hd_25 => decide +kernel); (case hv_25 => none_booked)
  with_reducible refine' wE_int ?_
  (with_reducible refine' s_tup ?h0_27 ?hx_27 ?hsz_27 ?h_27 ?hs_27); (case hs_27 => (intro _ _; exact rfl)); (case h0_27 => (first | lia | omega)); (case hx_27 => exact rfl); (case hsz_27 => (simp; done))
  (with_reducible refine' wA_cons ?h_28 ?hs_28); (case hs_28 => (intro _; exact rfl))
  (with_reducible refine' wE_local ?hv_29 ?h_29 ?hl_29 ?hd_29); (case hl_29 => exact rfl); (case hd_29 => decide +kernel); (case hv_29 => none_booked)
  with_reducible refine' wA_nil ?_
  refine op_pure (t_divrem_school w (by (first | lia | omega)) l k _ _ (by (first | lia | omega)) hl hk (by (first | lia | omega))) (by decide) fun r hr => ?_
  obtain ⟨_, _, rfl, ⟨q, rfl, hq⟩, ⟨d, rfl, hd⟩⟩ := hr
  have hql : q.length ≤ 200 := short_of (by (first | lia | omega)) hq (Int.ediv_le_self _ (by (first | lia | omega))) hx.cast
  have hdl : d.length ≤ 200 := short_of (by (first | lia | omega)) hd (by have := Nat.mod_le x.natAbs y.natAbs; exact_mod_cast this) hx.cast
  with_reducible refine' exT2 ?_
  with_reducible refine' wS_cons ?_
  with_reducible refine' wX_return ?_
  with_reducible refine' wE_tuple ?_
  (with_reducible refine' wA_cons ?h_35 ?hs_35); (case hs_35 => (intro _; exact rfl))
  (with_reducible refine' wE_def ?h_36 ?h1_36 ?h2_36 ?h3_36 ?h4_36 ?h5_36); (case h1_36 => decide +kernel); (case h2_36 => exact rfl); (case h3_36 => decide +kernel); (case h4_36 => (intro _; exact rfl)); (case h5_36 => (intro _; exact ⟨_, _, rfl, rfl⟩))
  (with_reducible refine' wA_cons ?h_37 ?hs_37); (case hs_37 => (intro _; exact rfl))
  (with_reducible refine' wE_cmp ?h_38 ?hm_38); (case hm_38 => with_unfolding_all exact rfl)
  with_reducible refine' wE_sub ?_
  (with_reducible refine' wE_local ?hv_40 ?h_40 ?hl_40 ?hd_40); (case hl_40 => exact rfl); (case hd_40 => decide +kernel); (case hv_40 => none_booked)
  with_reducible refine' wE_int ?_
  (with_reducible refine' s_tup ?h0_42 ?hx_42 ?hsz_42 ?h_42 ?hs_42); (case hs_42 => (intro _ _; exact rfl)); (case h0_42 => (first | lia | omega)); (case hx_42 => exact rfl); (case hsz_42 => (simp; done))
  with_reducible refine' wE_sub ?_
  (with_reducible refine' wE_local ?hv_44 ?h_44 ?hl_44 ?hd_44); (case hl_44 => exact rfl); (case hd_44 => decide +kernel); (case hv_44 => none_booked)
  with_reducible refine' wE_int ?_
  (with_reducible refine' s_tup ?h0_46 ?hx_46 ?hsz_46 ?h_46 ?hs_46); (case hs_46 => (intro _ _; exact rfl)); (case h0_46 => (first | lia | omega)); (case hx_46 => exact rfl); (case hsz_46 => (simp; done))
  with_reducible refine' c_neb ?_
  (with_reducible refine' wA_cons ?h_48 ?hs_48); (case hs_48 => (intro _; exact rfl))
  (with_reducible refine' wE_local ?hv_49 ?h_49 ?hl_49 ?hd_49); (case hl_49 => exact rfl); (case hd_49 => decide +kernel); (case hv_49 => none_booked)
  with_reducible refine' wA_nil ?_
  refine op_pure (t_signed w (by (first | lia | omega)) _ q _ (tq x y) (by (first | lia | omega)) hq ?_) (by decide) fun r hr => ?_
  · unfold tq
    by_cases h : x < 0 <;> by_cases h' : y < 0 <;> simp [h, h']
  (with_reducible refine' wA_cons ?h_51 ?hs_51); (case hs_51 => (intro _; exact rfl))
  (with_reducible refine' wE_def ?h_52 ?h1_52 ?h2_52 ?h3_52 ?h4_52 ?h5_52); (case h1_52 => decide +kernel); (case h2_52 => exact rfl); (case h3_52 => decide +kernel); (case h4_52 => (intro _; exact rfl)); (case h5_52 => (intro _; exact ⟨_, _, rfl, rfl⟩))
  (with_reducible refine' wA_cons ?h_53 ?hs_53); (case hs_53 => (intro _; exact rfl))
  with_reducible refine' wE_sub ?_
  (with_reducible refine' wE_local ?hv_55 ?h_55 ?hl_55 ?hd_55); (case hl_55 => exact rfl); (case hd_55 => decide +kernel); (case hv_55 => none_booked)
  with_reducible refine' wE_int ?_
  (with_reducible refine' s_tup ?h0_57 ?hx_57 ?hsz_57 ?h_57 ?hs_57); (case hs_57 => (intro _ _; exact rfl)); (case h0_57 => (first | lia | omega)); (case hx_57 => exact rfl); (case hsz_57 => (simp; done))
  (with_reducible refine' wA_cons ?h_58 ?hs_58); (case hs_58 => (intro _; exact rfl))
  (with_reducible refine' wE_local ?hv_59 ?h_59 ?hl_59 ?hd_59); (case hl_59 => exact rfl); (case hd_59 => decide +kernel); (case hv_59 => none_booked)
  with_reducible refine' wA_nil ?_
  refine op_pure (t_signed w (by (first | lia | omega)) _ d _ (x - tq x y * y) (by (first | lia | omega)) hd ?_) (by decide) fun r2 hr2 => ?_
  · rw [tq_rest]
    by_cases h : x < 0 <;> simp [h]
  with_reducible refine' wA_nil ?_
  (with_reducible refine' andLen ?h1_62 ?h_62); (case h1_62 => (simp; done))
  with_reducible refine' exR ?_
  with_reducible refine' exT2 ?_
  exact ⟨hr, hr2⟩
end
section
variable {g : G PP} {c : Cx} {S : St}
noncomputable def fq (x y : Int) : Int := if x - tq x y * y ≠ 0 ∧ (x < 0) ≠ (y < 0) then tq x y - 1 else tq x y
noncomputable def cq (x y : Int) : Int := if x - tq x y * y ≠ 0 ∧ (x < 0) = (y < 0) then tq x y + 1 else tq x y
theorem tq_neg {x y : Int} (h : (x < 0) ≠ (y < 0)) : tq x y ≤ 0 := by
  have b : (0 : Int) ≤ (x.natAbs : Int) / y.natAbs := Int.ediv_nonneg (by (first | lia | omega)) (by (first | lia | omega))
  unfold tq
  rw [if_neg h]; (first | lia | omega)
theorem tq_pos {x y : Int} (h : (x < 0) = (y < 0)) : 0 ≤ tq x y := by
  have b : (0 : Int) ≤ (x.natAbs : Int) / y.natAbs := Int.ediv_nonneg (by (first | lia | omega)) (by (first | lia | omega))
  unfold tq
  rw [if_pos h]; (first | lia | omega)
theorem Sm.le {x y : Int} (h : Sm x) (hy : y.natAbs ≤ x.natAbs) : Sm y := Nat.lt_of_le_of_lt hy h
theorem t_fdiv (w : Nat) (hw : 4 ≤ w ∧ w ≤ 29) (v u : V) (x y : Int) (hv : Num w v x) (hu : Num w u y) (hx : Sm x) (hy : y ≠ 0 ∧ y.natAbs ≤ 63) :
    GCall g (g.fa "fdiv") 7 [v, u, .int w, .lit (.ref (g.fa "divrem_school"))] (fun _ => none) (fun r _ => ∃ a b, r = .tup [a, b] ∧ Num w a (fq x y) ∧ Num w b (x - fq x y * y)) := by
  have ht := t_tdiv (g := g) w hw v u x y hv hu hx hy
  have hsm := tq_sm (y := y) hx
  have hy' : Sm y := by unfold Sm; omega
  have hu' := hu
  obtain ⟨l, rfl, hl⟩ := hv
  obtain ⟨k, rfl, hk⟩ := hu
  have hB := one_lt_pow (w := w) (by omega)
  refine' gcall (d := dOf 18) (dOf_mem 18 (by decide)) (hbody := ?enB) (hscope := ?enS) (hparams := ?enP) (hname := rfl) (names := ["x", "y", "w", "divrem"]) (hk := ?enK) (hbind := ?enI) (hloc := ?enL) (h := ?enH) (hco := ?enC) (hgen := ?enG) (hcell := ?enE)
  case enB => (conv => lhs; whnf)
  case enS => (conv => lhs; whnf)
  case enP => (conv => lhs; whnf)
  case enK => rfl
  case enI => exact args4 fun _ _ _ _ _ _ _ => rfl
  case enL => decide +kernel
  case enC => rfl
  case enG => rfl
  case enE => decide +kernel
  with_reducible refine' wS_cons ?_
  (with_reducible refine' wX_unpack2 ?h_2 ?h1_2 ?h2_2 ?h3_2 ?h4_2); (case h4_2 => (intros; exact rfl)); (case h1_2 => exact rfl); (case h2_2 => exact rfl); (case h3_2 => (intros; exact rfl))
  (with_reducible refine' wE_def ?h_3 ?h1_3 ?h2_3 ?h3_3 ?h4_3 ?h5_3); (case h1_3 => decide +kernel); (case h2_3 => exact rfl); (case h3_3 => decide +kernel); (case h4_3 => (intro _; exact rfl)); (case h5_3 => (intro _; exact ⟨_, _, rfl, rfl⟩))
  (with_reducible refine' wA_cons ?h_4 ?hs_4); (case hs_4 => (intro _; exact rfl))
  (with_reducible refine' wE_local ?hv_5 ?h_5 ?hl_5 ?hd_5); (case hl_5 => exact rfl); (case hd_5 => decide +kernel); (case hv_5 => none_booked)
  (with_reducible refine' wA_cons ?h_6 ?hs_6); (case hs_6 => (intro _; exact rfl))
  (with_reducible refine' wE_local ?hv_7 ?h_7 ?hl_7 ?hd_7); (case hl_7 => exact rfl); (case hd_7 => decide +kernel); (case hv_7 => none_booked)
  (with_reducible refine' wA_cons ?h_8 ?hs_8); (case hs_8 => (intro _; exact rfl))
  (with_reducible refine' wE_local ?hv_9 ?h_9 ?hl_9 ?hd_9); (case hl_9 => exact rfl); (case hd_9 => decide +kernel); (case hv_9 => none_booked)
  (with_reducible refine' wA_cons ?h_10 ?hs_10); (case hs_10 => (intro _; exact rfl))
  (with_reducible refine' wE_local ?hv_11 ?h_11 ?hl_11 ?hd_11); (case hl_11 => exact rfl); (case hd_11 => decide +kernel); (case hv_11 => none_booked)
  with_reducible refine' wA_nil ?_
  refine op_pure ht (by decide) fun r hr => ?_
  obtain ⟨_, b, rfl, hq, hd⟩ := hr
  have hd0 := hd
  have hq0 := hq
  obtain ⟨q, rfl, hq⟩ := hq
  obtain ⟨d, rfl, hd⟩ := hd
  have hql : q.length ≤ 200 := (hx.le hsm.1).short (by omega) hq
  have hdl : d.length ≤ 200 := (hx.le hsm.2).short (by omega) hd
  have hd1 := hd.zero hB
  have hfin : (x - tq x y * y = 0 ∨ (x < 0) = (y < 0)) → fq x y = tq x y := fun h => by
    unfold fq
    rw [if_neg (by rintro ⟨a, b⟩; exact h.elim a b)]
  with_reducible refine' exT2 ?_
  with_reducible refine' wS_cons ?_
  with_reducible refine' wX_if ?_
  with_reducible refine' wT_and ?_
  (with_reducible refine' wT_cmp ?h_17 ?hm_17); (case hm_17 => with_unfolding_all exact rfl)
  (with_reducible refine' wE_len ?h_18 ?h1_18 ?h2_18 ?h3_18 ?h4_18); (case h1_18 => exact rfl); (case h2_18 => (intro _; exact rfl)); (case h3_18 => (intro _; exact ⟨_, _, rfl, rfl⟩)); (case h4_18 => (intro _; exact rfl))
  with_reducible refine' wE_sub ?_
  (with_reducible refine' wE_local ?hv_20 ?h_20 ?hl_20 ?hd_20); (case hl_20 => exact rfl); (case hd_20 => decide +kernel); (case hv_20 => none_booked)
  with_reducible refine' wE_int ?_
  (with_reducible refine' s_tup ?h0_22 ?hx_22 ?hsz_22 ?h_22 ?hs_22); (case hs_22 => (intro _ _; exact rfl)); (case h0_22 => omega); (case hx_22 => exact rfl); (case hsz_22 => (simp; done))
  (with_reducible refine' b_len_z ?h1_23 ?h_23); (case h1_23 => omega)
  with_reducible refine' wE_int ?_
  with_reducible refine' c_gt ?_
  with_reducible refine' exTB ?_
  refine iteD (fun h => ?_) (fun h => ?_)
  · with_reducible refine' wT_and ?_
    (with_reducible refine' wT_cmp ?h_28 ?hm_28); (case hm_28 => with_unfolding_all exact rfl)
    with_reducible refine' wE_sub ?_
    (with_reducible refine' wE_local ?hv_30 ?h_30 ?hl_30 ?hd_30); (case hl_30 => exact rfl); (case hd_30 => decide +kernel); (case hv_30 => none_booked)
    with_reducible refine' wE_int ?_
    (with_reducible refine' s_tup ?h0_32 ?hx_32 ?hsz_32 ?h_32 ?hs_32); (case hs_32 => (intro _ _; exact rfl)); (case h0_32 => omega); (case hx_32 => exact rfl); (case hsz_32 => (simp; done))
    with_reducible refine' wE_sub ?_
    (with_reducible refine' wE_local ?hv_34 ?h_34 ?hl_34 ?hd_34); (case hl_34 => exact rfl); (case hd_34 => decide +kernel); (case hv_34 => none_booked)
    with_reducible refine' wE_int ?_
    (with_reducible refine' s_tup ?h0_36 ?hx_36 ?hsz_36 ?h_36 ?hs_36); (case hs_36 => (intro _ _; exact rfl)); (case h0_36 => omega); (case hx_36 => exact rfl); (case hsz_36 => (simp; done))
    with_reducible refine' c_neb ?_
    with_reducible refine' exTB ?_
    refine iteB (fun h2 => ?_) (fun h2 => ?_)
    · have hs : (x < 0) ≠ (y < 0) := by
        intro e
        have e : decide (x < 0) = decide (y < 0) := by simp [e]
        rw [e] at h2; simp at h2
      have hr0 : x - tq x y * y ≠ 0 := by
        intro e
        have := hd1.mpr (by omega)
        rw [this] at h; simp at h
      have hf : fq x y = tq x y - 1 := by unfold fq; rw [if_pos ⟨hr0, hs⟩]
      have htn := tq_neg hs
      with_reducible refine' wT_and_nil ?_
      with_reducible refine' iteT ?_
      with_reducible refine' wS_cons ?_
      with_reducible refine' wX_return ?_
      with_reducible refine' wE_tuple ?_
      (with_reducible refine' wA_cons ?h_44 ?hs_44); (case hs_44 => (intro _; exact rfl))
      with_reducible refine' wE_tuple ?_
      (with_reducible refine' wA_cons ?h_46 ?hs_46); (case hs_46 => (intro _; exact rfl))
      with_reducible refine' wE_bool ?_
      (with_reducible refine' wA_cons ?h_48 ?hs_48); (case hs_48 => (intro _; exact rfl))
      (with_reducible refine' wE_def ?h_49 ?h1_49 ?h2_49 ?h3_49 ?h4_49 ?h5_49); (case h1_49 => decide +kernel); (case h2_49 => exact rfl); (case h3_49 => decide +kernel); (case h4_49 => (intro _; exact rfl)); (case h5_49 => (intro _; exact ⟨_, _, rfl, rfl⟩))
      (with_reducible refine' wA_cons ?h_50 ?hs_50); (case hs_50 => (intro _; exact rfl))
      with_reducible refine' wE_sub ?_
      (with_reducible refine' wE_local ?hv_52 ?h_52 ?hl_52 ?hd_52); (case hl_52 => exact rfl); (case hd_52 => decide +kernel); (case hv_52 => none_booked)
      with_reducible refine' wE_int ?_
      (with_reducible refine' s_tup ?h0_54 ?hx_54 ?hsz_54 ?h_54 ?hs_54); (case hs_54 => (intro _ _; exact rfl)); (case h0_54 => omega); (case hx_54 => exact rfl); (case hsz_54 => (simp; done))
      (with_reducible refine' wA_cons ?h_55 ?hs_55); (case hs_55 => (intro _; exact rfl))
      with_reducible refine' wE_int ?_
      (with_reducible refine' wA_cons ?h_57 ?hs_57); (case hs_57 => (intro _; exact rfl))
      (with_reducible refine' wE_local ?hv_58 ?h_58 ?hl_58 ?hd_58); (case hl_58 => exact rfl); (case hd_58 => decide +kernel); (case hv_58 => none_booked)
      with_reducible refine' wA_nil ?_
      refine op_pure (t_add_limb w (by omega) q _ 1 (by omega) hq (by omega)) (by decide) fun r hr => ?_
      obtain ⟨q2, rfl, hq2⟩ := hr
      with_reducible refine' wA_nil ?_
      (with_reducible refine' andLen ?h1_61 ?h_61); (case h1_61 => (simp; done))
      (with_reducible refine' wA_cons ?h_62 ?hs_62); (case hs_62 => (intro _; exact rfl))
      (with_reducible refine' wE_def ?h_63 ?h1_63 ?h2_63 ?h3_63 ?h4_63 ?h5_63); (case h1_63 => decide +kernel); (case h2_63 => exact rfl); (case h3_63 => decide +kernel); (case h4_63 => (intro _; exact rfl)); (case h5_63 => (intro _; exact ⟨_, _, rfl, rfl⟩))
      (with_reducible refine' wA_cons ?h_64 ?hs_64); (case hs_64 => (intro _; exact rfl))
      (with_reducible refine' wE_local ?hv_65 ?h_65 ?hl_65 ?hd_65); (case hl_65 => exact rfl); (case hd_65 => decide +kernel); (case hv_65 => none_booked)
      (with_reducible refine' wA_cons ?h_66 ?hs_66); (case hs_66 => (intro _; exact rfl))
      (with_reducible refine' wE_local ?hv_67 ?h_67 ?hl_67 ?hd_67); (case hl_67 => exact rfl); (case hd_67 => decide +kernel); (case hv_67 => none_booked)
      (with_reducible refine' wA_cons ?h_68 ?hs_68); (case hs_68 => (intro _; exact rfl))
      (with_reducible refine' wE_local ?hv_69 ?h_69 ?hl_69 ?hd_69); (case hl_69 => exact rfl); (case hd_69 => decide +kernel); (case hv_69 => none_booked)
      with_reducible refine' wA_nil ?_
      refine op_pure (t_s_add w (by omega) _ _ (x - tq x y * y) y hd0 hu' (hx.le hsm.2) hy') (by decide) fun r hr => ?_
      with_reducible refine' wA_nil ?_
      (with_reducible refine' andLen ?h1_72 ?h_72); (case h1_72 => (simp; done))
      with_reducible refine' exR ?_
      with_reducible refine' exT2 ?_
      rw [hf]
      refine ⟨⟨q2, ?_, hq2.to ?_⟩, ?_⟩
      · rw [decide_eq_true (show tq x y - 1 < 0 by omega)]
      · omega
      · rw [Int.sub_mul, Int.one_mul, show x - (tq x y * y - y) = x - tq x y * y + y by omega]
        exact hr
    · with_reducible refine' iteF ?_
      with_reducible refine' wS_nil ?_
      with_reducible refine' wS_cons ?_
      with_reducible refine' wX_return ?_
      with_reducible refine' wE_tuple ?_
      (with_reducible refine' wA_cons ?h_80 ?hs_80); (case hs_80 => (intro _; exact rfl))
      (with_reducible refine' wE_local ?hv_81 ?h_81 ?hl_81 ?hd_81); (case hl_81 => exact rfl); (case hd_81 => decide +kernel); (case hv_81 => none_booked)
      (with_reducible refine' wA_cons ?h_82 ?hs_82); (case hs_82 => (intro _; exact rfl))
      (with_reducible refine' wE_local ?hv_83 ?h_83 ?hl_83 ?hd_83); (case hl_83 => exact rfl); (case hd_83 => decide +kernel); (case hv_83 => none_booked)
      with_reducible refine' wA_nil ?_
      (with_reducible refine' andLen ?h1_85 ?h_85); (case h1_85 => (simp; done))
      with_reducible refine' exR ?_
      with_reducible refine' exT2 ?_
      have hs : (x < 0) = (y < 0) := by
        have : decide (x < 0) = decide (y < 0) := by simpa using h2
        simpa using this
      rw [hfin (.inr hs)]
      exact ⟨hq0, hd0⟩
  · with_reducible refine' iteF ?_
    with_reducible refine' wS_nil ?_
    with_reducible refine' wS_cons ?_
    with_reducible refine' wX_return ?_
    with_reducible refine' wE_tuple ?_
    (with_reducible refine' wA_cons ?h_93 ?hs_93); (case hs_93 => (intro _; exact rfl))
    (with_reducible refine' wE_local ?hv_94 ?h_94 ?hl_94 ?hd_94); (case hl_94 => exact rfl); (case hd_94 => decide +kernel); (case hv_94 => none_booked)
    (with_reducible refine' wA_cons ?h_95 ?hs_95); (case hs_95 => (intro _; exact rfl))
    (with_reducible refine' wE_local ?hv_96 ?h_96 ?hl_96 ?hd_96); (case hl_96 => exact rfl); (case hd_96 => decide +kernel); (case hv_96 => none_booked)
    with_reducible refine' wA_nil ?_
    (with_reducible refine' andLen ?h1_98 ?h_98); (case h1_98 => (simp; done))
    with_reducible refine' exR ?_
    with_reducible refine' exT2 ?_
    have : x - tq x y * y = 0 := by
      have := hd1.mp (List.length_eq_zero_iff.mp (by omega))
      omega
    rw [hfin (.inl this)]
    exact ⟨hq0, hd0⟩
theorem t_cdiv (w : Nat) (hw : 4 ≤ w ∧ w ≤ 29) (v u : V) (x y : Int) (hv : Num w v x) (hu : Num w u y) (hx : Sm x) (hy : y ≠ 0 ∧ y.natAbs ≤ 63) :
    GCall g (g.fa "cdiv") 7 [v, u, .int w, .lit (.ref (g.fa "divrem_school"))] (fun _ => none) (fun r _ => ∃ a b, r = .tup [a, b] ∧ Num w a (cq x y) ∧ Num w b (x - cq x y * y)) := by
  have ht := t_tdiv (g := g) w hw v u x y hv hu hx hy
  have hsm := tq_sm (y := y) hx
  have hy' : Sm y := by unfold Sm; omega
  have hu' := hu
  obtain ⟨l, rfl, hl⟩ := hv
  obtain ⟨k, rfl, hk⟩ := hu
  have hB := one_lt_pow (w := w) (by omega)
  refine' gcall (d := dOf 19) (dOf_mem 19 (by decide)) (hbody := ?enB) (hscope := ?enS) (hparams := ?enP) (hname := rfl) (names := ["x", "y", "w", "divrem"]) (hk := ?enK) (hbind := ?enI) (hloc := ?enL) (h := ?enH) (hco := ?enC) (hgen := ?enG) (hcell := ?enE)
  case enB => (conv => lhs; whnf)
  case enS => (conv => lhs; whnf)
  case enP => (conv => lhs; whnf)
  case enK => rfl
  case enI => exact args4 fun _ _ _ _ _ _ _ => rfl
  case enL => decide +kernel
  case enC => rfl
  case enG => rfl
  case enE => decide +kernel
  with_reducible refine' wS_cons ?_
  (with_reducible refine' wX_unpack2 ?h_2 ?h1_2 ?h2_2 ?h3_2 ?h4_2); (case h4_2 => (intros; exact rfl)); (case h1_2 => exact rfl); (case h2_2 => exact rfl); (case h3_2 => (intros; exact rfl))
  (with_reducible refine' wE_def ?h_3 ?h1_3 ?h2_3 ?h3_3 ?h4_3 ?h5_3); (case h1_3 => decide +kernel); (case h2_3 => exact rfl); (case h3_3 => decide +kernel); (case h4_3 => (intro _; exact rfl)); (case h5_3 => (intro _; exact ⟨_, _, rfl, rfl⟩))
  (with_reducible refine' wA_cons ?h_4 ?hs_4); (case hs_4 => (intro _; exact rfl))
  (with_reducible refine' wE_local ?hv_5 ?h_5 ?hl_5 ?hd_5); (case hl_5 => exact rfl); (case hd_5 => decide +kernel); (case hv_5 => none_booked)
  (with_reducible refine' wA_cons ?h_6 ?hs_6); (case hs_6 => (intro _; exact rfl))
  (with_reducible refine' wE_local ?hv_7 ?h_7 ?hl_7 ?hd_7); (case hl_7 => exact rfl); (case hd_7 => decide +kernel); (case hv_7 => none_booked)
  (with_reducible refine' wA_cons ?h_8 ?hs_8); (case hs_8 => (intro _; exact rfl))
  (with_reducible refine' wE_local ?hv_9 ?h_9 ?hl_9 ?hd_9); (case hl_9 => exact rfl); (case hd_9 => decide +kernel); (case hv_9 => none_booked)
  (with_reducible refine' wA_cons ?h_10 ?hs_10); (case hs_10 => (intro _; exact rfl))
  (with_reducible refine' wE_local ?hv_11 ?h_11 ?hl_11 ?hd_11); (case hl_11 => exact rfl); (case hd_11 => decide +kernel); (case hv_11 => none_booked)
  with_reducible refine' wA_nil ?_
  refine op_pure ht (by decide) fun r hr => ?_
  obtain ⟨_, b, rfl, hq, hd⟩ := hr
  have hd0 := hd
  have hq0 := hq
  obtain ⟨q, rfl, hq⟩ := hq
  obtain ⟨d, rfl, hd⟩ := hd
  have hql : q.length ≤ 200 := (hx.le hsm.1).short (by omega) hq
  have hdl : d.length ≤ 200 := (hx.le hsm.2).short (by omega) hd
  have hd1 := hd.zero hB
  have hfin : (x - tq x y * y = 0 ∨ (x < 0) ≠ (y < 0)) → cq x y = tq x y := fun h => by
    unfold cq
    rw [if_neg (by rintro ⟨a, b⟩; exact h.elim a (fun k => k b))]
  with_reducible refine' exT2 ?_
  with_reducible refine' wS_cons ?_
  with_reducible refine' wX_if ?_
  with_reducible refine' wT_and ?_
  (with_reducible refine' wT_cmp ?h_17 ?hm_17); (case hm_17 => with_unfolding_all exact rfl)
  (with_reducible refine' wE_len ?h_18 ?h1_18 ?h2_18 ?h3_18 ?h4_18); (case h1_18 => exact rfl); (case h2_18 => (intro _; exact rfl)); (case h3_18 => (intro _; exact ⟨_, _, rfl, rfl⟩)); (case h4_18 => (intro _; exact rfl))
  with_reducible refine' wE_sub ?_
  (with_reducible refine' wE_local ?hv_20 ?h_20 ?hl_20 ?hd_20); (case hl_20 => exact rfl); (case hd_20 => decide +kernel); (case hv_20 => none_booked)
  with_reducible refine' wE_int ?_
  (with_reducible refine' s_tup ?h0_22 ?hx_22 ?hsz_22 ?h_22 ?hs_22); (case hs_22 => (intro _ _; exact rfl)); (case h0_22 => omega); (case hx_22 => exact rfl); (case hsz_22 => (simp; done))
  (with_reducible refine' b_len_z ?h1_23 ?h_23); (case h1_23 => omega)
  with_reducible refine' wE_int ?_
  with_reducible refine' c_gt ?_
  with_reducible refine' exTB ?_
  refine iteD (fun h => ?_) (fun h => ?_)
  · with_reducible refine' wT_and ?_
    (with_reducible refine' wT_cmp ?h_28 ?hm_28); (case hm_28 => with_unfolding_all exact rfl)
    with_reducible refine' wE_sub ?_
    (with_reducible refine' wE_local ?hv_30 ?h_30 ?hl_30 ?hd_30); (case hl_30 => exact rfl); (case hd_30 => decide +kernel); (case hv_30 => none_booked)
    with_reducible refine' wE_int ?_
    (with_reducible refine' s_tup ?h0_32 ?hx_32 ?hsz_32 ?h_32 ?hs_32); (case hs_32 => (intro _ _; exact rfl)); (case h0_32 => omega); (case hx_32 => exact rfl); (case hsz_32 => (simp; done))
    with_reducible refine' wE_sub ?_
    (with_reducible refine' wE_local ?hv_34 ?h_34 ?hl_34 ?hd_34); (case hl_34 => exact rfl); (case hd_34 => decide +kernel); (case hv_34 => none_booked)
    with_reducible refine' wE_int ?_
    (with_reducible refine' s_tup ?h0_36 ?hx_36 ?hsz_36 ?h_36 ?hs_36); (case hs_36 => (intro _ _; exact rfl)); (case h0_36 => omega); (case hx_36 => exact rfl); (case hsz_36 => (simp; done))
    with_reducible refine' c_eqb ?_
    with_reducible refine' exTB ?_
    refine iteB (fun h2 => ?_) (fun h2 => ?_)
    · have hs : (x < 0) = (y < 0) := by
        have : decide (x < 0) = decide (y < 0) := by simpa using h2
        simpa using this
      have hr0 : x - tq x y * y ≠ 0 := by
        intro e
        have := hd1.mpr (by omega)
        rw [this] at h; simp at h
      have hf : cq x y = tq x y + 1 := by unfold cq; rw [if_pos ⟨hr0, hs⟩]
      have htn := tq_pos hs
      with_reducible refine' wT_and_nil ?_
      with_reducible refine' iteT ?_
      with_reducible refine' wS_cons ?_
      with_reducible refine' wX_return ?_
      with_reducible refine' wE_tuple ?_
      (with_reducible refine' wA_cons ?h_44 ?hs_44); (case hs_44 => (intro _; exact rfl))
      with_reducible refine' wE_tuple ?_
      (with_reducible refine' wA_cons ?h_46 ?hs_46); (case hs_46 => (intro _; exact rfl))
      with_reducible refine' wE_bool ?_
      (with_reducible refine' wA_cons ?h_48 ?hs_48); (case hs_48 => (intro _; exact rfl))
      (with_reducible refine' wE_def ?h_49 ?h1_49 ?h2_49 ?h3_49 ?h4_49 ?h5_49); (case h1_49 => decide +kernel); (case h2_49 => exact rfl); (case h3_49 => decide +kernel); (case h4_49 => (intro _; exact rfl)); (case h5_49 => (intro _; exact ⟨_, _, rfl, rfl⟩))
      (with_reducible refine' wA_cons ?h_50 ?hs_50); (case hs_50 => (intro _; exact rfl))
      with_reducible refine' wE_sub ?_
      (with_reducible refine' wE_local ?hv_52 ?h_52 ?hl_52 ?hd_52); (case hl_52 => exact rfl); (case hd_52 => decide +kernel); (case hv_52 => none_booked)
      with_reducible refine' wE_int ?_
      (with_reducible refine' s_tup ?h0_54 ?hx_54 ?hsz_54 ?h_54 ?hs_54); (case hs_54 => (intro _ _; exact rfl)); (case h0_54 => omega); (case hx_54 => exact rfl); (case hsz_54 => (simp; done))
      (with_reducible refine' wA_cons ?h_55 ?hs_55); (case hs_55 => (intro _; exact rfl))
      with_reducible refine' wE_int ?_
      (with_reducible refine' wA_cons ?h_57 ?hs_57); (case hs_57 => (intro _; exact rfl))
      (with_reducible refine' wE_local ?hv_58 ?h_58 ?hl_58 ?hd_58); (case hl_58 => exact rfl); (case hd_58 => decide +kernel); (case hv_58 => none_booked)
      with_reducible refine' wA_nil ?_
      refine op_pure (t_add_limb w (by omega) q _ 1 (by omega) hq (by omega)) (by decide) fun r hr => ?_
      obtain ⟨q2, rfl, hq2⟩ := hr
      with_reducible refine' wA_nil ?_
      (with_reducible refine' andLen ?h1_61 ?h_61); (case h1_61 => (simp; done))
      (with_reducible refine' wA_cons ?h_62 ?hs_62); (case hs_62 => (intro _; exact rfl))
      (with_reducible refine' wE_def ?h_63 ?h1_63 ?h2_63 ?h3_63 ?h4_63 ?h5_63); (case h1_63 => decide +kernel); (case h2_63 => exact rfl); (case h3_63 => decide +kernel); (case h4_63 => (intro _; exact rfl)); (case h5_63 => (intro _; exact ⟨_, _, rfl, rfl⟩))
      (with_reducible refine' wA_cons ?h_64 ?hs_64); (case hs_64 => (intro _; exact rfl))
      (with_reducible refine' wE_local ?hv_65 ?h_65 ?hl_65 ?hd_65); (case hl_65 => exact rfl); (case hd_65 => decide +kernel); (case hv_65 => none_booked)
      (with_reducible refine' wA_cons ?h_66 ?hs_66); (case hs_66 => (intro _; exact rfl))
      (with_reducible refine' wE_local ?hv_67 ?h_67 ?hl_67 ?hd_67); (case hl_67 => exact rfl); (case hd_67 => decide +kernel); (case hv_67 => none_booked)
      (with_reducible refine' wA_cons ?h_68 ?hs_68); (case hs_68 => (intro _; exact rfl))
      (with_reducible refine' wE_local ?hv_69 ?h_69 ?hl_69 ?hd_69); (case hl_69 => exact rfl); (case hd_69 => decide +kernel); (case hv_69 => none_booked)
      with_reducible refine' wA_nil ?_
      refine op_pure (t_s_sub w (by omega) _ _ (x - tq x y * y) y hd0 hu' (hx.le hsm.2) hy') (by decide) fun r hr => ?_
      with_reducible refine' wA_nil ?_
      (with_reducible refine' andLen ?h1_72 ?h_72); (case h1_72 => (simp; done))
      with_reducible refine' exR ?_
      with_reducible refine' exT2 ?_
      rw [hf]
      refine ⟨⟨q2, ?_, hq2.to ?_⟩, ?_⟩
      · rw [decide_eq_false (show ¬ tq x y + 1 < 0 by omega)]
      · omega
      · rw [Int.add_mul, Int.one_mul, show x - (tq x y * y + y) = x - tq x y * y - y by omega]
        exact hr
    · with_reducible refine' iteF ?_
      with_reducible refine' wS_nil ?_
      with_reducible refine' wS_cons ?_
      with_reducible refine' wX_return ?_
      with_reducible refine' wE_tuple ?_
      (with_reducible refine' wA_cons ?h_80 ?hs_80); (case hs_80 => (intro _; exact rfl))
      (with_reducible refine' wE_local ?hv_81 ?h_81 ?hl_81 ?hd_81); (case hl_81 => exact rfl); (case hd_81 => decide +kernel); (case hv_81 => none_booked)
      (with_reducible refine' wA_cons ?h_82 ?hs_82); (case hs_82 => (intro _; exact rfl))
      (with_reducible refine' wE_local ?hv_83 ?h_83 ?hl_83 ?hd_83); (case hl_83 => exact rfl); (case hd_83 => decide +kernel); (case hv_83 => none_booked)
      with_reducible refine' wA_nil ?_
      (with_reducible refine' andLen ?h1_85 ?h_85); (case h1_85 => (simp; done))
      with_reducible refine' exR ?_
      with_reducible refine' exT2 ?_
      have hs : (x < 0) ≠ (y < 0) := by
        intro e
        have e : decide (x < 0) = decide (y < 0) := by simp [e]
        rw [e] at h2; simp at h2
      rw [hfin (.inr hs)]
      exact ⟨hq0, hd0⟩
  · with_reducible refine' iteF ?_
    with_reducible refine' wS_nil ?_
    with_reducible refine' wS_cons ?_
    with_reducible refine' wX_return ?_
    with_reducible refine' wE_tuple ?_
    (with_reducible refine' wA_cons ?h_93 ?hs_93); (case hs_93 => (intro _; exact rfl))
    (with_reducible refine' wE_local ?hv_94 ?h_94 ?hl_94 ?hd_94); (case hl_94 => exact rfl); (case hd_94 => decide +kernel); (case hv_94 => none_booked)
    (with_reducible refine' wA_cons ?h_95 ?hs_95); (case hs_95 => (intro _; exact rfl))
    (with_reducible refine' wE_local ?hv_96 ?h_96 ?hl_96 ?hd_96); (case hl_96 => exact rfl); (case hd_96 => decide +kernel); (case hv_96 => none_booked)
    with_reducible refine' wA_nil ?_
    (with_reducible refine' andLen ?h1_98 ?h_98); (case h1_98 => (simp; done))
    with_reducible refine' exR ?_
    with_reducible refine' exT2 ?_
    have : x - tq x y * y = 0 := by
      have := hd1.mp (List.length_eq_zero_iff.mp (by omega))
      omega
    rw [hfin (.inl this)]
    exact ⟨hq0, hd0⟩
theorem t_s_shift_up (w : Nat) (hw : 1 ≤ w ∧ w ≤ 29) (v : V) (x : Int) (s : Nat) (hv : Num w v x) (hx : Sm x) (hs : s ≤ 100) :
    GCall g (g.fa "s_shift") 3 [v, .int s, .int w] (fun _ => none) (fun r _ => Num w r (x * 2 ^ s)) := by
  obtain ⟨l, rfl, hl⟩ := hv
  have hs1 := hx.short (w := w) (by (first | lia | omega)) hl
  have hB := one_lt_pow (w := w) (by (first | lia | omega))
  refine' gcall (d := dOf 20) (dOf_mem 20 (by decide)) (hbody := ?enB) (hscope := ?enS) (hparams := ?enP) (hname := rfl) (names := ["x", "n", "w"]) (hk := ?enK) (hbind := ?enI) (hloc := ?enL) (h := ?enH) (hco := ?enC) (hgen := ?enG) (hcell := ?enE)
  case enB => (conv => lhs; whnf)
  case enS => (conv => lhs; whnf)
  case enP => (conv => lhs; whnf)
  case enK => rfl
  case enI => exact args3 fun _ _ _ _ _ _ => rfl
  case enL => decide +kernel
  case enC => rfl
  case enG => rfl
  case enE => decide +kernel
  with_reducible refine' wS_cons ?_
  with_reducible refine' wX_if ?_
  (with_reducible refine' wT_cmp ?h_3 ?hm_3); (case hm_3 => with_unfolding_all exact rfl)
  (with_reducible refine' wE_local ?hv_4 ?h_4 ?hl_4 ?hd_4); (case hl_4 => exact rfl); (case hd_4 => decide +kernel); (case hv_4 => none_booked)
  with_reducible refine' wE_int ?_
  with_reducible refine' c_ge ?_
  with_reducible refine' exTB ?_
  refine iteD (fun h => ?_) (fun h => absurd (show (0:Int) ≤ s by (first | lia | omega)) h)
  with_reducible refine' wS_cons ?_
  with_reducible refine' wX_return ?_
  (with_reducible refine' wE_def ?h_10 ?h1_10 ?h2_10 ?h3_10 ?h4_10 ?h5_10); (case h1_10 => decide +kernel); (case h2_10 => exact rfl); (case h3_10 => decide +kernel); (case h4_10 => (intro _; exact rfl)); (case h5_10 => (intro _; exact ⟨_, _, rfl, rfl⟩))
  (with_reducible refine' wA_cons ?h_11 ?hs_11); (case hs_11 => (intro _; exact rfl))
  with_reducible refine' wE_sub ?_
  (with_reducible refine' wE_local ?hv_13 ?h_13 ?hl_13 ?hd_13); (case hl_13 => exact rfl); (case hd_13 => decide +kernel); (case hv_13 => none_booked)
  with_reducible refine' wE_int ?_
  (with_reducible refine' s_tup ?h0_15 ?hx_15 ?hsz_15 ?h_15 ?hs_15); (case hs_15 => (intro _ _; exact rfl)); (case h0_15 => (first | lia | omega)); (case hx_15 => exact rfl); (case hsz_15 => (simp; done))
  (with_reducible refine' wA_cons ?h_16 ?hs_16); (case hs_16 => (intro _; exact rfl))
  (with_reducible refine' wE_def ?h_17 ?h1_17 ?h2_17 ?h3_17 ?h4_17 ?h5_17); (case h1_17 => decide +kernel); (case h2_17 => exact rfl); (case h3_17 => decide +kernel); (case h4_17 => (intro _; exact rfl)); (case h5_17 => (intro _; exact ⟨_, _, rfl, rfl⟩))
  (with_reducible refine' wA_cons ?h_18 ?hs_18); (case hs_18 => (intro _; exact rfl))
  with_reducible refine' wE_sub ?_
  (with_reducible refine' wE_local ?hv_20 ?h_20 ?hl_20 ?hd_20); (case hl_20 => exact rfl); (case hd_20 => decide +kernel); (case hv_20 => none_booked)
  with_reducible refine' wE_int ?_
  (with_reducible refine' s_tup ?h0_22 ?hx_22 ?hsz_22 ?h_22 ?hs_22); (case hs_22 => (intro _ _; exact rfl)); (case h0_22 => (first | lia | omega)); (case hx_22 => exact rfl); (case hsz_22 => (simp; done))
  (with_reducible refine' wA_cons ?h_23 ?hs_23); (case hs_23 => (intro _; exact rfl))
  (with_reducible refine' wE_local ?hv_24 ?h_24 ?hl_24 ?hd_24); (case hl_24 => exact rfl); (case hd_24 => decide +kernel); (case hv_24 => none_booked)
  (with_reducible refine' wA_cons ?h_25 ?hs_25); (case hs_25 => (intro _; exact rfl))
  (with_reducible refine' wE_local ?hv_26 ?h_26 ?hl_26 ?hd_26); (case hl_26 => exact rfl); (case hd_26 => decide +kernel); (case hv_26 => none_booked)
  with_reducible refine' wA_nil ?_
  refine op_pure (t_shift_left w hw l _ s (by (first | lia | omega)) (by (first | lia | omega)) hl) (by decide) fun r hr => ?_
  obtain ⟨q, rfl, hq⟩ := hr
  have hql : q.length ≤ 300 := by
    apply hq.len_le hB
    have h3 := two_pow_le (w := w) (k := 300) hw.1
    have e : (2:Int) ^ 300 = 2 ^ 200 * 2 ^ 100 := by rw [← Int.pow_add]
    have e2 : (2:Int) ^ s ≤ 2 ^ 100 := pow_mono' (by decide) hs
    have e3 := hx.cast
    have a1 : (x.natAbs : Int) * 2 ^ s ≤ x.natAbs * 2 ^ 100 := Int.mul_le_mul_of_nonneg_left e2 (by (first | lia | omega))
    have a2 : (x.natAbs : Int) * 2 ^ 100 < 2 ^ 200 * 2 ^ 100 := Int.mul_lt_mul_of_pos_right e3 (by decide)
    rw [← e] at a2
    generalize (2:Int) ^ 300 = T at *
    generalize (2:Int) ^ 100 = T' at *
    (first | lia | omega)
  with_reducible refine' wA_nil ?_
  refine op_pure (t_signed w (by (first | lia | omega)) _ q _ (x * 2 ^ s) (by (first | lia | omega)) hq ?_) (by decide) fun r hr => ?_
  · rcases Int.lt_or_le x 0 with h | h
    · rw [abs_pos_iff.2 h, decide_eq_true h, if_pos rfl, Int.neg_mul, Int.neg_neg]
    · rw [abs_pos_iff.1 h, decide_eq_false (by (first | lia | omega)), if_neg (by decide)]
  with_reducible refine' exR ?_
  exact hr
theorem floor_neg {x p : Int} (hp : 0 < p) (hx : x < 0) : x / p = -((-x) / p + if 0 < (-x) % p then 1 else 0) := by
  have e1 := Int.mul_ediv_add_emod (-x) p
  have m := mod_limb (B := p) (c := -x) hp
  generalize (-x) / p = q at *
  generalize (-x) % p = r at *
  split
  · rename_i h
    have : x = (p - r) + p * (-(q + 1)) := by rw [Int.mul_neg, Int.mul_add]; (first | lia | omega)
    rw [this, Int.add_mul_ediv_left _ _ (by (first | lia | omega)), Int.ediv_eq_zero_of_lt (by (first | lia | omega)) (by (first | lia | omega))]
    (first | lia | omega)
  · rename_i h
    have : x = p * (-q) := by rw [Int.mul_neg]; (first | lia | omega)
    rw [this, Int.mul_ediv_cancel_left _ (by (first | lia | omega))]
    (first | lia | omega)
theorem t_s_shift_down (w : Nat) (hw : 1 ≤ w ∧ w ≤ 29) (v : V) (x : Int) (s : Nat) (hv : Num w v x) (hx : Sm x) (hs : 1 ≤ s ∧ s ≤ 100) :
    GCall g (g.fa "s_shift") 3 [v, .int (-(s : Int)), .int w] (fun _ => none) (fun r _ => Num w r (x / 2 ^ s)) := by
  obtain ⟨l, rfl, hl⟩ := hv
  have hs1 := hx.short (w := w) (by (first | lia | omega)) hl
  have hB := one_lt_pow (w := w) (by (first | lia | omega))
  have hp : (0:Int) < 2 ^ s := Int.pow_pos (by decide)
  refine' gcall (d := dOf 20) (dOf_mem 20 (by decide)) (hbody := ?enB) (hscope := ?enS) (hparams := ?enP) (hname := rfl) (names := ["x", "n", "w"]) (hk := ?enK) (hbind := ?enI) (hloc := ?enL) (h := ?enH) (hco := ?enC) (hgen := ?enG) (hcell := ?enE)
  case enB => (conv => lhs; whnf)
  case enS => (conv => lhs; whnf)
  case enP => (conv => lhs; whnf)
  case enK => rfl
  case enI => exact args3 fun _ _ _ _ _ _ => rfl
  case enL => decide +kernel
  case enC => rfl
  case enG => rfl
  case enE => decide +kernel
  with_reducible refine' wS_cons ?_
  with_reducible refine' wX_if ?_
  (with_reducible refine' wT_cmp ?h_3 ?hm_3); (case hm_3 => with_unfolding_all exact rfl)
  (with_reducible refine' wE_local ?hv_4 ?h_4 ?hl_4 ?hd_4); (case hl_4 => exact rfl); (case hd_4 => decide +kernel); (case hv_4 => none_booked)
  with_reducible refine' wE_int ?_
  with_reducible refine' c_ge ?_
  with_reducible refine' exTB ?_
  refine iteD (fun h => absurd (show ¬ (0:Int) ≤ -(s:Int) by (first | lia | omega)) (fun hh => hh h)) (fun h => ?_)
  with_reducible refine' wS_nil ?_
  with_reducible refine' wS_cons ?_
  (with_reducible refine' wX_assign ?h_10 ?hl_10 ?hs_10); (case hl_10 => exact rfl); (case hs_10 => (intros; exact rfl))
  (with_reducible refine' wE_def ?h_11 ?h1_11 ?h2_11 ?h3_11 ?h4_11 ?h5_11); (case h1_11 => decide +kernel); (case h2_11 => exact rfl); (case h3_11 => decide +kernel); (case h4_11 => (intro _; exact rfl)); (case h5_11 => (intro _; exact ⟨_, _, rfl, rfl⟩))
  (with_reducible refine' wA_cons ?h_12 ?hs_12); (case hs_12 => (intro _; exact rfl))
  with_reducible refine' wE_sub ?_
  (with_reducible refine' wE_local ?hv_14 ?h_14 ?hl_14 ?hd_14); (case hl_14 => exact rfl); (case hd_14 => decide +kernel); (case hv_14 => none_booked)
  with_reducible refine' wE_int ?_
  (with_reducible refine' s_tup ?h0_16 ?hx_16 ?hsz_16 ?h_16 ?hs_16); (case hs_16 => (intro _ _; exact rfl)); (case h0_16 => (first | lia | omega)); (case hx_16 => exact rfl); (case hsz_16 => (simp; done))
  (with_reducible refine' wA_cons ?h_17 ?hs_17); (case hs_17 => (intro _; exact rfl))
  with_reducible refine' wE_unop ?_
  (with_reducible refine' wE_local ?hv_19 ?h_19 ?hl_19 ?hd_19); (case hl_19 => exact rfl); (case hd_19 => decide +kernel); (case hv_19 => none_booked)
  with_reducible refine' o_neg ?_
  (with_reducible refine' wA_cons ?h_21 ?hs_21); (case hs_21 => (intro _; exact rfl))
  (with_reducible refine' wE_local ?hv_22 ?h_22 ?hl_22 ?hd_22); (case hl_22 => exact rfl); (case hd_22 => decide +kernel); (case hv_22 => none_booked)
  with_reducible refine' wA_nil ?_
  rw [Int.neg_neg]
  refine op_pure (t_shift_right w hw l _ s (by (first | lia | omega)) (by (first | lia | omega)) hl.limbs hl.val) (by decide) fun r hr => ?_
  obtain ⟨q, rfl, hq⟩ := hr
  have hql : q.length ≤ 200 := short_of (by (first | lia | omega)) hq (Int.ediv_le_self _ (by (first | lia | omega))) hx.cast
  with_reducible refine' wS_cons ?_
  with_reducible refine' wX_if ?_
  with_reducible refine' wT_and ?_
  (with_reducible refine' wT_plain ?h_27 ?he_27); (case he_27 => (intros; exact rfl))
  with_reducible refine' wE_sub ?_
  (with_reducible refine' wE_local ?hv_29 ?h_29 ?hl_29 ?hd_29); (case hl_29 => exact rfl); (case hd_29 => decide +kernel); (case hv_29 => none_booked)
  with_reducible refine' wE_int ?_
  (with_reducible refine' s_tup ?h0_31 ?hx_31 ?hsz_31 ?h_31 ?hs_31); (case hs_31 => (intro _ _; exact rfl)); (case h0_31 => (first | lia | omega)); (case hx_31 => exact rfl); (case hsz_31 => (simp; done))
  with_reducible refine' exTB ?_
  refine iteD (fun h0 => ?_) (fun h0 => ?_)
  · have ex := abs_pos_iff.2 h0
    rw [ex] at hl hq
    have ef := floor_neg hp h0
    with_reducible refine' wT_and ?_
    (with_reducible refine' wT_cmp ?h_34 ?hm_34); (case hm_34 => with_unfolding_all exact rfl)
    (with_reducible refine' wE_len ?h_35 ?h1_35 ?h2_35 ?h3_35 ?h4_35); (case h1_35 => exact rfl); (case h2_35 => (intro _; exact rfl)); (case h3_35 => (intro _; exact ⟨_, _, rfl, rfl⟩)); (case h4_35 => (intro _; exact rfl))
    (with_reducible refine' wE_def ?h_36 ?h1_36 ?h2_36 ?h3_36 ?h4_36 ?h5_36); (case h1_36 => decide +kernel); (case h2_36 => exact rfl); (case h3_36 => decide +kernel); (case h4_36 => (intro _; exact rfl)); (case h5_36 => (intro _; exact ⟨_, _, rfl, rfl⟩))
    (with_reducible refine' wA_cons ?h_37 ?hs_37); (case hs_37 => (intro _; exact rfl))
    with_reducible refine' wE_sub ?_
    (with_reducible refine' wE_local ?hv_39 ?h_39 ?hl_39 ?hd_39); (case hl_39 => exact rfl); (case hd_39 => decide +kernel); (case hv_39 => none_booked)
    with_reducible refine' wE_int ?_
    (with_reducible refine' s_tup ?h0_41 ?hx_41 ?hsz_41 ?h_41 ?hs_41); (case hs_41 => (intro _ _; exact rfl)); (case h0_41 => (first | lia | omega)); (case hx_41 => exact rfl); (case hsz_41 => (simp; done))
    (with_reducible refine' wA_cons ?h_42 ?hs_42); (case hs_42 => (intro _; exact rfl))
    with_reducible refine' wE_unop ?_
    (with_reducible refine' wE_local ?hv_44 ?h_44 ?hl_44 ?hd_44); (case hl_44 => exact rfl); (case hd_44 => decide +kernel); (case hv_44 => none_booked)
    with_reducible refine' o_neg ?_
    (with_reducible refine' wA_cons ?h_46 ?hs_46); (case hs_46 => (intro _; exact rfl))
    (with_reducible refine' wE_local ?hv_47 ?h_47 ?hl_47 ?hd_47); (case hl_47 => exact rfl); (case hd_47 => decide +kernel); (case hv_47 => none_booked)
    with_reducible refine' wA_nil ?_
    rw [Int.neg_neg]
    refine op_pure (t_low w hw l _ s (by (first | lia | omega)) (by (first | lia | omega)) hl) (by decide) fun r hr => ?_
    obtain ⟨d, rfl, hd⟩ := hr
    have hdl : d.length ≤ 200 := short_of (by (first | lia | omega)) hd (by have := Nat.mod_le x.natAbs (2 ^ s); rw [← ex]; exact_mod_cast this) (ex ▸ hx.cast)
    have hd1 := hd.zero hB
    have hm := mod_limb (B := 2 ^ s) (c := -x) hp
    (with_reducible refine' b_len_z ?h1_49 ?h_49); (case h1_49 => (first | lia | omega))
    with_reducible refine' wE_int ?_
    with_reducible refine' c_gt ?_
    with_reducible refine' exTB ?_
    refine iteD (fun h1 => ?_) (fun h1 => ?_)
    · with_reducible refine' wT_and_nil ?_
      with_reducible refine' iteT ?_
      with_reducible refine' wS_cons ?_
      (with_reducible refine' wX_assign ?h_56 ?hl_56 ?hs_56); (case hl_56 => exact rfl); (case hs_56 => (intros; exact rfl))
      (with_reducible refine' wE_def ?h_57 ?h1_57 ?h2_57 ?h3_57 ?h4_57 ?h5_57); (case h1_57 => decide +kernel); (case h2_57 => exact rfl); (case h3_57 => decide +kernel); (case h4_57 => (intro _; exact rfl)); (case h5_57 => (intro _; exact ⟨_, _, rfl, rfl⟩))
      (with_reducible refine' wA_cons ?h_58 ?hs_58); (case hs_58 => (intro _; exact rfl))
      (with_reducible refine' wE_local ?hv_59 ?h_59 ?hl_59 ?hd_59); (case hl_59 => exact rfl); (case hd_59 => decide +kernel); (case hv_59 => none_booked)
      (with_reducible refine' wA_cons ?h_60 ?hs_60); (case hs_60 => (intro _; exact rfl))
      with_reducible refine' wE_int ?_
      (with_reducible refine' wA_cons ?h_62 ?hs_62); (case hs_62 => (intro _; exact rfl))
      (with_reducible refine' wE_local ?hv_63 ?h_63 ?hl_63 ?hd_63); (case hl_63 => exact rfl); (case hd_63 => decide +kernel); (case hv_63 => none_booked)
      with_reducible refine' wA_nil ?_
      refine op_pure (t_add_limb w (by (first | lia | omega)) q _ 1 (by (first | lia | omega)) hq (by (first | lia | omega))) (by decide) fun r hr => ?_
      obtain ⟨q2, rfl, hq2⟩ := hr
      have hq2l : q2.length ≤ 201 := by
        refine short_of (m := 2 ^ 200) (by (first | lia | omega)) hq2 ?_ (by decide)
        have := Int.ediv_le_self (a := -x) (2 ^ s) (by (first | lia | omega))
        have e3 := hx.cast
        rw [ex] at e3
        (first | lia | omega)
      with_reducible refine' wS_nil ?_
      with_reducible refine' wS_cons ?_
      with_reducible refine' wX_return ?_
      (with_reducible refine' wE_def ?h_68 ?h1_68 ?h2_68 ?h3_68 ?h4_68 ?h5_68); (case h1_68 => decide +kernel); (case h2_68 => exact rfl); (case h3_68 => decide +kernel); (case h4_68 => (intro _; exact rfl)); (case h5_68 => (intro _; exact ⟨_, _, rfl, rfl⟩))
      (with_reducible refine' wA_cons ?h_69 ?hs_69); (case hs_69 => (intro _; exact rfl))
      with_reducible refine' wE_sub ?_
      (with_reducible refine' wE_local ?hv_71 ?h_71 ?hl_71 ?hd_71); (case hl_71 => exact rfl); (case hd_71 => decide +kernel); (case hv_71 => none_booked)
      with_reducible refine' wE_int ?_
      (with_reducible refine' s_tup ?h0_73 ?hx_73 ?hsz_73 ?h_73 ?hs_73); (case hs_73 => (intro _ _; exact rfl)); (case h0_73 => (first | lia | omega)); (case hx_73 => exact rfl); (case hsz_73 => (simp; done))
      (with_reducible refine' wA_cons ?h_74 ?hs_74); (case hs_74 => (intro _; exact rfl))
      (with_reducible refine' wE_local ?hv_75 ?h_75 ?hl_75 ?hd_75); (case hl_75 => exact rfl); (case hd_75 => decide +kernel); (case hv_75 => none_booked)
      with_reducible refine' wA_nil ?_
      refine op_pure (t_signed w (by (first | lia | omega)) _ q2 _ (x / 2 ^ s) (by (first | lia | omega)) hq2 ?_) (by decide) fun r hr => ?_
      · have : (-x) % 2 ^ s ≠ 0 := by
          intro e
          have := hd1.mpr e
          rw [this] at h1; simp at h1
        rw [decide_eq_true h0, if_pos rfl, ef, if_pos (by (first | lia | omega))]
      with_reducible refine' exR ?_
      exact hr
    · with_reducible refine' iteF ?_
      with_reducible refine' wS_nil ?_
      with_reducible refine' wS_cons ?_
      with_reducible refine' wX_return ?_
      (with_reducible refine' wE_def ?h_82 ?h1_82 ?h2_82 ?h3_82 ?h4_82 ?h5_82); (case h1_82 => decide +kernel); (case h2_82 => exact rfl); (case h3_82 => decide +kernel); (case h4_82 => (intro _; exact rfl)); (case h5_82 => (intro _; exact ⟨_, _, rfl, rfl⟩))
      (with_reducible refine' wA_cons ?h_83 ?hs_83); (case hs_83 => (intro _; exact rfl))
      with_reducible refine' wE_sub ?_
      (with_reducible refine' wE_local ?hv_85 ?h_85 ?hl_85 ?hd_85); (case hl_85 => exact rfl); (case hd_85 => decide +kernel); (case hv_85 => none_booked)
      with_reducible refine' wE_int ?_
      (with_reducible refine' s_tup ?h0_87 ?hx_87 ?hsz_87 ?h_87 ?hs_87); (case hs_87 => (intro _ _; exact rfl)); (case h0_87 => (first | lia | omega)); (case hx_87 => exact rfl); (case hsz_87 => (simp; done))
      (with_reducible refine' wA_cons ?h_88 ?hs_88); (case hs_88 => (intro _; exact rfl))
      (with_reducible refine' wE_local ?hv_89 ?h_89 ?hl_89 ?hd_89); (case hl_89 => exact rfl); (case hd_89 => decide +kernel); (case hv_89 => none_booked)
      with_reducible refine' wA_nil ?_
      refine op_pure (t_signed w (by (first | lia | omega)) _ q _ (x / 2 ^ s) (by (first | lia | omega)) hq ?_) (by decide) fun r hr => ?_
      · have : (-x) % 2 ^ s = 0 := hd1.mp (List.length_eq_zero_iff.mp (by (first | lia | omega)))
        rw [decide_eq_true h0, if_pos rfl, ef, if_neg (by (first | lia | omega)), Int.add_zero]
      with_reducible refine' exR ?_
      exact hr
  · with_reducible refine' iteF ?_
    with_reducible refine' wS_nil ?_
    with_reducible refine' wS_cons ?_
    with_reducible refine' wX_return ?_
    (with_reducible refine' wE_def ?h_96 ?h1_96 ?h2_96 ?h3_96 ?h4_96 ?h5_96); (case h1_96 => decide +kernel); (case h2_96 => exact rfl); (case h3_96 => decide +kernel); (case h4_96 => (intro _; exact rfl)); (case h5_96 => (intro _; exact ⟨_, _, rfl, rfl⟩))
    (with_reducible refine' wA_cons ?h_97 ?hs_97); (case hs_97 => (intro _; exact rfl))
    with_reducible refine' wE_sub ?_
    (with_reducible refine' wE_local ?hv_99 ?h_99 ?hl_99 ?hd_99); (case hl_99 => exact rfl); (case hd_99 => decide +kernel); (case hv_99 => none_booked)
    with_reducible refine' wE_int ?_
    (with_reducible refine' s_tup ?h0_101 ?hx_101 ?hsz_101 ?h_101 ?hs_101); (case hs_101 => (intro _ _; exact rfl)); (case h0_101 => (first | lia | omega)); (case hx_101 => exact rfl); (case hsz_101 => (simp; done))
    (with_reducible refine' wA_cons ?h_102 ?hs_102); (case hs_102 => (intro _; exact rfl))
    (with_reducible refine' wE_local ?hv_103 ?h_103 ?hl_103 ?hd_103); (case hl_103 => exact rfl); (case hd_103 => decide +kernel); (case hv_103 => none_booked)
    with_reducible refine' wA_nil ?_
    refine op_pure (t_signed w (by (first | lia | omega)) _ q _ (x / 2 ^ s) (by (first | lia | omega)) hq ?_) (by decide) fun r hr => ?_
    · rw [decide_eq_false h0, if_neg (by decide), abs_pos_iff.1 (by (first | lia | omega))]
    with_reducible refine' exR ?_
    exact hr
end
section
variable {g : G PP} {c : Cx} {S : St}
theorem exSetV {a : Addr} {l : List V} {j : Int} {P : Addr → List V → Int → Prop} (h1 : S.σ a = some l) (h0 : 0 ≤ j) (hj : j < l.length) (hsz : l.length < 2 ^ 63) (h : P a l j) :
    ∃ x k i, V.ref a = .ref x ∧ V.int j = .int i ∧ S.σ x = some k ∧ 0 ≤ i ∧ i < k.length ∧ k.length < 2 ^ 63 ∧ P x k i :=
  ⟨a, _, j, rfl, rfl, h1, h0, hj, hsz, h⟩
theorem t_sifted (a : Addr) (k : Nat) (gs : List Int) (m : Int) (hk : k ≤ 1000) (hgs : gs.length ≤ 1000) (hm : 1 ≤ m) :
    GCall g (g.fa "_law_sifted") 1 [.ref a, .int m] (fun q => if q = a then some [.int k, .list (zints gs)] else none)
      (fun x σ' => ∃ l', σ' a = some l' ∧ (l' = [.int ((k + 1 : Nat) : Int), .list (zints gs)] ∧ ∃ v : Int, x = .int v ∧ 0 ≤ v ∧ v < m)) := by
  refine' gcall (d := dOf 28) (dOf_mem 28 (by decide)) (hbody := ?enB) (hscope := ?enS) (hparams := ?enP) (hname := rfl) (names := ["tub", "many"]) (hk := ?enK) (hbind := ?enI) (hloc := ?enL) (h := ?enH) (hco := ?enC) (hgen := ?enG) (hcell := ?enE)
  case enB => (conv => lhs; whnf)
  case enS => (conv => lhs; whnf)
  case enP => (conv => lhs; whnf)
  case enK => rfl
  case enI => exact args2 fun _ _ _ _ _ => rfl
  case enL => decide +kernel
  case enC => rfl
  case enG => rfl
  case enE => decide +kernel
  with_reducible refine' wS_cons ?_
  (with_reducible refine' wX_setitem ?h_2 ?h1_2); (case h1_2 => (intros; exact rfl))
  with_reducible refine' wE_binop ?_
  with_reducible refine' wE_sub ?_
  (with_reducible refine' wE_local ?hv_5 ?h_5 ?hl_5 ?hd_5); (case hl_5 => exact rfl); (case hd_5 => decide +kernel); (case hv_5 => none_booked)
  with_reducible refine' wE_int ?_
  refine s_ref (l := [.int k, .list (zints gs)]) (x := .int k) (if_pos rfl) (by rfl) (by simp) (by simp) ?_
  with_reducible refine' wE_int ?_
  with_reducible refine' o_addN1 ?_
  (with_reducible refine' wE_local ?hv_9 ?h_9 ?hl_9 ?hd_9); (case hl_9 => exact rfl); (case hd_9 => decide +kernel); (case hv_9 => none_booked)
  with_reducible refine' wE_int ?_
  refine exSetV (l := [.int k, .list (zints gs)]) (if_pos rfl) (by simp) (by simp) (by simp) ?_
  with_reducible refine' wS_cons ?_
  with_reducible refine' wX_if ?_
  (with_reducible refine' wT_cmp ?h_13 ?hm_13); (case hm_13 => with_unfolding_all exact rfl)
  with_reducible refine' wE_sub ?_
  (with_reducible refine' wE_local ?hv_15 ?h_15 ?hl_15 ?hd_15); (case hl_15 => exact rfl); (case hd_15 => decide +kernel); (case hv_15 => none_booked)
  with_reducible refine' wE_int ?_
  have hs : ∀ S' : St, S'.σ = upd (fun q => if q = a then some [.int k, .list (zints gs)] else none) a ([V.int k, .list (zints gs)].set (Int.toNat 0) (.int ((k : Int) + 1))) → S'.σ a = some [.int ((k + 1 : Nat) : Int), .list (zints gs)] := fun S' h => by
    rw [h]; exact if_pos rfl
  refine s_ref (l := [.int ((k + 1 : Nat) : Int), .list (zints gs)]) (x := .int ((k + 1 : Nat) : Int)) (by exact if_pos rfl) (by rfl) (by simp) (by simp) ?_
  (with_reducible refine' wE_len ?h_17 ?h1_17 ?h2_17 ?h3_17 ?h4_17); (case h1_17 => exact rfl); (case h2_17 => (intro _; exact rfl)); (case h3_17 => (intro _; exact ⟨_, _, rfl, rfl⟩)); (case h4_17 => (intro _; exact rfl))
  with_reducible refine' wE_sub ?_
  (with_reducible refine' wE_local ?hv_19 ?h_19 ?hl_19 ?hd_19); (case hl_19 => exact rfl); (case hd_19 => decide +kernel); (case hv_19 => none_booked)
  with_reducible refine' wE_int ?_
  refine s_ref (l := [.int ((k + 1 : Nat) : Int), .list (zints gs)]) (x := .list (zints gs)) (by exact if_pos rfl) (by rfl) (by simp) (by simp) ?_
  (with_reducible refine' b_len_z ?h1_21 ?h_21); (case h1_21 => (first | lia | omega))
  with_reducible refine' c_le ?_
  with_reducible refine' exTB ?_
  refine iteD (fun h => ?_) (fun h => ?_)
  · with_reducible refine' wS_cons ?_
    with_reducible refine' wX_return ?_
    with_reducible refine' wE_binop ?_
    with_reducible refine' wE_sub ?_
    with_reducible refine' wE_sub ?_
    (with_reducible refine' wE_local ?hv_29 ?h_29 ?hl_29 ?hd_29); (case hl_29 => exact rfl); (case hd_29 => decide +kernel); (case hv_29 => none_booked)
    with_reducible refine' wE_int ?_
    refine s_ref (l := [.int ((k + 1 : Nat) : Int), .list (zints gs)]) (x := .list (zints gs)) (by exact if_pos rfl) (by rfl) (by simp) (by simp) ?_
    with_reducible refine' wE_binop ?_
    with_reducible refine' wE_sub ?_
    (with_reducible refine' wE_local ?hv_33 ?h_33 ?hl_33 ?hd_33); (case hl_33 => exact rfl); (case hd_33 => decide +kernel); (case hv_33 => none_booked)
    with_reducible refine' wE_int ?_
    refine s_ref (l := [.int ((k + 1 : Nat) : Int), .list (zints gs)]) (x := .int ((k + 1 : Nat) : Int)) (by exact if_pos rfl) (by rfl) (by simp) (by simp) ?_
    with_reducible refine' wE_int ?_
    with_reducible refine' o_sub ?_
    (with_reducible refine' s_z ?h0_37 ?h1_37 ?h2_37 ?h_37 ?hs_37); (case hs_37 => (intro _ _; exact rfl)); (case h0_37 => (first | lia | omega)); (case h1_37 => (first | lia | omega)); (case h2_37 => (first | lia | omega))
    (with_reducible refine' wE_local ?hv_38 ?h_38 ?hl_38 ?hd_38); (case hl_38 => exact rfl); (case hd_38 => decide +kernel); (case hv_38 => none_booked)
    (with_reducible refine' o_md ?h1_39 ?h_39); (case h1_39 => (first | lia | omega))
    with_reducible refine' exR ?_
    exact ⟨_, by exact if_pos rfl, rfl, _, rfl, mod_limb (by (first | lia | omega))⟩
  · with_reducible refine' wS_nil ?_
    with_reducible refine' wS_cons ?_
    with_reducible refine' wX_return ?_
    with_reducible refine' wE_binop ?_
    with_reducible refine' wE_binop ?_
    with_reducible refine' wE_binop ?_
    with_reducible refine' wE_binop ?_
    with_reducible refine' wE_int ?_
    with_reducible refine' wE_sub ?_
    (with_reducible refine' wE_local ?hv_50 ?h_50 ?hl_50 ?hd_50); (case hl_50 => exact rfl); (case hd_50 => decide +kernel); (case hv_50 => none_booked)
    with_reducible refine' wE_int ?_
    refine s_ref (l := [.int ((k + 1 : Nat) : Int), .list (zints gs)]) (x := .int ((k + 1 : Nat) : Int)) (by exact if_pos rfl) (by rfl) (by simp) (by simp) ?_
    refine o_mulS (by decide) ?_
    with_reducible refine' wE_binop ?_
    with_reducible refine' wE_sub ?_
    (with_reducible refine' wE_local ?hv_54 ?h_54 ?hl_54 ?hd_54); (case hl_54 => exact rfl); (case hd_54 => decide +kernel); (case hv_54 => none_booked)
    with_reducible refine' wE_int ?_
    refine s_ref (l := [.int ((k + 1 : Nat) : Int), .list (zints gs)]) (x := .int ((k + 1 : Nat) : Int)) (by exact if_pos rfl) (by rfl) (by simp) (by simp) ?_
    with_reducible refine' wE_int ?_
    (with_reducible refine' o_div ?h1_57 ?h2_57 ?h_57); (case h1_57 => (first | lia | omega)); (case h2_57 => (first | lia | omega))
    with_reducible refine' o_add ?_
    with_reducible refine' wE_int ?_
    with_reducible refine' o_add ?_
    (with_reducible refine' wE_local ?hv_61 ?h_61 ?hl_61 ?hd_61); (case hl_61 => exact rfl); (case hd_61 => decide +kernel); (case hv_61 => none_booked)
    (with_reducible refine' o_md ?h1_62 ?h_62); (case h1_62 => (first | lia | omega))
    with_reducible refine' exR ?_
    exact ⟨_, by exact if_pos rfl, rfl, _, rfl, mod_limb (by (first | lia | omega))⟩
theorem t_law_signed (w : Nat) (hw : 1 ≤ w ∧ w ≤ 29) (z : Int) (hz : Sm z) :
    GCall g (g.fa "_law_signed") 1 [.int z, .int w] (fun _ => none) (fun r _ => Num w r z) := by
  have hB := one_lt_pow hw.1
  have hB29 : (2:Int) ^ w * 2 ≤ 1073741824 := by have := pow_le30 (w := w+1) (by (first | lia | omega)); rw [Int.pow_succ] at this; exact this
  have hzc := hz.cast
  have h200 := two_pow_le (w := w) (k := 200) hw.1
  refine' gcall (d := dOf 29) (dOf_mem 29 (by decide)) (hbody := ?enB) (hscope := ?enS) (hparams := ?enP) (hname := rfl) (names := ["number", "w"]) (hk := ?enK) (hbind := ?enI) (hloc := ?enL) (h := ?enH) (hco := ?enC) (hgen := ?enG) (hcell := ?enE)
  case enB => (conv => lhs; whnf)
  case enS => (conv => lhs; whnf)
  case enP => (conv => lhs; whnf)
  case enK => rfl
  case enI => exact args2 fun _ _ _ _ _ => rfl
  case enL => decide +kernel
  case enC => rfl
  case enG => rfl
  case enE => decide +kernel
  with_reducible refine' wS_cons ?_
  (with_reducible refine' wX_swap2 ?h_2 ?h1_2 ?h2_2 ?h3_2 ?h4_2); (case h4_2 => (intros; exact rfl)); (case h1_2 => exact rfl); (case h2_2 => exact rfl); (case h3_2 => (intros; exact rfl))
  with_reducible refine' wE_tuple ?_
  (with_reducible refine' wA_cons ?h_4 ?hs_4); (case hs_4 => (intro _; exact rfl))
  (with_reducible refine' wE_abs ?h_5 ?h1_5 ?h2_5 ?h3_5 ?h4_5); (case h1_5 => exact rfl); (case h2_5 => (intro _; exact rfl)); (case h3_5 => (intro _; exact ⟨_, _, rfl, rfl⟩)); (case h4_5 => (intro _; exact rfl))
  (with_reducible refine' wE_local ?hv_6 ?h_6 ?hl_6 ?hd_6); (case hl_6 => exact rfl); (case hd_6 => decide +kernel); (case hv_6 => none_booked)
  refine b_abs ?_
  have ea : (if z < 0 then -z else z) = (z.natAbs : Int) := by split <;> (first | lia | omega)
  rw [ea]
  (with_reducible refine' wA_cons ?h_7 ?hs_7); (case hs_7 => (intro _; exact rfl))
  refine wE_listNew fun ad had => ?_
  with_reducible refine' wA_nil ?_
  (with_reducible refine' andLen ?h1_9 ?h_9); (case h1_9 => (simp; done))
  with_reducible refine' exT2 ?_
  with_reducible refine' wS_cons ?_
  · refine wX_while_inv (fun n S => ∃ (s : Int) (f : List Int), n = s.toNat ∧ 0 ≤ s ∧ S.m "number" = some (.int z) ∧ S.m "w" = some (.int w) ∧ S.m "size" = some (.int s) ∧ S.m "found" = some (.ref ad) ∧ S.σ ad = some (zints f) ∧ Limbs (2 ^ w) f ∧
        (f ≠ [] → (2 ^ w) ^ (f.length - 1) ≤ (z.natAbs : Int)) ∧ val (2 ^ w) f + (2 ^ w) ^ f.length * s = z.natAbs) (z.natAbs : Int).toNat ?_ ?_
    · exact ⟨_, [], rfl, by (first | lia | omega), by none_booked, by none_booked, by none_booked, by none_booked, by none_booked, Limbs.nil, by simp, by simp [val]⟩
    · rintro n S ⟨s, f, rfl, hs0, hnu, hww, hsi, hfo, hsf, hlf, htop, hv⟩
      (with_reducible refine' wT_cmp ?h_12 ?hm_12); (case hm_12 => with_unfolding_all exact rfl)
      (with_reducible refine' wE_local ?hv_13 ?h_13 ?hl_13 ?hd_13); (case hl_13 => exact rfl); (case hd_13 => decide +kernel); (case hv_13 => none_booked)
      with_reducible refine' wE_int ?_
      with_reducible refine' c_gt ?_
      with_reducible refine' exTB ?_
      refine iteD (fun h => ?_) (fun h => ?_)
      · have hv0 := val_nonneg (by (first | lia | omega)) hlf
        have hp := pow_pos' (B := 2 ^ w) (by (first | lia | omega)) f.length
        have hps : (2 ^ w) ^ f.length ≤ (2 ^ w) ^ f.length * s := by
          have := Int.mul_le_mul_of_nonneg_left (show 1 ≤ s by (first | lia | omega)) (show 0 ≤ ((2:Int) ^ w) ^ f.length by (first | lia | omega))
          (first | lia | omega)
        have hfl : f.length ≤ 200 := by
          apply Nat.le_of_not_lt
          intro hh
          have := pow_mono' hB (m := 200) (n := f.length) (by (first | lia | omega))
          (first | lia | omega)
        have hmd := mod_limb (B := 2 ^ w) (c := s) (by (first | lia | omega))
        have hdv0 : 0 ≤ s / 2 ^ w := Int.ediv_nonneg (by (first | lia | omega)) (by (first | lia | omega))
        have hdv : s / 2 ^ w < s := Int.ediv_lt_self_of_pos_of_ne_one (by (first | lia | omega)) (by (first | lia | omega))
        with_reducible refine' wS_cons ?_
        (with_reducible refine' wX_append ?h_18 ?h1_18 ?h2_18 ?h3_18 ?h4_18 ?h5_18); (case h1_18 => (intros; exact rfl)); (case h2_18 => exact rfl); (case h3_18 => (intros; exact rfl)); (case h4_18 => (intros; exact rfl)); (case h5_18 => (intros; exact rfl))
        (with_reducible refine' wE_local ?hv_19 ?h_19 ?hl_19 ?hd_19); (case hl_19 => exact rfl); (case hd_19 => decide +kernel); (case hv_19 => none_booked)
        (with_reducible refine' exApp ?h1_20 ?h_20); (case h1_20 => none_booked)
        with_reducible refine' wE_binop ?_
        (with_reducible refine' wE_local ?hv_22 ?h_22 ?hl_22 ?hd_22); (case hl_22 => exact rfl); (case hd_22 => decide +kernel); (case hv_22 => none_booked)
        with_reducible refine' wE_binop ?_
        with_reducible refine' wE_int ?_
        (with_reducible refine' wE_local ?hv_25 ?h_25 ?hl_25 ?hd_25); (case hl_25 => exact rfl); (case hd_25 => decide +kernel); (case hv_25 => none_booked)
        (with_reducible refine' o_pow2 ?h1_26 ?h_26); (case h1_26 => (first | lia | omega))
        (with_reducible refine' o_md ?h1_27 ?h_27); (case h1_27 => (first | lia | omega))
        (with_reducible refine' exAppZ ?h1_28 ?h2_28 ?h_28); (case h1_28 => none_booked); (case h2_28 => (first | lia | omega))
        with_reducible refine' wS_cons ?_
        (with_reducible refine' wX_assign ?h_30 ?hl_30 ?hs_30); (case hl_30 => exact rfl); (case hs_30 => (intros; exact rfl))
        with_reducible refine' wE_binop ?_
        (with_reducible refine' wE_local ?hv_32 ?h_32 ?hl_32 ?hd_32); (case hl_32 => exact rfl); (case hd_32 => decide +kernel); (case hv_32 => none_booked)
        with_reducible refine' wE_binop ?_
        with_reducible refine' wE_int ?_
        (with_reducible refine' wE_local ?hv_35 ?h_35 ?hl_35 ?hd_35); (case hl_35 => exact rfl); (case hd_35 => decide +kernel); (case hv_35 => none_booked)
        (with_reducible refine' o_pow2 ?h1_36 ?h_36); (case h1_36 => (first | lia | omega))
        (with_reducible refine' o_div ?h1_37 ?h2_37 ?h_37); (case h1_37 => (first | lia | omega)); (case h2_37 => (first | lia | omega))
        with_reducible refine' wS_nil ?_
        refine ⟨(s / 2 ^ w).toNat, by (first | lia | omega), s / 2 ^ w, f ++ [s % 2 ^ w], rfl, hdv0, by none_booked, by none_booked, by none_booked, by none_booked, by none_booked, hlf.snoc hmd, ?_, ?_⟩
        · intro _
          rw [List.length_append, List.length_singleton, Nat.add_sub_cancel]
          (first | lia | omega)
        · rw [List.length_append, List.length_singleton, carry_step rfl]; exact hv
      · have : s = 0 := by (first | lia | omega)
        subst this
        rw [Int.mul_zero, Int.add_zero] at hv
        dsimp only
        refine' w_freeze "found" hfo hsf ?hqq
        with_reducible refine' wS_cons ?_
        with_reducible refine' wX_return ?_
        with_reducible refine' wE_tuple ?_
        (with_reducible refine' wA_cons ?h_42 ?hs_42); (case hs_42 => (intro _; exact rfl))
        (with_reducible refine' wE_cmp ?h_43 ?hm_43); (case hm_43 => with_unfolding_all exact rfl)
        (with_reducible refine' wE_local ?hv_44 ?h_44 ?hl_44 ?hd_44); (case hl_44 => exact rfl); (case hd_44 => decide +kernel); (case hv_44 => none_booked)
        with_reducible refine' wE_int ?_
        with_reducible refine' c_lt ?_
        (with_reducible refine' wA_cons ?h_47 ?hs_47); (case hs_47 => (intro _; exact rfl))
        (with_reducible refine' wE_local ?hv_48 ?h_48 ?hl_48 ?hd_48); (case hl_48 => exact rfl); (case hd_48 => decide +kernel); (case hv_48 => none_booked)
        with_reducible refine' wA_nil ?_
        (with_reducible refine' andLen ?h1_50 ?h_50); (case h1_50 => (simp; done))
        with_reducible refine' exR ?_
        exact ⟨f, rfl, hlf, hv, top_of hB hlf (by rw [hv]; exact htop)⟩
end
section
variable {g : G PP} {c : Cx} {S : St}
/-- frames that lie hidden: still frames of functions, over the hidden heap -/
theorem frames_hidden {B h : Heap} {as : List Addr} (l : List Env) : h.FunFrames B l → (∀ env ∈ l, ∀ a, env.frame = some a → a ∈ as) → h.FunFrames (hideAll h as) l := by
  induction l with
  | nil => exact fun _ _ => trivial
  | cons env l ih =>
    rintro ⟨hk, ⟨L, o, hf, _, ho, hd⟩, hr⟩ hin
    exact ⟨hk, ⟨L, o, hf, hideAll_none _ (hin env (List.mem_cons_self) L hf), ho, hd⟩, ih hr fun e he => hin e (List.mem_cons_of_mem _ he)⟩
theorem genter {d : DefRec} (hd : d ∈ recsOf PP) {f : Str} {n : Nat} {xs : List V} {σ : Addr → Option (List V)} {body : List Stmt} {names : List Str} {scope : Scope} {params : Arguments}
    {A : Around} {Z W : Fz} {s : Shared} {vs : List Value} {Q : Value → Shared → Prop} {E : Value → Shared → Prop}
    (hname : d.name = f) (hbody : d.body = body) (hscope : d.scope = scope) (hparams : d.params = params) (hk : scope.kind = .function)
    (hbind : ∀ pm code doc vs, vs.length = xs.length → bindArgs (docDef f params body scope pm code doc) ⟨vs, []⟩ = pure (names.zip vs))
    (hloc : ∀ x ∈ names, scope.names.lookup x = some .local)
    (hco : scope.isCoroutine = false) (hgen : scope.isGenerator = false) (hcell : ∀ x ∈ scope.names, x.2 ≠ .cell)
    (lv : Lv (n + 1) A) (r : R0 g Z W σ s) (rv : RepL W vs xs)
    (h : ∀ a cd h₁ tk, (∀ b o, s.heap.get? b = some o → h₁.get? b = some o) → R g s.heap.objs.size Z W ⟨fun y => (names.zip xs).reverse.lookup y, σ⟩ { s with heap := h₁, toks := tk } →
      Lv n (A.deeper (envOf f scope s.heap.objs.size a cd)) →
      wpAny (model g.prog g.w) (A.deeper (envOf f scope s.heap.objs.size a cd)) (execs body (envOf f scope s.heap.objs.size a cd)) (fun fl s' => Q (match fl with | .ret v => v | _ => .none) s')
        (fun e s' => wpAny (model g.prog g.w) (A.deeper (envOf f scope s.heap.objs.size a cd)) (leaving (envOf f scope s.heap.objs.size a cd) e) (fun _ s'' => E e s'') (fun e' s'' => E e' s'') s') { s with heap := h₁, toks := tk }) :
    wpAny (model g.prog g.w) A (call (.ref (g.fa f)) vs) Q E s := by
  subst hname hbody hscope hparams
  have hf := (g.fa_of hd).1
  obtain ⟨a, o, pm, code, doc, h1, h2, h3, h4⟩ := g.T.fn d hd
  rw [hf] at h1
  have h1 : g.fa d.name = a := by cases h1; rfl
  subst h1
  refine wpAny_call (call_plain (by have := lv.dep; show A.depth < 1000; (first | lia | omega)) (r.base _ _ h2) h3 (g.T.nolimit.keeps r.base) (h4.keeps r.base) (hbind pm code doc vs rv.length) ?_ (fun h₁ F₁ => ?_) hco hgen hk hcell)
  · intro x hx
    exact hloc _ (List.of_mem_zip hx).1
  · have key : s.heap.get? s.heap.objs.size = none := Heap.get?_none_of_le (Nat.le_refl _)
    have r' : R g s.heap.objs.size Z W ⟨fun y => (names.zip xs).reverse.lookup y, σ⟩ { s with heap := h₁, toks := s.toks + (names.zip vs).length } := by
      refine { toR0 := r.keeps F₁.keep, ns := ⟨_, F₁.ns, fun y u e => repL_lookup rv y u e⟩, lz := ?_, lw := ?_, lb := ?_, lm := ?_ }
      · cases q : Z s.heap.objs.size with
        | none => rfl
        | some o => rw [r.z _ _ q] at key; cases key
      · cases q : W s.heap.objs.size with
        | none => rfl
        | some o => rw [r.w _ _ q] at key; cases key
      · cases q : g.hB.get? s.heap.objs.size with
        | none => rfl
        | some o => rw [r.base _ _ q] at key; cases key
      · show σ s.heap.objs.size = none
        cases q : σ s.heap.objs.size with
        | none => rfl
        | some o => obtain ⟨_, _, h1, _⟩ := r.mu _ _ q; rw [h1] at key; cases key
    refine wpAny_mono (h _ code h₁ _ F₁.keep r' ⟨lv.hh, ?_, ?_⟩) (fun _ _ x => x) fun _ _ x => wpAny_mono x (fun _ _ y => y) fun _ _ y => y
    · show A.depth + 1 + n ≤ 900
      have := lv.dep; (first | lia | omega)
    · show A.units + 3 + 40 * n ≤ 9000
      have := lv.un; (first | lia | omega)
/-- what is known of the frame of the law -/
noncomputable def LawAx (g : G PP) (A : Around) (L : Addr) : Prop := (∃ env, A.frames = some [env] ∧ env.scope.kind ≠ .module ∧ env.frame = some L) ∧ g.hB.objs.size ≤ L
theorem str_args {M : Model} {A : Around} {E : Value → Shared → Prop} {s : Shared} {x : Str} {k : Nat} {p cpos : Pos} {env : Env} {Q : List Value → Shared → Prop} (h : Q [.str x s.toks] { s with toks := s.toks + 1 }) :
    wpAny M A (spliced (backTo cpos (starEach [.Constant (.str x) k p] env))) Q E s := by
  have e : backTo cpos (starEach [.Constant (.str x) k p] env) = [(false, eval (.Constant (.str x) k p) env)] := rfl
  rw [e]; exact Calls.spliced_cons (Calls.Constant_str (Calls.spliced_nil h))
theorem spec_notexact : specOf PP "NotExact" = some ("Exception.__new__", [.type "Exception", .type "BaseException", .type "object"]) := by decide +kernel
theorem t_half_raises (w : Nat) (hw : 1 ≤ w ∧ w ≤ 29) (v : V) (x : Int) (hv : Num w v x) (hx : Sm x) (ho : x % 2 = 1)
    {A : Around} {W : Fz} {s : Shared} {vs : List Value} {outer : List Env} {Q : Value → Shared → Prop} {E : Value → Shared → Prop}
    (lv : Lv 4 A) (r : R0 g (fun a => s.heap.get? a) W (fun _ => none) s) (rv : RepL W vs [v, .int w])
    (hfr : A.frames = some outer) (hsz : g.hB.objs.size ≤ s.heap.objs.size) (hff : s.heap.FunFrames noHeap outer)
    (h : ∀ C h' e t tk B, g.mg "NotExact" = some (.ref C) → (∀ b o, s.heap.get? b = some o → b ∉ outer.filterMap (·.frame) → B.get? b = some o) →
      Heap.FlyingW B outer e (.ref C) (.ref t) h' → s.heap.UpToSlots h' → E (.ref e) { g.s0 with heap := h', toks := tk }) :
    wpAny (model g.prog g.w) A (call (.ref (g.fa "s_half")) vs) Q E s := by
  obtain ⟨l, rfl, hl⟩ := hv
  have hs1 := hx.short hw.1 hl
  have hpw := even_pow hw.1
  refine' genter (d := dOf 16) (dOf_mem 16 (by decide)) (n := 3) (hbody := ?enB) (hscope := ?enS) (hparams := ?enP) (hname := rfl) (names := ["x", "w"]) (hk := ?enK) (hbind := ?enI) (hloc := ?enL) (hco := ?enC) (hgen := ?enG) (hcell := ?enE) lv r rv ?enH
  case enB => (conv => lhs; whnf)
  case enS => (conv => lhs; whnf)
  case enP => (conv => lhs; whnf)
  case enK => rfl
  case enI => exact args2 fun _ _ _ _ _ => rfl
  case enL => decide +kernel
  case enC => rfl
  case enG => rfl
  case enE => decide +kernel
  intro a cd h₁ tk hk1 r1 lv1
  refine wpAny_execs_cons (wpAny_If (wpAny_noRaise ?_))
  refine' (?test : WT g ⟨3, _, _, rfl, fun _ _ => True⟩ _ _ (fun b S' => b = true)) _ _ _ _ _ _ _ _ ⟨lv1, trivial⟩ r1 ?post
  case test =>
    with_reducible refine' wT_not ?_
    (with_reducible refine' wT_plain ?h_2 ?he_2); (case he_2 => (intros; exact rfl))
    (with_reducible refine' wE_def ?h_3 ?h1_3 ?h2_3 ?h3_3 ?h4_3 ?h5_3); (case h1_3 => decide +kernel); (case h2_3 => exact rfl); (case h3_3 => decide +kernel); (case h4_3 => (intro _; exact rfl)); (case h5_3 => (intro _; exact ⟨_, _, rfl, rfl⟩))
    (with_reducible refine' wA_cons ?h_4 ?hs_4); (case hs_4 => (intro _; exact rfl))
    with_reducible refine' wE_sub ?_
    (with_reducible refine' wE_local ?hv_6 ?h_6 ?hl_6 ?hd_6); (case hl_6 => exact rfl); (case hd_6 => decide +kernel); (case hv_6 => none_booked)
    with_reducible refine' wE_int ?_
    (with_reducible refine' s_tup ?h0_8 ?hx_8 ?hsz_8 ?h_8 ?hs_8); (case hs_8 => (intro _ _; exact rfl)); (case h0_8 => (first | lia | omega)); (case hx_8 => exact rfl); (case hsz_8 => (simp; done))
    with_reducible refine' wA_nil ?_
    refine op_pure (t_is_even (2 ^ w) hpw l _ (by (first | lia | omega)) hl) (by decide) fun r hr => ?_
    subst hr
    with_reducible refine' exTB ?_
    have : ((x.natAbs : Int) % 2 == 0) = false := by
      rw [beq_eq_false_iff_ne]; (first | lia | omega)
    rw [this]; rfl
  case post =>
    intro W2 b b' S2 s2 e2 rb rr hb
    cases rb
    subst hb
    obtain ⟨mr, hn, hm⟩ := rr.ns
    have F : Fr g.hB s.heap.objs.size s2.heap mr := ⟨hn, rr.base, hsz⟩
    show wpAny _ _ (execs _ _) _ _ s2
    refine wpAny_execs_cons ?_
    refine' Raise_top2 (bm := [.type "Exception", .type "BaseException", .type "object"]) (x := "NotExact") F g.T PySem.F.excBase_Exception PySem.F.excBase_Exception spec_notexact (by decide +kernel) lv1.hh ?hC rfl rfl rfl rfl (by decide +kernel)
    intro C hC hmg
    refine str_args ?_
    refine ⟨by simp [sizeLine], rr.base, fun h' e hx' => ?_⟩
    have key : s.heap.get? s.heap.objs.size = none := Heap.get?_none_of_le (Nat.le_refl _)
    obtain ⟨oL, es, ep, hL, hLd, _⟩ := hn
    have hff2 : s2.heap.FunFrames noHeap outer := Heap.FunFrames.of_keeps (fun b o q _ => ⟨o, rr.z b o q, rfl⟩) hff
    refine' wpAny_leaves_madeW (base := hideAll s2.heap (s.heap.objs.size :: outer.filterMap (·.frame))) (h := s2.heap) (outer := outer) (Around.frames_deeper hfr) rfl (fun b o q => of_hideAll _ q) ?ff hx' ?hQ
    case ff => exact ⟨by show ScopeKind.function ≠ .module; decide, ⟨s.heap.objs.size, oL, rfl, hideAll_none _ (List.mem_cons_self), hL, fun ws q => by rw [hLd] at q; cases q⟩,
      frames_hidden (B := noHeap) _ hff2 (fun env he b hb => List.mem_cons_of_mem _ (List.mem_filterMap.mpr ⟨env, he, hb⟩))⟩
    intro h'' t x1 x2 x3 x4
    obtain ⟨hh2, tk2, e2⟩ := rr.rest
    have hup : s.heap.UpToSlots h'' := ((Heap.UpToSlots.of_keeps rr.z).trans (Heap.UpToSlots.of_keeps hx'.keeps)).trans x4
    have := h C h'' e t (s2.toks + 1) _ hmg (fun b o q hb => hideAll_get _ (rr.z b o q) fun hm' => ?_) x1 hup
    · rw [e2] at this ⊢; exact this
    · rcases List.mem_cons.mp hm' with h1 | h1
      · rw [h1, key] at q; cases q
      · exact hb h1
theorem call_raw {A : Around} {L a : Addr} {cd : Value} {Z W : Fz} {s : Shared} {Q' : Value → Shared → Prop} {E : Value → Shared → Prop} {f : Addr} (hf : IsFn g f) {func : Expr} {args : List Expr} {pos : Pos} {xs0 : List V} (lv : LvC c A L) (r : R g L Z W S s)
    (hfe : WE g c func S (fun fv S₁ => fv = .lit (.ref f) ∧ WA g c pos args S₁ (fun xs S₂ => xs = xs0)))
    (h : ∀ W' vs S' s', RepL W' vs xs0 → R g L Z W' S' s' → wpAny (model g.prog g.w) A (call (.ref f) vs) Q' E s')
    (hc : PlainCall func args pos := by intro _; rfl) (hs : SomeArgs args pos := by intro _; exact ⟨_, _, rfl, rfl⟩) : wpAny (model g.prog g.w) A (eval (.Call func args [] pos) (c.env L a cd)) Q' E s := by
  refine call_name (hc _) (wpAny_noRaise (hfe A L a cd Z W s _ lv r fun W₁ fr fv S₁ s₁ e₁ rf rr₁ h₁ => ?_))
  obtain ⟨rfl, h₁⟩ := h₁
  cases rf
  obtain ⟨o, fd, ho, hd⟩ := hf
  obtain ⟨x, q, hx, hq⟩ := hs (c.env L a cd)
  refine Calls.callWith_function (o := o) (fd := fd) ?_
  have := h₁ A L a cd Z W₁ s₁ (fun vs s₂ => (s₂.heap.get? f = some o ∧ o.data = .func fd) ∧ wpAny (model g.prog g.w) A (call (.ref f) vs) Q' E s₂) lv rr₁ fun W₂ vs xs S₂ s₂ e₂ r₂ rr₂ h₂ =>
    ⟨⟨rr₂.base _ _ ho, hd⟩, h W₂ vs S₂ s₂ (h₂ ▸ r₂) rr₂⟩
  change wpAny _ _ (spliced (backTo pos (starEach args (c.env L a cd)))) _ _ _ at this
  rw [hx] at this ⊢
  exact Calls.evalArgs_plain (wpAny_noRaise (wpAny_mono this (fun vs s₂ h => h) fun _ _ h => h))
theorem op_refuses (w : Nat) (hw : 1 ≤ w ∧ w ≤ 29) (v : V) (x : Int) (hv : Num w v x) (hx : Sm x) (ho : x % 2 = 1) {Q : V → St → Prop} (hlv : 6 ≤ c.lv) (hax : ∀ A L, c.ax A L → LawAx g A L) (hq : Q (.bool true) S) :
    OpN g c Rep (fun vs => call (.ref (g.fa "_law_refuses")) vs) [v, .int w] S Q := by
  intro A L Z W s Q' vs lv r rv po
  obtain ⟨⟨env0, hfr0, hk0, hf0⟩, hsz⟩ := hax A L lv.ax
  obtain ⟨mr, hn, hm⟩ := r.ns
  obtain ⟨oL, es, ep, hL, hLd, hLr⟩ := id hn
  have key : s.heap.get? s.heap.objs.size = none := Heap.get?_none_of_le (Nat.le_refl _)
  refine' genter (d := dOf 34) (dOf_mem 34 (by decide)) (n := 5) (hbody := ?enB) (hscope := ?enS) (hparams := ?enP) (hname := rfl) (names := ["x", "w"]) (hk := ?enK) (hbind := ?enI) (hloc := ?enL) (hco := ?enC) (hgen := ?enG) (hcell := ?enE) (lv.le hlv)
    (Z := fun a => s.heap.get? a) (W := W) (σ := fun _ => none) ⟨r.rest, r.base, fun _ _ e => e, r.w, fun _ _ e => nomatch e⟩ rv ?enH
  case enB => (conv => lhs; whnf)
  case enS => (conv => lhs; whnf)
  case enP => (conv => lhs; whnf)
  case enK => rfl
  case enI => exact args2 fun _ _ _ _ _ => rfl
  case enL => decide +kernel
  case enC => rfl
  case enG => rfl
  case enE => decide +kernel
  intro a cd h₁ tk hk1 r1 lv1
  refine wpAny_execs_cons (wpAny_Try_except (wpAny_execs_cons (wpAny_Expr_any ?_)))
  refine' call_raw (c := ⟨5, _, _, ?hfn, fun _ _ => True⟩) (fa_def (g := g) (x := "s_half") (by decide +kernel)).2 (xs0 := [v, .int w]) ⟨lv1, trivial⟩ r1 ?args ?post
  case hfn => rfl
  case args =>
    (with_reducible refine' wE_fn ?h_1 ?h1_1 ?h2_1 ?h3_1); (case h2_1 => exact rfl); (case h1_1 => decide +kernel); (case h3_1 => decide +kernel)
    with_reducible refine' andLit ?_
    (with_reducible refine' wA_cons ?h_3 ?hs_3); (case hs_3 => (intro _; exact rfl))
    (with_reducible refine' wE_local ?hv_4 ?h_4 ?hl_4 ?hd_4); (case hl_4 => exact rfl); (case hd_4 => decide +kernel); (case hv_4 => none_booked)
    (with_reducible refine' wA_cons ?h_5 ?hs_5); (case hs_5 => (intro _; exact rfl))
    (with_reducible refine' wE_local ?hv_6 ?h_6 ?hl_6 ?hd_6); (case hl_6 => exact rfl); (case hd_6 => decide +kernel); (case hv_6 => none_booked)
    with_reducible refine' wA_nil ?_
    rfl
  case post =>
    intro W2 vs2 S2 s2 rv2 rr
    obtain ⟨mr1, hn1, hm1⟩ := rr.ns
    obtain ⟨oL1, es1, ep1, hL1, hL1d, _⟩ := id hn1
    have hL2 := rr.z L oL hL
    refine t_half_raises w hw v x hv hx ho (lv1.le (by decide)) ⟨rr.rest, rr.base, fun _ _ e => e, rr.w, fun _ _ e => nomatch e⟩ rv2 (Around.frames_deeper hfr0) (Nat.le_trans hsz (Nat.le_of_lt (Heap.lt_size hL2)))
      ⟨by show ScopeKind.function ≠ .module; decide, ⟨_, oL1, rfl, noHeap_get _, hL1, fun ws q => by rw [hL1d] at q; cases q⟩, hk0, ⟨L, oL, hf0, noHeap_get _, hL2, fun ws q => by rw [hLd] at q; cases q⟩, trivial⟩ ?_
    intro C h' e t tk' B hmg hBk hfl hup
    obtain ⟨C', O, _⟩ := g.T.ownAt spec_notexact
    obtain rfl : C' = C := by have := O.bound; rw [hmg] at this; cases this; rfl
    have hBB : ∀ b o, g.hB.get? b = some o → B.get? b = some o := fun b o q => hBk b o (rr.base b o q) fun hm' => by
      rcases List.mem_cons.mp hm' with h1 | h1
      · rw [h1, rr.lb] at q; cases q
      · rw [List.filterMap_cons, hf0] at h1
        rcases List.mem_cons.mp h1 with h1 | h1
        · rw [h1, r.lb] at q; cases q
        · simp at h1
    refine wpAny_looks_onW (Around.frames_deeper hfr0) rfl hfl fun h4 hheld4 hsm4 => ?_
    refine wpAny_landsW hheld4 fun h5 hfl5 hsm5 => ?_
    obtain ⟨ob, hob, hobc⟩ := hfl5.there
    refine handleBy_own (C := C') (x := "NotExact") (bmB := [.type "Exception", .type "BaseException", .type "object"]) (newId := "Exception.__new__") (mg := g.mg) (by decide +kernel) ?_
    refine Calls.Name_function_global rfl rfl (Calls.loadGlobal_global (mg := g.mg) (g.T.g.keeps fun b o q => hfl5.1 b o (hBB b o q)) hmg ?_) (by decide +kernel)
    refine ⟨rfl, O.keeps fun b o q => hfl5.1 b o (hBB b o q), ⟨ob, hob, hobc⟩, ?_⟩
    refine lands_againW hfl5 fun h6 hfl6 hsm6 => ?_
    refine wpAny_noRaise (wpAny_execs_cons (wpAny_Return_some (Constant_bool ?_)))
    have hsm : s.heap.UpToSlots h6 := ((((Heap.UpToSlots.of_keeps rr.z).trans hup).trans hsm4).trans hsm5).trans hsm6
    have hR : R g L Z W S { s with heap := h6, toks := tk' } := by
      refine r.of_all hm (fr_no (hsm.ns hn)) fun q hq => ?_
      obtain ⟨p1, p2⟩ := mem_allNews.mp hq
      refine ⟨hfl6.1 _ _ (hBk _ _ (rr.z _ _ p2) fun hm' => ?_), p1, noHeap_get _⟩
      rcases List.mem_cons.mp hm' with h1 | h1
      · rw [h1, key] at p2; cases p2
      · rw [List.filterMap_cons, hf0] at h1
        rcases List.mem_cons.mp h1 with h1 | h1
        · exact p1 h1
        · simp at h1
    obtain ⟨h0, tk0, e0⟩ := r.rest
    have := po W (.bool true) (.bool true) S _ .refl (.bool true) hR hq
    rw [e0] at this
    exact this
end
/-- the divided number's rest is less than the divisor -/
theorem tq_rest_lt {x y : Int} (hy : y ≠ 0) : (x - tq x y * y).natAbs < y.natAbs := by
  have c : (x.natAbs : Int) % y.natAbs < y.natAbs := Int.emod_lt_of_pos _ (by (first | lia | omega))
  have d : (0 : Int) ≤ (x.natAbs : Int) % y.natAbs := Int.emod_nonneg _ (by (first | lia | omega))
  rw [tq_rest]
  split <;> (first | lia | omega)
theorem fq_exact {x y : Int} (hy : y ≠ 0) : fq x y * y = x ↔ x - tq x y * y = 0 := by
  have h := tq_rest_lt (x := x) hy
  unfold fq
  split
  · rename_i hh
    rw [Int.sub_mul, Int.one_mul]
    (first | lia | omega)
  · (first | lia | omega)
theorem fdiv_fq {x y : Int} (hy : y ≠ 0) : x.fdiv y = fq x y := by
  have hr := tq_rest (x := x) (y := y)
  rcases Int.lt_or_le y 0 with h' | h'
  · have e : x.fdiv y = (-x) / (-y) := by
      rw [← Int.fdiv_eq_ediv_of_nonneg (-x) (b := -y) (by (first | lia | omega))]
      exact (Int.neg_fdiv_neg ..).symm
    rw [e]
    rcases Int.lt_or_le x 0 with h | h
    · have : fq x y = tq x y := by unfold fq; rw [if_neg (by simp [h, h'])]
      rw [this]
      unfold tq
      rw [if_pos (by simp [h, h']), abs_pos_iff.2 h, abs_pos_iff.2 h']
    · by_cases hx : x = 0
      · subst hx
        have : fq 0 y = 0 := by
          have t : tq 0 y = 0 := by unfold tq; simp
          unfold fq
          rw [t]
          simp
        rw [this]; simp
      · have f := floor_neg (x := -x) (p := -y) (by (first | lia | omega)) (by (first | lia | omega))
        rw [Int.neg_neg] at f
        rw [f]
        have ht : tq x y = -(x / (-y)) := by
          unfold tq
          rw [if_neg (by simp [h']; (first | lia | omega)), abs_pos_iff.1 h, abs_pos_iff.2 h']
        rw [if_neg (by (first | lia | omega)), abs_pos_iff.1 h, abs_pos_iff.2 h'] at hr
        unfold fq
        have m := mod_limb (B := -y) (c := x) (by (first | lia | omega))
        split
        · rename_i hp
          rw [if_pos ⟨by (first | lia | omega), by simp [h']; (first | lia | omega)⟩]
          (first | lia | omega)
        · rename_i hp
          rw [if_neg (by rintro ⟨a, b⟩; (first | lia | omega))]
          (first | lia | omega)
  · rw [Int.fdiv_eq_ediv_of_nonneg _ h']
    rcases Int.lt_or_le x 0 with h | h
    · have f := floor_neg (x := x) (p := y) (by (first | lia | omega)) h
      rw [f]
      have ht : tq x y = -((-x) / y) := by
        unfold tq
        rw [if_neg (by simp [h]; (first | lia | omega)), abs_pos_iff.2 h, abs_pos_iff.1 h']
      rw [if_pos h, abs_pos_iff.2 h, abs_pos_iff.1 h'] at hr
      unfold fq
      have m := mod_limb (B := y) (c := -x) (by (first | lia | omega))
      split
      · rename_i hp
        rw [if_pos ⟨by (first | lia | omega), by simp [h]; (first | lia | omega)⟩]
        (first | lia | omega)
      · rename_i hp
        rw [if_neg (by rintro ⟨a, b⟩; (first | lia | omega))]
        (first | lia | omega)
    · have : fq x y = tq x y := by unfold fq; rw [if_neg (by simp; (first | lia | omega))]
      rw [this]
      unfold tq
      rw [if_pos (by simp; (first | lia | omega)), abs_pos_iff.1 h, abs_pos_iff.1 h']
theorem tq_mul {n o : Int} (ho : o ≠ 0) : tq (n * o) o = n := by
  have h := tq_rest_lt (x := n * o) ho
  rw [← Int.sub_mul, Int.natAbs_mul] at h
  have : (n - tq (n * o) o).natAbs = 0 := by
    apply Nat.eq_zero_of_not_pos
    intro hp
    have := Nat.le_mul_of_pos_left o.natAbs hp
    (first | lia | omega)
  (first | lia | omega)
/-- what a deed makes of a number -/
noncomputable def due (f n o : Int) (m : Nat) : Int :=
  if f = 0 then n + o else if f = 1 then n - o else if f = 2 then n * o else if f = 3 then tq n o else if f = 4 then fq n o else if f = 5 then cq n o
  else if f = 6 then n * 2 ^ m else if f = 7 then n / 2 ^ m else if f = 8 then -n else n / 2
theorem ten {f : Int} (h : 0 ≤ f ∧ f < 10) : f = 0 ∨ f = 1 ∨ f = 2 ∨ f = 3 ∨ f = 4 ∨ f = 5 ∨ f = 6 ∨ f = 7 ∨ f = 8 ∨ f = 9 := by (first | lia | omega)
theorem ediv_abs {n p : Int} (hp : 0 < p) : (n / p).natAbs ≤ n.natAbs := by
  rcases Int.lt_or_le n 0 with h | h
  · have f := floor_neg hp h
    have e1 := Int.mul_ediv_add_emod (-n) p
    have m := mod_limb (B := p) (c := -n) hp
    have q0 : 0 ≤ (-n) / p := Int.ediv_nonneg (by (first | lia | omega)) (by (first | lia | omega))
    have q1 : (-n) / p ≤ p * ((-n) / p) := by
      have := Int.mul_le_mul_of_nonneg_right (show 1 ≤ p by (first | lia | omega)) q0
      (first | lia | omega)
    rw [f]
    split <;> (first | lia | omega)
  · have a := Int.ediv_le_self (a := n) p h
    have b : 0 ≤ n / p := Int.ediv_nonneg h (by (first | lia | omega))
    (first | lia | omega)
theorem pow_512 {m : Nat} (hm : m ≤ 9) : (2:Int) ^ m ≤ 512 := pow_mono' (B := 2) (by decide) hm
theorem due_le {f n o : Int} {m : Nat} {N : Nat} (ho : o ≠ 0 ∧ o.natAbs ≤ 63) (hm : m ≤ 9) (hn : n.natAbs ≤ N) (hN : 63 ≤ N) : (due f n o m).natAbs ≤ 512 * N := by
  have t : (tq n o).natAbs ≤ n.natAbs := by
    have a := Int.ediv_le_self (a := (n.natAbs : Int)) (o.natAbs : Int) (by (first | lia | omega))
    have b : (0 : Int) ≤ (n.natAbs : Int) / o.natAbs := Int.ediv_nonneg (by (first | lia | omega)) (by (first | lia | omega))
    unfold tq; split <;> (first | lia | omega)
  unfold due
  repeat' split
  · (first | lia | omega)
  · (first | lia | omega)
  · rw [Int.natAbs_mul]
    have := Nat.mul_le_mul hn ho.2
    (first | lia | omega)
  · (first | lia | omega)
  · unfold fq; split <;> (first | lia | omega)
  · unfold cq; split <;> (first | lia | omega)
  · rw [Int.natAbs_mul]
    have p := pow_512 hm
    have q := pow2_nonneg m
    have := Nat.mul_le_mul hn (show ((2:Int) ^ m).natAbs ≤ 512 by (first | lia | omega))
    (first | lia | omega)
  · have := ediv_abs (n := n) (p := 2 ^ m) (Int.pow_pos (by decide)); (first | lia | omega)
  · (first | lia | omega)
  · (first | lia | omega)
/-- what a deed loses -/
noncomputable def Lost (w : Nat) (f : Int) (b : V) (n o : Int) (m : Nat) : Prop :=
  if 3 ≤ f ∧ f ≤ 5 then Num w b (n - due f n o m * o) else if f = 7 then Num w b (n - due f n o m * 2 ^ m) else b = .lit .none
section
variable {g : G PP} {c : Cx} {S : St}
theorem t_law_quotient (f x y : Int) (hf : 3 ≤ f ∧ f ≤ 5) (hy : y ≠ 0 ∧ y.natAbs ≤ 63) :
    GCall g (g.fa "_law_quotient") 1 [.int f, .int x, .int y] (fun _ => none) (fun r _ => r = .int (due f x y 0)) := by
  have hex := fq_exact (x := x) hy.1
  have hlt := tq_rest_lt (x := x) hy.1
  have hfd := fdiv_fq (x := x) hy.1
  have tn := @tq_neg x y
  have tp := @tq_pos x y
  refine' gcall (d := dOf 30) (dOf_mem 30 (by decide)) (hbody := ?enB) (hscope := ?enS) (hparams := ?enP) (hname := rfl) (names := ["form", "number", "other"]) (hk := ?enK) (hbind := ?enI) (hloc := ?enL) (h := ?enH) (hco := ?enC) (hgen := ?enG) (hcell := ?enE)
  case enB => (conv => lhs; whnf)
  case enS => (conv => lhs; whnf)
  case enP => (conv => lhs; whnf)
  case enK => rfl
  case enI => exact args3 fun _ _ _ _ _ _ => rfl
  case enL => decide +kernel
  case enC => rfl
  case enG => rfl
  case enE => decide +kernel
  with_reducible refine' wS_cons ?_
  (with_reducible refine' wX_assign ?h_2 ?hl_2 ?hs_2); (case hl_2 => exact rfl); (case hs_2 => (intros; exact rfl))
  with_reducible refine' wE_binop ?_
  (with_reducible refine' wE_local ?hv_4 ?h_4 ?hl_4 ?hd_4); (case hl_4 => exact rfl); (case hd_4 => decide +kernel); (case hv_4 => none_booked)
  (with_reducible refine' wE_local ?hv_5 ?h_5 ?hl_5 ?hd_5); (case hl_5 => exact rfl); (case hd_5 => decide +kernel); (case hv_5 => none_booked)
  refine o_floordiv hy.1 (by (first | lia | omega)) ?_
  rw [hfd]
  have d4 : f = 4 → due f x y 0 = fq x y := fun h => by subst h; rfl
  have d3 : f = 3 → due f x y 0 = tq x y := fun h => by subst h; rfl
  have d5 : f = 5 → due f x y 0 = cq x y := fun h => by subst h; rfl
  with_reducible refine' wS_cons ?_
  with_reducible refine' wX_if ?_
  with_reducible refine' wT_or ?_
  (with_reducible refine' wT_cmp ?h_9 ?hm_9); (case hm_9 => with_unfolding_all exact rfl)
  (with_reducible refine' wE_local ?hv_10 ?h_10 ?hl_10 ?hd_10); (case hl_10 => exact rfl); (case hd_10 => decide +kernel); (case hv_10 => none_booked)
  with_reducible refine' wE_int ?_
  with_reducible refine' c_eq ?_
  with_reducible refine' exTB ?_
  refine iteEq (fun h4 => ?_) (fun h4 => ?_)
  · with_reducible refine' iteT ?_
    with_reducible refine' wS_cons ?_
    with_reducible refine' wX_return ?_
    (with_reducible refine' wE_local ?hv_17 ?h_17 ?hl_17 ?hd_17); (case hl_17 => exact rfl); (case hd_17 => decide +kernel); (case hv_17 => none_booked)
    with_reducible refine' exR ?_
    rw [d4 h4]
  · with_reducible refine' wT_or ?_
    (with_reducible refine' wT_cmp ?h_20 ?hm_20); (case hm_20 => with_unfolding_all exact rfl)
    with_reducible refine' wE_binop ?_
    (with_reducible refine' wE_local ?hv_22 ?h_22 ?hl_22 ?hd_22); (case hl_22 => exact rfl); (case hd_22 => decide +kernel); (case hv_22 => none_booked)
    (with_reducible refine' wE_local ?hv_23 ?h_23 ?hl_23 ?hd_23); (case hl_23 => exact rfl); (case hd_23 => decide +kernel); (case hv_23 => none_booked)
    refine o_mulR (by (first | lia | omega)) ?_
    (with_reducible refine' wE_local ?hv_24 ?h_24 ?hl_24 ?hd_24); (case hl_24 => exact rfl); (case hd_24 => decide +kernel); (case hv_24 => none_booked)
    with_reducible refine' c_eq ?_
    with_reducible refine' exTB ?_
    refine iteEq (fun he => ?_) (fun he => ?_)
    · with_reducible refine' iteT ?_
      with_reducible refine' wS_cons ?_
      with_reducible refine' wX_return ?_
      (with_reducible refine' wE_local ?hv_30 ?h_30 ?hl_30 ?hd_30); (case hl_30 => exact rfl); (case hd_30 => decide +kernel); (case hv_30 => none_booked)
      with_reducible refine' exR ?_
      have hr0 := hex.mp he
      have e1 : fq x y = tq x y := by unfold fq; rw [if_neg (by rintro ⟨a, b⟩; exact a hr0)]
      have e2 : cq x y = tq x y := by unfold cq; rw [if_neg (by rintro ⟨a, b⟩; exact a hr0)]
      rcases (show f = 3 ∨ f = 5 by (first | lia | omega)) with h | h
      · rw [d3 h, e1]
      · rw [d5 h, e1, e2]
    · have hr0 : x - tq x y * y ≠ 0 := fun h => he (hex.mpr h)
      with_reducible refine' wT_or_nil ?_
      with_reducible refine' iteF ?_
      with_reducible refine' wS_nil ?_
      with_reducible refine' wS_cons ?_
      with_reducible refine' wX_return ?_
      with_reducible refine' wE_ifexp ?_
      with_reducible refine' wT_or ?_
      (with_reducible refine' wT_cmp ?h_39 ?hm_39); (case hm_39 => with_unfolding_all exact rfl)
      (with_reducible refine' wE_local ?hv_40 ?h_40 ?hl_40 ?hd_40); (case hl_40 => exact rfl); (case hd_40 => decide +kernel); (case hv_40 => none_booked)
      with_reducible refine' wE_int ?_
      with_reducible refine' c_eq ?_
      with_reducible refine' exTB ?_
      refine iteEq (fun h5 => ?_) (fun h5 => ?_)
      · with_reducible refine' iteT ?_
        with_reducible refine' wE_binop ?_
        (with_reducible refine' wE_local ?hv_46 ?h_46 ?hl_46 ?hd_46); (case hl_46 => exact rfl); (case hd_46 => decide +kernel); (case hv_46 => none_booked)
        with_reducible refine' wE_int ?_
        with_reducible refine' o_add ?_
        with_reducible refine' exR ?_
        rw [d5 h5]
        by_cases hs : (x < 0) = (y < 0)
        · have e1 : fq x y = tq x y := by unfold fq; rw [if_neg (by rintro ⟨a, b⟩; exact b hs)]
          have e2 : cq x y = tq x y + 1 := by unfold cq; rw [if_pos ⟨hr0, hs⟩]
          rw [e1, e2]
        · have e1 : fq x y = tq x y - 1 := by unfold fq; rw [if_pos ⟨hr0, hs⟩]
          have e2 : cq x y = tq x y := by unfold cq; rw [if_neg (by rintro ⟨a, b⟩; exact hs b)]
          rw [e1, e2]; congr 1; (first | lia | omega)
      · have h3 : f = 3 := by (first | lia | omega)
        with_reducible refine' wT_or ?_
        (with_reducible refine' wT_cmp ?h_51 ?hm_51); (case hm_51 => with_unfolding_all exact rfl)
        (with_reducible refine' wE_local ?hv_52 ?h_52 ?hl_52 ?hd_52); (case hl_52 => exact rfl); (case hd_52 => decide +kernel); (case hv_52 => none_booked)
        with_reducible refine' wE_int ?_
        with_reducible refine' c_lt ?_
        with_reducible refine' exTB ?_
        refine iteD (fun h => ?_) (fun h => ?_)
        · with_reducible refine' iteT ?_
          with_reducible refine' wE_binop ?_
          (with_reducible refine' wE_local ?hv_58 ?h_58 ?hl_58 ?hd_58); (case hl_58 => exact rfl); (case hd_58 => decide +kernel); (case hv_58 => none_booked)
          with_reducible refine' wE_int ?_
          with_reducible refine' o_add ?_
          with_reducible refine' exR ?_
          rw [d3 h3]
          by_cases hs : (x < 0) = (y < 0)
          · have e1 : fq x y = tq x y := by unfold fq; rw [if_neg (by rintro ⟨a, b⟩; exact b hs)]
            have := tp hs
            (first | lia | omega)
          · have e1 : fq x y = tq x y - 1 := by unfold fq; rw [if_pos ⟨hr0, hs⟩]
            rw [e1]; congr 1; (first | lia | omega)
        · with_reducible refine' wT_or_nil ?_
          with_reducible refine' iteF ?_
          (with_reducible refine' wE_local ?hv_64 ?h_64 ?hl_64 ?hd_64); (case hl_64 => exact rfl); (case hd_64 => decide +kernel); (case hv_64 => none_booked)
          with_reducible refine' exR ?_
          rw [d3 h3]
          by_cases hs : (x < 0) = (y < 0)
          · have e1 : fq x y = tq x y := by unfold fq; rw [if_neg (by rintro ⟨a, b⟩; exact b hs)]
            rw [e1]
          · have e1 : fq x y = tq x y - 1 := by unfold fq; rw [if_pos ⟨hr0, hs⟩]
            have := tn hs
            (first | lia | omega)
theorem t_law_due (f n o : Int) (m : Nat) (y : V) (hf : 0 ≤ f ∧ f < 10) (ho : o ≠ 0 ∧ o.natAbs ≤ 63) (hm : m ≤ 9) :
    GCall g (g.fa "_law_due") 2 [.tup [.int f, y, .int m], .int n, .int o] (fun _ => none) (fun r _ => r = .int (due f n o m)) := by
  have hp := pow_512 hm
  have hp0 : (0:Int) < 2 ^ m := Int.pow_pos (by decide)
  refine' gcall (d := dOf 32) (dOf_mem 32 (by decide)) (hbody := ?enB) (hscope := ?enS) (hparams := ?enP) (hname := rfl) (names := ["deed", "number", "other"]) (hk := ?enK) (hbind := ?enI) (hloc := ?enL) (h := ?enH) (hco := ?enC) (hgen := ?enG) (hcell := ?enE)
  case enB => (conv => lhs; whnf)
  case enS => (conv => lhs; whnf)
  case enP => (conv => lhs; whnf)
  case enK => rfl
  case enI => exact args3 fun _ _ _ _ _ _ => rfl
  case enL => decide +kernel
  case enC => rfl
  case enG => rfl
  case enE => decide +kernel
  with_reducible refine' wS_cons ?_
  (with_reducible refine' wX_unpack3 ?h_2 ?h1_2 ?h2_2 ?h5_2 ?h3_2 ?h4_2); (case h4_2 => (intros; exact rfl)); (case h1_2 => exact rfl); (case h2_2 => exact rfl); (case h5_2 => exact rfl); (case h3_2 => (intros; exact rfl))
  (with_reducible refine' wE_local ?hv_3 ?h_3 ?hl_3 ?hd_3); (case hl_3 => exact rfl); (case hd_3 => decide +kernel); (case hv_3 => none_booked)
  with_reducible refine' exT3 ?_
  with_reducible refine' wS_cons ?_
  with_reducible refine' wX_if ?_
  (with_reducible refine' wT_cmp ?h_7 ?hm_7); (case hm_7 => with_unfolding_all exact rfl)
  (with_reducible refine' wE_local ?hv_8 ?h_8 ?hl_8 ?hd_8); (case hl_8 => exact rfl); (case hd_8 => decide +kernel); (case hv_8 => none_booked)
  with_reducible refine' wE_int ?_
  with_reducible refine' c_lt ?_
  with_reducible refine' exTB ?_
  rcases ten hf with rfl | rfl | rfl | rfl | rfl | rfl | rfl | rfl | rfl | rfl
  · (with_reducible refine' iteYes ?hp_12 ?h1_12); (case hp_12 => decide)
    with_reducible refine' wS_cons ?_
    with_reducible refine' wX_return ?_
    with_reducible refine' wE_sub ?_
    with_reducible refine' wE_listOf ?_
    (with_reducible refine' wA_cons ?h_17 ?hs_17); (case hs_17 => (intro _; exact rfl))
    with_reducible refine' wE_binop ?_
    (with_reducible refine' wE_local ?hv_19 ?h_19 ?hl_19 ?hd_19); (case hl_19 => exact rfl); (case hd_19 => decide +kernel); (case hv_19 => none_booked)
    (with_reducible refine' wE_local ?hv_20 ?h_20 ?hl_20 ?hd_20); (case hl_20 => exact rfl); (case hd_20 => decide +kernel); (case hv_20 => none_booked)
    with_reducible refine' o_add ?_
    (with_reducible refine' wA_cons ?h_22 ?hs_22); (case hs_22 => (intro _; exact rfl))
    with_reducible refine' wE_binop ?_
    (with_reducible refine' wE_local ?hv_24 ?h_24 ?hl_24 ?hd_24); (case hl_24 => exact rfl); (case hd_24 => decide +kernel); (case hv_24 => none_booked)
    (with_reducible refine' wE_local ?hv_25 ?h_25 ?hl_25 ?hd_25); (case hl_25 => exact rfl); (case hd_25 => decide +kernel); (case hv_25 => none_booked)
    with_reducible refine' o_sub ?_
    (with_reducible refine' wA_cons ?h_27 ?hs_27); (case hs_27 => (intro _; exact rfl))
    with_reducible refine' wE_binop ?_
    (with_reducible refine' wE_local ?hv_29 ?h_29 ?hl_29 ?hd_29); (case hl_29 => exact rfl); (case hd_29 => decide +kernel); (case hv_29 => none_booked)
    (with_reducible refine' wE_local ?hv_30 ?h_30 ?hl_30 ?hd_30); (case hl_30 => exact rfl); (case hd_30 => decide +kernel); (case hv_30 => none_booked)
    refine o_mulR (by (first | lia | omega)) ?_
    with_reducible refine' wA_nil ?_
    (with_reducible refine' andLen ?h1_32 ?h_32); (case h1_32 => (simp; done))
    (with_reducible refine' wE_local ?hv_33 ?h_33 ?hl_33 ?hd_33); (case hl_33 => exact rfl); (case hd_33 => decide +kernel); (case hv_33 => none_booked)
    (with_reducible refine' s_list ?hx_34 ?h0_34 ?hsz_34 ?h_34 ?hs_34); (case hs_34 => (intro _ _; exact rfl)); (case h0_34 => (simp; done)); (case hx_34 => exact rfl); (case hsz_34 => (simp; done))
    with_reducible refine' exR ?_
    rfl
  · (with_reducible refine' iteYes ?hp_36 ?h1_36); (case hp_36 => decide)
    with_reducible refine' wS_cons ?_
    with_reducible refine' wX_return ?_
    with_reducible refine' wE_sub ?_
    with_reducible refine' wE_listOf ?_
    (with_reducible refine' wA_cons ?h_41 ?hs_41); (case hs_41 => (intro _; exact rfl))
    with_reducible refine' wE_binop ?_
    (with_reducible refine' wE_local ?hv_43 ?h_43 ?hl_43 ?hd_43); (case hl_43 => exact rfl); (case hd_43 => decide +kernel); (case hv_43 => none_booked)
    (with_reducible refine' wE_local ?hv_44 ?h_44 ?hl_44 ?hd_44); (case hl_44 => exact rfl); (case hd_44 => decide +kernel); (case hv_44 => none_booked)
    with_reducible refine' o_add ?_
    (with_reducible refine' wA_cons ?h_46 ?hs_46); (case hs_46 => (intro _; exact rfl))
    with_reducible refine' wE_binop ?_
    (with_reducible refine' wE_local ?hv_48 ?h_48 ?hl_48 ?hd_48); (case hl_48 => exact rfl); (case hd_48 => decide +kernel); (case hv_48 => none_booked)
    (with_reducible refine' wE_local ?hv_49 ?h_49 ?hl_49 ?hd_49); (case hl_49 => exact rfl); (case hd_49 => decide +kernel); (case hv_49 => none_booked)
    with_reducible refine' o_sub ?_
    (with_reducible refine' wA_cons ?h_51 ?hs_51); (case hs_51 => (intro _; exact rfl))
    with_reducible refine' wE_binop ?_
    (with_reducible refine' wE_local ?hv_53 ?h_53 ?hl_53 ?hd_53); (case hl_53 => exact rfl); (case hd_53 => decide +kernel); (case hv_53 => none_booked)
    (with_reducible refine' wE_local ?hv_54 ?h_54 ?hl_54 ?hd_54); (case hl_54 => exact rfl); (case hd_54 => decide +kernel); (case hv_54 => none_booked)
    refine o_mulR (by (first | lia | omega)) ?_
    with_reducible refine' wA_nil ?_
    (with_reducible refine' andLen ?h1_56 ?h_56); (case h1_56 => (simp; done))
    (with_reducible refine' wE_local ?hv_57 ?h_57 ?hl_57 ?hd_57); (case hl_57 => exact rfl); (case hd_57 => decide +kernel); (case hv_57 => none_booked)
    (with_reducible refine' s_list ?hx_58 ?h0_58 ?hsz_58 ?h_58 ?hs_58); (case hs_58 => (intro _ _; exact rfl)); (case h0_58 => (simp; done)); (case hx_58 => exact rfl); (case hsz_58 => (simp; done))
    with_reducible refine' exR ?_
    rfl
  · (with_reducible refine' iteYes ?hp_60 ?h1_60); (case hp_60 => decide)
    with_reducible refine' wS_cons ?_
    with_reducible refine' wX_return ?_
    with_reducible refine' wE_sub ?_
    with_reducible refine' wE_listOf ?_
    (with_reducible refine' wA_cons ?h_65 ?hs_65); (case hs_65 => (intro _; exact rfl))
    with_reducible refine' wE_binop ?_
    (with_reducible refine' wE_local ?hv_67 ?h_67 ?hl_67 ?hd_67); (case hl_67 => exact rfl); (case hd_67 => decide +kernel); (case hv_67 => none_booked)
    (with_reducible refine' wE_local ?hv_68 ?h_68 ?hl_68 ?hd_68); (case hl_68 => exact rfl); (case hd_68 => decide +kernel); (case hv_68 => none_booked)
    with_reducible refine' o_add ?_
    (with_reducible refine' wA_cons ?h_70 ?hs_70); (case hs_70 => (intro _; exact rfl))
    with_reducible refine' wE_binop ?_
    (with_reducible refine' wE_local ?hv_72 ?h_72 ?hl_72 ?hd_72); (case hl_72 => exact rfl); (case hd_72 => decide +kernel); (case hv_72 => none_booked)
    (with_reducible refine' wE_local ?hv_73 ?h_73 ?hl_73 ?hd_73); (case hl_73 => exact rfl); (case hd_73 => decide +kernel); (case hv_73 => none_booked)
    with_reducible refine' o_sub ?_
    (with_reducible refine' wA_cons ?h_75 ?hs_75); (case hs_75 => (intro _; exact rfl))
    with_reducible refine' wE_binop ?_
    (with_reducible refine' wE_local ?hv_77 ?h_77 ?hl_77 ?hd_77); (case hl_77 => exact rfl); (case hd_77 => decide +kernel); (case hv_77 => none_booked)
    (with_reducible refine' wE_local ?hv_78 ?h_78 ?hl_78 ?hd_78); (case hl_78 => exact rfl); (case hd_78 => decide +kernel); (case hv_78 => none_booked)
    refine o_mulR (by (first | lia | omega)) ?_
    with_reducible refine' wA_nil ?_
    (with_reducible refine' andLen ?h1_80 ?h_80); (case h1_80 => (simp; done))
    (with_reducible refine' wE_local ?hv_81 ?h_81 ?hl_81 ?hd_81); (case hl_81 => exact rfl); (case hd_81 => decide +kernel); (case hv_81 => none_booked)
    (with_reducible refine' s_list ?hx_82 ?h0_82 ?hsz_82 ?h_82 ?hs_82); (case hs_82 => (intro _ _; exact rfl)); (case h0_82 => (simp; done)); (case hx_82 => exact rfl); (case hsz_82 => (simp; done))
    with_reducible refine' exR ?_
    rfl
  · (with_reducible refine' iteNo ?hp_84 ?h1_84); (case hp_84 => decide)
    with_reducible refine' wS_nil ?_
    with_reducible refine' wS_cons ?_
    with_reducible refine' wX_if ?_
    (with_reducible refine' wT_cmp ?h_88 ?hm_88); (case hm_88 => with_unfolding_all exact rfl)
    (with_reducible refine' wE_local ?hv_89 ?h_89 ?hl_89 ?hd_89); (case hl_89 => exact rfl); (case hd_89 => decide +kernel); (case hv_89 => none_booked)
    with_reducible refine' wE_int ?_
    with_reducible refine' c_lt ?_
    with_reducible refine' exTB ?_
    (with_reducible refine' iteYes ?hp_93 ?h1_93); (case hp_93 => decide)
    with_reducible refine' wS_cons ?_
    with_reducible refine' wX_return ?_
    (with_reducible refine' wE_def ?h_96 ?h1_96 ?h2_96 ?h3_96 ?h4_96 ?h5_96); (case h1_96 => decide +kernel); (case h2_96 => exact rfl); (case h3_96 => decide +kernel); (case h4_96 => (intro _; exact rfl)); (case h5_96 => (intro _; exact ⟨_, _, rfl, rfl⟩))
    (with_reducible refine' wA_cons ?h_97 ?hs_97); (case hs_97 => (intro _; exact rfl))
    (with_reducible refine' wE_local ?hv_98 ?h_98 ?hl_98 ?hd_98); (case hl_98 => exact rfl); (case hd_98 => decide +kernel); (case hv_98 => none_booked)
    (with_reducible refine' wA_cons ?h_99 ?hs_99); (case hs_99 => (intro _; exact rfl))
    (with_reducible refine' wE_local ?hv_100 ?h_100 ?hl_100 ?hd_100); (case hl_100 => exact rfl); (case hd_100 => decide +kernel); (case hv_100 => none_booked)
    (with_reducible refine' wA_cons ?h_101 ?hs_101); (case hs_101 => (intro _; exact rfl))
    (with_reducible refine' wE_local ?hv_102 ?h_102 ?hl_102 ?hd_102); (case hl_102 => exact rfl); (case hd_102 => decide +kernel); (case hv_102 => none_booked)
    with_reducible refine' wA_nil ?_
    refine op_pure (t_law_quotient 3 n o (by decide) ho) (by decide) fun r hr => ?_
    with_reducible refine' exR ?_
    exact hr
  · (with_reducible refine' iteNo ?hp_105 ?h1_105); (case hp_105 => decide)
    with_reducible refine' wS_nil ?_
    with_reducible refine' wS_cons ?_
    with_reducible refine' wX_if ?_
    (with_reducible refine' wT_cmp ?h_109 ?hm_109); (case hm_109 => with_unfolding_all exact rfl)
    (with_reducible refine' wE_local ?hv_110 ?h_110 ?hl_110 ?hd_110); (case hl_110 => exact rfl); (case hd_110 => decide +kernel); (case hv_110 => none_booked)
    with_reducible refine' wE_int ?_
    with_reducible refine' c_lt ?_
    with_reducible refine' exTB ?_
    (with_reducible refine' iteYes ?hp_114 ?h1_114); (case hp_114 => decide)
    with_reducible refine' wS_cons ?_
    with_reducible refine' wX_return ?_
    (with_reducible refine' wE_def ?h_117 ?h1_117 ?h2_117 ?h3_117 ?h4_117 ?h5_117); (case h1_117 => decide +kernel); (case h2_117 => exact rfl); (case h3_117 => decide +kernel); (case h4_117 => (intro _; exact rfl)); (case h5_117 => (intro _; exact ⟨_, _, rfl, rfl⟩))
    (with_reducible refine' wA_cons ?h_118 ?hs_118); (case hs_118 => (intro _; exact rfl))
    (with_reducible refine' wE_local ?hv_119 ?h_119 ?hl_119 ?hd_119); (case hl_119 => exact rfl); (case hd_119 => decide +kernel); (case hv_119 => none_booked)
    (with_reducible refine' wA_cons ?h_120 ?hs_120); (case hs_120 => (intro _; exact rfl))
    (with_reducible refine' wE_local ?hv_121 ?h_121 ?hl_121 ?hd_121); (case hl_121 => exact rfl); (case hd_121 => decide +kernel); (case hv_121 => none_booked)
    (with_reducible refine' wA_cons ?h_122 ?hs_122); (case hs_122 => (intro _; exact rfl))
    (with_reducible refine' wE_local ?hv_123 ?h_123 ?hl_123 ?hd_123); (case hl_123 => exact rfl); (case hd_123 => decide +kernel); (case hv_123 => none_booked)
    with_reducible refine' wA_nil ?_
    refine op_pure (t_law_quotient 4 n o (by decide) ho) (by decide) fun r hr => ?_
    with_reducible refine' exR ?_
    exact hr
  · (with_reducible refine' iteNo ?hp_126 ?h1_126); (case hp_126 => decide)
    with_reducible refine' wS_nil ?_
    with_reducible refine' wS_cons ?_
    with_reducible refine' wX_if ?_
    (with_reducible refine' wT_cmp ?h_130 ?hm_130); (case hm_130 => with_unfolding_all exact rfl)
    (with_reducible refine' wE_local ?hv_131 ?h_131 ?hl_131 ?hd_131); (case hl_131 => exact rfl); (case hd_131 => decide +kernel); (case hv_131 => none_booked)
    with_reducible refine' wE_int ?_
    with_reducible refine' c_lt ?_
    with_reducible refine' exTB ?_
    (with_reducible refine' iteYes ?hp_135 ?h1_135); (case hp_135 => decide)
    with_reducible refine' wS_cons ?_
    with_reducible refine' wX_return ?_
    (with_reducible refine' wE_def ?h_138 ?h1_138 ?h2_138 ?h3_138 ?h4_138 ?h5_138); (case h1_138 => decide +kernel); (case h2_138 => exact rfl); (case h3_138 => decide +kernel); (case h4_138 => (intro _; exact rfl)); (case h5_138 => (intro _; exact ⟨_, _, rfl, rfl⟩))
    (with_reducible refine' wA_cons ?h_139 ?hs_139); (case hs_139 => (intro _; exact rfl))
    (with_reducible refine' wE_local ?hv_140 ?h_140 ?hl_140 ?hd_140); (case hl_140 => exact rfl); (case hd_140 => decide +kernel); (case hv_140 => none_booked)
    (with_reducible refine' wA_cons ?h_141 ?hs_141); (case hs_141 => (intro _; exact rfl))
    (with_reducible refine' wE_local ?hv_142 ?h_142 ?hl_142 ?hd_142); (case hl_142 => exact rfl); (case hd_142 => decide +kernel); (case hv_142 => none_booked)
    (with_reducible refine' wA_cons ?h_143 ?hs_143); (case hs_143 => (intro _; exact rfl))
    (with_reducible refine' wE_local ?hv_144 ?h_144 ?hl_144 ?hd_144); (case hl_144 => exact rfl); (case hd_144 => decide +kernel); (case hv_144 => none_booked)
    with_reducible refine' wA_nil ?_
    refine op_pure (t_law_quotient 5 n o (by decide) ho) (by decide) fun r hr => ?_
    with_reducible refine' exR ?_
    exact hr
  · (with_reducible refine' iteNo ?hp_147 ?h1_147); (case hp_147 => decide)
    with_reducible refine' wS_nil ?_
    with_reducible refine' wS_cons ?_
    with_reducible refine' wX_if ?_
    (with_reducible refine' wT_cmp ?h_151 ?hm_151); (case hm_151 => with_unfolding_all exact rfl)
    (with_reducible refine' wE_local ?hv_152 ?h_152 ?hl_152 ?hd_152); (case hl_152 => exact rfl); (case hd_152 => decide +kernel); (case hv_152 => none_booked)
    with_reducible refine' wE_int ?_
    with_reducible refine' c_lt ?_
    with_reducible refine' exTB ?_
    (with_reducible refine' iteNo ?hp_156 ?h1_156); (case hp_156 => decide)
    with_reducible refine' wS_nil ?_
    with_reducible refine' wS_cons ?_
    with_reducible refine' wX_if ?_
    (with_reducible refine' wT_cmp ?h_160 ?hm_160); (case hm_160 => with_unfolding_all exact rfl)
    (with_reducible refine' wE_local ?hv_161 ?h_161 ?hl_161 ?hd_161); (case hl_161 => exact rfl); (case hd_161 => decide +kernel); (case hv_161 => none_booked)
    with_reducible refine' wE_int ?_
    with_reducible refine' c_lt ?_
    with_reducible refine' exTB ?_
    (with_reducible refine' iteYes ?hp_165 ?h1_165); (case hp_165 => decide)
    with_reducible refine' wS_cons ?_
    with_reducible refine' wX_return ?_
    with_reducible refine' wE_ifexp ?_
    (with_reducible refine' wT_cmp ?h_169 ?hm_169); (case hm_169 => with_unfolding_all exact rfl)
    (with_reducible refine' wE_local ?hv_170 ?h_170 ?hl_170 ?hd_170); (case hl_170 => exact rfl); (case hd_170 => decide +kernel); (case hv_170 => none_booked)
    with_reducible refine' wE_int ?_
    with_reducible refine' c_eq ?_
    with_reducible refine' exTB ?_
    (with_reducible refine' iteEqY ?hp_174 ?h1_174); (case hp_174 => decide)
    with_reducible refine' wE_binop ?_
    (with_reducible refine' wE_local ?hv_176 ?h_176 ?hl_176 ?hd_176); (case hl_176 => exact rfl); (case hd_176 => decide +kernel); (case hv_176 => none_booked)
    with_reducible refine' wE_binop ?_
    with_reducible refine' wE_int ?_
    (with_reducible refine' wE_local ?hv_179 ?h_179 ?hl_179 ?hd_179); (case hl_179 => exact rfl); (case hd_179 => decide +kernel); (case hv_179 => none_booked)
    (with_reducible refine' o_pow2 ?h1_180 ?h_180); (case h1_180 => (first | lia | omega))
    refine o_mulR (by (first | lia | omega)) ?_
    with_reducible refine' exR ?_
    rfl
  · (with_reducible refine' iteNo ?hp_182 ?h1_182); (case hp_182 => decide)
    with_reducible refine' wS_nil ?_
    with_reducible refine' wS_cons ?_
    with_reducible refine' wX_if ?_
    (with_reducible refine' wT_cmp ?h_186 ?hm_186); (case hm_186 => with_unfolding_all exact rfl)
    (with_reducible refine' wE_local ?hv_187 ?h_187 ?hl_187 ?hd_187); (case hl_187 => exact rfl); (case hd_187 => decide +kernel); (case hv_187 => none_booked)
    with_reducible refine' wE_int ?_
    with_reducible refine' c_lt ?_
    with_reducible refine' exTB ?_
    (with_reducible refine' iteNo ?hp_191 ?h1_191); (case hp_191 => decide)
    with_reducible refine' wS_nil ?_
    with_reducible refine' wS_cons ?_
    with_reducible refine' wX_if ?_
    (with_reducible refine' wT_cmp ?h_195 ?hm_195); (case hm_195 => with_unfolding_all exact rfl)
    (with_reducible refine' wE_local ?hv_196 ?h_196 ?hl_196 ?hd_196); (case hl_196 => exact rfl); (case hd_196 => decide +kernel); (case hv_196 => none_booked)
    with_reducible refine' wE_int ?_
    with_reducible refine' c_lt ?_
    with_reducible refine' exTB ?_
    (with_reducible refine' iteYes ?hp_200 ?h1_200); (case hp_200 => decide)
    with_reducible refine' wS_cons ?_
    with_reducible refine' wX_return ?_
    with_reducible refine' wE_ifexp ?_
    (with_reducible refine' wT_cmp ?h_204 ?hm_204); (case hm_204 => with_unfolding_all exact rfl)
    (with_reducible refine' wE_local ?hv_205 ?h_205 ?hl_205 ?hd_205); (case hl_205 => exact rfl); (case hd_205 => decide +kernel); (case hv_205 => none_booked)
    with_reducible refine' wE_int ?_
    with_reducible refine' c_eq ?_
    with_reducible refine' exTB ?_
    (with_reducible refine' iteEqN ?hp_209 ?h1_209); (case hp_209 => decide)
    with_reducible refine' wE_binop ?_
    (with_reducible refine' wE_local ?hv_211 ?h_211 ?hl_211 ?hd_211); (case hl_211 => exact rfl); (case hd_211 => decide +kernel); (case hv_211 => none_booked)
    with_reducible refine' wE_binop ?_
    with_reducible refine' wE_int ?_
    (with_reducible refine' wE_local ?hv_214 ?h_214 ?hl_214 ?hd_214); (case hl_214 => exact rfl); (case hd_214 => decide +kernel); (case hv_214 => none_booked)
    (with_reducible refine' o_pow2 ?h1_215 ?h_215); (case h1_215 => (first | lia | omega))
    (with_reducible refine' o_div ?h1_216 ?h2_216 ?h_216); (case h1_216 => (first | lia | omega)); (case h2_216 => (first | lia | omega))
    with_reducible refine' exR ?_
    rfl
  · (with_reducible refine' iteNo ?hp_218 ?h1_218); (case hp_218 => decide)
    with_reducible refine' wS_nil ?_
    with_reducible refine' wS_cons ?_
    with_reducible refine' wX_if ?_
    (with_reducible refine' wT_cmp ?h_222 ?hm_222); (case hm_222 => with_unfolding_all exact rfl)
    (with_reducible refine' wE_local ?hv_223 ?h_223 ?hl_223 ?hd_223); (case hl_223 => exact rfl); (case hd_223 => decide +kernel); (case hv_223 => none_booked)
    with_reducible refine' wE_int ?_
    with_reducible refine' c_lt ?_
    with_reducible refine' exTB ?_
    (with_reducible refine' iteNo ?hp_227 ?h1_227); (case hp_227 => decide)
    with_reducible refine' wS_nil ?_
    with_reducible refine' wS_cons ?_
    with_reducible refine' wX_if ?_
    (with_reducible refine' wT_cmp ?h_231 ?hm_231); (case hm_231 => with_unfolding_all exact rfl)
    (with_reducible refine' wE_local ?hv_232 ?h_232 ?hl_232 ?hd_232); (case hl_232 => exact rfl); (case hd_232 => decide +kernel); (case hv_232 => none_booked)
    with_reducible refine' wE_int ?_
    with_reducible refine' c_lt ?_
    with_reducible refine' exTB ?_
    (with_reducible refine' iteNo ?hp_236 ?h1_236); (case hp_236 => decide)
    with_reducible refine' wS_nil ?_
    with_reducible refine' wS_cons ?_
    with_reducible refine' wX_return ?_
    with_reducible refine' wE_ifexp ?_
    (with_reducible refine' wT_cmp ?h_241 ?hm_241); (case hm_241 => with_unfolding_all exact rfl)
    (with_reducible refine' wE_local ?hv_242 ?h_242 ?hl_242 ?hd_242); (case hl_242 => exact rfl); (case hd_242 => decide +kernel); (case hv_242 => none_booked)
    with_reducible refine' wE_int ?_
    with_reducible refine' c_eq ?_
    with_reducible refine' exTB ?_
    (with_reducible refine' iteEqY ?hp_246 ?h1_246); (case hp_246 => decide)
    with_reducible refine' wE_binop ?_
    with_reducible refine' wE_int ?_
    (with_reducible refine' wE_local ?hv_249 ?h_249 ?hl_249 ?hd_249); (case hl_249 => exact rfl); (case hd_249 => decide +kernel); (case hv_249 => none_booked)
    with_reducible refine' o_sub ?_
    with_reducible refine' exR ?_
    rw [Int.zero_sub]; rfl
  · (with_reducible refine' iteNo ?hp_252 ?h1_252); (case hp_252 => decide)
    with_reducible refine' wS_nil ?_
    with_reducible refine' wS_cons ?_
    with_reducible refine' wX_if ?_
    (with_reducible refine' wT_cmp ?h_256 ?hm_256); (case hm_256 => with_unfolding_all exact rfl)
    (with_reducible refine' wE_local ?hv_257 ?h_257 ?hl_257 ?hd_257); (case hl_257 => exact rfl); (case hd_257 => decide +kernel); (case hv_257 => none_booked)
    with_reducible refine' wE_int ?_
    with_reducible refine' c_lt ?_
    with_reducible refine' exTB ?_
    (with_reducible refine' iteNo ?hp_261 ?h1_261); (case hp_261 => decide)
    with_reducible refine' wS_nil ?_
    with_reducible refine' wS_cons ?_
    with_reducible refine' wX_if ?_
    (with_reducible refine' wT_cmp ?h_265 ?hm_265); (case hm_265 => with_unfolding_all exact rfl)
    (with_reducible refine' wE_local ?hv_266 ?h_266 ?hl_266 ?hd_266); (case hl_266 => exact rfl); (case hd_266 => decide +kernel); (case hv_266 => none_booked)
    with_reducible refine' wE_int ?_
    with_reducible refine' c_lt ?_
    with_reducible refine' exTB ?_
    (with_reducible refine' iteNo ?hp_270 ?h1_270); (case hp_270 => decide)
    with_reducible refine' wS_nil ?_
    with_reducible refine' wS_cons ?_
    with_reducible refine' wX_return ?_
    with_reducible refine' wE_ifexp ?_
    (with_reducible refine' wT_cmp ?h_275 ?hm_275); (case hm_275 => with_unfolding_all exact rfl)
    (with_reducible refine' wE_local ?hv_276 ?h_276 ?hl_276 ?hd_276); (case hl_276 => exact rfl); (case hd_276 => decide +kernel); (case hv_276 => none_booked)
    with_reducible refine' wE_int ?_
    with_reducible refine' c_eq ?_
    with_reducible refine' exTB ?_
    (with_reducible refine' iteEqN ?hp_280 ?h1_280); (case hp_280 => decide)
    with_reducible refine' wE_binop ?_
    (with_reducible refine' wE_local ?hv_282 ?h_282 ?hl_282 ?hd_282); (case hl_282 => exact rfl); (case hd_282 => decide +kernel); (case hv_282 => none_booked)
    with_reducible refine' wE_int ?_
    (with_reducible refine' o_div ?h1_284 ?h2_284 ?h_284); (case h1_284 => (first | lia | omega)); (case h2_284 => (first | lia | omega))
    with_reducible refine' exR ?_
    rfl
end
section
variable {g : G PP} {c : Cx} {S : St}
/-- of a size that leaves room for two deeds more -/
noncomputable def Tm (z : Int) : Prop := z.natAbs ≤ 2 ^ 150
theorem Tm.sm {z : Int} (h : Tm z) : Sm z := by unfold Tm at h; unfold Sm; (first | lia | omega)
theorem sm_of {z : Int} (h : z.natAbs ≤ 512 * 2 ^ 150) : Sm z := by unfold Sm; (first | lia | omega)
theorem sm_of2 {z : Int} (h : z.natAbs ≤ 512 * (512 * 2 ^ 150)) : Sm z := by unfold Sm; (first | lia | omega)
theorem sm_of3 {z : Int} (h : z.natAbs ≤ 512 * (512 * (512 * 2 ^ 150))) : Sm z := by unfold Sm; (first | lia | omega)
theorem due_sm {f n o : Int} {m : Nat} (ho : o ≠ 0 ∧ o.natAbs ≤ 63) (hm : m ≤ 9) (hn : Tm n) : (due f n o m).natAbs ≤ 512 * 2 ^ 150 := due_le ho hm hn (by decide)
theorem mul_le {a o : Int} {N : Nat} (ha : a.natAbs ≤ N) (ho : o.natAbs ≤ 512) : (a * o).natAbs ≤ 512 * N := by
  rw [Int.natAbs_mul]
  have := Nat.mul_le_mul ha ho
  (first | lia | omega)
theorem t_s_shift_dn (w : Nat) (hw : 1 ≤ w ∧ w ≤ 29) (v : V) (x : Int) (s : Nat) (hv : Num w v x) (hx : Sm x) (hs : s ≤ 100) :
    GCall g (g.fa "s_shift") 3 [v, .int (0 - (s : Int)), .int w] (fun _ => none) (fun r _ => Num w r (x / 2 ^ s)) := by
  by_cases h : s = 0
  · subst h
    have := t_s_shift_up (g := g) w hw v x 0 hv hx (by decide)
    simpa using this
  · have := t_s_shift_down (g := g) w hw v x s hv hx (by (first | lia | omega))
    rw [Int.zero_sub]
    exact this
theorem Lost.mid {w : Nat} {f n o : Int} {m : Nat} {b : V} (hf : 3 ≤ f ∧ f ≤ 5) (h : Num w b (n - due f n o m * o)) : Lost w f b n o m := by unfold Lost; rw [if_pos hf]; exact h
theorem t_law_done (w : Nat) (hw : 4 ≤ w ∧ w ≤ 29) (f n o : Int) (m : Nat) (x y : V) (hf : 0 ≤ f ∧ f < 10) (hx : Num w x n) (hy : Num w y o) (hn : Tm n) (ho : o ≠ 0 ∧ o.natAbs ≤ 63) (hm : m ≤ 9) (h9 : f = 9 → n % 2 = 0) :
    GCall g (g.fa "_law_done") 8 [.tup [.int f, y, .int m], x, .int w] (fun _ => none) (fun r _ => ∃ a b, r = .tup [a, b] ∧ Num w a (due f n o m) ∧ Lost w f b n o m) := by
  have hw' : 1 ≤ w ∧ w ≤ 29 := by (first | lia | omega)
  have hp := pow_512 hm
  have hp0 : (0:Int) < 2 ^ m := Int.pow_pos (by decide)
  have hns := hn.sm
  have hos : Sm o := by unfold Sm; (first | lia | omega)
  have hd := due_sm (f := f) ho hm hn
  refine' gcall (d := dOf 31) (dOf_mem 31 (by decide)) (hbody := ?enB) (hscope := ?enS) (hparams := ?enP) (hname := rfl) (names := ["deed", "x", "w"]) (hk := ?enK) (hbind := ?enI) (hloc := ?enL) (h := ?enH) (hco := ?enC) (hgen := ?enG) (hcell := ?enE)
  case enB => (conv => lhs; whnf)
  case enS => (conv => lhs; whnf)
  case enP => (conv => lhs; whnf)
  case enK => rfl
  case enI => exact args3 fun _ _ _ _ _ _ => rfl
  case enL => decide +kernel
  case enC => rfl
  case enG => rfl
  case enE => decide +kernel
  with_reducible refine' wS_cons ?_
  (with_reducible refine' wX_unpack3 ?h_2 ?h1_2 ?h2_2 ?h5_2 ?h3_2 ?h4_2); (case h4_2 => (intros; exact rfl)); (case h1_2 => exact rfl); (case h2_2 => exact rfl); (case h5_2 => exact rfl); (case h3_2 => (intros; exact rfl))
  (with_reducible refine' wE_local ?hv_3 ?h_3 ?hl_3 ?hd_3); (case hl_3 => exact rfl); (case hd_3 => decide +kernel); (case hv_3 => none_booked)
  with_reducible refine' exT3 ?_
  with_reducible refine' wS_cons ?_
  with_reducible refine' wX_if ?_
  (with_reducible refine' wT_cmp ?h_7 ?hm_7); (case hm_7 => with_unfolding_all exact rfl)
  (with_reducible refine' wE_local ?hv_8 ?h_8 ?hl_8 ?hd_8); (case hl_8 => exact rfl); (case hd_8 => decide +kernel); (case hv_8 => none_booked)
  with_reducible refine' wE_int ?_
  with_reducible refine' c_lt ?_
  with_reducible refine' exTB ?_
  rcases ten hf with rfl | rfl | rfl | rfl | rfl | rfl | rfl | rfl | rfl | rfl
  · (with_reducible refine' iteYes ?hp_12 ?h1_12); (case hp_12 => decide)
    with_reducible refine' wS_cons ?_
    with_reducible refine' wX_return ?_
    with_reducible refine' wE_tuple ?_
    (with_reducible refine' wA_cons ?h_16 ?hs_16); (case hs_16 => (intro _; exact rfl))
    refine wE_callD (fa_def (x := "s_add") (by decide +kernel)).2 ?_
    with_reducible refine' wE_sub ?_
    with_reducible refine' wE_listOf ?_
    (with_reducible refine' wA_cons ?h_19 ?hs_19); (case hs_19 => (intro _; exact rfl))
    (with_reducible refine' wE_fn ?h_20 ?h1_20 ?h2_20 ?h3_20); (case h2_20 => exact rfl); (case h1_20 => decide +kernel); (case h3_20 => decide +kernel)
    (with_reducible refine' wA_cons ?h_21 ?hs_21); (case hs_21 => (intro _; exact rfl))
    (with_reducible refine' wE_fn ?h_22 ?h1_22 ?h2_22 ?h3_22); (case h2_22 => exact rfl); (case h1_22 => decide +kernel); (case h3_22 => decide +kernel)
    with_reducible refine' wA_nil ?_
    (with_reducible refine' andLen ?h1_24 ?h_24); (case h1_24 => (simp; done))
    (with_reducible refine' wE_local ?hv_25 ?h_25 ?hl_25 ?hd_25); (case hl_25 => exact rfl); (case hd_25 => decide +kernel); (case hv_25 => none_booked)
    (with_reducible refine' s_list ?hx_26 ?h0_26 ?hsz_26 ?h_26 ?hs_26); (case hs_26 => (intro _ _; exact rfl)); (case h0_26 => (simp; done)); (case hx_26 => exact rfl); (case hsz_26 => (simp; done))
    with_reducible refine' andLit ?_
    (with_reducible refine' wA_cons ?h_28 ?hs_28); (case hs_28 => (intro _; exact rfl))
    (with_reducible refine' wE_local ?hv_29 ?h_29 ?hl_29 ?hd_29); (case hl_29 => exact rfl); (case hd_29 => decide +kernel); (case hv_29 => none_booked)
    (with_reducible refine' wA_cons ?h_30 ?hs_30); (case hs_30 => (intro _; exact rfl))
    (with_reducible refine' wE_local ?hv_31 ?h_31 ?hl_31 ?hd_31); (case hl_31 => exact rfl); (case hd_31 => decide +kernel); (case hv_31 => none_booked)
    (with_reducible refine' wA_cons ?h_32 ?hs_32); (case hs_32 => (intro _; exact rfl))
    (with_reducible refine' wE_local ?hv_33 ?h_33 ?hl_33 ?hd_33); (case hl_33 => exact rfl); (case hd_33 => decide +kernel); (case hv_33 => none_booked)
    with_reducible refine' wA_nil ?_
    refine op_pure (t_s_add w hw' x y n o hx hy hns hos) (by decide) fun r hr => ?_
    (with_reducible refine' wA_cons ?h_35 ?hs_35); (case hs_35 => (intro _; exact rfl))
    with_reducible refine' wE_none ?_
    with_reducible refine' wA_nil ?_
    (with_reducible refine' andLen ?h1_38 ?h_38); (case h1_38 => (simp; done))
    with_reducible refine' exR ?_
    with_reducible refine' exT2 ?_
    exact ⟨hr, rfl⟩
  · (with_reducible refine' iteYes ?hp_41 ?h1_41); (case hp_41 => decide)
    with_reducible refine' wS_cons ?_
    with_reducible refine' wX_return ?_
    with_reducible refine' wE_tuple ?_
    (with_reducible refine' wA_cons ?h_45 ?hs_45); (case hs_45 => (intro _; exact rfl))
    refine wE_callD (fa_def (x := "s_sub") (by decide +kernel)).2 ?_
    with_reducible refine' wE_sub ?_
    with_reducible refine' wE_listOf ?_
    (with_reducible refine' wA_cons ?h_48 ?hs_48); (case hs_48 => (intro _; exact rfl))
    (with_reducible refine' wE_fn ?h_49 ?h1_49 ?h2_49 ?h3_49); (case h2_49 => exact rfl); (case h1_49 => decide +kernel); (case h3_49 => decide +kernel)
    (with_reducible refine' wA_cons ?h_50 ?hs_50); (case hs_50 => (intro _; exact rfl))
    (with_reducible refine' wE_fn ?h_51 ?h1_51 ?h2_51 ?h3_51); (case h2_51 => exact rfl); (case h1_51 => decide +kernel); (case h3_51 => decide +kernel)
    with_reducible refine' wA_nil ?_
    (with_reducible refine' andLen ?h1_53 ?h_53); (case h1_53 => (simp; done))
    (with_reducible refine' wE_local ?hv_54 ?h_54 ?hl_54 ?hd_54); (case hl_54 => exact rfl); (case hd_54 => decide +kernel); (case hv_54 => none_booked)
    (with_reducible refine' s_list ?hx_55 ?h0_55 ?hsz_55 ?h_55 ?hs_55); (case hs_55 => (intro _ _; exact rfl)); (case h0_55 => (simp; done)); (case hx_55 => exact rfl); (case hsz_55 => (simp; done))
    with_reducible refine' andLit ?_
    (with_reducible refine' wA_cons ?h_57 ?hs_57); (case hs_57 => (intro _; exact rfl))
    (with_reducible refine' wE_local ?hv_58 ?h_58 ?hl_58 ?hd_58); (case hl_58 => exact rfl); (case hd_58 => decide +kernel); (case hv_58 => none_booked)
    (with_reducible refine' wA_cons ?h_59 ?hs_59); (case hs_59 => (intro _; exact rfl))
    (with_reducible refine' wE_local ?hv_60 ?h_60 ?hl_60 ?hd_60); (case hl_60 => exact rfl); (case hd_60 => decide +kernel); (case hv_60 => none_booked)
    (with_reducible refine' wA_cons ?h_61 ?hs_61); (case hs_61 => (intro _; exact rfl))
    (with_reducible refine' wE_local ?hv_62 ?h_62 ?hl_62 ?hd_62); (case hl_62 => exact rfl); (case hd_62 => decide +kernel); (case hv_62 => none_booked)
    with_reducible refine' wA_nil ?_
    refine op_pure (t_s_sub w hw' x y n o hx hy hns hos) (by decide) fun r hr => ?_
    (with_reducible refine' wA_cons ?h_64 ?hs_64); (case hs_64 => (intro _; exact rfl))
    with_reducible refine' wE_none ?_
    with_reducible refine' wA_nil ?_
    (with_reducible refine' andLen ?h1_67 ?h_67); (case h1_67 => (simp; done))
    with_reducible refine' exR ?_
    with_reducible refine' exT2 ?_
    exact ⟨hr, rfl⟩
  · (with_reducible refine' iteNo ?hp_70 ?h1_70); (case hp_70 => decide)
    with_reducible refine' wS_nil ?_
    with_reducible refine' wS_cons ?_
    with_reducible refine' wX_if ?_
    (with_reducible refine' wT_cmp ?h_74 ?hm_74); (case hm_74 => with_unfolding_all exact rfl)
    (with_reducible refine' wE_local ?hv_75 ?h_75 ?hl_75 ?hd_75); (case hl_75 => exact rfl); (case hd_75 => decide +kernel); (case hv_75 => none_booked)
    with_reducible refine' wE_int ?_
    with_reducible refine' c_eq ?_
    with_reducible refine' exTB ?_
    (with_reducible refine' iteEqY ?hp_79 ?h1_79); (case hp_79 => decide)
    with_reducible refine' wS_cons ?_
    with_reducible refine' wX_return ?_
    with_reducible refine' wE_tuple ?_
    (with_reducible refine' wA_cons ?h_83 ?hs_83); (case hs_83 => (intro _; exact rfl))
    (with_reducible refine' wE_def ?h_84 ?h1_84 ?h2_84 ?h3_84 ?h4_84 ?h5_84); (case h1_84 => decide +kernel); (case h2_84 => exact rfl); (case h3_84 => decide +kernel); (case h4_84 => (intro _; exact rfl)); (case h5_84 => (intro _; exact ⟨_, _, rfl, rfl⟩))
    (with_reducible refine' wA_cons ?h_85 ?hs_85); (case hs_85 => (intro _; exact rfl))
    (with_reducible refine' wE_local ?hv_86 ?h_86 ?hl_86 ?hd_86); (case hl_86 => exact rfl); (case hd_86 => decide +kernel); (case hv_86 => none_booked)
    (with_reducible refine' wA_cons ?h_87 ?hs_87); (case hs_87 => (intro _; exact rfl))
    (with_reducible refine' wE_local ?hv_88 ?h_88 ?hl_88 ?hd_88); (case hl_88 => exact rfl); (case hd_88 => decide +kernel); (case hv_88 => none_booked)
    (with_reducible refine' wA_cons ?h_89 ?hs_89); (case hs_89 => (intro _; exact rfl))
    (with_reducible refine' wE_local ?hv_90 ?h_90 ?hl_90 ?hd_90); (case hl_90 => exact rfl); (case hd_90 => decide +kernel); (case hv_90 => none_booked)
    (with_reducible refine' wA_cons ?h_91 ?hs_91); (case hs_91 => (intro _; exact rfl))
    (with_reducible refine' wE_fn ?h_92 ?h1_92 ?h2_92 ?h3_92); (case h2_92 => exact rfl); (case h1_92 => decide +kernel); (case h3_92 => decide +kernel)
    with_reducible refine' wA_nil ?_
    refine op_pure (t_s_mul w hw' x y n o hx hy hns hos) (by decide) fun r hr => ?_
    (with_reducible refine' wA_cons ?h_94 ?hs_94); (case hs_94 => (intro _; exact rfl))
    with_reducible refine' wE_none ?_
    with_reducible refine' wA_nil ?_
    (with_reducible refine' andLen ?h1_97 ?h_97); (case h1_97 => (simp; done))
    with_reducible refine' exR ?_
    with_reducible refine' exT2 ?_
    exact ⟨hr, rfl⟩
  · (with_reducible refine' iteNo ?hp_100 ?h1_100); (case hp_100 => decide)
    with_reducible refine' wS_nil ?_
    with_reducible refine' wS_cons ?_
    with_reducible refine' wX_if ?_
    (with_reducible refine' wT_cmp ?h_104 ?hm_104); (case hm_104 => with_unfolding_all exact rfl)
    (with_reducible refine' wE_local ?hv_105 ?h_105 ?hl_105 ?hd_105); (case hl_105 => exact rfl); (case hd_105 => decide +kernel); (case hv_105 => none_booked)
    with_reducible refine' wE_int ?_
    with_reducible refine' c_eq ?_
    with_reducible refine' exTB ?_
    (with_reducible refine' iteEqN ?hp_109 ?h1_109); (case hp_109 => decide)
    with_reducible refine' wS_nil ?_
    with_reducible refine' wS_cons ?_
    with_reducible refine' wX_if ?_
    (with_reducible refine' wT_cmp ?h_113 ?hm_113); (case hm_113 => with_unfolding_all exact rfl)
    (with_reducible refine' wE_local ?hv_114 ?h_114 ?hl_114 ?hd_114); (case hl_114 => exact rfl); (case hd_114 => decide +kernel); (case hv_114 => none_booked)
    with_reducible refine' wE_int ?_
    with_reducible refine' c_lt ?_
    with_reducible refine' exTB ?_
    (with_reducible refine' iteYes ?hp_118 ?h1_118); (case hp_118 => decide)
    with_reducible refine' wS_cons ?_
    with_reducible refine' wX_return ?_
    refine wE_callD (fa_def (x := "tdiv") (by decide +kernel)).2 ?_
    with_reducible refine' wE_sub ?_
    with_reducible refine' wE_listOf ?_
    (with_reducible refine' wA_cons ?h_123 ?hs_123); (case hs_123 => (intro _; exact rfl))
    (with_reducible refine' wE_fn ?h_124 ?h1_124 ?h2_124 ?h3_124); (case h2_124 => exact rfl); (case h1_124 => decide +kernel); (case h3_124 => decide +kernel)
    (with_reducible refine' wA_cons ?h_125 ?hs_125); (case hs_125 => (intro _; exact rfl))
    (with_reducible refine' wE_fn ?h_126 ?h1_126 ?h2_126 ?h3_126); (case h2_126 => exact rfl); (case h1_126 => decide +kernel); (case h3_126 => decide +kernel)
    (with_reducible refine' wA_cons ?h_127 ?hs_127); (case hs_127 => (intro _; exact rfl))
    (with_reducible refine' wE_fn ?h_128 ?h1_128 ?h2_128 ?h3_128); (case h2_128 => exact rfl); (case h1_128 => decide +kernel); (case h3_128 => decide +kernel)
    with_reducible refine' wA_nil ?_
    (with_reducible refine' andLen ?h1_130 ?h_130); (case h1_130 => (simp; done))
    with_reducible refine' wE_binop ?_
    (with_reducible refine' wE_local ?hv_132 ?h_132 ?hl_132 ?hd_132); (case hl_132 => exact rfl); (case hd_132 => decide +kernel); (case hv_132 => none_booked)
    with_reducible refine' wE_int ?_
    with_reducible refine' o_sub ?_
    (with_reducible refine' s_list ?hx_135 ?h0_135 ?hsz_135 ?h_135 ?hs_135); (case hs_135 => (intro _ _; exact rfl)); (case h0_135 => (simp; done)); (case hx_135 => exact rfl); (case hsz_135 => (simp; done))
    with_reducible refine' andLit ?_
    (with_reducible refine' wA_cons ?h_137 ?hs_137); (case hs_137 => (intro _; exact rfl))
    (with_reducible refine' wE_local ?hv_138 ?h_138 ?hl_138 ?hd_138); (case hl_138 => exact rfl); (case hd_138 => decide +kernel); (case hv_138 => none_booked)
    (with_reducible refine' wA_cons ?h_139 ?hs_139); (case hs_139 => (intro _; exact rfl))
    (with_reducible refine' wE_local ?hv_140 ?h_140 ?hl_140 ?hd_140); (case hl_140 => exact rfl); (case hd_140 => decide +kernel); (case hv_140 => none_booked)
    (with_reducible refine' wA_cons ?h_141 ?hs_141); (case hs_141 => (intro _; exact rfl))
    (with_reducible refine' wE_local ?hv_142 ?h_142 ?hl_142 ?hd_142); (case hl_142 => exact rfl); (case hd_142 => decide +kernel); (case hv_142 => none_booked)
    (with_reducible refine' wA_cons ?h_143 ?hs_143); (case hs_143 => (intro _; exact rfl))
    (with_reducible refine' wE_fn ?h_144 ?h1_144 ?h2_144 ?h3_144); (case h2_144 => exact rfl); (case h1_144 => decide +kernel); (case h3_144 => decide +kernel)
    with_reducible refine' wA_nil ?_
    refine op_pure (t_tdiv w hw x y n o hx hy hns ho) (by decide) fun r hr => ?_
    obtain ⟨a, b, rfl, ha, hb⟩ := hr
    with_reducible refine' exR ?_
    with_reducible refine' exT2 ?_
    exact ⟨ha, Lost.mid (by decide) hb⟩
  · (with_reducible refine' iteNo ?hp_148 ?h1_148); (case hp_148 => decide)
    with_reducible refine' wS_nil ?_
    with_reducible refine' wS_cons ?_
    with_reducible refine' wX_if ?_
    (with_reducible refine' wT_cmp ?h_152 ?hm_152); (case hm_152 => with_unfolding_all exact rfl)
    (with_reducible refine' wE_local ?hv_153 ?h_153 ?hl_153 ?hd_153); (case hl_153 => exact rfl); (case hd_153 => decide +kernel); (case hv_153 => none_booked)
    with_reducible refine' wE_int ?_
    with_reducible refine' c_eq ?_
    with_reducible refine' exTB ?_
    (with_reducible refine' iteEqN ?hp_157 ?h1_157); (case hp_157 => decide)
    with_reducible refine' wS_nil ?_
    with_reducible refine' wS_cons ?_
    with_reducible refine' wX_if ?_
    (with_reducible refine' wT_cmp ?h_161 ?hm_161); (case hm_161 => with_unfolding_all exact rfl)
    (with_reducible refine' wE_local ?hv_162 ?h_162 ?hl_162 ?hd_162); (case hl_162 => exact rfl); (case hd_162 => decide +kernel); (case hv_162 => none_booked)
    with_reducible refine' wE_int ?_
    with_reducible refine' c_lt ?_
    with_reducible refine' exTB ?_
    (with_reducible refine' iteYes ?hp_166 ?h1_166); (case hp_166 => decide)
    with_reducible refine' wS_cons ?_
    with_reducible refine' wX_return ?_
    refine wE_callD (fa_def (x := "fdiv") (by decide +kernel)).2 ?_
    with_reducible refine' wE_sub ?_
    with_reducible refine' wE_listOf ?_
    (with_reducible refine' wA_cons ?h_171 ?hs_171); (case hs_171 => (intro _; exact rfl))
    (with_reducible refine' wE_fn ?h_172 ?h1_172 ?h2_172 ?h3_172); (case h2_172 => exact rfl); (case h1_172 => decide +kernel); (case h3_172 => decide +kernel)
    (with_reducible refine' wA_cons ?h_173 ?hs_173); (case hs_173 => (intro _; exact rfl))
    (with_reducible refine' wE_fn ?h_174 ?h1_174 ?h2_174 ?h3_174); (case h2_174 => exact rfl); (case h1_174 => decide +kernel); (case h3_174 => decide +kernel)
    (with_reducible refine' wA_cons ?h_175 ?hs_175); (case hs_175 => (intro _; exact rfl))
    (with_reducible refine' wE_fn ?h_176 ?h1_176 ?h2_176 ?h3_176); (case h2_176 => exact rfl); (case h1_176 => decide +kernel); (case h3_176 => decide +kernel)
    with_reducible refine' wA_nil ?_
    (with_reducible refine' andLen ?h1_178 ?h_178); (case h1_178 => (simp; done))
    with_reducible refine' wE_binop ?_
    (with_reducible refine' wE_local ?hv_180 ?h_180 ?hl_180 ?hd_180); (case hl_180 => exact rfl); (case hd_180 => decide +kernel); (case hv_180 => none_booked)
    with_reducible refine' wE_int ?_
    with_reducible refine' o_sub ?_
    (with_reducible refine' s_list ?hx_183 ?h0_183 ?hsz_183 ?h_183 ?hs_183); (case hs_183 => (intro _ _; exact rfl)); (case h0_183 => (simp; done)); (case hx_183 => exact rfl); (case hsz_183 => (simp; done))
    with_reducible refine' andLit ?_
    (with_reducible refine' wA_cons ?h_185 ?hs_185); (case hs_185 => (intro _; exact rfl))
    (with_reducible refine' wE_local ?hv_186 ?h_186 ?hl_186 ?hd_186); (case hl_186 => exact rfl); (case hd_186 => decide +kernel); (case hv_186 => none_booked)
    (with_reducible refine' wA_cons ?h_187 ?hs_187); (case hs_187 => (intro _; exact rfl))
    (with_reducible refine' wE_local ?hv_188 ?h_188 ?hl_188 ?hd_188); (case hl_188 => exact rfl); (case hd_188 => decide +kernel); (case hv_188 => none_booked)
    (with_reducible refine' wA_cons ?h_189 ?hs_189); (case hs_189 => (intro _; exact rfl))
    (with_reducible refine' wE_local ?hv_190 ?h_190 ?hl_190 ?hd_190); (case hl_190 => exact rfl); (case hd_190 => decide +kernel); (case hv_190 => none_booked)
    (with_reducible refine' wA_cons ?h_191 ?hs_191); (case hs_191 => (intro _; exact rfl))
    (with_reducible refine' wE_fn ?h_192 ?h1_192 ?h2_192 ?h3_192); (case h2_192 => exact rfl); (case h1_192 => decide +kernel); (case h3_192 => decide +kernel)
    with_reducible refine' wA_nil ?_
    refine op_pure (t_fdiv w hw x y n o hx hy hns ho) (by decide) fun r hr => ?_
    obtain ⟨a, b, rfl, ha, hb⟩ := hr
    with_reducible refine' exR ?_
    with_reducible refine' exT2 ?_
    exact ⟨ha, Lost.mid (by decide) hb⟩
  · (with_reducible refine' iteNo ?hp_196 ?h1_196); (case hp_196 => decide)
    with_reducible refine' wS_nil ?_
    with_reducible refine' wS_cons ?_
    with_reducible refine' wX_if ?_
    (with_reducible refine' wT_cmp ?h_200 ?hm_200); (case hm_200 => with_unfolding_all exact rfl)
    (with_reducible refine' wE_local ?hv_201 ?h_201 ?hl_201 ?hd_201); (case hl_201 => exact rfl); (case hd_201 => decide +kernel); (case hv_201 => none_booked)
    with_reducible refine' wE_int ?_
    with_reducible refine' c_eq ?_
    with_reducible refine' exTB ?_
    (with_reducible refine' iteEqN ?hp_205 ?h1_205); (case hp_205 => decide)
    with_reducible refine' wS_nil ?_
    with_reducible refine' wS_cons ?_
    with_reducible refine' wX_if ?_
    (with_reducible refine' wT_cmp ?h_209 ?hm_209); (case hm_209 => with_unfolding_all exact rfl)
    (with_reducible refine' wE_local ?hv_210 ?h_210 ?hl_210 ?hd_210); (case hl_210 => exact rfl); (case hd_210 => decide +kernel); (case hv_210 => none_booked)
    with_reducible refine' wE_int ?_
    with_reducible refine' c_lt ?_
    with_reducible refine' exTB ?_
    (with_reducible refine' iteYes ?hp_214 ?h1_214); (case hp_214 => decide)
    with_reducible refine' wS_cons ?_
    with_reducible refine' wX_return ?_
    refine wE_callD (fa_def (x := "cdiv") (by decide +kernel)).2 ?_
    with_reducible refine' wE_sub ?_
    with_reducible refine' wE_listOf ?_
    (with_reducible refine' wA_cons ?h_219 ?hs_219); (case hs_219 => (intro _; exact rfl))
    (with_reducible refine' wE_fn ?h_220 ?h1_220 ?h2_220 ?h3_220); (case h2_220 => exact rfl); (case h1_220 => decide +kernel); (case h3_220 => decide +kernel)
    (with_reducible refine' wA_cons ?h_221 ?hs_221); (case hs_221 => (intro _; exact rfl))
    (with_reducible refine' wE_fn ?h_222 ?h1_222 ?h2_222 ?h3_222); (case h2_222 => exact rfl); (case h1_222 => decide +kernel); (case h3_222 => decide +kernel)
    (with_reducible refine' wA_cons ?h_223 ?hs_223); (case hs_223 => (intro _; exact rfl))
    (with_reducible refine' wE_fn ?h_224 ?h1_224 ?h2_224 ?h3_224); (case h2_224 => exact rfl); (case h1_224 => decide +kernel); (case h3_224 => decide +kernel)
    with_reducible refine' wA_nil ?_
    (with_reducible refine' andLen ?h1_226 ?h_226); (case h1_226 => (simp; done))
    with_reducible refine' wE_binop ?_
    (with_reducible refine' wE_local ?hv_228 ?h_228 ?hl_228 ?hd_228); (case hl_228 => exact rfl); (case hd_228 => decide +kernel); (case hv_228 => none_booked)
    with_reducible refine' wE_int ?_
    with_reducible refine' o_sub ?_
    (with_reducible refine' s_list ?hx_231 ?h0_231 ?hsz_231 ?h_231 ?hs_231); (case hs_231 => (intro _ _; exact rfl)); (case h0_231 => (simp; done)); (case hx_231 => exact rfl); (case hsz_231 => (simp; done))
    with_reducible refine' andLit ?_
    (with_reducible refine' wA_cons ?h_233 ?hs_233); (case hs_233 => (intro _; exact rfl))
    (with_reducible refine' wE_local ?hv_234 ?h_234 ?hl_234 ?hd_234); (case hl_234 => exact rfl); (case hd_234 => decide +kernel); (case hv_234 => none_booked)
    (with_reducible refine' wA_cons ?h_235 ?hs_235); (case hs_235 => (intro _; exact rfl))
    (with_reducible refine' wE_local ?hv_236 ?h_236 ?hl_236 ?hd_236); (case hl_236 => exact rfl); (case hd_236 => decide +kernel); (case hv_236 => none_booked)
    (with_reducible refine' wA_cons ?h_237 ?hs_237); (case hs_237 => (intro _; exact rfl))
    (with_reducible refine' wE_local ?hv_238 ?h_238 ?hl_238 ?hd_238); (case hl_238 => exact rfl); (case hd_238 => decide +kernel); (case hv_238 => none_booked)
    (with_reducible refine' wA_cons ?h_239 ?hs_239); (case hs_239 => (intro _; exact rfl))
    (with_reducible refine' wE_fn ?h_240 ?h1_240 ?h2_240 ?h3_240); (case h2_240 => exact rfl); (case h1_240 => decide +kernel); (case h3_240 => decide +kernel)
    with_reducible refine' wA_nil ?_
    refine op_pure (t_cdiv w hw x y n o hx hy hns ho) (by decide) fun r hr => ?_
    obtain ⟨a, b, rfl, ha, hb⟩ := hr
    with_reducible refine' exR ?_
    with_reducible refine' exT2 ?_
    exact ⟨ha, Lost.mid (by decide) hb⟩
  · (with_reducible refine' iteNo ?hp_244 ?h1_244); (case hp_244 => decide)
    with_reducible refine' wS_nil ?_
    with_reducible refine' wS_cons ?_
    with_reducible refine' wX_if ?_
    (with_reducible refine' wT_cmp ?h_248 ?hm_248); (case hm_248 => with_unfolding_all exact rfl)
    (with_reducible refine' wE_local ?hv_249 ?h_249 ?hl_249 ?hd_249); (case hl_249 => exact rfl); (case hd_249 => decide +kernel); (case hv_249 => none_booked)
    with_reducible refine' wE_int ?_
    with_reducible refine' c_eq ?_
    with_reducible refine' exTB ?_
    (with_reducible refine' iteEqN ?hp_253 ?h1_253); (case hp_253 => decide)
    with_reducible refine' wS_nil ?_
    with_reducible refine' wS_cons ?_
    with_reducible refine' wX_if ?_
    (with_reducible refine' wT_cmp ?h_257 ?hm_257); (case hm_257 => with_unfolding_all exact rfl)
    (with_reducible refine' wE_local ?hv_258 ?h_258 ?hl_258 ?hd_258); (case hl_258 => exact rfl); (case hd_258 => decide +kernel); (case hv_258 => none_booked)
    with_reducible refine' wE_int ?_
    with_reducible refine' c_lt ?_
    with_reducible refine' exTB ?_
    (with_reducible refine' iteNo ?hp_262 ?h1_262); (case hp_262 => decide)
    with_reducible refine' wS_nil ?_
    with_reducible refine' wS_cons ?_
    with_reducible refine' wX_if ?_
    (with_reducible refine' wT_cmp ?h_266 ?hm_266); (case hm_266 => with_unfolding_all exact rfl)
    (with_reducible refine' wE_local ?hv_267 ?h_267 ?hl_267 ?hd_267); (case hl_267 => exact rfl); (case hd_267 => decide +kernel); (case hv_267 => none_booked)
    with_reducible refine' wE_int ?_
    with_reducible refine' c_eq ?_
    with_reducible refine' exTB ?_
    (with_reducible refine' iteEqY ?hp_271 ?h1_271); (case hp_271 => decide)
    with_reducible refine' wS_cons ?_
    with_reducible refine' wX_return ?_
    with_reducible refine' wE_tuple ?_
    (with_reducible refine' wA_cons ?h_275 ?hs_275); (case hs_275 => (intro _; exact rfl))
    (with_reducible refine' wE_def ?h_276 ?h1_276 ?h2_276 ?h3_276 ?h4_276 ?h5_276); (case h1_276 => decide +kernel); (case h2_276 => exact rfl); (case h3_276 => decide +kernel); (case h4_276 => (intro _; exact rfl)); (case h5_276 => (intro _; exact ⟨_, _, rfl, rfl⟩))
    (with_reducible refine' wA_cons ?h_277 ?hs_277); (case hs_277 => (intro _; exact rfl))
    (with_reducible refine' wE_local ?hv_278 ?h_278 ?hl_278 ?hd_278); (case hl_278 => exact rfl); (case hd_278 => decide +kernel); (case hv_278 => none_booked)
    (with_reducible refine' wA_cons ?h_279 ?hs_279); (case hs_279 => (intro _; exact rfl))
    (with_reducible refine' wE_local ?hv_280 ?h_280 ?hl_280 ?hd_280); (case hl_280 => exact rfl); (case hd_280 => decide +kernel); (case hv_280 => none_booked)
    (with_reducible refine' wA_cons ?h_281 ?hs_281); (case hs_281 => (intro _; exact rfl))
    (with_reducible refine' wE_local ?hv_282 ?h_282 ?hl_282 ?hd_282); (case hl_282 => exact rfl); (case hd_282 => decide +kernel); (case hv_282 => none_booked)
    with_reducible refine' wA_nil ?_
    refine op_pure (t_s_shift_up w hw' x n m hx hns (by (first | lia | omega))) (by decide) fun r hr => ?_
    (with_reducible refine' wA_cons ?h_284 ?hs_284); (case hs_284 => (intro _; exact rfl))
    with_reducible refine' wE_none ?_
    with_reducible refine' wA_nil ?_
    (with_reducible refine' andLen ?h1_287 ?h_287); (case h1_287 => (simp; done))
    with_reducible refine' exR ?_
    with_reducible refine' exT2 ?_
    exact ⟨hr, rfl⟩
  · (with_reducible refine' iteNo ?hp_290 ?h1_290); (case hp_290 => decide)
    with_reducible refine' wS_nil ?_
    with_reducible refine' wS_cons ?_
    with_reducible refine' wX_if ?_
    (with_reducible refine' wT_cmp ?h_294 ?hm_294); (case hm_294 => with_unfolding_all exact rfl)
    (with_reducible refine' wE_local ?hv_295 ?h_295 ?hl_295 ?hd_295); (case hl_295 => exact rfl); (case hd_295 => decide +kernel); (case hv_295 => none_booked)
    with_reducible refine' wE_int ?_
    with_reducible refine' c_eq ?_
    with_reducible refine' exTB ?_
    (with_reducible refine' iteEqN ?hp_299 ?h1_299); (case hp_299 => decide)
    with_reducible refine' wS_nil ?_
    with_reducible refine' wS_cons ?_
    with_reducible refine' wX_if ?_
    (with_reducible refine' wT_cmp ?h_303 ?hm_303); (case hm_303 => with_unfolding_all exact rfl)
    (with_reducible refine' wE_local ?hv_304 ?h_304 ?hl_304 ?hd_304); (case hl_304 => exact rfl); (case hd_304 => decide +kernel); (case hv_304 => none_booked)
    with_reducible refine' wE_int ?_
    with_reducible refine' c_lt ?_
    with_reducible refine' exTB ?_
    (with_reducible refine' iteNo ?hp_308 ?h1_308); (case hp_308 => decide)
    with_reducible refine' wS_nil ?_
    with_reducible refine' wS_cons ?_
    with_reducible refine' wX_if ?_
    (with_reducible refine' wT_cmp ?h_312 ?hm_312); (case hm_312 => with_unfolding_all exact rfl)
    (with_reducible refine' wE_local ?hv_313 ?h_313 ?hl_313 ?hd_313); (case hl_313 => exact rfl); (case hd_313 => decide +kernel); (case hv_313 => none_booked)
    with_reducible refine' wE_int ?_
    with_reducible refine' c_eq ?_
    with_reducible refine' exTB ?_
    (with_reducible refine' iteEqN ?hp_317 ?h1_317); (case hp_317 => decide)
    with_reducible refine' wS_nil ?_
    with_reducible refine' wS_cons ?_
    with_reducible refine' wX_if ?_
    (with_reducible refine' wT_cmp ?h_321 ?hm_321); (case hm_321 => with_unfolding_all exact rfl)
    (with_reducible refine' wE_local ?hv_322 ?h_322 ?hl_322 ?hd_322); (case hl_322 => exact rfl); (case hd_322 => decide +kernel); (case hv_322 => none_booked)
    with_reducible refine' wE_int ?_
    with_reducible refine' c_eq ?_
    with_reducible refine' exTB ?_
    (with_reducible refine' iteEqY ?hp_326 ?h1_326); (case hp_326 => decide)
    with_reducible refine' wS_cons ?_
    (with_reducible refine' wX_assign ?h_328 ?hl_328 ?hs_328); (case hl_328 => exact rfl); (case hs_328 => (intros; exact rfl))
    (with_reducible refine' wE_def ?h_329 ?h1_329 ?h2_329 ?h3_329 ?h4_329 ?h5_329); (case h1_329 => decide +kernel); (case h2_329 => exact rfl); (case h3_329 => decide +kernel); (case h4_329 => (intro _; exact rfl)); (case h5_329 => (intro _; exact ⟨_, _, rfl, rfl⟩))
    (with_reducible refine' wA_cons ?h_330 ?hs_330); (case hs_330 => (intro _; exact rfl))
    (with_reducible refine' wE_local ?hv_331 ?h_331 ?hl_331 ?hd_331); (case hl_331 => exact rfl); (case hd_331 => decide +kernel); (case hv_331 => none_booked)
    (with_reducible refine' wA_cons ?h_332 ?hs_332); (case hs_332 => (intro _; exact rfl))
    with_reducible refine' wE_binop ?_
    with_reducible refine' wE_int ?_
    (with_reducible refine' wE_local ?hv_335 ?h_335 ?hl_335 ?hd_335); (case hl_335 => exact rfl); (case hd_335 => decide +kernel); (case hv_335 => none_booked)
    with_reducible refine' o_sub ?_
    (with_reducible refine' wA_cons ?h_337 ?hs_337); (case hs_337 => (intro _; exact rfl))
    (with_reducible refine' wE_local ?hv_338 ?h_338 ?hl_338 ?hd_338); (case hl_338 => exact rfl); (case hd_338 => decide +kernel); (case hv_338 => none_booked)
    with_reducible refine' wA_nil ?_
    refine op_pure (t_s_shift_dn w hw' x n m hx hns (by (first | lia | omega))) (by decide) fun r hr => ?_
    with_reducible refine' wS_cons ?_
    with_reducible refine' wX_return ?_
    with_reducible refine' wE_tuple ?_
    (with_reducible refine' wA_cons ?h_343 ?hs_343); (case hs_343 => (intro _; exact rfl))
    (with_reducible refine' wE_local ?hv_344 ?h_344 ?hl_344 ?hd_344); (case hl_344 => exact rfl); (case hd_344 => decide +kernel); (case hv_344 => none_booked)
    (with_reducible refine' wA_cons ?h_345 ?hs_345); (case hs_345 => (intro _; exact rfl))
    (with_reducible refine' wE_def ?h_346 ?h1_346 ?h2_346 ?h3_346 ?h4_346 ?h5_346); (case h1_346 => decide +kernel); (case h2_346 => exact rfl); (case h3_346 => decide +kernel); (case h4_346 => (intro _; exact rfl)); (case h5_346 => (intro _; exact ⟨_, _, rfl, rfl⟩))
    (with_reducible refine' wA_cons ?h_347 ?hs_347); (case hs_347 => (intro _; exact rfl))
    (with_reducible refine' wE_local ?hv_348 ?h_348 ?hl_348 ?hd_348); (case hl_348 => exact rfl); (case hd_348 => decide +kernel); (case hv_348 => none_booked)
    (with_reducible refine' wA_cons ?h_349 ?hs_349); (case hs_349 => (intro _; exact rfl))
    (with_reducible refine' wE_def ?h_350 ?h1_350 ?h2_350 ?h3_350 ?h4_350 ?h5_350); (case h1_350 => decide +kernel); (case h2_350 => exact rfl); (case h3_350 => decide +kernel); (case h4_350 => (intro _; exact rfl)); (case h5_350 => (intro _; exact ⟨_, _, rfl, rfl⟩))
    (with_reducible refine' wA_cons ?h_351 ?hs_351); (case hs_351 => (intro _; exact rfl))
    (with_reducible refine' wE_local ?hv_352 ?h_352 ?hl_352 ?hd_352); (case hl_352 => exact rfl); (case hd_352 => decide +kernel); (case hv_352 => none_booked)
    (with_reducible refine' wA_cons ?h_353 ?hs_353); (case hs_353 => (intro _; exact rfl))
    (with_reducible refine' wE_local ?hv_354 ?h_354 ?hl_354 ?hd_354); (case hl_354 => exact rfl); (case hd_354 => decide +kernel); (case hv_354 => none_booked)
    (with_reducible refine' wA_cons ?h_355 ?hs_355); (case hs_355 => (intro _; exact rfl))
    (with_reducible refine' wE_local ?hv_356 ?h_356 ?hl_356 ?hd_356); (case hl_356 => exact rfl); (case hd_356 => decide +kernel); (case hv_356 => none_booked)
    with_reducible refine' wA_nil ?_
    have hs1 : Sm (n / 2 ^ m) := hns.le (ediv_abs hp0)
    refine op_pure (t_s_shift_up w hw' r _ m hr hs1 (by (first | lia | omega))) (by decide) fun r2 hr2 => ?_
    (with_reducible refine' wA_cons ?h_358 ?hs_358); (case hs_358 => (intro _; exact rfl))
    (with_reducible refine' wE_local ?hv_359 ?h_359 ?hl_359 ?hd_359); (case hl_359 => exact rfl); (case hd_359 => decide +kernel); (case hv_359 => none_booked)
    with_reducible refine' wA_nil ?_
    have hs2 : Sm (n / 2 ^ m * 2 ^ m) := sm_of (mul_le (N := 2 ^ 150) (Nat.le_trans (ediv_abs hp0) hn) (by (first | lia | omega)))
    refine op_pure (t_s_sub w hw' x r2 n _ hx hr2 hns hs2) (by decide) fun r3 hr3 => ?_
    with_reducible refine' wA_nil ?_
    (with_reducible refine' andLen ?h1_362 ?h_362); (case h1_362 => (simp; done))
    with_reducible refine' exR ?_
    with_reducible refine' exT2 ?_
    exact ⟨hr, hr3⟩
  · (with_reducible refine' iteNo ?hp_365 ?h1_365); (case hp_365 => decide)
    with_reducible refine' wS_nil ?_
    with_reducible refine' wS_cons ?_
    with_reducible refine' wX_if ?_
    (with_reducible refine' wT_cmp ?h_369 ?hm_369); (case hm_369 => with_unfolding_all exact rfl)
    (with_reducible refine' wE_local ?hv_370 ?h_370 ?hl_370 ?hd_370); (case hl_370 => exact rfl); (case hd_370 => decide +kernel); (case hv_370 => none_booked)
    with_reducible refine' wE_int ?_
    with_reducible refine' c_eq ?_
    with_reducible refine' exTB ?_
    (with_reducible refine' iteEqN ?hp_374 ?h1_374); (case hp_374 => decide)
    with_reducible refine' wS_nil ?_
    with_reducible refine' wS_cons ?_
    with_reducible refine' wX_if ?_
    (with_reducible refine' wT_cmp ?h_378 ?hm_378); (case hm_378 => with_unfolding_all exact rfl)
    (with_reducible refine' wE_local ?hv_379 ?h_379 ?hl_379 ?hd_379); (case hl_379 => exact rfl); (case hd_379 => decide +kernel); (case hv_379 => none_booked)
    with_reducible refine' wE_int ?_
    with_reducible refine' c_lt ?_
    with_reducible refine' exTB ?_
    (with_reducible refine' iteNo ?hp_383 ?h1_383); (case hp_383 => decide)
    with_reducible refine' wS_nil ?_
    with_reducible refine' wS_cons ?_
    with_reducible refine' wX_if ?_
    (with_reducible refine' wT_cmp ?h_387 ?hm_387); (case hm_387 => with_unfolding_all exact rfl)
    (with_reducible refine' wE_local ?hv_388 ?h_388 ?hl_388 ?hd_388); (case hl_388 => exact rfl); (case hd_388 => decide +kernel); (case hv_388 => none_booked)
    with_reducible refine' wE_int ?_
    with_reducible refine' c_eq ?_
    with_reducible refine' exTB ?_
    (with_reducible refine' iteEqN ?hp_392 ?h1_392); (case hp_392 => decide)
    with_reducible refine' wS_nil ?_
    with_reducible refine' wS_cons ?_
    with_reducible refine' wX_if ?_
    (with_reducible refine' wT_cmp ?h_396 ?hm_396); (case hm_396 => with_unfolding_all exact rfl)
    (with_reducible refine' wE_local ?hv_397 ?h_397 ?hl_397 ?hd_397); (case hl_397 => exact rfl); (case hd_397 => decide +kernel); (case hv_397 => none_booked)
    with_reducible refine' wE_int ?_
    with_reducible refine' c_eq ?_
    with_reducible refine' exTB ?_
    (with_reducible refine' iteEqN ?hp_401 ?h1_401); (case hp_401 => decide)
    with_reducible refine' wS_nil ?_
    with_reducible refine' wS_cons ?_
    with_reducible refine' wX_return ?_
    with_reducible refine' wE_ifexp ?_
    (with_reducible refine' wT_cmp ?h_406 ?hm_406); (case hm_406 => with_unfolding_all exact rfl)
    (with_reducible refine' wE_local ?hv_407 ?h_407 ?hl_407 ?hd_407); (case hl_407 => exact rfl); (case hd_407 => decide +kernel); (case hv_407 => none_booked)
    with_reducible refine' wE_int ?_
    with_reducible refine' c_eq ?_
    with_reducible refine' exTB ?_
    (with_reducible refine' iteEqY ?hp_411 ?h1_411); (case hp_411 => decide)
    with_reducible refine' wE_tuple ?_
    (with_reducible refine' wA_cons ?h_413 ?hs_413); (case hs_413 => (intro _; exact rfl))
    (with_reducible refine' wE_def ?h_414 ?h1_414 ?h2_414 ?h3_414 ?h4_414 ?h5_414); (case h1_414 => decide +kernel); (case h2_414 => exact rfl); (case h3_414 => decide +kernel); (case h4_414 => (intro _; exact rfl)); (case h5_414 => (intro _; exact ⟨_, _, rfl, rfl⟩))
    (with_reducible refine' wA_cons ?h_415 ?hs_415); (case hs_415 => (intro _; exact rfl))
    (with_reducible refine' wE_local ?hv_416 ?h_416 ?hl_416 ?hd_416); (case hl_416 => exact rfl); (case hd_416 => decide +kernel); (case hv_416 => none_booked)
    with_reducible refine' wA_nil ?_
    refine op_pure (t_s_neg w (by (first | lia | omega)) x n hx hns) (by decide) fun r hr => ?_
    (with_reducible refine' wA_cons ?h_418 ?hs_418); (case hs_418 => (intro _; exact rfl))
    with_reducible refine' wE_none ?_
    with_reducible refine' wA_nil ?_
    (with_reducible refine' andLen ?h1_421 ?h_421); (case h1_421 => (simp; done))
    with_reducible refine' exR ?_
    with_reducible refine' exT2 ?_
    exact ⟨hr, rfl⟩
  · (with_reducible refine' iteNo ?hp_424 ?h1_424); (case hp_424 => decide)
    with_reducible refine' wS_nil ?_
    with_reducible refine' wS_cons ?_
    with_reducible refine' wX_if ?_
    (with_reducible refine' wT_cmp ?h_428 ?hm_428); (case hm_428 => with_unfolding_all exact rfl)
    (with_reducible refine' wE_local ?hv_429 ?h_429 ?hl_429 ?hd_429); (case hl_429 => exact rfl); (case hd_429 => decide +kernel); (case hv_429 => none_booked)
    with_reducible refine' wE_int ?_
    with_reducible refine' c_eq ?_
    with_reducible refine' exTB ?_
    (with_reducible refine' iteEqN ?hp_433 ?h1_433); (case hp_433 => decide)
    with_reducible refine' wS_nil ?_
    with_reducible refine' wS_cons ?_
    with_reducible refine' wX_if ?_
    (with_reducible refine' wT_cmp ?h_437 ?hm_437); (case hm_437 => with_unfolding_all exact rfl)
    (with_reducible refine' wE_local ?hv_438 ?h_438 ?hl_438 ?hd_438); (case hl_438 => exact rfl); (case hd_438 => decide +kernel); (case hv_438 => none_booked)
    with_reducible refine' wE_int ?_
    with_reducible refine' c_lt ?_
    with_reducible refine' exTB ?_
    (with_reducible refine' iteNo ?hp_442 ?h1_442); (case hp_442 => decide)
    with_reducible refine' wS_nil ?_
    with_reducible refine' wS_cons ?_
    with_reducible refine' wX_if ?_
    (with_reducible refine' wT_cmp ?h_446 ?hm_446); (case hm_446 => with_unfolding_all exact rfl)
    (with_reducible refine' wE_local ?hv_447 ?h_447 ?hl_447 ?hd_447); (case hl_447 => exact rfl); (case hd_447 => decide +kernel); (case hv_447 => none_booked)
    with_reducible refine' wE_int ?_
    with_reducible refine' c_eq ?_
    with_reducible refine' exTB ?_
    (with_reducible refine' iteEqN ?hp_451 ?h1_451); (case hp_451 => decide)
    with_reducible refine' wS_nil ?_
    with_reducible refine' wS_cons ?_
    with_reducible refine' wX_if ?_
    (with_reducible refine' wT_cmp ?h_455 ?hm_455); (case hm_455 => with_unfolding_all exact rfl)
    (with_reducible refine' wE_local ?hv_456 ?h_456 ?hl_456 ?hd_456); (case hl_456 => exact rfl); (case hd_456 => decide +kernel); (case hv_456 => none_booked)
    with_reducible refine' wE_int ?_
    with_reducible refine' c_eq ?_
    with_reducible refine' exTB ?_
    (with_reducible refine' iteEqN ?hp_460 ?h1_460); (case hp_460 => decide)
    with_reducible refine' wS_nil ?_
    with_reducible refine' wS_cons ?_
    with_reducible refine' wX_return ?_
    with_reducible refine' wE_ifexp ?_
    (with_reducible refine' wT_cmp ?h_465 ?hm_465); (case hm_465 => with_unfolding_all exact rfl)
    (with_reducible refine' wE_local ?hv_466 ?h_466 ?hl_466 ?hd_466); (case hl_466 => exact rfl); (case hd_466 => decide +kernel); (case hv_466 => none_booked)
    with_reducible refine' wE_int ?_
    with_reducible refine' c_eq ?_
    with_reducible refine' exTB ?_
    (with_reducible refine' iteEqN ?hp_470 ?h1_470); (case hp_470 => decide)
    with_reducible refine' wE_tuple ?_
    (with_reducible refine' wA_cons ?h_472 ?hs_472); (case hs_472 => (intro _; exact rfl))
    (with_reducible refine' wE_def ?h_473 ?h1_473 ?h2_473 ?h3_473 ?h4_473 ?h5_473); (case h1_473 => decide +kernel); (case h2_473 => exact rfl); (case h3_473 => decide +kernel); (case h4_473 => (intro _; exact rfl)); (case h5_473 => (intro _; exact ⟨_, _, rfl, rfl⟩))
    (with_reducible refine' wA_cons ?h_474 ?hs_474); (case hs_474 => (intro _; exact rfl))
    (with_reducible refine' wE_local ?hv_475 ?h_475 ?hl_475 ?hd_475); (case hl_475 => exact rfl); (case hd_475 => decide +kernel); (case hv_475 => none_booked)
    (with_reducible refine' wA_cons ?h_476 ?hs_476); (case hs_476 => (intro _; exact rfl))
    (with_reducible refine' wE_local ?hv_477 ?h_477 ?hl_477 ?hd_477); (case hl_477 => exact rfl); (case hd_477 => decide +kernel); (case hv_477 => none_booked)
    with_reducible refine' wA_nil ?_
    refine op_pure (t_s_half w hw' x n hx hns (h9 rfl)) (by decide) fun r hr => ?_
    (with_reducible refine' wA_cons ?h_479 ?hs_479); (case hs_479 => (intro _; exact rfl))
    with_reducible refine' wE_none ?_
    with_reducible refine' wA_nil ?_
    (with_reducible refine' andLen ?h1_482 ?h_482); (case h1_482 => (simp; done))
    with_reducible refine' exR ?_
    with_reducible refine' exT2 ?_
    exact ⟨hr, rfl⟩
theorem t_law_undone (w : Nat) (hw : 4 ≤ w ∧ w ≤ 29) (f n o : Int) (m : Nat) (x y b : V) (hf : 0 ≤ f ∧ f < 10) (hx : Num w x (due f n o m)) (hy : Num w y o) (hb : Lost w f b n o m) (hn : Tm n) (ho : o ≠ 0 ∧ o.natAbs ≤ 63) (hm : m ≤ 9) (h9 : f = 9 → n % 2 = 0) :
    GCall g (g.fa "_law_undone") 8 [.tup [.int f, y, .int m], x, b, .int w] (fun _ => none) (fun r _ => Num w r n) := by
  have hw' : 1 ≤ w ∧ w ≤ 29 := by (first | lia | omega)
  have hp := pow_512 hm
  have hp0 : (0:Int) < 2 ^ m := Int.pow_pos (by decide)
  have hns := hn.sm
  have hos : Sm o := by unfold Sm; (first | lia | omega)
  have hd := due_sm (f := f) ho hm hn
  have hds := sm_of hd
  have hdo := sm_of2 (mul_le hd (show o.natAbs ≤ 512 by (first | lia | omega)))
  have hdp := sm_of2 (mul_le hd (show ((2:Int) ^ m).natAbs ≤ 512 by (first | lia | omega)))
  have mid : 3 ≤ f ∧ f ≤ 5 → Num w b (n - due f n o m * o) ∧ Sm (n - due f n o m * o) := fun h => by
    unfold Lost at hb
    rw [if_pos h] at hb
    refine ⟨hb, sm_of3 ?_⟩
    have := mul_le hd (show o.natAbs ≤ 512 by (first | lia | omega))
    unfold Tm at hn
    (first | lia | omega)
  refine' gcall (d := dOf 33) (dOf_mem 33 (by decide)) (hbody := ?enB) (hscope := ?enS) (hparams := ?enP) (hname := rfl) (names := ["deed", "x", "lost", "w"]) (hk := ?enK) (hbind := ?enI) (hloc := ?enL) (h := ?enH) (hco := ?enC) (hgen := ?enG) (hcell := ?enE)
  case enB => (conv => lhs; whnf)
  case enS => (conv => lhs; whnf)
  case enP => (conv => lhs; whnf)
  case enK => rfl
  case enI => exact args4 fun _ _ _ _ _ _ _ => rfl
  case enL => decide +kernel
  case enC => rfl
  case enG => rfl
  case enE => decide +kernel
  with_reducible refine' wS_cons ?_
  (with_reducible refine' wX_unpack3 ?h_2 ?h1_2 ?h2_2 ?h5_2 ?h3_2 ?h4_2); (case h4_2 => (intros; exact rfl)); (case h1_2 => exact rfl); (case h2_2 => exact rfl); (case h5_2 => exact rfl); (case h3_2 => (intros; exact rfl))
  (with_reducible refine' wE_local ?hv_3 ?h_3 ?hl_3 ?hd_3); (case hl_3 => exact rfl); (case hd_3 => decide +kernel); (case hv_3 => none_booked)
  with_reducible refine' exT3 ?_
  with_reducible refine' wS_cons ?_
  with_reducible refine' wX_if ?_
  (with_reducible refine' wT_cmp ?h_7 ?hm_7); (case hm_7 => with_unfolding_all exact rfl)
  (with_reducible refine' wE_local ?hv_8 ?h_8 ?hl_8 ?hd_8); (case hl_8 => exact rfl); (case hd_8 => decide +kernel); (case hv_8 => none_booked)
  with_reducible refine' wE_int ?_
  with_reducible refine' c_lt ?_
  with_reducible refine' exTB ?_
  rcases ten hf with rfl | rfl | rfl | rfl | rfl | rfl | rfl | rfl | rfl | rfl
  · (with_reducible refine' iteYes ?hp_12 ?h1_12); (case hp_12 => decide)
    with_reducible refine' wS_cons ?_
    with_reducible refine' wX_return ?_
    refine wE_callD (fa_def (x := "s_sub") (by decide +kernel)).2 ?_
    with_reducible refine' wE_sub ?_
    with_reducible refine' wE_listOf ?_
    (with_reducible refine' wA_cons ?h_17 ?hs_17); (case hs_17 => (intro _; exact rfl))
    (with_reducible refine' wE_fn ?h_18 ?h1_18 ?h2_18 ?h3_18); (case h2_18 => exact rfl); (case h1_18 => decide +kernel); (case h3_18 => decide +kernel)
    (with_reducible refine' wA_cons ?h_19 ?hs_19); (case hs_19 => (intro _; exact rfl))
    (with_reducible refine' wE_fn ?h_20 ?h1_20 ?h2_20 ?h3_20); (case h2_20 => exact rfl); (case h1_20 => decide +kernel); (case h3_20 => decide +kernel)
    with_reducible refine' wA_nil ?_
    (with_reducible refine' andLen ?h1_22 ?h_22); (case h1_22 => (simp; done))
    (with_reducible refine' wE_local ?hv_23 ?h_23 ?hl_23 ?hd_23); (case hl_23 => exact rfl); (case hd_23 => decide +kernel); (case hv_23 => none_booked)
    (with_reducible refine' s_list ?hx_24 ?h0_24 ?hsz_24 ?h_24 ?hs_24); (case hs_24 => (intro _ _; exact rfl)); (case h0_24 => (simp; done)); (case hx_24 => exact rfl); (case hsz_24 => (simp; done))
    with_reducible refine' andLit ?_
    (with_reducible refine' wA_cons ?h_26 ?hs_26); (case hs_26 => (intro _; exact rfl))
    (with_reducible refine' wE_local ?hv_27 ?h_27 ?hl_27 ?hd_27); (case hl_27 => exact rfl); (case hd_27 => decide +kernel); (case hv_27 => none_booked)
    (with_reducible refine' wA_cons ?h_28 ?hs_28); (case hs_28 => (intro _; exact rfl))
    (with_reducible refine' wE_local ?hv_29 ?h_29 ?hl_29 ?hd_29); (case hl_29 => exact rfl); (case hd_29 => decide +kernel); (case hv_29 => none_booked)
    (with_reducible refine' wA_cons ?h_30 ?hs_30); (case hs_30 => (intro _; exact rfl))
    (with_reducible refine' wE_local ?hv_31 ?h_31 ?hl_31 ?hd_31); (case hl_31 => exact rfl); (case hd_31 => decide +kernel); (case hv_31 => none_booked)
    with_reducible refine' wA_nil ?_
    refine op_pure (t_s_sub w hw' x y _ o hx hy hds hos) (by decide) fun r hr => ?_
    with_reducible refine' exR ?_
    have e : due 0 n o m - o = n := by show n + o - o = n; (first | lia | omega)
    rw [e] at hr; exact hr
  · (with_reducible refine' iteYes ?hp_34 ?h1_34); (case hp_34 => decide)
    with_reducible refine' wS_cons ?_
    with_reducible refine' wX_return ?_
    refine wE_callD (fa_def (x := "s_add") (by decide +kernel)).2 ?_
    with_reducible refine' wE_sub ?_
    with_reducible refine' wE_listOf ?_
    (with_reducible refine' wA_cons ?h_39 ?hs_39); (case hs_39 => (intro _; exact rfl))
    (with_reducible refine' wE_fn ?h_40 ?h1_40 ?h2_40 ?h3_40); (case h2_40 => exact rfl); (case h1_40 => decide +kernel); (case h3_40 => decide +kernel)
    (with_reducible refine' wA_cons ?h_41 ?hs_41); (case hs_41 => (intro _; exact rfl))
    (with_reducible refine' wE_fn ?h_42 ?h1_42 ?h2_42 ?h3_42); (case h2_42 => exact rfl); (case h1_42 => decide +kernel); (case h3_42 => decide +kernel)
    with_reducible refine' wA_nil ?_
    (with_reducible refine' andLen ?h1_44 ?h_44); (case h1_44 => (simp; done))
    (with_reducible refine' wE_local ?hv_45 ?h_45 ?hl_45 ?hd_45); (case hl_45 => exact rfl); (case hd_45 => decide +kernel); (case hv_45 => none_booked)
    (with_reducible refine' s_list ?hx_46 ?h0_46 ?hsz_46 ?h_46 ?hs_46); (case hs_46 => (intro _ _; exact rfl)); (case h0_46 => (simp; done)); (case hx_46 => exact rfl); (case hsz_46 => (simp; done))
    with_reducible refine' andLit ?_
    (with_reducible refine' wA_cons ?h_48 ?hs_48); (case hs_48 => (intro _; exact rfl))
    (with_reducible refine' wE_local ?hv_49 ?h_49 ?hl_49 ?hd_49); (case hl_49 => exact rfl); (case hd_49 => decide +kernel); (case hv_49 => none_booked)
    (with_reducible refine' wA_cons ?h_50 ?hs_50); (case hs_50 => (intro _; exact rfl))
    (with_reducible refine' wE_local ?hv_51 ?h_51 ?hl_51 ?hd_51); (case hl_51 => exact rfl); (case hd_51 => decide +kernel); (case hv_51 => none_booked)
    (with_reducible refine' wA_cons ?h_52 ?hs_52); (case hs_52 => (intro _; exact rfl))
    (with_reducible refine' wE_local ?hv_53 ?h_53 ?hl_53 ?hd_53); (case hl_53 => exact rfl); (case hd_53 => decide +kernel); (case hv_53 => none_booked)
    with_reducible refine' wA_nil ?_
    refine op_pure (t_s_add w hw' x y _ o hx hy hds hos) (by decide) fun r hr => ?_
    with_reducible refine' exR ?_
    have e : due 1 n o m + o = n := by show n - o + o = n; (first | lia | omega)
    rw [e] at hr; exact hr
  · (with_reducible refine' iteNo ?hp_56 ?h1_56); (case hp_56 => decide)
    with_reducible refine' wS_nil ?_
    with_reducible refine' wS_cons ?_
    with_reducible refine' wX_if ?_
    (with_reducible refine' wT_cmp ?h_60 ?hm_60); (case hm_60 => with_unfolding_all exact rfl)
    (with_reducible refine' wE_local ?hv_61 ?h_61 ?hl_61 ?hd_61); (case hl_61 => exact rfl); (case hd_61 => decide +kernel); (case hv_61 => none_booked)
    with_reducible refine' wE_int ?_
    with_reducible refine' c_eq ?_
    with_reducible refine' exTB ?_
    (with_reducible refine' iteEqY ?hp_65 ?h1_65); (case hp_65 => decide)
    with_reducible refine' wS_cons ?_
    with_reducible refine' wX_return ?_
    with_reducible refine' wE_sub ?_
    (with_reducible refine' wE_def ?h_69 ?h1_69 ?h2_69 ?h3_69 ?h4_69 ?h5_69); (case h1_69 => decide +kernel); (case h2_69 => exact rfl); (case h3_69 => decide +kernel); (case h4_69 => (intro _; exact rfl)); (case h5_69 => (intro _; exact ⟨_, _, rfl, rfl⟩))
    (with_reducible refine' wA_cons ?h_70 ?hs_70); (case hs_70 => (intro _; exact rfl))
    (with_reducible refine' wE_local ?hv_71 ?h_71 ?hl_71 ?hd_71); (case hl_71 => exact rfl); (case hd_71 => decide +kernel); (case hv_71 => none_booked)
    (with_reducible refine' wA_cons ?h_72 ?hs_72); (case hs_72 => (intro _; exact rfl))
    (with_reducible refine' wE_local ?hv_73 ?h_73 ?hl_73 ?hd_73); (case hl_73 => exact rfl); (case hd_73 => decide +kernel); (case hv_73 => none_booked)
    (with_reducible refine' wA_cons ?h_74 ?hs_74); (case hs_74 => (intro _; exact rfl))
    (with_reducible refine' wE_local ?hv_75 ?h_75 ?hl_75 ?hd_75); (case hl_75 => exact rfl); (case hd_75 => decide +kernel); (case hv_75 => none_booked)
    (with_reducible refine' wA_cons ?h_76 ?hs_76); (case hs_76 => (intro _; exact rfl))
    (with_reducible refine' wE_fn ?h_77 ?h1_77 ?h2_77 ?h3_77); (case h2_77 => exact rfl); (case h1_77 => decide +kernel); (case h3_77 => decide +kernel)
    with_reducible refine' wA_nil ?_
    refine op_pure (t_tdiv w hw x y _ o hx hy hds ho) (by decide) fun r hr => ?_
    obtain ⟨a, b, rfl, ha, _⟩ := hr
    with_reducible refine' wE_int ?_
    (with_reducible refine' s_tup ?h0_80 ?hx_80 ?hsz_80 ?h_80 ?hs_80); (case hs_80 => (intro _ _; exact rfl)); (case h0_80 => (first | lia | omega)); (case hx_80 => exact rfl); (case hsz_80 => (simp; done))
    with_reducible refine' exR ?_
    have e : tq (due 2 n o m) o = n := tq_mul ho.1
    rw [e] at ha; exact ha
  · obtain ⟨m1, m2⟩ := mid (by decide)
    (with_reducible refine' iteNo ?hp_82 ?h1_82); (case hp_82 => decide)
    with_reducible refine' wS_nil ?_
    with_reducible refine' wS_cons ?_
    with_reducible refine' wX_if ?_
    (with_reducible refine' wT_cmp ?h_86 ?hm_86); (case hm_86 => with_unfolding_all exact rfl)
    (with_reducible refine' wE_local ?hv_87 ?h_87 ?hl_87 ?hd_87); (case hl_87 => exact rfl); (case hd_87 => decide +kernel); (case hv_87 => none_booked)
    with_reducible refine' wE_int ?_
    with_reducible refine' c_eq ?_
    with_reducible refine' exTB ?_
    (with_reducible refine' iteEqN ?hp_91 ?h1_91); (case hp_91 => decide)
    with_reducible refine' wS_nil ?_
    with_reducible refine' wS_cons ?_
    with_reducible refine' wX_if ?_
    (with_reducible refine' wT_cmp ?h_95 ?hm_95); (case hm_95 => with_unfolding_all exact rfl)
    (with_reducible refine' wE_local ?hv_96 ?h_96 ?hl_96 ?hd_96); (case hl_96 => exact rfl); (case hd_96 => decide +kernel); (case hv_96 => none_booked)
    with_reducible refine' wE_int ?_
    with_reducible refine' c_lt ?_
    with_reducible refine' exTB ?_
    (with_reducible refine' iteYes ?hp_100 ?h1_100); (case hp_100 => decide)
    with_reducible refine' wS_cons ?_
    with_reducible refine' wX_return ?_
    (with_reducible refine' wE_def ?h_103 ?h1_103 ?h2_103 ?h3_103 ?h4_103 ?h5_103); (case h1_103 => decide +kernel); (case h2_103 => exact rfl); (case h3_103 => decide +kernel); (case h4_103 => (intro _; exact rfl)); (case h5_103 => (intro _; exact ⟨_, _, rfl, rfl⟩))
    (with_reducible refine' wA_cons ?h_104 ?hs_104); (case hs_104 => (intro _; exact rfl))
    (with_reducible refine' wE_def ?h_105 ?h1_105 ?h2_105 ?h3_105 ?h4_105 ?h5_105); (case h1_105 => decide +kernel); (case h2_105 => exact rfl); (case h3_105 => decide +kernel); (case h4_105 => (intro _; exact rfl)); (case h5_105 => (intro _; exact ⟨_, _, rfl, rfl⟩))
    (with_reducible refine' wA_cons ?h_106 ?hs_106); (case hs_106 => (intro _; exact rfl))
    (with_reducible refine' wE_local ?hv_107 ?h_107 ?hl_107 ?hd_107); (case hl_107 => exact rfl); (case hd_107 => decide +kernel); (case hv_107 => none_booked)
    (with_reducible refine' wA_cons ?h_108 ?hs_108); (case hs_108 => (intro _; exact rfl))
    (with_reducible refine' wE_local ?hv_109 ?h_109 ?hl_109 ?hd_109); (case hl_109 => exact rfl); (case hd_109 => decide +kernel); (case hv_109 => none_booked)
    (with_reducible refine' wA_cons ?h_110 ?hs_110); (case hs_110 => (intro _; exact rfl))
    (with_reducible refine' wE_local ?hv_111 ?h_111 ?hl_111 ?hd_111); (case hl_111 => exact rfl); (case hd_111 => decide +kernel); (case hv_111 => none_booked)
    (with_reducible refine' wA_cons ?h_112 ?hs_112); (case hs_112 => (intro _; exact rfl))
    (with_reducible refine' wE_fn ?h_113 ?h1_113 ?h2_113 ?h3_113); (case h2_113 => exact rfl); (case h1_113 => decide +kernel); (case h3_113 => decide +kernel)
    with_reducible refine' wA_nil ?_
    refine op_pure (t_s_mul w hw' x y _ o hx hy hds hos) (by decide) fun r hr => ?_
    (with_reducible refine' wA_cons ?h_115 ?hs_115); (case hs_115 => (intro _; exact rfl))
    (with_reducible refine' wE_local ?hv_116 ?h_116 ?hl_116 ?hd_116); (case hl_116 => exact rfl); (case hd_116 => decide +kernel); (case hv_116 => none_booked)
    (with_reducible refine' wA_cons ?h_117 ?hs_117); (case hs_117 => (intro _; exact rfl))
    (with_reducible refine' wE_local ?hv_118 ?h_118 ?hl_118 ?hd_118); (case hl_118 => exact rfl); (case hd_118 => decide +kernel); (case hv_118 => none_booked)
    with_reducible refine' wA_nil ?_
    refine op_pure (t_s_add w hw' r b _ _ hr m1 hdo m2) (by decide) fun r hr => ?_
    with_reducible refine' exR ?_
    rw [Int.add_comm, Int.sub_add_cancel] at hr; exact hr
  · obtain ⟨m1, m2⟩ := mid (by decide)
    (with_reducible refine' iteNo ?hp_121 ?h1_121); (case hp_121 => decide)
    with_reducible refine' wS_nil ?_
    with_reducible refine' wS_cons ?_
    with_reducible refine' wX_if ?_
    (with_reducible refine' wT_cmp ?h_125 ?hm_125); (case hm_125 => with_unfolding_all exact rfl)
    (with_reducible refine' wE_local ?hv_126 ?h_126 ?hl_126 ?hd_126); (case hl_126 => exact rfl); (case hd_126 => decide +kernel); (case hv_126 => none_booked)
    with_reducible refine' wE_int ?_
    with_reducible refine' c_eq ?_
    with_reducible refine' exTB ?_
    (with_reducible refine' iteEqN ?hp_130 ?h1_130); (case hp_130 => decide)
    with_reducible refine' wS_nil ?_
    with_reducible refine' wS_cons ?_
    with_reducible refine' wX_if ?_
    (with_reducible refine' wT_cmp ?h_134 ?hm_134); (case hm_134 => with_unfolding_all exact rfl)
    (with_reducible refine' wE_local ?hv_135 ?h_135 ?hl_135 ?hd_135); (case hl_135 => exact rfl); (case hd_135 => decide +kernel); (case hv_135 => none_booked)
    with_reducible refine' wE_int ?_
    with_reducible refine' c_lt ?_
    with_reducible refine' exTB ?_
    (with_reducible refine' iteYes ?hp_139 ?h1_139); (case hp_139 => decide)
    with_reducible refine' wS_cons ?_
    with_reducible refine' wX_return ?_
    (with_reducible refine' wE_def ?h_142 ?h1_142 ?h2_142 ?h3_142 ?h4_142 ?h5_142); (case h1_142 => decide +kernel); (case h2_142 => exact rfl); (case h3_142 => decide +kernel); (case h4_142 => (intro _; exact rfl)); (case h5_142 => (intro _; exact ⟨_, _, rfl, rfl⟩))
    (with_reducible refine' wA_cons ?h_143 ?hs_143); (case hs_143 => (intro _; exact rfl))
    (with_reducible refine' wE_def ?h_144 ?h1_144 ?h2_144 ?h3_144 ?h4_144 ?h5_144); (case h1_144 => decide +kernel); (case h2_144 => exact rfl); (case h3_144 => decide +kernel); (case h4_144 => (intro _; exact rfl)); (case h5_144 => (intro _; exact ⟨_, _, rfl, rfl⟩))
    (with_reducible refine' wA_cons ?h_145 ?hs_145); (case hs_145 => (intro _; exact rfl))
    (with_reducible refine' wE_local ?hv_146 ?h_146 ?hl_146 ?hd_146); (case hl_146 => exact rfl); (case hd_146 => decide +kernel); (case hv_146 => none_booked)
    (with_reducible refine' wA_cons ?h_147 ?hs_147); (case hs_147 => (intro _; exact rfl))
    (with_reducible refine' wE_local ?hv_148 ?h_148 ?hl_148 ?hd_148); (case hl_148 => exact rfl); (case hd_148 => decide +kernel); (case hv_148 => none_booked)
    (with_reducible refine' wA_cons ?h_149 ?hs_149); (case hs_149 => (intro _; exact rfl))
    (with_reducible refine' wE_local ?hv_150 ?h_150 ?hl_150 ?hd_150); (case hl_150 => exact rfl); (case hd_150 => decide +kernel); (case hv_150 => none_booked)
    (with_reducible refine' wA_cons ?h_151 ?hs_151); (case hs_151 => (intro _; exact rfl))
    (with_reducible refine' wE_fn ?h_152 ?h1_152 ?h2_152 ?h3_152); (case h2_152 => exact rfl); (case h1_152 => decide +kernel); (case h3_152 => decide +kernel)
    with_reducible refine' wA_nil ?_
    refine op_pure (t_s_mul w hw' x y _ o hx hy hds hos) (by decide) fun r hr => ?_
    (with_reducible refine' wA_cons ?h_154 ?hs_154); (case hs_154 => (intro _; exact rfl))
    (with_reducible refine' wE_local ?hv_155 ?h_155 ?hl_155 ?hd_155); (case hl_155 => exact rfl); (case hd_155 => decide +kernel); (case hv_155 => none_booked)
    (with_reducible refine' wA_cons ?h_156 ?hs_156); (case hs_156 => (intro _; exact rfl))
    (with_reducible refine' wE_local ?hv_157 ?h_157 ?hl_157 ?hd_157); (case hl_157 => exact rfl); (case hd_157 => decide +kernel); (case hv_157 => none_booked)
    with_reducible refine' wA_nil ?_
    refine op_pure (t_s_add w hw' r b _ _ hr m1 hdo m2) (by decide) fun r hr => ?_
    with_reducible refine' exR ?_
    rw [Int.add_comm, Int.sub_add_cancel] at hr; exact hr
  · obtain ⟨m1, m2⟩ := mid (by decide)
    (with_reducible refine' iteNo ?hp_160 ?h1_160); (case hp_160 => decide)
    with_reducible refine' wS_nil ?_
    with_reducible refine' wS_cons ?_
    with_reducible refine' wX_if ?_
    (with_reducible refine' wT_cmp ?h_164 ?hm_164); (case hm_164 => with_unfolding_all exact rfl)
    (with_reducible refine' wE_local ?hv_165 ?h_165 ?hl_165 ?hd_165); (case hl_165 => exact rfl); (case hd_165 => decide +kernel); (case hv_165 => none_booked)
    with_reducible refine' wE_int ?_
    with_reducible refine' c_eq ?_
    with_reducible refine' exTB ?_
    (with_reducible refine' iteEqN ?hp_169 ?h1_169); (case hp_169 => decide)
    with_reducible refine' wS_nil ?_
    with_reducible refine' wS_cons ?_
    with_reducible refine' wX_if ?_
    (with_reducible refine' wT_cmp ?h_173 ?hm_173); (case hm_173 => with_unfolding_all exact rfl)
    (with_reducible refine' wE_local ?hv_174 ?h_174 ?hl_174 ?hd_174); (case hl_174 => exact rfl); (case hd_174 => decide +kernel); (case hv_174 => none_booked)
    with_reducible refine' wE_int ?_
    with_reducible refine' c_lt ?_
    with_reducible refine' exTB ?_
    (with_reducible refine' iteYes ?hp_178 ?h1_178); (case hp_178 => decide)
    with_reducible refine' wS_cons ?_
    with_reducible refine' wX_return ?_
    (with_reducible refine' wE_def ?h_181 ?h1_181 ?h2_181 ?h3_181 ?h4_181 ?h5_181); (case h1_181 => decide +kernel); (case h2_181 => exact rfl); (case h3_181 => decide +kernel); (case h4_181 => (intro _; exact rfl)); (case h5_181 => (intro _; exact ⟨_, _, rfl, rfl⟩))
    (with_reducible refine' wA_cons ?h_182 ?hs_182); (case hs_182 => (intro _; exact rfl))
    (with_reducible refine' wE_def ?h_183 ?h1_183 ?h2_183 ?h3_183 ?h4_183 ?h5_183); (case h1_183 => decide +kernel); (case h2_183 => exact rfl); (case h3_183 => decide +kernel); (case h4_183 => (intro _; exact rfl)); (case h5_183 => (intro _; exact ⟨_, _, rfl, rfl⟩))
    (with_reducible refine' wA_cons ?h_184 ?hs_184); (case hs_184 => (intro _; exact rfl))
    (with_reducible refine' wE_local ?hv_185 ?h_185 ?hl_185 ?hd_185); (case hl_185 => exact rfl); (case hd_185 => decide +kernel); (case hv_185 => none_booked)
    (with_reducible refine' wA_cons ?h_186 ?hs_186); (case hs_186 => (intro _; exact rfl))
    (with_reducible refine' wE_local ?hv_187 ?h_187 ?hl_187 ?hd_187); (case hl_187 => exact rfl); (case hd_187 => decide +kernel); (case hv_187 => none_booked)
    (with_reducible refine' wA_cons ?h_188 ?hs_188); (case hs_188 => (intro _; exact rfl))
    (with_reducible refine' wE_local ?hv_189 ?h_189 ?hl_189 ?hd_189); (case hl_189 => exact rfl); (case hd_189 => decide +kernel); (case hv_189 => none_booked)
    (with_reducible refine' wA_cons ?h_190 ?hs_190); (case hs_190 => (intro _; exact rfl))
    (with_reducible refine' wE_fn ?h_191 ?h1_191 ?h2_191 ?h3_191); (case h2_191 => exact rfl); (case h1_191 => decide +kernel); (case h3_191 => decide +kernel)
    with_reducible refine' wA_nil ?_
    refine op_pure (t_s_mul w hw' x y _ o hx hy hds hos) (by decide) fun r hr => ?_
    (with_reducible refine' wA_cons ?h_193 ?hs_193); (case hs_193 => (intro _; exact rfl))
    (with_reducible refine' wE_local ?hv_194 ?h_194 ?hl_194 ?hd_194); (case hl_194 => exact rfl); (case hd_194 => decide +kernel); (case hv_194 => none_booked)
    (with_reducible refine' wA_cons ?h_195 ?hs_195); (case hs_195 => (intro _; exact rfl))
    (with_reducible refine' wE_local ?hv_196 ?h_196 ?hl_196 ?hd_196); (case hl_196 => exact rfl); (case hd_196 => decide +kernel); (case hv_196 => none_booked)
    with_reducible refine' wA_nil ?_
    refine op_pure (t_s_add w hw' r b _ _ hr m1 hdo m2) (by decide) fun r hr => ?_
    with_reducible refine' exR ?_
    rw [Int.add_comm, Int.sub_add_cancel] at hr; exact hr
  · (with_reducible refine' iteNo ?hp_199 ?h1_199); (case hp_199 => decide)
    with_reducible refine' wS_nil ?_
    with_reducible refine' wS_cons ?_
    with_reducible refine' wX_if ?_
    (with_reducible refine' wT_cmp ?h_203 ?hm_203); (case hm_203 => with_unfolding_all exact rfl)
    (with_reducible refine' wE_local ?hv_204 ?h_204 ?hl_204 ?hd_204); (case hl_204 => exact rfl); (case hd_204 => decide +kernel); (case hv_204 => none_booked)
    with_reducible refine' wE_int ?_
    with_reducible refine' c_eq ?_
    with_reducible refine' exTB ?_
    (with_reducible refine' iteEqN ?hp_208 ?h1_208); (case hp_208 => decide)
    with_reducible refine' wS_nil ?_
    with_reducible refine' wS_cons ?_
    with_reducible refine' wX_if ?_
    (with_reducible refine' wT_cmp ?h_212 ?hm_212); (case hm_212 => with_unfolding_all exact rfl)
    (with_reducible refine' wE_local ?hv_213 ?h_213 ?hl_213 ?hd_213); (case hl_213 => exact rfl); (case hd_213 => decide +kernel); (case hv_213 => none_booked)
    with_reducible refine' wE_int ?_
    with_reducible refine' c_lt ?_
    with_reducible refine' exTB ?_
    (with_reducible refine' iteNo ?hp_217 ?h1_217); (case hp_217 => decide)
    with_reducible refine' wS_nil ?_
    with_reducible refine' wS_cons ?_
    with_reducible refine' wX_if ?_
    (with_reducible refine' wT_cmp ?h_221 ?hm_221); (case hm_221 => with_unfolding_all exact rfl)
    (with_reducible refine' wE_local ?hv_222 ?h_222 ?hl_222 ?hd_222); (case hl_222 => exact rfl); (case hd_222 => decide +kernel); (case hv_222 => none_booked)
    with_reducible refine' wE_int ?_
    with_reducible refine' c_lt ?_
    with_reducible refine' exTB ?_
    (with_reducible refine' iteYes ?hp_226 ?h1_226); (case hp_226 => decide)
    with_reducible refine' wS_cons ?_
    with_reducible refine' wX_return ?_
    with_reducible refine' wE_ifexp ?_
    (with_reducible refine' wT_cmp ?h_230 ?hm_230); (case hm_230 => with_unfolding_all exact rfl)
    (with_reducible refine' wE_local ?hv_231 ?h_231 ?hl_231 ?hd_231); (case hl_231 => exact rfl); (case hd_231 => decide +kernel); (case hv_231 => none_booked)
    with_reducible refine' wE_int ?_
    with_reducible refine' c_eq ?_
    with_reducible refine' exTB ?_
    (with_reducible refine' iteEqY ?hp_235 ?h1_235); (case hp_235 => decide)
    (with_reducible refine' wE_def ?h_236 ?h1_236 ?h2_236 ?h3_236 ?h4_236 ?h5_236); (case h1_236 => decide +kernel); (case h2_236 => exact rfl); (case h3_236 => decide +kernel); (case h4_236 => (intro _; exact rfl)); (case h5_236 => (intro _; exact ⟨_, _, rfl, rfl⟩))
    (with_reducible refine' wA_cons ?h_237 ?hs_237); (case hs_237 => (intro _; exact rfl))
    (with_reducible refine' wE_local ?hv_238 ?h_238 ?hl_238 ?hd_238); (case hl_238 => exact rfl); (case hd_238 => decide +kernel); (case hv_238 => none_booked)
    (with_reducible refine' wA_cons ?h_239 ?hs_239); (case hs_239 => (intro _; exact rfl))
    with_reducible refine' wE_binop ?_
    with_reducible refine' wE_int ?_
    (with_reducible refine' wE_local ?hv_242 ?h_242 ?hl_242 ?hd_242); (case hl_242 => exact rfl); (case hd_242 => decide +kernel); (case hv_242 => none_booked)
    with_reducible refine' o_sub ?_
    (with_reducible refine' wA_cons ?h_244 ?hs_244); (case hs_244 => (intro _; exact rfl))
    (with_reducible refine' wE_local ?hv_245 ?h_245 ?hl_245 ?hd_245); (case hl_245 => exact rfl); (case hd_245 => decide +kernel); (case hv_245 => none_booked)
    with_reducible refine' wA_nil ?_
    refine op_pure (t_s_shift_dn w hw' x _ m hx hds (by (first | lia | omega))) (by decide) fun r hr => ?_
    with_reducible refine' exR ?_
    have e : due 6 n o m / 2 ^ m = n := by show n * 2 ^ m / 2 ^ m = n; exact Int.mul_ediv_cancel _ (by (first | lia | omega))
    rw [e] at hr; exact hr
  · have m1 : Num w b (n - due 7 n o m * 2 ^ m) := hb
    have m2 : Sm (n - due 7 n o m * 2 ^ m) := by
      apply sm_of3
      have := mul_le hd (show ((2:Int) ^ m).natAbs ≤ 512 by (first | lia | omega))
      unfold Tm at hn
      (first | lia | omega)
    (with_reducible refine' iteNo ?hp_248 ?h1_248); (case hp_248 => decide)
    with_reducible refine' wS_nil ?_
    with_reducible refine' wS_cons ?_
    with_reducible refine' wX_if ?_
    (with_reducible refine' wT_cmp ?h_252 ?hm_252); (case hm_252 => with_unfolding_all exact rfl)
    (with_reducible refine' wE_local ?hv_253 ?h_253 ?hl_253 ?hd_253); (case hl_253 => exact rfl); (case hd_253 => decide +kernel); (case hv_253 => none_booked)
    with_reducible refine' wE_int ?_
    with_reducible refine' c_eq ?_
    with_reducible refine' exTB ?_
    (with_reducible refine' iteEqN ?hp_257 ?h1_257); (case hp_257 => decide)
    with_reducible refine' wS_nil ?_
    with_reducible refine' wS_cons ?_
    with_reducible refine' wX_if ?_
    (with_reducible refine' wT_cmp ?h_261 ?hm_261); (case hm_261 => with_unfolding_all exact rfl)
    (with_reducible refine' wE_local ?hv_262 ?h_262 ?hl_262 ?hd_262); (case hl_262 => exact rfl); (case hd_262 => decide +kernel); (case hv_262 => none_booked)
    with_reducible refine' wE_int ?_
    with_reducible refine' c_lt ?_
    with_reducible refine' exTB ?_
    (with_reducible refine' iteNo ?hp_266 ?h1_266); (case hp_266 => decide)
    with_reducible refine' wS_nil ?_
    with_reducible refine' wS_cons ?_
    with_reducible refine' wX_if ?_
    (with_reducible refine' wT_cmp ?h_270 ?hm_270); (case hm_270 => with_unfolding_all exact rfl)
    (with_reducible refine' wE_local ?hv_271 ?h_271 ?hl_271 ?hd_271); (case hl_271 => exact rfl); (case hd_271 => decide +kernel); (case hv_271 => none_booked)
    with_reducible refine' wE_int ?_
    with_reducible refine' c_lt ?_
    with_reducible refine' exTB ?_
    (with_reducible refine' iteYes ?hp_275 ?h1_275); (case hp_275 => decide)
    with_reducible refine' wS_cons ?_
    with_reducible refine' wX_return ?_
    with_reducible refine' wE_ifexp ?_
    (with_reducible refine' wT_cmp ?h_279 ?hm_279); (case hm_279 => with_unfolding_all exact rfl)
    (with_reducible refine' wE_local ?hv_280 ?h_280 ?hl_280 ?hd_280); (case hl_280 => exact rfl); (case hd_280 => decide +kernel); (case hv_280 => none_booked)
    with_reducible refine' wE_int ?_
    with_reducible refine' c_eq ?_
    with_reducible refine' exTB ?_
    (with_reducible refine' iteEqN ?hp_284 ?h1_284); (case hp_284 => decide)
    (with_reducible refine' wE_def ?h_285 ?h1_285 ?h2_285 ?h3_285 ?h4_285 ?h5_285); (case h1_285 => decide +kernel); (case h2_285 => exact rfl); (case h3_285 => decide +kernel); (case h4_285 => (intro _; exact rfl)); (case h5_285 => (intro _; exact ⟨_, _, rfl, rfl⟩))
    (with_reducible refine' wA_cons ?h_286 ?hs_286); (case hs_286 => (intro _; exact rfl))
    (with_reducible refine' wE_def ?h_287 ?h1_287 ?h2_287 ?h3_287 ?h4_287 ?h5_287); (case h1_287 => decide +kernel); (case h2_287 => exact rfl); (case h3_287 => decide +kernel); (case h4_287 => (intro _; exact rfl)); (case h5_287 => (intro _; exact ⟨_, _, rfl, rfl⟩))
    (with_reducible refine' wA_cons ?h_288 ?hs_288); (case hs_288 => (intro _; exact rfl))
    (with_reducible refine' wE_local ?hv_289 ?h_289 ?hl_289 ?hd_289); (case hl_289 => exact rfl); (case hd_289 => decide +kernel); (case hv_289 => none_booked)
    (with_reducible refine' wA_cons ?h_290 ?hs_290); (case hs_290 => (intro _; exact rfl))
    (with_reducible refine' wE_local ?hv_291 ?h_291 ?hl_291 ?hd_291); (case hl_291 => exact rfl); (case hd_291 => decide +kernel); (case hv_291 => none_booked)
    (with_reducible refine' wA_cons ?h_292 ?hs_292); (case hs_292 => (intro _; exact rfl))
    (with_reducible refine' wE_local ?hv_293 ?h_293 ?hl_293 ?hd_293); (case hl_293 => exact rfl); (case hd_293 => decide +kernel); (case hv_293 => none_booked)
    with_reducible refine' wA_nil ?_
    refine op_pure (t_s_shift_up w hw' x _ m hx hds (by (first | lia | omega))) (by decide) fun r hr => ?_
    (with_reducible refine' wA_cons ?h_295 ?hs_295); (case hs_295 => (intro _; exact rfl))
    (with_reducible refine' wE_local ?hv_296 ?h_296 ?hl_296 ?hd_296); (case hl_296 => exact rfl); (case hd_296 => decide +kernel); (case hv_296 => none_booked)
    (with_reducible refine' wA_cons ?h_297 ?hs_297); (case hs_297 => (intro _; exact rfl))
    (with_reducible refine' wE_local ?hv_298 ?h_298 ?hl_298 ?hd_298); (case hl_298 => exact rfl); (case hd_298 => decide +kernel); (case hv_298 => none_booked)
    with_reducible refine' wA_nil ?_
    refine op_pure (t_s_add w hw' r b _ _ hr m1 hdp m2) (by decide) fun r hr => ?_
    with_reducible refine' exR ?_
    rw [Int.add_comm, Int.sub_add_cancel] at hr; exact hr
  · (with_reducible refine' iteNo ?hp_301 ?h1_301); (case hp_301 => decide)
    with_reducible refine' wS_nil ?_
    with_reducible refine' wS_cons ?_
    with_reducible refine' wX_if ?_
    (with_reducible refine' wT_cmp ?h_305 ?hm_305); (case hm_305 => with_unfolding_all exact rfl)
    (with_reducible refine' wE_local ?hv_306 ?h_306 ?hl_306 ?hd_306); (case hl_306 => exact rfl); (case hd_306 => decide +kernel); (case hv_306 => none_booked)
    with_reducible refine' wE_int ?_
    with_reducible refine' c_eq ?_
    with_reducible refine' exTB ?_
    (with_reducible refine' iteEqN ?hp_310 ?h1_310); (case hp_310 => decide)
    with_reducible refine' wS_nil ?_
    with_reducible refine' wS_cons ?_
    with_reducible refine' wX_if ?_
    (with_reducible refine' wT_cmp ?h_314 ?hm_314); (case hm_314 => with_unfolding_all exact rfl)
    (with_reducible refine' wE_local ?hv_315 ?h_315 ?hl_315 ?hd_315); (case hl_315 => exact rfl); (case hd_315 => decide +kernel); (case hv_315 => none_booked)
    with_reducible refine' wE_int ?_
    with_reducible refine' c_lt ?_
    with_reducible refine' exTB ?_
    (with_reducible refine' iteNo ?hp_319 ?h1_319); (case hp_319 => decide)
    with_reducible refine' wS_nil ?_
    with_reducible refine' wS_cons ?_
    with_reducible refine' wX_if ?_
    (with_reducible refine' wT_cmp ?h_323 ?hm_323); (case hm_323 => with_unfolding_all exact rfl)
    (with_reducible refine' wE_local ?hv_324 ?h_324 ?hl_324 ?hd_324); (case hl_324 => exact rfl); (case hd_324 => decide +kernel); (case hv_324 => none_booked)
    with_reducible refine' wE_int ?_
    with_reducible refine' c_lt ?_
    with_reducible refine' exTB ?_
    (with_reducible refine' iteNo ?hp_328 ?h1_328); (case hp_328 => decide)
    with_reducible refine' wS_nil ?_
    with_reducible refine' wS_cons ?_
    with_reducible refine' wX_return ?_
    with_reducible refine' wE_ifexp ?_
    (with_reducible refine' wT_cmp ?h_333 ?hm_333); (case hm_333 => with_unfolding_all exact rfl)
    (with_reducible refine' wE_local ?hv_334 ?h_334 ?hl_334 ?hd_334); (case hl_334 => exact rfl); (case hd_334 => decide +kernel); (case hv_334 => none_booked)
    with_reducible refine' wE_int ?_
    with_reducible refine' c_eq ?_
    with_reducible refine' exTB ?_
    (with_reducible refine' iteEqY ?hp_338 ?h1_338); (case hp_338 => decide)
    (with_reducible refine' wE_def ?h_339 ?h1_339 ?h2_339 ?h3_339 ?h4_339 ?h5_339); (case h1_339 => decide +kernel); (case h2_339 => exact rfl); (case h3_339 => decide +kernel); (case h4_339 => (intro _; exact rfl)); (case h5_339 => (intro _; exact ⟨_, _, rfl, rfl⟩))
    (with_reducible refine' wA_cons ?h_340 ?hs_340); (case hs_340 => (intro _; exact rfl))
    (with_reducible refine' wE_local ?hv_341 ?h_341 ?hl_341 ?hd_341); (case hl_341 => exact rfl); (case hd_341 => decide +kernel); (case hv_341 => none_booked)
    with_reducible refine' wA_nil ?_
    refine op_pure (t_s_neg w (by (first | lia | omega)) x _ hx hds) (by decide) fun r hr => ?_
    with_reducible refine' exR ?_
    have e : -due 8 n o m = n := by show - -n = n; (first | lia | omega)
    rw [e] at hr; exact hr
  · (with_reducible refine' iteNo ?hp_344 ?h1_344); (case hp_344 => decide)
    with_reducible refine' wS_nil ?_
    with_reducible refine' wS_cons ?_
    with_reducible refine' wX_if ?_
    (with_reducible refine' wT_cmp ?h_348 ?hm_348); (case hm_348 => with_unfolding_all exact rfl)
    (with_reducible refine' wE_local ?hv_349 ?h_349 ?hl_349 ?hd_349); (case hl_349 => exact rfl); (case hd_349 => decide +kernel); (case hv_349 => none_booked)
    with_reducible refine' wE_int ?_
    with_reducible refine' c_eq ?_
    with_reducible refine' exTB ?_
    (with_reducible refine' iteEqN ?hp_353 ?h1_353); (case hp_353 => decide)
    with_reducible refine' wS_nil ?_
    with_reducible refine' wS_cons ?_
    with_reducible refine' wX_if ?_
    (with_reducible refine' wT_cmp ?h_357 ?hm_357); (case hm_357 => with_unfolding_all exact rfl)
    (with_reducible refine' wE_local ?hv_358 ?h_358 ?hl_358 ?hd_358); (case hl_358 => exact rfl); (case hd_358 => decide +kernel); (case hv_358 => none_booked)
    with_reducible refine' wE_int ?_
    with_reducible refine' c_lt ?_
    with_reducible refine' exTB ?_
    (with_reducible refine' iteNo ?hp_362 ?h1_362); (case hp_362 => decide)
    with_reducible refine' wS_nil ?_
    with_reducible refine' wS_cons ?_
    with_reducible refine' wX_if ?_
    (with_reducible refine' wT_cmp ?h_366 ?hm_366); (case hm_366 => with_unfolding_all exact rfl)
    (with_reducible refine' wE_local ?hv_367 ?h_367 ?hl_367 ?hd_367); (case hl_367 => exact rfl); (case hd_367 => decide +kernel); (case hv_367 => none_booked)
    with_reducible refine' wE_int ?_
    with_reducible refine' c_lt ?_
    with_reducible refine' exTB ?_
    (with_reducible refine' iteNo ?hp_371 ?h1_371); (case hp_371 => decide)
    with_reducible refine' wS_nil ?_
    with_reducible refine' wS_cons ?_
    with_reducible refine' wX_return ?_
    with_reducible refine' wE_ifexp ?_
    (with_reducible refine' wT_cmp ?h_376 ?hm_376); (case hm_376 => with_unfolding_all exact rfl)
    (with_reducible refine' wE_local ?hv_377 ?h_377 ?hl_377 ?hd_377); (case hl_377 => exact rfl); (case hd_377 => decide +kernel); (case hv_377 => none_booked)
    with_reducible refine' wE_int ?_
    with_reducible refine' c_eq ?_
    with_reducible refine' exTB ?_
    (with_reducible refine' iteEqN ?hp_381 ?h1_381); (case hp_381 => decide)
    (with_reducible refine' wE_def ?h_382 ?h1_382 ?h2_382 ?h3_382 ?h4_382 ?h5_382); (case h1_382 => decide +kernel); (case h2_382 => exact rfl); (case h3_382 => decide +kernel); (case h4_382 => (intro _; exact rfl)); (case h5_382 => (intro _; exact ⟨_, _, rfl, rfl⟩))
    (with_reducible refine' wA_cons ?h_383 ?hs_383); (case hs_383 => (intro _; exact rfl))
    (with_reducible refine' wE_local ?hv_384 ?h_384 ?hl_384 ?hd_384); (case hl_384 => exact rfl); (case hd_384 => decide +kernel); (case hv_384 => none_booked)
    (with_reducible refine' wA_cons ?h_385 ?hs_385); (case hs_385 => (intro _; exact rfl))
    (with_reducible refine' wE_local ?hv_386 ?h_386 ?hl_386 ?hd_386); (case hl_386 => exact rfl); (case hd_386 => decide +kernel); (case hv_386 => none_booked)
    (with_reducible refine' wA_cons ?h_387 ?hs_387); (case hs_387 => (intro _; exact rfl))
    (with_reducible refine' wE_local ?hv_388 ?h_388 ?hl_388 ?hd_388); (case hl_388 => exact rfl); (case hd_388 => decide +kernel); (case hv_388 => none_booked)
    with_reducible refine' wA_nil ?_
    refine op_pure (t_s_add w hw' x x _ _ hx hx hds hds) (by decide) fun r hr => ?_
    with_reducible refine' exR ?_
    have e : due 9 n o m + due 9 n o m = n := by have := h9 rfl; show n / 2 + n / 2 = n; (first | lia | omega)
    rw [e] at hr; exact hr
theorem t_law_swapped (w : Nat) (hw : 4 ≤ w ∧ w ≤ 29) (f1 f2 n o1 o2 : Int) (m1 m2 : Nat) (x y1 y2 : V) (hf1 : 0 ≤ f1 ∧ f1 < 3) (hf2 : 0 ≤ f2 ∧ f2 < 3) (hx : Num w x n) (hy1 : Num w y1 o1) (hy2 : Num w y2 o2) (hn : n.natAbs ≤ 2 ^ 120)
    (ho1 : o1 ≠ 0 ∧ o1.natAbs ≤ 63) (ho2 : o2 ≠ 0 ∧ o2.natAbs ≤ 63) (hm1 : m1 ≤ 9) (hm2 : m2 ≤ 9) :
    GCall g (g.fa "_law_swapped") 9 [x, .tup [.int f1, y1, .int m1], .tup [.int f2, y2, .int m2], .int w] (fun _ => none) (fun r _ => Num w r (due f1 (due f2 n o2 m2) o1 m1)) := by
  have hn1 : Tm n := by unfold Tm; (first | lia | omega)
  have hd := due_le (f := f2) ho2 hm2 hn (by decide)
  have hn2 : Tm (due f2 n o2 m2) := by unfold Tm; (first | lia | omega)
  refine' gcall (d := dOf 35) (dOf_mem 35 (by decide)) (hbody := ?enB) (hscope := ?enS) (hparams := ?enP) (hname := rfl) (names := ["before", "one", "last", "w"]) (hk := ?enK) (hbind := ?enI) (hloc := ?enL) (h := ?enH) (hco := ?enC) (hgen := ?enG) (hcell := ?enE)
  case enB => (conv => lhs; whnf)
  case enS => (conv => lhs; whnf)
  case enP => (conv => lhs; whnf)
  case enK => rfl
  case enI => exact args4 fun _ _ _ _ _ _ _ => rfl
  case enL => decide +kernel
  case enC => rfl
  case enG => rfl
  case enE => decide +kernel
  with_reducible refine' wS_cons ?_
  with_reducible refine' wX_return ?_
  with_reducible refine' wE_sub ?_
  (with_reducible refine' wE_def ?h_4 ?h1_4 ?h2_4 ?h3_4 ?h4_4 ?h5_4); (case h1_4 => decide +kernel); (case h2_4 => exact rfl); (case h3_4 => decide +kernel); (case h4_4 => (intro _; exact rfl)); (case h5_4 => (intro _; exact ⟨_, _, rfl, rfl⟩))
  (with_reducible refine' wA_cons ?h_5 ?hs_5); (case hs_5 => (intro _; exact rfl))
  (with_reducible refine' wE_local ?hv_6 ?h_6 ?hl_6 ?hd_6); (case hl_6 => exact rfl); (case hd_6 => decide +kernel); (case hv_6 => none_booked)
  (with_reducible refine' wA_cons ?h_7 ?hs_7); (case hs_7 => (intro _; exact rfl))
  with_reducible refine' wE_sub ?_
  (with_reducible refine' wE_def ?h_9 ?h1_9 ?h2_9 ?h3_9 ?h4_9 ?h5_9); (case h1_9 => decide +kernel); (case h2_9 => exact rfl); (case h3_9 => decide +kernel); (case h4_9 => (intro _; exact rfl)); (case h5_9 => (intro _; exact ⟨_, _, rfl, rfl⟩))
  (with_reducible refine' wA_cons ?h_10 ?hs_10); (case hs_10 => (intro _; exact rfl))
  (with_reducible refine' wE_local ?hv_11 ?h_11 ?hl_11 ?hd_11); (case hl_11 => exact rfl); (case hd_11 => decide +kernel); (case hv_11 => none_booked)
  (with_reducible refine' wA_cons ?h_12 ?hs_12); (case hs_12 => (intro _; exact rfl))
  (with_reducible refine' wE_local ?hv_13 ?h_13 ?hl_13 ?hd_13); (case hl_13 => exact rfl); (case hd_13 => decide +kernel); (case hv_13 => none_booked)
  (with_reducible refine' wA_cons ?h_14 ?hs_14); (case hs_14 => (intro _; exact rfl))
  (with_reducible refine' wE_local ?hv_15 ?h_15 ?hl_15 ?hd_15); (case hl_15 => exact rfl); (case hd_15 => decide +kernel); (case hv_15 => none_booked)
  with_reducible refine' wA_nil ?_
  refine op_pure (t_law_done w hw f2 n o2 m2 x y2 (by (first | lia | omega)) hx hy2 hn1 ho2 hm2 (by (first | lia | omega))) (by decide) fun r hr => ?_
  obtain ⟨a, b, rfl, ha, _⟩ := hr
  with_reducible refine' wE_int ?_
  (with_reducible refine' s_tup ?h0_18 ?hx_18 ?hsz_18 ?h_18 ?hs_18); (case hs_18 => (intro _ _; exact rfl)); (case h0_18 => (first | lia | omega)); (case hx_18 => exact rfl); (case hsz_18 => (simp; done))
  (with_reducible refine' wA_cons ?h_19 ?hs_19); (case hs_19 => (intro _; exact rfl))
  (with_reducible refine' wE_local ?hv_20 ?h_20 ?hl_20 ?hd_20); (case hl_20 => exact rfl); (case hd_20 => decide +kernel); (case hv_20 => none_booked)
  with_reducible refine' wA_nil ?_
  refine op_pure (t_law_done w hw f1 _ o1 m1 a y1 (by (first | lia | omega)) ha hy1 hn2 ho1 hm1 (by (first | lia | omega))) (by decide) fun r hr => ?_
  obtain ⟨a2, b2, rfl, ha2, _⟩ := hr
  with_reducible refine' wE_int ?_
  (with_reducible refine' s_tup ?h0_23 ?hx_23 ?hsz_23 ?h_23 ?hs_23); (case hs_23 => (intro _ _; exact rfl)); (case h0_23 => (first | lia | omega)); (case hx_23 => exact rfl); (case hsz_23 => (simp; done))
  with_reducible refine' exR ?_
  exact ha2
end
section
variable {p : Program} {g : G p} {c : Cx} {S : St}
theorem R.froze {L : Addr} {Z W : Fz} {s : Shared} (r : R g L Z W S s) {D : Addr} {o : Obj} (hD : s.heap.get? D = some o) (hZ : Z D = none) (hW : W D = none) (hB : g.hB.get? D = none) (hσ : S.σ D = none) (hL : L ≠ D) :
    R g L Z (wadd W D o) S s ∧ Ext Z W (wadd W D o) := by
  have up : ∀ a q, W a = some q → wadd W D o a = some q := fun a q e => by
    unfold wadd
    rw [if_neg (fun h => by rw [h, hW] at e; cases e)]; exact e
  obtain ⟨mr, hn, hm⟩ := r.ns
  refine ⟨{ rest := r.rest, base := r.base, z := r.z, w := fun a q e => ?_, mu := fun a l e => ?_, ns := ⟨mr, hn, fun y u e => let ⟨q, e1, e2⟩ := hm y u e; ⟨q, e1, e2.mono up⟩⟩, lz := r.lz, lw := ?_, lb := r.lb, lm := r.lm }, up, fun a q e => ?_⟩
  · unfold wadd at e
    split at e
    · rename_i h; cases e; rw [h]; exact hD
    · exact r.w a q e
  · obtain ⟨arr, k, h1, h2, h3, h4, h5⟩ := r.mu a l e
    refine ⟨arr, k, h1, h2.mono up, h3, ?_, h5⟩
    unfold wadd
    rw [if_neg (fun h => by rw [h, hσ] at e; cases e)]; exact h4
  · unfold wadd
    rw [if_neg hL]; exact r.lw
  · unfold wadd at e
    split at e
    · rename_i h; exact .inr (by rw [h]; exact hZ)
    · exact .inl e
theorem repL_paired {W : Fz} {f : Int → Int} : ∀ {vs ys : List Value} {l : List Int}, RepL W vs (zints l) → Paired (fun v y => ∃ i t u, v = Value.int i t ∧ y = Value.int (f i) u) vs ys → ∀ W', RepL W' ys (zints (l.map f))
  | _, _, [], .nil, .nil, W' => .nil
  | _, _, i :: l, .cons a r, .cons b q, W' => by
    obtain ⟨j, t, u, rfl, rfl⟩ := b
    cases a
    exact .cons (.int _ _) (repL_paired r q W')
theorem filter_true (vs : List Value) : vs.filter (fun _ => true) = vs := List.filter_eq_self.mpr fun _ _ => rfl
theorem wE_comp {elt iter : Expr} {x : Str} {px : Pos} {scope : Scope} {pos : Pos} {f : Int → Int} {Q : V → St → Prop}
    (h : WE g c iter S (fun v S₁ => ∃ l, v = .list (zints l) ∧ l.length ≤ 2 ^ 20 ∧ Q (.list (zints (l.map f))) S₁))
    (hel : ∀ (A : Around) (L a : Addr) (cd : Value) (C : Addr) (i : Int) (t : Tok) (s : Shared) (m : Str → Option Value), A.handled = none → (∀ b o, g.hB.get? b = some o → s.heap.get? b = some o) → s.heap.Ns C m → m x = some (.int i t) →
      wpAny (model g.prog g.w) A (eval elt (compEnvC scope [] C (c.env L a cd))) (fun y s₄ => (∃ u, y = .int (f i) u) ∧ ∃ tk, s₄ = { s with toks := tk }) (fun _ _ => False) s)
    (hclos : ∀ L a cd, closureFor scope (c.env L a cd) = pure []) (hcell : ∀ y ∈ scope.names, y.2 ≠ .cell) (hkind : scope.kind = .function)
    (hnames : ∀ y ∈ scope.names, y.2 = .local → scope.names.lookup y.1 = some .local) (hx : scope.names.lookup x = some .local)
    (hs : ∀ L a cd x, foldedSetIterable iter (c.env L a cd) x = pure x) : WE g c (.ListComp elt [⟨.Name x px, iter, [], 0⟩] scope pos) S Q := by
  intro A L a cd Z W s Q' lv r po
  refine wpAny_ListComp_free (fun _ => true) (fun v y => ∃ i t u, v = Value.int i t ∧ y = Value.int (f i) u) (hclos L a cd) hcell hkind hnames hx (h A L a cd Z W s _ lv r fun W₁ v xv S₁ s₁ e₁ r₁ rr₁ hh => ?_) (hs L a cd)
  obtain ⟨l, rfl, hlen, hq⟩ := hh
  cases r₁ with
  | list ha hr =>
    rename_i ax arr n
    have hl := rr₁.w _ _ ha
    have hlt := Heap.lt_size hl
    have hIs : s₁.heap.IsList ax arr := ⟨_, hl, rfl, n, rfl⟩
    have hsz : arr.size = l.length := by
      have := hr.length
      rw [zints_length] at this
      simpa using this
    have up : ∀ (h₃ : Heap), (∀ b o, b ∉ [s₁.heap.objs.size] → (s₁.heap.push { cls := .type "list_iterator", data := .fields #[.ref ax, .int 0 0] }).get? b = some o → h₃.get? b = some o) → ∀ b o, s₁.heap.get? b = some o → h₃.get? b = some o :=
      fun h₃ hk b o e => hk b o (fun hm => by rcases List.mem_cons.mp hm with rfl | hm; exact Nat.lt_irrefl _ (Heap.lt_size e); cases hm) (Heap.get?_push_of_some _ e)
    refine wpAny_pyIter_list hIs ⟨s₁.heap.objs.size, [s₁.heap.objs.size, ax], [s₁.heap.objs.size], arr.size, _, _, rfl, Walks.list lv.hh _ _ (Nat.ne_of_lt hlt) arr, (by rw [hsz]; exact Nat.le_trans hlen (by decide)), ⟨⟨_, Heap.get?_push_size _ rfl, rfl, rfl⟩, hIs.push _⟩, ?_, ⟨?_, ?_⟩, ?_⟩
    · intro b hb
      show b < (s₁.heap.push _).objs.size
      rw [Heap.size_push]
      rcases List.mem_cons.mp hb with rfl | hb
      · exact Nat.lt_succ_self _
      · rcases List.mem_cons.mp hb with rfl | hb
        · exact Nat.lt_succ_of_lt hlt
        · cases hb
    · intro C i v s₃ m₃ E' _ hP hn hm hk _
      show wpAny _ _ (pure true) _ _ _
      exact wpAny_pure ⟨rfl, s₃.heap, s₃.toks, rfl, fun _ _ e => e⟩
    · intro C i v s₃ m₃ E' _ hP hp hn hm hk _
      have hv : ∃ j t, v = .int j t := by
        have hP' : arr.toList[i]? = some v := by simpa using hP
        have hil : i < l.length := by
          have := (Array.getElem?_eq_some_iff.mp hP).1
          (first | lia | omega)
        obtain ⟨v', h1, h2⟩ := hr.get (i := i) (x := .int l[i]) (zints_get (List.getElem?_eq_getElem hil))
        rw [hP'] at h1
        cases h1
        cases h2
        exact ⟨_, _, rfl⟩
      obtain ⟨j, t, rfl⟩ := hv
      refine wpAny_noRaise (wpAny_mono (hel A L a cd C j t s₃ m₃ lv.hh (fun b o e => up s₃.heap hk b o (rr₁.base b o e)) hn hm) (fun y s₄ hy => ?_) fun _ _ e => e)
      obtain ⟨⟨u, rfl⟩, tk, rfl⟩ := hy
      exact ⟨⟨j, t, u, rfl, rfl⟩, s₃.heap, tk, rfl, fun _ _ e => e⟩
    · intro D h' tk ys vs' hnew hlD hpl hlen' hP hF hk
      have e : vs' = arr.toList := list_of_places hlen' hP
      subst e
      rw [filter_true] at hF
      have keep := up h' hk
      have rK : R g L Z W₁ S₁ { s₁ with heap := h', toks := tk } := rr₁.keeps keep
      have hnew' : s₁.heap.get? D = none := by
        cases q : s₁.heap.get? D with
        | none => rfl
        | some o => rw [Heap.get?_push_of_some _ q] at hnew; cases hnew
      obtain ⟨k, hD⟩ := hpl
      obtain ⟨oL, _, _, hL, _⟩ := rr₁.ns.choose_spec.1
      have hLD : L ≠ D := fun q => by rw [q, hnew'] at hL; cases hL
      obtain ⟨rF, ex⟩ := rK.froze (D := D) hD (by
        cases q : Z D with
        | none => rfl
        | some o => rw [rr₁.z _ _ q] at hnew'; cases hnew') (by
        cases q : W₁ D with
        | none => rfl
        | some o => rw [rr₁.w _ _ q] at hnew'; cases hnew') (by
        cases q : g.hB.get? D with
        | none => rfl
        | some o => rw [rr₁.base _ _ q] at hnew'; cases hnew') (by
        cases q : S₁.σ D with
        | none => rfl
        | some o => obtain ⟨_, _, h1, _⟩ := rr₁.mu _ _ q; rw [h1] at hnew'; cases hnew') hLD
      exact po _ _ _ _ _ (e₁.trans ex) (.list (n := k) (arr := ys) (by simp [wadd]) (repL_paired hr hF _)) rF hq
end
section
variable {p : Program} {g : G p} {c : Cx} {S : St}
theorem pyAll_zints (l : List Int) : V.pyAll (zints l) = some (l.map PyData.int) := by
  induction l with
  | nil => rfl
  | cons x r ih =>
    show (match V.py (.int x), V.pyAll (zints r) with | some d, some ds => some (d :: ds) | _, _ => none) = _
    rw [ih]; rfl
theorem canLay_ints (l : List Int) : PyData.canLayAll0 (l.map PyData.int) = true := by
  induction l with
  | nil => rfl
  | cons x r ih => simp [PyData.canLayAll0, PyData.canLay0, ih]
theorem depth_ints (l : List Int) : PyData.depthAll (l.map PyData.int) ≤ 1 := by
  induction l with
  | nil => simp [PyData.depthAll]
  | cons x r ih => simp [PyData.depthAll, PyData.depth]; (first | lia | omega)
noncomputable def numPy (z : Int) (l : List Int) : PyData := .tuple [.bool (decide (z < 0)), .list (l.map PyData.int)]
theorem num_py (z : Int) (l : List Int) : V.py (.tup [.bool (decide (z < 0)), .list (zints l)]) = some (numPy z l) := by
  simp [V.py, V.pyAll, pyAll_zints, numPy]
theorem num_shaped (z : Int) (l : List Int) : SeqAt.shaped (numPy z l) = true := by
  have h := canLay_ints l
  have d := depth_ints l
  unfold SeqAt.shaped numPy
  simp [PyData.canLay0, PyData.canLayAll0, PyData.depth, PyData.depthAll, h]
  (first | lia | omega)
theorem c_neN {w : Nat} (hw : 1 ≤ w) {x y : V} {z : Int} {Q : V → St → Prop} (hx : Num w x z) (hy : Num w y z) (h : Q (.bool false) S) : Op2 g c Rep (compareOp .NotEq) x y S Q := by
  obtain rfl := hx.uniq hw hy
  obtain ⟨l, rfl, _⟩ := hx
  have hs := num_shaped z l
  refine c_ned (num_py z l) (num_py z l) hs hs ?_
  rw [SeqAt.eqv_refl _ (SeqAt.canLay_of_shaped hs)]
  exact h
/-- a list that may be changed, held against an empty one -/
theorem c_neEmp {a : Addr} {l : List V} {ds : List PyData} {Q : V → St → Prop} (ha : S.σ a = some l) (hp : V.pyAll l = some ds) (hs : SeqAt.shaped (.list ds) = true) (h : Q (.bool (!l.isEmpty)) S) :
    Op2 g c Rep (compareOp .NotEq) (.ref a) (.list (zints [])) S Q :=
  fun A L Z W s Q' v u lv r rv ru po => by
    cases rv
    obtain ⟨arr, n, h1, h2, _⟩ := r.mu a l ha
    obtain ⟨as, ra⟩ := h2.reads r.w _ hp
    have rx : ∃ as, Reads s.heap (.ref a) (.list ds) as := ⟨_, .list h1 rfl rfl ra⟩
    obtain ⟨_, rx⟩ := rx
    obtain ⟨_, ry⟩ := ru.reads r.w (.list []) rfl
    refine ne_dataH rx ry hs rfl (by have := lv.un; have := cLine_is; (first | lia | omega)) ?_
    have e : (!PyData.eqv (.list ds) (.list [])) = !l.isEmpty := by
      cases l with
      | nil => cases hp; rfl
      | cons x r =>
        have : ds ≠ [] := by
          intro e
          rw [e] at hp
          simp only [V.pyAll] at hp
          split at hp <;> cases hp
        cases ds with
        | nil => exact absurd rfl this
        | cons d q => rfl
    rw [e]
    exact po.here (.bool _) r h
/-- a slice of the list that was handed in -/
theorem wE_sliceS {x : Str} {px pp pos : Pos} {lo hi : Option Expr} {la : Addr} {arr : Array Value} {ns : List Int} {Q : V → St → Prop} (hx : S.m x = some (.lit (.ref la))) (hil : g.hB.IsList la arr) (hr : ∀ W, RepL W arr.toList (zints ns)) (hsz : ns.length ≤ 2 ^ 24)
    (h : WP g c lo S (fun vl S₂ => WP g c hi S₂ (fun vh S₃ => S₃ = S ∧ Q (.list (pick (zints ns) vl vh)) S)))
    (hl : c.scope.names.lookup x = some .local := by rfl) (hd : (x == ("__debug__" : Str)) = false := by decide) :
    WE g c (.Subscript (.Name x px) (.Slice lo hi none pp) pos) S Q :=
  fun A L a cd Z W s Q' lv r po => by
    obtain ⟨mr, hn, hm⟩ := r.ns
    obtain ⟨rv, e, rp⟩ := hm x _ hx
    cases rp
    refine wpAny_Subscript_list_slice (wpAny_Name (wpAny_loadName_local (env := c.env L a cd) c.fn hl hn e ?_) hd)
    refine h A L a cd Z W s _ lv r fun W₂ v2 x2 S₂ s₂ e₂ r₂ rr₂ h₂ => h₂ A L a cd Z W₂ s₂ _ lv rr₂ fun W₃ v3 x3 S₃ s₃ e₃ r₃ rr₃ h₃ => ?_
    obtain ⟨rfl, hq⟩ := h₃
    have hr3 := hr W₃
    have len := hr3.length
    rw [Array.length_toList] at len
    have k1 := rr₃.push { cls := .type "slice", data := .fields #[v2, v3, .none] } (tk' := s₃.toks)
    obtain ⟨k2, ex⟩ := k1.pushF (lobj (cut arr.toList x2 x3).toArray 0) rfl (tk' := s₃.toks)
    obtain ⟨oo, hoo, hrest⟩ := hil
    refine ⟨la, arr, x2, x3, rfl, ⟨oo, rr₃.base _ _ hoo, hrest⟩, by rw [len, zints_length]; exact hsz, r₂, r₃, ?_⟩
    rw [cut_eq]
    have e23 := e₂.trans e₃
    have hs1 : (s₃.heap.push { cls := .type "slice", data := .fields #[v2, v3, .none] }).objs.size = s₃.heap.objs.size + 1 := Heap.size_push ..
    refine po _ _ _ _ _ (e23.trans ex) (.list (n := 0) (arr := (cut arr.toList x2 x3).toArray) ?_ ?_) k2 hq
    · show wadd W₃ (s₃.heap.push _).objs.size _ _ = _
      rw [hs1]; unfold wadd; exact if_pos rfl
    · have : RepL W₃ (cut arr.toList x2 x3) (pick (zints ns) x2 x3) := by
        unfold pick cut
        rw [← hr3.length]
        exact (hr3.drop _).take _
      simpa using this.mono ex.up
theorem repL_ints {W : Fz} : ∀ {vs : List Value} {ns : List Int}, IntsAre vs ns → RepL W vs (zints ns)
  | _, _, h => by
    induction h with
    | nil => exact .nil
    | cons n t _ ih => exact .cons (.int _ _) ih
end
/-- the moments and the deeds of a run -/
inductive Hist (w : Nat) : Nat → List V → List V → Int → Prop
  | start {m : V} {n : Int} : Num w m n → n.natAbs ≤ 1000 → Hist w 0 [m] [] n
  | step {k : Nat} {ms ds : List V} {n f o : Int} {m : Nat} {x y b : V} : Hist w k ms ds n → (0 ≤ f ∧ f < 10) → (o ≠ 0 ∧ o.natAbs ≤ 63) → m ≤ 9 → (f = 9 → n % 2 = 0) → Num w y o → Num w x (due f n o m) → Lost w f b n o m →
      Hist w (k + 1) (ms ++ [x]) (ds ++ [.tup [.tup [.int f, y, .int (m : Int)], b]]) (due f n o m)
theorem Hist.len {w k : Nat} {ms ds : List V} {n : Int} (h : Hist w k ms ds n) : ms.length = k + 1 ∧ ds.length = k := by
  induction h with
  | start _ _ => simp
  | step _ _ _ _ _ _ _ _ ih => simp [ih]
theorem Hist.bound {w k : Nat} {ms ds : List V} {n : Int} (h : Hist w k ms ds n) : n.natAbs ≤ 1000 * 512 ^ k := by
  induction h with
  | start _ h => simpa using h
  | @step k ms ds n f o m x y b hh hf ho hm _ _ _ _ ih =>
    have h1 : 1 ≤ 512 ^ k := Nat.pos_of_ne_zero (by simp)
    have := due_le (f := f) ho hm ih (by (first | lia | omega))
    rw [Nat.pow_succ]
    (first | lia | omega)
theorem Hist.last {w k : Nat} {ms ds : List V} {n : Int} (h : Hist w k ms ds n) : ∃ v, ms[k]? = some v ∧ Num w v n := by
  cases h with
  | start h _ => exact ⟨_, rfl, h⟩
  | step hh hf ho hm h9 hy hx hb =>
    have := hh.len.1
    exact ⟨_, by rw [List.getElem?_append_right (by (first | lia | omega)), show _ - _ = 0 by (first | lia | omega)]; rfl, hx⟩
theorem Hist.at {w k : Nat} {ms ds : List V} {n : Int} (h : Hist w k ms ds n) : ∀ i, i < k → ∃ (f o n' : Int) (m : Nat) (x x' y b : V), (0 ≤ f ∧ f < 10) ∧ (o ≠ 0 ∧ o.natAbs ≤ 63) ∧ m ≤ 9 ∧ (f = 9 → n' % 2 = 0) ∧ Num w y o ∧ Num w x (due f n' o m) ∧ Lost w f b n' o m ∧ Num w x' n' ∧
    ds[i]? = some (.tup [.tup [.int f, y, .int (m : Int)], b]) ∧ ms[i + 1]? = some x ∧ ms[i]? = some x' ∧ n'.natAbs ≤ 1000 * 512 ^ k ∧ (i + 1 = k → due f n' o m = n) := by
  induction h with
  | start _ _ => intro i hi; (first | lia | omega)
  | @step k ms ds n f o m x y b hh hf ho hm h9 hy hx hb ih =>
    intro i hi
    obtain ⟨l1, l2⟩ := hh.len
    by_cases h : i < k
    · obtain ⟨f', o', n', m', x1, x', y', b', a1, a2, a3, a4, a5, a6, a7, a8, a9, a10, a11, a12, a13⟩ := ih i h
      refine ⟨f', o', n', m', x1, x', y', b', a1, a2, a3, a4, a5, a6, a7, a8, ?_, ?_, ?_, ?_, by (first | lia | omega)⟩
      · rw [List.getElem?_append_left (by (first | lia | omega))]; exact a9
      · rw [List.getElem?_append_left (by (first | lia | omega))]; exact a10
      · rw [List.getElem?_append_left (by (first | lia | omega))]; exact a11
      · rw [Nat.pow_succ]; (first | lia | omega)
    · have hik : i = k := by (first | lia | omega)
      subst hik
      obtain ⟨v, hv, hvn⟩ := hh.last
      refine ⟨f, o, n, m, x, v, y, b, hf, ho, hm, h9, hy, hx, hb, hvn, ?_, ?_, ?_, ?_, fun _ => rfl⟩
      · rw [List.getElem?_append_right (by (first | lia | omega)), show _ - _ = 0 by (first | lia | omega)]; rfl
      · rw [List.getElem?_append_right (by (first | lia | omega)), show _ - _ = 0 by (first | lia | omega)]; rfl
      · rw [List.getElem?_append_left (by (first | lia | omega))]; exact hv
      · have := hh.bound
        rw [Nat.pow_succ]; (first | lia | omega)
theorem num_flat (z : Int) (l : List Int) : (numPy z l).canLay0 = true ∧ (numPy z l).depth ≤ 4 := by
  have h := canLay_ints l
  have d := depth_ints l
  unfold numPy
  simp [PyData.canLay0, PyData.canLayAll0, PyData.depth, PyData.depthAll, h]
  (first | lia | omega)
theorem lost_flat {w m : Nat} {f n o : Int} {b : V} (h : Lost w f b n o m) : ∃ d, b.py = some d ∧ d.canLay0 = true ∧ d.depth ≤ 4 := by
  have num : ∀ z, Num w b z → ∃ d, b.py = some d ∧ d.canLay0 = true ∧ d.depth ≤ 4 := fun z hz => by
    obtain ⟨l, rfl, _⟩ := hz
    exact ⟨_, num_py z l, num_flat z l⟩
  unfold Lost at h
  split at h
  · exact num _ h
  · split at h
    · exact num _ h
    · subst h
      exact ⟨.none, rfl, rfl, by simp [PyData.depth]⟩
theorem pyAll_snoc {ds : List V} {dd : List PyData} {x : V} {d : PyData} (h : V.pyAll ds = some dd) (hx : x.py = some d) : V.pyAll (ds ++ [x]) = some (dd ++ [d]) := by
  induction ds generalizing dd with
  | nil => cases h; simp [V.pyAll, hx]
  | cons a r ih =>
    simp only [List.cons_append, V.pyAll] at h ⊢
    split at h
    · rename_i e1 e2
      cases h
      rw [e1, ih e2]; rfl
    · cases h
theorem canLay_snoc {dd : List PyData} {d : PyData} (h : PyData.canLayAll0 dd = true) (hd : d.canLay0 = true) : PyData.canLayAll0 (dd ++ [d]) = true := by
  induction dd with
  | nil => simp [PyData.canLayAll0, hd]
  | cons a r ih => simp only [List.cons_append, PyData.canLayAll0, Bool.and_eq_true] at h ⊢; exact ⟨h.1, ih h.2⟩
theorem depth_snoc {dd : List PyData} {d : PyData} {k : Nat} (h : PyData.depthAll dd ≤ k) (hd : d.depth ≤ k) : PyData.depthAll (dd ++ [d]) ≤ k := by
  induction dd with
  | nil => simp [PyData.depthAll]; (first | lia | omega)
  | cons a r ih => simp only [List.cons_append, PyData.depthAll] at h ⊢; have := ih (by (first | lia | omega)); (first | lia | omega)
theorem Hist.py {w k : Nat} {ms ds : List V} {n : Int} (h : Hist w k ms ds n) : ∃ dd, V.pyAll ds = some dd ∧ PyData.canLayAll0 dd = true ∧ PyData.depthAll dd ≤ 10 := by
  induction h with
  | start _ _ => exact ⟨[], rfl, rfl, by simp [PyData.depthAll]⟩
  | @step k ms ds n f o m x y b hh hf ho hm h9 hy hx hb ih =>
    obtain ⟨dd, a1, a2, a3⟩ := ih
    obtain ⟨ly, rfl, _⟩ := hy
    obtain ⟨db, b1, b2, b3⟩ := lost_flat hb
    obtain ⟨c1, c2⟩ := num_flat o ly
    have e : V.py (.tup [.tup [.int f, .tup [.bool (decide (o < 0)), .list (zints ly)], .int (m : Int)], b]) = some (.tuple [.tuple [.int f, numPy o ly, .int (m : Int)], db]) := by
      have := num_py o ly
      simp only [V.py, V.pyAll] at this ⊢
      simp [b1, numPy, pyAll_zints]
    refine ⟨_, pyAll_snoc a1 e, canLay_snoc a2 ?_, depth_snoc a3 ?_⟩
    · simp [PyData.canLay0, PyData.canLayAll0, c1, b2]
    · simp [PyData.depth, PyData.depthAll]; (first | lia | omega)
theorem Hist.shaped {w k : Nat} {ms ds : List V} {n : Int} (h : Hist w k ms ds n) : ∃ dd, V.pyAll ds = some dd ∧ SeqAt.shaped (.list dd) = true := by
  obtain ⟨dd, a1, a2, a3⟩ := h.py
  refine ⟨dd, a1, ?_⟩
  unfold SeqAt.shaped
  simp [PyData.canLay0, PyData.depth, a2]
  (first | lia | omega)
theorem due_comm {f1 f2 n o1 o2 : Int} {m1 m2 : Nat} (h : (0 ≤ f1 ∧ f1 < 2 ∧ 0 ≤ f2 ∧ f2 < 2) ∨ (f1 = 2 ∧ f2 = 2)) : due f1 (due f2 n o2 m2) o1 m1 = due f2 (due f1 n o1 m1) o2 m2 := by
  rcases h with ⟨a, b, c, d⟩ | ⟨rfl, rfl⟩
  · have h1 : f1 = 0 ∨ f1 = 1 := by (first | lia | omega)
    have h2 : f2 = 0 ∨ f2 = 1 := by (first | lia | omega)
    rcases h1 with rfl | rfl <;> rcases h2 with rfl | rfl <;> simp [due] <;> (first | lia | omega)
  · show n * o2 * o1 = n * o1 * o2
    rw [Int.mul_assoc, Int.mul_comm o2, ← Int.mul_assoc]
section
variable {g : G PP} {c : Cx} {S : St}
theorem law_enter {d : DefRec} {f : Str} {n : Nat} {S : St} {Q : F → St → Prop} {body : List Stmt} {scope : Scope}
    (hname : d.name = f) (hbody : d.body = body) (hscope : d.scope = scope) (hk : scope.kind = .function)
    (h : WS g ⟨n, f, scope, hk, LawAx g⟩ body S Q) : ∃ hk', WS g ⟨n, d.name, d.scope, hk', LawAx g⟩ d.body S Q := by
  subst hname hbody hscope
  exact ⟨hk, h⟩
theorem call1_builtin {M : Model} {A : Around} {E : Value → Shared → Prop} {s : Shared} {id : String} {func e : Expr} {pos : Pos} {env : Env} {Q : Value → Shared → Prop}
    (hf : wpAny M A (eval func env) (fun f s₁ => f = .builtin id ∧ wpAny M A (eval e env) (fun v s₂ => wpAny M A (call (.builtin id) [v]) Q E s₂) E s₁) E s)
    (hc : eval (.Call func [e] [] pos) env = (do callWith pos (← eval func env) [] (backTo pos (starEach [e] env)) [])) (hs : backTo pos (starEach [e] env) = [(false, eval e env)]) : wpAny M A (eval (.Call func [e] [] pos) env) Q E s := by
  refine call_name hc (wpAny_mono hf (fun f s₁ h => ?_) fun _ _ h => h)
  obtain ⟨rfl, h⟩ := h
  rw [hs]
  exact Calls.callWith_builtin rfl (Calls.evalArgs_plain (Calls.spliced_cons (wpAny_mono h (fun v s₂ h => Calls.spliced_nil h) fun _ _ h => h)))
theorem call1_type {M : Model} {A : Around} {E : Value → Shared → Prop} {s : Shared} {T : String} {func e : Expr} {pos : Pos} {env : Env} {Q : Value → Shared → Prop}
    (hf : wpAny M A (eval func env) (fun f s₁ => f = .type T ∧ wpAny M A (eval e env) (fun v s₂ => wpAny M A (call (.type T) [v]) Q E s₂) E s₁) E s)
    (hc : eval (.Call func [e] [] pos) env = (do callWith pos (← eval func env) [] (backTo pos (starEach [e] env)) [])) (hs : backTo pos (starEach [e] env) = [(false, eval e env)]) : wpAny M A (eval (.Call func [e] [] pos) env) Q E s := by
  refine call_name hc (wpAny_mono hf (fun f s₁ h => ?_) fun _ _ h => h)
  obtain ⟨rfl, h⟩ := h
  rw [hs]
  exact PySem.callWith_type rfl (Calls.evalArgs_plain (Calls.spliced_cons (wpAny_mono h (fun v s₂ h => Calls.spliced_nil h) fun _ _ h => h)))
/-- what stands between the statements of a turn -/
structure LS (ad am de : Addr) (w : Nat) (gs : List Int) (ms ds : List V) (num : Int) (k : Nat) (S : St) : Prop where
  tub : S.m "tub" = some (.ref ad)
  sad : S.σ ad = some [.int (k : Int), .list (zints gs)]
  ww : S.m "w" = some (.int w)
  nu : S.m "number" = some (.int num)
  mo : S.m "moments" = some (.ref am)
  sam : S.σ am = some ms
  dd : S.m "deeds" = some (.ref de)
  sde : S.σ de = some ds
theorem t_sifted0 (a : Addr) (gs : List Int) (m : Int) (hgs : gs.length ≤ 1000) (hm : 1 ≤ m) :
    GCall g (g.fa "_law_sifted") 1 [.ref a, .int m] (fun q => if q = a then some [.int 0, .list (zints gs)] else none)
      (fun x σ' => ∃ l', σ' a = some l' ∧ (l' = [.int ((0 + 1 : Nat) : Int), .list (zints gs)] ∧ ∃ v : Int, x = .int v ∧ 0 ≤ v ∧ v < m)) := t_sifted a 0 gs m (by decide) hgs hm
theorem s_refN {value slice : Expr} {a : Addr} {l : List V} {k : Nat} {x : V} {Q : V → St → Prop} (ha : S.σ a = some l) (hx : l[k]? = some x) (hsz : l.length < 2 ^ 63) (h : Q x S)
    (hs : NoSlice slice := by intro _ _; rfl) : Op2 g c Rep (subscriptTail value slice) (.ref a) (.int (k : Int)) S Q :=
  s_ref ha (by unfold place; rw [if_neg (by (first | lia | omega)), Int.toNat_natCast]; exact hx) (by (first | lia | omega)) hsz h hs
theorem s_refM {value slice : Expr} {a : Addr} {l : List V} {k : Nat} {x : V} {i : Int} {Q : V → St → Prop} (ha : S.σ a = some l) (hi : i = (k : Int) - l.length) (hk : k < l.length) (hx : l[k]? = some x) (hsz : l.length < 2 ^ 63) (h : Q x S)
    (hs : NoSlice slice := by intro _ _; rfl) : Op2 g c Rep (subscriptTail value slice) (.ref a) (.int i) S Q :=
  s_ref ha (by unfold place; rw [if_pos (by (first | lia | omega)), show (i + (l.length : Nat)).toNat = k by (first | lia | omega)]; exact hx) (by (first | lia | omega)) hsz h hs
structure LT (f o du : Int) (y x b : V) (m : Nat) (S : St) : Prop where
  fo : S.m "form" = some (.int f)
  ot : S.m "other" = some (.int o)
  de : S.m "deed" = some (.tup [.int f, y, .int (m : Int)])
  x : S.m "x" = some x
  lo : S.m "lost" = some b
  du : S.m "due" = some (.int du)
theorem t_law (la : Addr) (arr : Array Value) (ns : List Int) (hil : g.hB.IsList la arr) (hr : ∀ W, RepL W arr.toList (zints ns)) (hns : ns.length ≤ 63) :
    ∃ hk, WS g ⟨12, (dOf 36).name, (dOf 36).scope, hk, LawAx g⟩ (dOf 36).body ⟨fun y => ((["script"] : List Str).zip [V.lit (.ref la)]).reverse.lookup y, fun _ => none⟩ (fun fl S' => fl = .ret (.bool true)) := by
  refine' law_enter (f := "law") (hname := rfl) (hbody := ?enB) (hscope := ?enS) (hk := ?enK) (h := ?enH)
  case enB => (conv => lhs; whnf)
  case enS => (conv => lhs; whnf)
  case enK => rfl
  refine wS_cons ?_
  refine' wX_assign ?_ ?hl1 ?hs1
  case hl1 => exact rfl
  case hs1 => (intros; exact rfl)
  refine wE_listM ?_
  refine' wA_cons ?_ ?hs2
  case hs2 => (intro _; exact rfl)
  refine wE_int ?_
  refine' wA_cons ?_ ?hs3
  case hs3 => (intro _; exact rfl)
  refine' wE_comp (f := fun i => if i < 0 then -i else i) ?_ ?hel ?hclos ?hcell ?hkind ?hnames ?hx ?hs
  case hclos => (intros; exact rfl)
  case hcell => decide +kernel
  case hkind => exact rfl
  case hnames => decide +kernel
  case hx => exact rfl
  case hs => (intros; exact rfl)
  case hel =>
    intro A L a cd C i t s m hh hb hn hm
    refine call1_builtin (id := "abs") ?_ rfl rfl
    refine Calls.Name_function_global rfl rfl (Calls.loadGlobal_builtin (mg := g.mg) (mb := g.mb) (g.T.g.keeps hb) (g.bi _ (by decide +kernel)) (g.T.b.keeps hb) ((g.T.builtins "abs" (by decide)).trans boot_abs) ?_) (by decide +kernel)
    refine ⟨rfl, ?_⟩
    refine call1_type (T := "int") ?_ rfl rfl
    refine Calls.Name_function_global rfl rfl (Calls.loadGlobal_builtin (mg := g.mg) (mb := g.mb) (g.T.g.keeps hb) (g.bi _ (by decide +kernel)) (g.T.b.keeps hb) ((g.T.builtins "int" (by decide)).trans Pv.boot_int) ?_) (by decide +kernel)
    refine ⟨rfl, ?_⟩
    refine wpAny_Name (wpAny_loadName_local rfl rfl hn hm ?_) (by decide +kernel)
    refine call_int_int ?_
    refine call_abs_int fun u tk => ?_
    exact ⟨⟨u, rfl⟩, tk, rfl⟩
  refine' wE_sliceS (la := la) (arr := arr) (ns := ns) (hx := ?hxx) hil hr (by (first | lia | omega)) ?_ ?hll ?hdd
  case hll => exact rfl
  case hdd => decide +kernel
  case hxx => none_booked
  refine wP_none ?_
  refine wP_some ?_
  refine wE_int ?_
  refine ⟨28, rfl, rfl, ?_⟩
  refine ⟨ns.take 28, by rw [pick_to _ _ (by (first | lia | omega)), zints_take]; rfl, by rw [List.length_take]; (first | lia | omega), ?_⟩
  generalize hgs : (ns.take 28).map (fun i => if i < 0 then -i else i) = gs
  have hgl : gs.length ≤ 1000 := by rw [← hgs, List.length_map, List.length_take]; (first | lia | omega)
  refine wA_nil ⟨by simp, fun ad hat => ?_⟩
  dsimp only
  refine wS_seq (fun S' => ∃ (w : Nat) (num : Int), 4 ≤ w ∧ w ≤ 9 ∧ num.natAbs ≤ 999 ∧ S'.m "w" = some (.int w) ∧ S'.m "number" = some (.int num) ∧ S'.m "tub" = some (.ref ad) ∧ S'.σ ad = some [.int ((0 + 1 + 1 : Nat) : Int), .list (zints gs)]) ?_ ?_
  · (with_reducible refine' wX_swap2 ?h_1 ?h1_1 ?h2_1 ?h3_1 ?h4_1); (case h4_1 => (intros; exact rfl)); (case h1_1 => exact rfl); (case h2_1 => exact rfl); (case h3_1 => (intros; exact rfl))
    with_reducible refine' wE_tuple ?_
    (with_reducible refine' wA_cons ?h_3 ?hs_3); (case hs_3 => (intro _; exact rfl))
    with_reducible refine' wE_binop ?_
    with_reducible refine' wE_int ?_
    (with_reducible refine' wE_def ?h_6 ?h1_6 ?h2_6 ?h3_6 ?h4_6 ?h5_6); (case h1_6 => decide +kernel); (case h2_6 => exact rfl); (case h3_6 => decide +kernel); (case h4_6 => (intro _; exact rfl)); (case h5_6 => (intro _; exact ⟨_, _, rfl, rfl⟩))
    (with_reducible refine' wA_cons ?h_7 ?hs_7); (case hs_7 => (intro _; exact rfl))
    (with_reducible refine' wE_local ?hv_8 ?h_8 ?hl_8 ?hd_8); (case hl_8 => exact rfl); (case hd_8 => decide +kernel); (case hv_8 => none_booked)
    (with_reducible refine' wA_cons ?h_9 ?hs_9); (case hs_9 => (intro _; exact rfl))
    with_reducible refine' wE_int ?_
    with_reducible refine' wA_nil ?_
    refine op_lend (a := ad) (l := [.int 0, .list (zints gs)]) (by none_booked) (t_sifted0 ad gs 6 hgl (by decide)) (by show (_ : Nat) ≤ 12; decide) ?_
    rintro x l' ⟨rfl, v, rfl, hv0, hv1⟩
    with_reducible refine' o_add ?_
    (with_reducible refine' wA_cons ?h_13 ?hs_13); (case hs_13 => (intro _; exact rfl))
    with_reducible refine' wE_binop ?_
    (with_reducible refine' wE_def ?h_15 ?h1_15 ?h2_15 ?h3_15 ?h4_15 ?h5_15); (case h1_15 => decide +kernel); (case h2_15 => exact rfl); (case h3_15 => decide +kernel); (case h4_15 => (intro _; exact rfl)); (case h5_15 => (intro _; exact ⟨_, _, rfl, rfl⟩))
    (with_reducible refine' wA_cons ?h_16 ?hs_16); (case hs_16 => (intro _; exact rfl))
    (with_reducible refine' wE_local ?hv_17 ?h_17 ?hl_17 ?hd_17); (case hl_17 => exact rfl); (case hd_17 => decide +kernel); (case hv_17 => none_booked)
    (with_reducible refine' wA_cons ?h_18 ?hs_18); (case hs_18 => (intro _; exact rfl))
    with_reducible refine' wE_int ?_
    with_reducible refine' wA_nil ?_
    refine op_lend (a := ad) (l := [.int ((0 + 1 : Nat) : Int), .list (zints gs)]) (by none_booked) (t_sifted ad (0 + 1) gs 1999 (by decide) hgl (by decide)) (by show (_ : Nat) ≤ 12; decide) ?_
    rintro x l' ⟨rfl, v2, rfl, hv2, hv3⟩
    with_reducible refine' wE_int ?_
    with_reducible refine' o_sub ?_
    with_reducible refine' wA_nil ?_
    (with_reducible refine' andLen ?h1_24 ?h_24); (case h1_24 => (simp; done))
    with_reducible refine' exT2 ?_
    with_reducible refine' andNext ?_
    obtain ⟨w, hw⟩ : ∃ w : Nat, 4 + v = (w : Int) := ⟨(4 + v).toNat, by (first | lia | omega)⟩
    exact ⟨w, v2 - 999, by (first | lia | omega), by (first | lia | omega), by (first | lia | omega), by rw [← hw]; none_booked, by none_booked, by none_booked, by none_booked⟩
  clear hat
  rintro S ⟨w, num, hw4, hw9, hnum, hww, hnu, htub, hsad⟩
  have hw' : 1 ≤ w ∧ w ≤ 29 := by (first | lia | omega)
  refine wS_seq (fun S' => ∃ (am de : Addr) (v : V), am ≠ ad ∧ de ≠ ad ∧ de ≠ am ∧ Num w v num ∧ LS ad am de w gs [v] [] num (0 + 1 + 1) S') ?_ ?_
  · (with_reducible refine' wX_swap2 ?h_27 ?h1_27 ?h2_27 ?h3_27 ?h4_27); (case h4_27 => (intros; exact rfl)); (case h1_27 => exact rfl); (case h2_27 => exact rfl); (case h3_27 => (intros; exact rfl))
    with_reducible refine' wE_tuple ?_
    (with_reducible refine' wA_cons ?h_29 ?hs_29); (case hs_29 => (intro _; exact rfl))
    refine wE_listM ?_
    (with_reducible refine' wA_cons ?h_30 ?hs_30); (case hs_30 => (intro _; exact rfl))
    (with_reducible refine' wE_def ?h_31 ?h1_31 ?h2_31 ?h3_31 ?h4_31 ?h5_31); (case h1_31 => decide +kernel); (case h2_31 => exact rfl); (case h3_31 => decide +kernel); (case h4_31 => (intro _; exact rfl)); (case h5_31 => (intro _; exact ⟨_, _, rfl, rfl⟩))
    (with_reducible refine' wA_cons ?h_32 ?hs_32); (case hs_32 => (intro _; exact rfl))
    (with_reducible refine' wE_local ?hv_33 ?h_33 ?hl_33 ?hd_33); (case hl_33 => exact rfl); (case hd_33 => decide +kernel); (case hv_33 => none_booked)
    (with_reducible refine' wA_cons ?h_34 ?hs_34); (case hs_34 => (intro _; exact rfl))
    (with_reducible refine' wE_local ?hv_35 ?h_35 ?hl_35 ?hd_35); (case hl_35 => exact rfl); (case hd_35 => decide +kernel); (case hv_35 => none_booked)
    with_reducible refine' wA_nil ?_
    refine op_pure (t_law_signed w hw' num (by unfold Sm; (first | lia | omega))) (by show (_ : Nat) ≤ 12; decide) fun r hr => ?_
    with_reducible refine' wA_nil ?_
    (with_reducible refine' andLen ?h1_38 ?h_38); (case h1_38 => (simp; done))
    intro am ham
    have ham : S.σ am = none := ham
    have hne1 : am ≠ ad := fun h => by rw [h, hsad] at ham; cases ham
    have hne1' : ad ≠ am := fun h => hne1 h.symm
    (with_reducible refine' wA_cons ?h_39 ?hs_39); (case hs_39 => (intro _; exact rfl))
    refine wE_listNew fun de hde => ?_
    have hde' : S.σ de = none ∧ de ≠ am := by
      have h : upd S.σ am [r] de = none := hde
      unfold upd at h
      split at h
      · cases h
      · rename_i hh; exact ⟨h, hh⟩
    have hne2 : de ≠ ad := fun h => by have := hde'.1; rw [h, hsad] at this; cases this
    have hne2' : ad ≠ de := fun h => hne2 h.symm
    have hne3 := hde'.2
    have hne3' : am ≠ de := fun h => hne3 h.symm
    with_reducible refine' wA_nil ?_
    (with_reducible refine' andLen ?h1_41 ?h_41); (case h1_41 => (simp; done))
    with_reducible refine' exT2 ?_
    with_reducible refine' andNext ?_
    refine ⟨am, de, r, hne1, hne2, hne3, hr, ?_⟩
    exact ⟨by none_booked, by none_booked, by none_booked, by none_booked, by none_booked, by none_booked, by none_booked, by none_booked⟩
  clear hww hnu htub hsad S
  rintro S ⟨am, de, v0, hne1, hne2, hne3, hv0, htub, hsad, hww, hnu, hmo, hsam, hdd, hsde⟩
  have hne1' : ad ≠ am := fun h => hne1 h.symm
  have hne2' : ad ≠ de := fun h => hne2 h.symm
  have hne3' : am ≠ de := fun h => hne3 h.symm
  refine wS_seq (fun S' => ∃ (k j : Nat) (num : Int) (ms ds : List V), j ≤ 8 ∧ Hist w j ms ds num ∧ LS ad am de w gs ms ds num k S') ?_ ?_
  · (with_reducible refine' wX_for ?h_44 ?h1_44 ?h2_44); (case h1_44 => exact rfl); (case h2_44 => (intros; exact rfl))
    (with_reducible refine' wI_rng ?h_45 ?h1_45 ?h2_45 ?h3_45); (case h1_45 => exact rfl); (case h2_45 => (intro _; exact rfl)); (case h3_45 => (intro _; exact ⟨_, _, rfl, rfl⟩))
    (with_reducible refine' wA_cons ?h_46 ?hs_46); (case hs_46 => (intro _; exact rfl))
    with_reducible refine' wE_binop ?_
    with_reducible refine' wE_int ?_
    (with_reducible refine' wE_def ?h_49 ?h1_49 ?h2_49 ?h3_49 ?h4_49 ?h5_49); (case h1_49 => decide +kernel); (case h2_49 => exact rfl); (case h3_49 => decide +kernel); (case h4_49 => (intro _; exact rfl)); (case h5_49 => (intro _; exact ⟨_, _, rfl, rfl⟩))
    (with_reducible refine' wA_cons ?h_50 ?hs_50); (case hs_50 => (intro _; exact rfl))
    (with_reducible refine' wE_local ?hv_51 ?h_51 ?hl_51 ?hd_51); (case hl_51 => exact rfl); (case hd_51 => decide +kernel); (case hv_51 => none_booked)
    (with_reducible refine' wA_cons ?h_52 ?hs_52); (case hs_52 => (intro _; exact rfl))
    with_reducible refine' wE_int ?_
    with_reducible refine' wA_nil ?_
    refine op_lend (a := ad) (l := [.int ((0 + 1 + 1 : Nat) : Int), .list (zints gs)]) (by none_booked) (t_sifted ad (0 + 1 + 1) gs 8 (by decide) hgl (by decide)) (by show (_ : Nat) ≤ 12; decide) ?_
    rintro x l' ⟨rfl, v8, rfl, h80, h81⟩
    with_reducible refine' o_add ?_
    with_reducible refine' wA_nil ?_
    (with_reducible refine' exRng1 ?h1_57 ?h_57); (case h1_57 => (unfold Fit; (first | lia | omega)))
    refine loop_inv (fun vs S => ∃ (j n k : Nat) (num : Int) (ms ds : List V), vs = upTo (j : Int) (n - j) ∧ j ≤ n ∧ n ≤ 8 ∧ k ≤ 3 + 3 * j ∧ Hist w j ms ds num ∧ LS ad am de w gs ms ds num k S) ?_ ?_ ?_
    · clear htub hsad hww hnu hmo hsam hdd hsde S hv0 v0 hnum num
      rintro u vs S ⟨j, n, k, num, ms, ds, hvs, hj, hn, hk, hh, htub, hsad, hww, hnu, hmo, hsam, hdd, hsde⟩
      obtain ⟨q, hq, rfl, rfl⟩ := upTo_cons hvs
      obtain ⟨hl1, hl2⟩ := hh.len
      obtain ⟨v, hv, hvn⟩ := hh.last
      have hj8 : 512 ^ j ≤ 512 ^ 8 := Nat.pow_le_pow_right (by decide) (by (first | lia | omega))
      have hbd := hh.bound
      have htm : Tm num := by unfold Tm; (first | lia | omega)
      -- form and other
      refine wS_seq (fun S' => ∃ (f o : Int), (0 ≤ f ∧ f < 10) ∧ (1 ≤ o ∧ o ≤ 63) ∧ S'.m "form" = some (.int f) ∧ S'.m "other" = some (.int o) ∧ LS ad am de w gs ms ds num (k + 1 + 1) S') ?_ ?_
      · (with_reducible refine' wX_swap2 ?h_58 ?h1_58 ?h2_58 ?h3_58 ?h4_58); (case h4_58 => (intros; exact rfl)); (case h1_58 => exact rfl); (case h2_58 => exact rfl); (case h3_58 => (intros; exact rfl))
        with_reducible refine' wE_tuple ?_
        (with_reducible refine' wA_cons ?h_60 ?hs_60); (case hs_60 => (intro _; exact rfl))
        (with_reducible refine' wE_def ?h_61 ?h1_61 ?h2_61 ?h3_61 ?h4_61 ?h5_61); (case h1_61 => decide +kernel); (case h2_61 => exact rfl); (case h3_61 => decide +kernel); (case h4_61 => (intro _; exact rfl)); (case h5_61 => (intro _; exact ⟨_, _, rfl, rfl⟩))
        (with_reducible refine' wA_cons ?h_62 ?hs_62); (case hs_62 => (intro _; exact rfl))
        (with_reducible refine' wE_local ?hv_63 ?h_63 ?hl_63 ?hd_63); (case hl_63 => exact rfl); (case hd_63 => decide +kernel); (case hv_63 => none_booked)
        (with_reducible refine' wA_cons ?h_64 ?hs_64); (case hs_64 => (intro _; exact rfl))
        with_reducible refine' wE_int ?_
        with_reducible refine' wA_nil ?_
        refine op_lend (a := ad) (l := [.int (k : Int), .list (zints gs)]) (by none_booked) (t_sifted ad k gs 10 (by (first | lia | omega)) hgl (by decide)) (by show (_ : Nat) ≤ 12; decide) ?_
        rintro x l' ⟨rfl, f, rfl, hf0, hf1⟩
        (with_reducible refine' wA_cons ?h_67 ?hs_67); (case hs_67 => (intro _; exact rfl))
        with_reducible refine' wE_binop ?_
        with_reducible refine' wE_int ?_
        (with_reducible refine' wE_def ?h_70 ?h1_70 ?h2_70 ?h3_70 ?h4_70 ?h5_70); (case h1_70 => decide +kernel); (case h2_70 => exact rfl); (case h3_70 => decide +kernel); (case h4_70 => (intro _; exact rfl)); (case h5_70 => (intro _; exact ⟨_, _, rfl, rfl⟩))
        (with_reducible refine' wA_cons ?h_71 ?hs_71); (case hs_71 => (intro _; exact rfl))
        (with_reducible refine' wE_local ?hv_72 ?h_72 ?hl_72 ?hd_72); (case hl_72 => exact rfl); (case hd_72 => decide +kernel); (case hv_72 => none_booked)
        (with_reducible refine' wA_cons ?h_73 ?hs_73); (case hs_73 => (intro _; exact rfl))
        with_reducible refine' wE_int ?_
        with_reducible refine' wA_nil ?_
        refine op_lend (a := ad) (l := [.int ((k + 1 : Nat) : Int), .list (zints gs)]) (by none_booked) (t_sifted ad (k + 1) gs 63 (by (first | lia | omega)) hgl (by decide)) (by show (_ : Nat) ≤ 12; decide) ?_
        rintro x l' ⟨rfl, o, rfl, ho0, ho1⟩
        with_reducible refine' o_add ?_
        with_reducible refine' wA_nil ?_
        (with_reducible refine' andLen ?h1_78 ?h_78); (case h1_78 => (simp; done))
        with_reducible refine' exT2 ?_
        with_reducible refine' andNext ?_
        refine ⟨f, 1 + o, ⟨hf0, hf1⟩, by (first | lia | omega), by none_booked, by none_booked, ?_⟩
        exact ⟨by none_booked, by none_booked, by none_booked, by none_booked, by none_booked, by none_booked, by none_booked, by none_booked⟩
      clear htub hsad hww hnu hmo hsam hdd hsde S
      rintro S ⟨f0, o0, hf0, ho0, hfo, hot, htub, hsad, hww, hnu, hmo, hsam, hdd, hsde⟩
      refine wS_seq (fun S' => ∃ (o : Int), (o ≠ 0 ∧ o.natAbs ≤ 63) ∧ S'.m "form" = some (.int f0) ∧ S'.m "other" = some (.int o) ∧ LS ad am de w gs ms ds num (k + 1 + 1 + 1) S') ?_ ?_
      · (with_reducible refine' wX_assign ?h_81 ?hl_81 ?hs_81); (case hl_81 => exact rfl); (case hs_81 => (intros; exact rfl))
        with_reducible refine' wE_ifexp ?_
        (with_reducible refine' wT_cmp ?h_83 ?hm_83); (case hm_83 => with_unfolding_all exact rfl)
        (with_reducible refine' wE_def ?h_84 ?h1_84 ?h2_84 ?h3_84 ?h4_84 ?h5_84); (case h1_84 => decide +kernel); (case h2_84 => exact rfl); (case h3_84 => decide +kernel); (case h4_84 => (intro _; exact rfl)); (case h5_84 => (intro _; exact ⟨_, _, rfl, rfl⟩))
        (with_reducible refine' wA_cons ?h_85 ?hs_85); (case hs_85 => (intro _; exact rfl))
        (with_reducible refine' wE_local ?hv_86 ?h_86 ?hl_86 ?hd_86); (case hl_86 => exact rfl); (case hd_86 => decide +kernel); (case hv_86 => none_booked)
        (with_reducible refine' wA_cons ?h_87 ?hs_87); (case hs_87 => (intro _; exact rfl))
        with_reducible refine' wE_int ?_
        with_reducible refine' wA_nil ?_
        refine op_lend (a := ad) (l := [.int ((k + 1 + 1 : Nat) : Int), .list (zints gs)]) (by none_booked) (t_sifted ad (k + 1 + 1) gs 2 (by (first | lia | omega)) hgl (by decide)) (by show (_ : Nat) ≤ 12; decide) ?_
        rintro x l' ⟨rfl, z, rfl, hz0, hz1⟩
        with_reducible refine' wE_int ?_
        with_reducible refine' c_eq ?_
        with_reducible refine' exTB ?_
        refine iteEq (fun h => ?_) (fun h => ?_)
        · (with_reducible refine' wE_local ?hv_93 ?h_93 ?hl_93 ?hd_93); (case hl_93 => exact rfl); (case hd_93 => decide +kernel); (case hv_93 => none_booked)
          with_reducible refine' andNext ?_
          refine ⟨o0, by (first | lia | omega), by none_booked, by none_booked, ?_⟩
          exact ⟨by none_booked, by none_booked, by none_booked, by none_booked, by none_booked, by none_booked, by none_booked, by none_booked⟩
        · with_reducible refine' wE_binop ?_
          with_reducible refine' wE_int ?_
          (with_reducible refine' wE_local ?hv_97 ?h_97 ?hl_97 ?hd_97); (case hl_97 => exact rfl); (case hd_97 => decide +kernel); (case hv_97 => none_booked)
          with_reducible refine' o_sub ?_
          with_reducible refine' andNext ?_
          refine ⟨0 - o0, by (first | lia | omega), by none_booked, by none_booked, ?_⟩
          exact ⟨by none_booked, by none_booked, by none_booked, by none_booked, by none_booked, by none_booked, by none_booked, by none_booked⟩
      clear htub hsad hww hnu hmo hsam hdd hsde hfo hot S ho0 o0
      rintro S ⟨o, ho, hfo, hot, htub, hsad, hww, hnu, hmo, hsam, hdd, hsde⟩
      -- the refusal
      refine wS_seq (fun S' => S'.m "form" = some (.int f0) ∧ S'.m "other" = some (.int o) ∧ LS ad am de w gs ms ds num (k + 1 + 1 + 1) S') ?_ ?_
      · with_reducible refine' wX_if ?_
        with_reducible refine' wT_and ?_
        (with_reducible refine' wT_cmp ?h_102 ?hm_102); (case hm_102 => with_unfolding_all exact rfl)
        with_reducible refine' wE_binop ?_
        (with_reducible refine' wE_local ?hv_104 ?h_104 ?hl_104 ?hd_104); (case hl_104 => exact rfl); (case hd_104 => decide +kernel); (case hv_104 => none_booked)
        with_reducible refine' wE_int ?_
        (with_reducible refine' o_md ?h1_106 ?h_106); (case h1_106 => (first | lia | omega))
        with_reducible refine' wE_int ?_
        with_reducible refine' c_eq ?_
        with_reducible refine' exTB ?_
        refine iteEq (fun h => ?_) (fun h => ?_)
        · with_reducible refine' wT_and ?_
          with_reducible refine' wT_not ?_
          (with_reducible refine' wT_plain ?h_112 ?he_112); (case he_112 => (intros; exact rfl))
          (with_reducible refine' wE_def ?h_113 ?h1_113 ?h2_113 ?h3_113 ?h4_113 ?h5_113); (case h1_113 => decide +kernel); (case h2_113 => exact rfl); (case h3_113 => decide +kernel); (case h4_113 => (intro _; exact rfl)); (case h5_113 => (intro _; exact ⟨_, _, rfl, rfl⟩))
          (with_reducible refine' wA_cons ?h_114 ?hs_114); (case hs_114 => (intro _; exact rfl))
          with_reducible refine' wE_sub ?_
          (with_reducible refine' wE_local ?hv_116 ?h_116 ?hl_116 ?hd_116); (case hl_116 => exact rfl); (case hd_116 => decide +kernel); (case hv_116 => none_booked)
          with_reducible refine' wE_unop ?_
          with_reducible refine' wE_int ?_
          with_reducible refine' o_neg ?_
          refine s_refM (l := ms) (k := j) (x := v) (by none_booked) (by (first | lia | omega)) (by (first | lia | omega)) hv (by (first | lia | omega)) ?_
          (with_reducible refine' wA_cons ?h_120 ?hs_120); (case hs_120 => (intro _; exact rfl))
          (with_reducible refine' wE_local ?hv_121 ?h_121 ?hl_121 ?hd_121); (case hl_121 => exact rfl); (case hd_121 => decide +kernel); (case hv_121 => none_booked)
          with_reducible refine' wA_nil ?_
          refine op_refuses w hw' v num hvn htm.sm h (by show (_ : Nat) ≤ 12; decide) (fun A L h => h) ?_
          with_reducible refine' exTB ?_
          refine iteNot ?_
          with_reducible refine' iteT ?_
          with_reducible refine' iteF ?_
          with_reducible refine' wS_nil ?_
          with_reducible refine' andNext ?_
          refine ⟨by none_booked, by none_booked, ?_⟩
          exact ⟨by none_booked, by none_booked, by none_booked, by none_booked, by none_booked, by none_booked, by none_booked, by none_booked⟩
        · with_reducible refine' iteF ?_
          with_reducible refine' wS_nil ?_
          with_reducible refine' andNext ?_
          refine ⟨by none_booked, by none_booked, ?_⟩
          exact ⟨by none_booked, by none_booked, by none_booked, by none_booked, by none_booked, by none_booked, by none_booked, by none_booked⟩
      clear htub hsad hww hnu hmo hsam hdd hsde hfo hot S
      rintro S ⟨hfo, hot, htub, hsad, hww, hnu, hmo, hsam, hdd, hsde⟩
      refine wS_seq (fun S' => ∃ f : Int, (0 ≤ f ∧ f < 10) ∧ (f = 9 → num % 2 = 0) ∧ S'.m "form" = some (.int f) ∧ S'.m "other" = some (.int o) ∧ LS ad am de w gs ms ds num (k + 1 + 1 + 1) S') ?_ ?_
      · (with_reducible refine' wX_assign ?h_131 ?hl_131 ?hs_131); (case hl_131 => exact rfl); (case hs_131 => (intros; exact rfl))
        with_reducible refine' wE_ifexp ?_
        with_reducible refine' wT_and ?_
        (with_reducible refine' wT_cmp ?h_134 ?hm_134); (case hm_134 => with_unfolding_all exact rfl)
        (with_reducible refine' wE_local ?hv_135 ?h_135 ?hl_135 ?hd_135); (case hl_135 => exact rfl); (case hd_135 => decide +kernel); (case hv_135 => none_booked)
        with_reducible refine' wE_int ?_
        with_reducible refine' c_eq ?_
        with_reducible refine' exTB ?_
        refine iteEq (fun h => ?_) (fun h => ?_)
        · with_reducible refine' wT_and ?_
          (with_reducible refine' wT_cmp ?h_140 ?hm_140); (case hm_140 => with_unfolding_all exact rfl)
          with_reducible refine' wE_binop ?_
          (with_reducible refine' wE_local ?hv_142 ?h_142 ?hl_142 ?hd_142); (case hl_142 => exact rfl); (case hd_142 => decide +kernel); (case hv_142 => none_booked)
          with_reducible refine' wE_int ?_
          (with_reducible refine' o_md ?h1_144 ?h_144); (case h1_144 => (first | lia | omega))
          with_reducible refine' wE_int ?_
          with_reducible refine' c_eq ?_
          with_reducible refine' exTB ?_
          refine iteEq (fun h2 => ?_) (fun h2 => ?_)
          · with_reducible refine' wT_and_nil ?_
            with_reducible refine' iteT ?_
            with_reducible refine' wE_int ?_
            with_reducible refine' andNext ?_
            refine ⟨8, by (first | lia | omega), by (first | lia | omega), by none_booked, by none_booked, ?_⟩
            exact ⟨by none_booked, by none_booked, by none_booked, by none_booked, by none_booked, by none_booked, by none_booked, by none_booked⟩
          · with_reducible refine' iteF ?_
            (with_reducible refine' wE_local ?hv_153 ?h_153 ?hl_153 ?hd_153); (case hl_153 => exact rfl); (case hd_153 => decide +kernel); (case hv_153 => none_booked)
            with_reducible refine' andNext ?_
            refine ⟨f0, hf0, by (first | lia | omega), by none_booked, by none_booked, ?_⟩
            exact ⟨by none_booked, by none_booked, by none_booked, by none_booked, by none_booked, by none_booked, by none_booked, by none_booked⟩
        · with_reducible refine' iteF ?_
          (with_reducible refine' wE_local ?hv_156 ?h_156 ?hl_156 ?hd_156); (case hl_156 => exact rfl); (case hd_156 => decide +kernel); (case hv_156 => none_booked)
          with_reducible refine' andNext ?_
          refine ⟨f0, hf0, by (first | lia | omega), by none_booked, by none_booked, ?_⟩
          exact ⟨by none_booked, by none_booked, by none_booked, by none_booked, by none_booked, by none_booked, by none_booked, by none_booked⟩
      clear htub hsad hww hnu hmo hsam hdd hsde hfo hot S hf0 f0
      rintro S ⟨f, hf, h9, hfo, hot, htub, hsad, hww, hnu, hmo, hsam, hdd, hsde⟩
      -- the deed
      refine wS_seq (fun S' => ∃ (y : V) (m : Nat), Num w y o ∧ m ≤ 9 ∧ S'.m "form" = some (.int f) ∧ S'.m "other" = some (.int o) ∧ S'.m "deed" = some (.tup [.int f, y, .int (m : Int)]) ∧ LS ad am de w gs ms ds num (k + 1 + 1 + 1) S') ?_ ?_
      · obtain ⟨m, hm, hm9⟩ : ∃ m : Nat, (if o < 0 then -o else o) % 10 = (m : Int) ∧ m ≤ 9 := ⟨((if o < 0 then -o else o) % 10).toNat, by split <;> (first | lia | omega), by split <;> (first | lia | omega)⟩
        (with_reducible refine' wX_assign ?h_158 ?hl_158 ?hs_158); (case hl_158 => exact rfl); (case hs_158 => (intros; exact rfl))
        with_reducible refine' wE_tuple ?_
        (with_reducible refine' wA_cons ?h_160 ?hs_160); (case hs_160 => (intro _; exact rfl))
        (with_reducible refine' wE_local ?hv_161 ?h_161 ?hl_161 ?hd_161); (case hl_161 => exact rfl); (case hd_161 => decide +kernel); (case hv_161 => none_booked)
        (with_reducible refine' wA_cons ?h_162 ?hs_162); (case hs_162 => (intro _; exact rfl))
        (with_reducible refine' wE_def ?h_163 ?h1_163 ?h2_163 ?h3_163 ?h4_163 ?h5_163); (case h1_163 => decide +kernel); (case h2_163 => exact rfl); (case h3_163 => decide +kernel); (case h4_163 => (intro _; exact rfl)); (case h5_163 => (intro _; exact ⟨_, _, rfl, rfl⟩))
        (with_reducible refine' wA_cons ?h_164 ?hs_164); (case hs_164 => (intro _; exact rfl))
        (with_reducible refine' wE_local ?hv_165 ?h_165 ?hl_165 ?hd_165); (case hl_165 => exact rfl); (case hd_165 => decide +kernel); (case hv_165 => none_booked)
        (with_reducible refine' wA_cons ?h_166 ?hs_166); (case hs_166 => (intro _; exact rfl))
        (with_reducible refine' wE_local ?hv_167 ?h_167 ?hl_167 ?hd_167); (case hl_167 => exact rfl); (case hd_167 => decide +kernel); (case hv_167 => none_booked)
        with_reducible refine' wA_nil ?_
        refine op_pure (t_law_signed w hw' o (by unfold Sm; (first | lia | omega))) (by show (_ : Nat) ≤ 12; decide) fun y hy => ?_
        (with_reducible refine' wA_cons ?h_169 ?hs_169); (case hs_169 => (intro _; exact rfl))
        with_reducible refine' wE_binop ?_
        (with_reducible refine' wE_abs ?h_171 ?h1_171 ?h2_171 ?h3_171 ?h4_171); (case h1_171 => exact rfl); (case h2_171 => (intro _; exact rfl)); (case h3_171 => (intro _; exact ⟨_, _, rfl, rfl⟩)); (case h4_171 => (intro _; exact rfl))
        (with_reducible refine' wE_local ?hv_172 ?h_172 ?hl_172 ?hd_172); (case hl_172 => exact rfl); (case hd_172 => decide +kernel); (case hv_172 => none_booked)
        refine b_abs ?_
        with_reducible refine' wE_int ?_
        (with_reducible refine' o_md ?h1_174 ?h_174); (case h1_174 => (first | lia | omega))
        with_reducible refine' wA_nil ?_
        (with_reducible refine' andLen ?h1_176 ?h_176); (case h1_176 => (simp; done))
        with_reducible refine' andNext ?_
        rw [hm]
        refine ⟨y, m, hy, hm9, by none_booked, by none_booked, by none_booked, ?_⟩
        exact ⟨by none_booked, by none_booked, by none_booked, by none_booked, by none_booked, by none_booked, by none_booked, by none_booked⟩
      clear htub hsad hww hnu hmo hsam hdd hsde hfo hot S
      rintro S ⟨y, m, hy, hm9, hfo, hot, hde, htub, hsad, hww, hnu, hmo, hsam, hdd, hsde⟩
      have hp1 : 1 ≤ 512 ^ j := Nat.pos_of_ne_zero (by simp)
      have hdl := due_le (f := f) ho hm9 hbd (by (first | lia | omega))
      have hds : Sm (due f num o m) := by unfold Sm; (first | lia | omega)
      refine wS_seq (fun S' => ∃ (x b : V), Num w x (due f num o m) ∧ Lost w f b num o m ∧ S'.m "form" = some (.int f) ∧ S'.m "other" = some (.int o) ∧ S'.m "deed" = some (.tup [.int f, y, .int (m : Int)]) ∧ S'.m "x" = some x ∧ S'.m "lost" = some b ∧ LS ad am de w gs ms ds num (k + 1 + 1 + 1) S') ?_ ?_
      · (with_reducible refine' wX_unpack2 ?h_178 ?h1_178 ?h2_178 ?h3_178 ?h4_178); (case h4_178 => (intros; exact rfl)); (case h1_178 => exact rfl); (case h2_178 => exact rfl); (case h3_178 => (intros; exact rfl))
        (with_reducible refine' wE_def ?h_179 ?h1_179 ?h2_179 ?h3_179 ?h4_179 ?h5_179); (case h1_179 => decide +kernel); (case h2_179 => exact rfl); (case h3_179 => decide +kernel); (case h4_179 => (intro _; exact rfl)); (case h5_179 => (intro _; exact ⟨_, _, rfl, rfl⟩))
        (with_reducible refine' wA_cons ?h_180 ?hs_180); (case hs_180 => (intro _; exact rfl))
        (with_reducible refine' wE_local ?hv_181 ?h_181 ?hl_181 ?hd_181); (case hl_181 => exact rfl); (case hd_181 => decide +kernel); (case hv_181 => none_booked)
        (with_reducible refine' wA_cons ?h_182 ?hs_182); (case hs_182 => (intro _; exact rfl))
        with_reducible refine' wE_sub ?_
        (with_reducible refine' wE_local ?hv_184 ?h_184 ?hl_184 ?hd_184); (case hl_184 => exact rfl); (case hd_184 => decide +kernel); (case hv_184 => none_booked)
        with_reducible refine' wE_unop ?_
        with_reducible refine' wE_int ?_
        with_reducible refine' o_neg ?_
        refine s_refM (l := ms) (k := j) (x := v) (by none_booked) (by (first | lia | omega)) (by (first | lia | omega)) hv (by (first | lia | omega)) ?_
        (with_reducible refine' wA_cons ?h_188 ?hs_188); (case hs_188 => (intro _; exact rfl))
        (with_reducible refine' wE_local ?hv_189 ?h_189 ?hl_189 ?hd_189); (case hl_189 => exact rfl); (case hd_189 => decide +kernel); (case hv_189 => none_booked)
        with_reducible refine' wA_nil ?_
        refine op_pure (t_law_done w (by (first | lia | omega)) f num o m v y hf hvn hy htm ho hm9 h9) (by show (_ : Nat) ≤ 12; decide) fun r hr => ?_
        obtain ⟨x, b, rfl, hx, hb⟩ := hr
        with_reducible refine' exT2 ?_
        with_reducible refine' andNext ?_
        refine ⟨x, b, hx, hb, by none_booked, by none_booked, by none_booked, by none_booked, by none_booked, ?_⟩
        exact ⟨by none_booked, by none_booked, by none_booked, by none_booked, by none_booked, by none_booked, by none_booked, by none_booked⟩
      clear htub hsad hww hnu hmo hsam hdd hsde hfo hot hde S
      rintro S ⟨x, b, hx, hb, hfo, hot, hde, hxx, hlo, htub, hsad, hww, hnu, hmo, hsam, hdd, hsde⟩
      refine wS_seq (fun S' => LT f o (due f num o m) y x b m S' ∧ LS ad am de w gs ms ds num (k + 1 + 1 + 1) S') ?_ ?_
      · (with_reducible refine' wX_assign ?h_193 ?hl_193 ?hs_193); (case hl_193 => exact rfl); (case hs_193 => (intros; exact rfl))
        (with_reducible refine' wE_def ?h_194 ?h1_194 ?h2_194 ?h3_194 ?h4_194 ?h5_194); (case h1_194 => decide +kernel); (case h2_194 => exact rfl); (case h3_194 => decide +kernel); (case h4_194 => (intro _; exact rfl)); (case h5_194 => (intro _; exact ⟨_, _, rfl, rfl⟩))
        (with_reducible refine' wA_cons ?h_195 ?hs_195); (case hs_195 => (intro _; exact rfl))
        (with_reducible refine' wE_local ?hv_196 ?h_196 ?hl_196 ?hd_196); (case hl_196 => exact rfl); (case hd_196 => decide +kernel); (case hv_196 => none_booked)
        (with_reducible refine' wA_cons ?h_197 ?hs_197); (case hs_197 => (intro _; exact rfl))
        (with_reducible refine' wE_local ?hv_198 ?h_198 ?hl_198 ?hd_198); (case hl_198 => exact rfl); (case hd_198 => decide +kernel); (case hv_198 => none_booked)
        (with_reducible refine' wA_cons ?h_199 ?hs_199); (case hs_199 => (intro _; exact rfl))
        (with_reducible refine' wE_local ?hv_200 ?h_200 ?hl_200 ?hd_200); (case hl_200 => exact rfl); (case hd_200 => decide +kernel); (case hv_200 => none_booked)
        with_reducible refine' wA_nil ?_
        refine op_pure (t_law_due f num o m y hf ho hm9) (by show (_ : Nat) ≤ 12; decide) fun r hr => ?_
        subst hr
        with_reducible refine' andNext ?_
        refine ⟨?_, ?_⟩
        · exact ⟨by none_booked, by none_booked, by none_booked, by none_booked, by none_booked, by none_booked⟩
        · exact ⟨by none_booked, by none_booked, by none_booked, by none_booked, by none_booked, by none_booked, by none_booked, by none_booked⟩
      clear htub hsad hww hnu hmo hsam hdd hsde hfo hot hde hxx hlo S
      rintro S ⟨⟨hfo, hot, hde, hxx, hlo, hdu⟩, htub, hsad, hww, hnu, hmo, hsam, hdd, hsde⟩
      -- the three comparisons
      refine wS_seq (fun S' => LT f o (due f num o m) y x b m S' ∧ LS ad am de w gs ms ds num (k + 1 + 1 + 1) S') ?_ ?_
      · with_reducible refine' wX_if ?_
        with_reducible refine' wT_or ?_
        (with_reducible refine' wT_cmp ?h_205 ?hm_205); (case hm_205 => with_unfolding_all exact rfl)
        (with_reducible refine' wE_local ?hv_206 ?h_206 ?hl_206 ?hd_206); (case hl_206 => exact rfl); (case hd_206 => decide +kernel); (case hv_206 => none_booked)
        (with_reducible refine' wE_def ?h_207 ?h1_207 ?h2_207 ?h3_207 ?h4_207 ?h5_207); (case h1_207 => decide +kernel); (case h2_207 => exact rfl); (case h3_207 => decide +kernel); (case h4_207 => (intro _; exact rfl)); (case h5_207 => (intro _; exact ⟨_, _, rfl, rfl⟩))
        (with_reducible refine' wA_cons ?h_208 ?hs_208); (case hs_208 => (intro _; exact rfl))
        (with_reducible refine' wE_local ?hv_209 ?h_209 ?hl_209 ?hd_209); (case hl_209 => exact rfl); (case hd_209 => decide +kernel); (case hv_209 => none_booked)
        (with_reducible refine' wA_cons ?h_210 ?hs_210); (case hs_210 => (intro _; exact rfl))
        (with_reducible refine' wE_local ?hv_211 ?h_211 ?hl_211 ?hd_211); (case hl_211 => exact rfl); (case hd_211 => decide +kernel); (case hv_211 => none_booked)
        with_reducible refine' wA_nil ?_
        refine op_pure (t_law_signed w hw' _ hds) (by show (_ : Nat) ≤ 12; decide) fun r hr => ?_
        refine c_neN (w := w) (by (first | lia | omega)) hx hr ?_
        with_reducible refine' exTB ?_
        with_reducible refine' iteF ?_
        with_reducible refine' wT_or ?_
        (with_reducible refine' wT_cmp ?h_216 ?hm_216); (case hm_216 => with_unfolding_all exact rfl)
        with_reducible refine' wE_sub ?_
        (with_reducible refine' wE_local ?hv_218 ?h_218 ?hl_218 ?hd_218); (case hl_218 => exact rfl); (case hd_218 => decide +kernel); (case hv_218 => none_booked)
        with_reducible refine' wE_int ?_
        (with_reducible refine' s_tup ?h0_220 ?hx_220 ?hsz_220 ?h_220 ?hs_220); (case hs_220 => (intro _ _; exact rfl)); (case h0_220 => (first | lia | omega)); (case hx_220 => exact rfl); (case hsz_220 => (simp; done))
        (with_reducible refine' wE_def ?h_221 ?h1_221 ?h2_221 ?h3_221 ?h4_221 ?h5_221); (case h1_221 => decide +kernel); (case h2_221 => exact rfl); (case h3_221 => decide +kernel); (case h4_221 => (intro _; exact rfl)); (case h5_221 => (intro _; exact ⟨_, _, rfl, rfl⟩))
        (with_reducible refine' wA_cons ?h_222 ?hs_222); (case hs_222 => (intro _; exact rfl))
        (with_reducible refine' wE_local ?hv_223 ?h_223 ?hl_223 ?hd_223); (case hl_223 => exact rfl); (case hd_223 => decide +kernel); (case hv_223 => none_booked)
        (with_reducible refine' wA_cons ?h_224 ?hs_224); (case hs_224 => (intro _; exact rfl))
        (with_reducible refine' wE_local ?hv_225 ?h_225 ?hl_225 ?hd_225); (case hl_225 => exact rfl); (case hd_225 => decide +kernel); (case hv_225 => none_booked)
        with_reducible refine' wA_nil ?_
        refine op_pure (t_law_signed w hw' o (by unfold Sm; (first | lia | omega))) (by show (_ : Nat) ≤ 12; decide) fun r2 hr2 => ?_
        refine c_neN (w := w) (by (first | lia | omega)) hy hr2 ?_
        with_reducible refine' exTB ?_
        with_reducible refine' iteF ?_
        with_reducible refine' wT_or ?_
        (with_reducible refine' wT_cmp ?h_230 ?hm_230); (case hm_230 => with_unfolding_all exact rfl)
        with_reducible refine' wE_sub ?_
        (with_reducible refine' wE_local ?hv_232 ?h_232 ?hl_232 ?hd_232); (case hl_232 => exact rfl); (case hd_232 => decide +kernel); (case hv_232 => none_booked)
        with_reducible refine' wE_unop ?_
        with_reducible refine' wE_int ?_
        with_reducible refine' o_neg ?_
        refine s_refM (l := ms) (k := j) (x := v) (by none_booked) (by (first | lia | omega)) (by (first | lia | omega)) hv (by (first | lia | omega)) ?_
        (with_reducible refine' wE_def ?h_236 ?h1_236 ?h2_236 ?h3_236 ?h4_236 ?h5_236); (case h1_236 => decide +kernel); (case h2_236 => exact rfl); (case h3_236 => decide +kernel); (case h4_236 => (intro _; exact rfl)); (case h5_236 => (intro _; exact ⟨_, _, rfl, rfl⟩))
        (with_reducible refine' wA_cons ?h_237 ?hs_237); (case hs_237 => (intro _; exact rfl))
        (with_reducible refine' wE_local ?hv_238 ?h_238 ?hl_238 ?hd_238); (case hl_238 => exact rfl); (case hd_238 => decide +kernel); (case hv_238 => none_booked)
        (with_reducible refine' wA_cons ?h_239 ?hs_239); (case hs_239 => (intro _; exact rfl))
        (with_reducible refine' wE_local ?hv_240 ?h_240 ?hl_240 ?hd_240); (case hl_240 => exact rfl); (case hd_240 => decide +kernel); (case hv_240 => none_booked)
        with_reducible refine' wA_nil ?_
        refine op_pure (t_law_signed w hw' num htm.sm) (by show (_ : Nat) ≤ 12; decide) fun r3 hr3 => ?_
        refine c_neN (w := w) (by (first | lia | omega)) hvn hr3 ?_
        with_reducible refine' exTB ?_
        with_reducible refine' iteF ?_
        with_reducible refine' wT_or_nil ?_
        with_reducible refine' iteF ?_
        with_reducible refine' wS_nil ?_
        with_reducible refine' andNext ?_
        refine ⟨?_, ?_⟩
        · exact ⟨by none_booked, by none_booked, by none_booked, by none_booked, by none_booked, by none_booked⟩
        · exact ⟨by none_booked, by none_booked, by none_booked, by none_booked, by none_booked, by none_booked, by none_booked, by none_booked⟩
      clear htub hsad hww hnu hmo hsam hdd hsde hfo hot hde hxx hlo hdu S
      rintro S ⟨⟨hfo, hot, hde, hxx, hlo, hdu⟩, htub, hsad, hww, hnu, hmo, hsam, hdd, hsde⟩
      -- what a division leaves
      refine wS_seq (fun S' => LT f o (due f num o m) y x b m S' ∧ LS ad am de w gs ms ds num (k + 1 + 1 + 1) S') ?_ ?_
      · with_reducible refine' wX_if ?_
        with_reducible refine' wT_and ?_
        (with_reducible refine' wT_chain ?h_250 ?hm_250); (case hm_250 => with_unfolding_all exact rfl)
        with_reducible refine' wE_int ?_
        (with_reducible refine' wE_local ?hv_252 ?h_252 ?hl_252 ?hd_252); (case hl_252 => exact rfl); (case hd_252 => decide +kernel); (case hv_252 => none_booked)
        with_reducible refine' c_lt ?_
        with_reducible refine' exTB ?_
        refine iteD (fun h => ?_) (fun h => ?_)
        · with_reducible refine' wE_int ?_
          with_reducible refine' c_lt ?_
          with_reducible refine' exTB ?_
          refine iteD (fun h6 => ?_) (fun h6 => ?_)
          · with_reducible refine' wT_and ?_
            (with_reducible refine' wT_cmp ?h_259 ?hm_259); (case hm_259 => with_unfolding_all exact rfl)
            (with_reducible refine' wE_local ?hv_260 ?h_260 ?hl_260 ?hd_260); (case hl_260 => exact rfl); (case hd_260 => decide +kernel); (case hv_260 => none_booked)
            (with_reducible refine' wE_def ?h_261 ?h1_261 ?h2_261 ?h3_261 ?h4_261 ?h5_261); (case h1_261 => decide +kernel); (case h2_261 => exact rfl); (case h3_261 => decide +kernel); (case h4_261 => (intro _; exact rfl)); (case h5_261 => (intro _; exact ⟨_, _, rfl, rfl⟩))
            (with_reducible refine' wA_cons ?h_262 ?hs_262); (case hs_262 => (intro _; exact rfl))
            with_reducible refine' wE_binop ?_
            (with_reducible refine' wE_local ?hv_264 ?h_264 ?hl_264 ?hd_264); (case hl_264 => exact rfl); (case hd_264 => decide +kernel); (case hv_264 => none_booked)
            with_reducible refine' wE_binop ?_
            (with_reducible refine' wE_local ?hv_266 ?h_266 ?hl_266 ?hd_266); (case hl_266 => exact rfl); (case hd_266 => decide +kernel); (case hv_266 => none_booked)
            (with_reducible refine' wE_local ?hv_267 ?h_267 ?hl_267 ?hd_267); (case hl_267 => exact rfl); (case hd_267 => decide +kernel); (case hv_267 => none_booked)
            refine o_mulR (by (first | lia | omega)) ?_
            with_reducible refine' o_sub ?_
            (with_reducible refine' wA_cons ?h_269 ?hs_269); (case hs_269 => (intro _; exact rfl))
            (with_reducible refine' wE_local ?hv_270 ?h_270 ?hl_270 ?hd_270); (case hl_270 => exact rfl); (case hd_270 => decide +kernel); (case hv_270 => none_booked)
            with_reducible refine' wA_nil ?_
            have hb' : Num w b (num - due f num o m * o) := by
              unfold Lost at hb; rw [if_pos (by (first | lia | omega))] at hb; exact hb
            refine op_pure (t_law_signed w hw' _ ?_) (by show (_ : Nat) ≤ 12; decide) fun r hr => ?_
            · have := mul_le hdl (show o.natAbs ≤ 512 by (first | lia | omega))
              unfold Sm; (first | lia | omega)
            refine c_neN (w := w) (by (first | lia | omega)) hb' hr ?_
            with_reducible refine' exTB ?_
            with_reducible refine' iteF ?_
            with_reducible refine' iteF ?_
            with_reducible refine' wS_nil ?_
            with_reducible refine' andNext ?_
            refine ⟨?_, ?_⟩
            · exact ⟨by none_booked, by none_booked, by none_booked, by none_booked, by none_booked, by none_booked⟩
            · exact ⟨by none_booked, by none_booked, by none_booked, by none_booked, by none_booked, by none_booked, by none_booked, by none_booked⟩
          · with_reducible refine' iteF ?_
            with_reducible refine' wS_nil ?_
            with_reducible refine' andNext ?_
            refine ⟨?_, ?_⟩
            · exact ⟨by none_booked, by none_booked, by none_booked, by none_booked, by none_booked, by none_booked⟩
            · exact ⟨by none_booked, by none_booked, by none_booked, by none_booked, by none_booked, by none_booked, by none_booked, by none_booked⟩
        · with_reducible refine' iteF ?_
          with_reducible refine' iteF ?_
          with_reducible refine' wS_nil ?_
          with_reducible refine' andNext ?_
          refine ⟨?_, ?_⟩
          · exact ⟨by none_booked, by none_booked, by none_booked, by none_booked, by none_booked, by none_booked⟩
          · exact ⟨by none_booked, by none_booked, by none_booked, by none_booked, by none_booked, by none_booked, by none_booked, by none_booked⟩
      clear htub hsad hww hnu hmo hsam hdd hsde hfo hot hde hxx hlo hdu S
      rintro S ⟨⟨hfo, hot, hde, hxx, hlo, hdu⟩, htub, hsad, hww, hnu, hmo, hsam, hdd, hsde⟩
      -- two in a row
      refine wS_seq (fun S' => LT f o (due f num o m) y x b m S' ∧ LS ad am de w gs ms ds num (k + 1 + 1 + 1) S') ?_ ?_
      · obtain ⟨dd, hdp, hdsh⟩ := hh.shaped
        with_reducible refine' wX_if ?_
        with_reducible refine' wT_and ?_
        (with_reducible refine' wT_cmp ?h_286 ?hm_286); (case hm_286 => with_unfolding_all exact rfl)
        (with_reducible refine' wE_local ?hv_287 ?h_287 ?hl_287 ?hd_287); (case hl_287 => exact rfl); (case hd_287 => decide +kernel); (case hv_287 => none_booked)
        refine wE_listEmp ?_
        refine c_neEmp (l := ds) (by none_booked) hdp hdsh ?_
        with_reducible refine' exTB ?_
        refine iteB (fun h => ?_) (fun h => ?_)
        · have hj1 : 1 ≤ j := by
            cases ds with
            | nil => simp at h
            | cons _ _ => simp at hl2; (first | lia | omega)
          obtain ⟨f', o', n', m', x', x'', y', b', a1, a2, a3, a4, a5, a6, a7, a8, a9, a10, a11, a12, a13⟩ := hh.at (j - 1) (by (first | lia | omega))
          have hnum := a13 (by (first | lia | omega))
          have sw : ((0 ≤ f' ∧ f' < 2 ∧ 0 ≤ f ∧ f < 2) ∨ (f' = 2 ∧ f = 2)) → GCall g (g.fa "_law_swapped") 9 [x'', .tup [.int f', y', .int (m' : Int)], .tup [.int f, y, .int (m : Int)], .int w] (fun _ => none) (fun r _ => Num w r (due f num o m)) := fun hc => by
            have := t_law_swapped (g := g) w (by (first | lia | omega)) f' f n' o' o m' m x'' y' y (by (first | lia | omega)) (by (first | lia | omega)) a8 a5 hy (by (first | lia | omega)) a2 ho a3 hm9
            rw [due_comm hc, hnum] at this
            exact this
          with_reducible refine' wT_and ?_
          with_reducible refine' wT_or ?_
          with_reducible refine' wT_and ?_
          (with_reducible refine' wT_cmp ?h_292 ?hm_292); (case hm_292 => with_unfolding_all exact rfl)
          (with_reducible refine' wE_local ?hv_293 ?h_293 ?hl_293 ?hd_293); (case hl_293 => exact rfl); (case hd_293 => decide +kernel); (case hv_293 => none_booked)
          with_reducible refine' wE_int ?_
          with_reducible refine' c_lt ?_
          with_reducible refine' exTB ?_
          refine iteD (fun h1 => ?_) (fun h1 => ?_)
          · with_reducible refine' wT_and ?_
            (with_reducible refine' wT_cmp ?h_298 ?hm_298); (case hm_298 => with_unfolding_all exact rfl)
            with_reducible refine' wE_sub ?_
            with_reducible refine' wE_sub ?_
            with_reducible refine' wE_sub ?_
            (with_reducible refine' wE_local ?hv_302 ?h_302 ?hl_302 ?hd_302); (case hl_302 => exact rfl); (case hd_302 => decide +kernel); (case hv_302 => none_booked)
            with_reducible refine' wE_unop ?_
            with_reducible refine' wE_int ?_
            with_reducible refine' o_neg ?_
            refine s_refM (l := ds) (k := j - 1) (by none_booked) (by (first | lia | omega)) (by (first | lia | omega)) a9 (by (first | lia | omega)) ?_
            with_reducible refine' wE_int ?_
            (with_reducible refine' s_tup ?h0_307 ?hx_307 ?hsz_307 ?h_307 ?hs_307); (case hs_307 => (intro _ _; exact rfl)); (case h0_307 => (first | lia | omega)); (case hx_307 => exact rfl); (case hsz_307 => (simp; done))
            with_reducible refine' wE_int ?_
            (with_reducible refine' s_tup ?h0_309 ?hx_309 ?hsz_309 ?h_309 ?hs_309); (case hs_309 => (intro _ _; exact rfl)); (case h0_309 => (first | lia | omega)); (case hx_309 => exact rfl); (case hsz_309 => (simp; done))
            with_reducible refine' wE_int ?_
            with_reducible refine' c_lt ?_
            with_reducible refine' exTB ?_
            refine iteD (fun h2 => ?_) (fun h2 => ?_)
            · with_reducible refine' wT_and_nil ?_
              with_reducible refine' iteT ?_
              with_reducible refine' iteT ?_
              with_reducible refine' wT_and_nil ?_
              with_reducible refine' iteT ?_
              with_reducible refine' wS_cons ?_
              with_reducible refine' wX_if ?_
              (with_reducible refine' wT_cmp ?h_320 ?hm_320); (case hm_320 => with_unfolding_all exact rfl)
              (with_reducible refine' wE_def ?h_321 ?h1_321 ?h2_321 ?h3_321 ?h4_321 ?h5_321); (case h1_321 => decide +kernel); (case h2_321 => exact rfl); (case h3_321 => decide +kernel); (case h4_321 => (intro _; exact rfl)); (case h5_321 => (intro _; exact ⟨_, _, rfl, rfl⟩))
              (with_reducible refine' wA_cons ?h_322 ?hs_322); (case hs_322 => (intro _; exact rfl))
              with_reducible refine' wE_sub ?_
              (with_reducible refine' wE_local ?hv_324 ?h_324 ?hl_324 ?hd_324); (case hl_324 => exact rfl); (case hd_324 => decide +kernel); (case hv_324 => none_booked)
              with_reducible refine' wE_unop ?_
              with_reducible refine' wE_int ?_
              with_reducible refine' o_neg ?_
              refine s_refM (l := ms) (k := j - 1) (by none_booked) (by (first | lia | omega)) (by (first | lia | omega)) a11 (by (first | lia | omega)) ?_
              (with_reducible refine' wA_cons ?h_328 ?hs_328); (case hs_328 => (intro _; exact rfl))
              with_reducible refine' wE_sub ?_
              with_reducible refine' wE_sub ?_
              (with_reducible refine' wE_local ?hv_331 ?h_331 ?hl_331 ?hd_331); (case hl_331 => exact rfl); (case hd_331 => decide +kernel); (case hv_331 => none_booked)
              with_reducible refine' wE_unop ?_
              with_reducible refine' wE_int ?_
              with_reducible refine' o_neg ?_
              refine s_refM (l := ds) (k := j - 1) (by none_booked) (by (first | lia | omega)) (by (first | lia | omega)) a9 (by (first | lia | omega)) ?_
              with_reducible refine' wE_int ?_
              (with_reducible refine' s_tup ?h0_336 ?hx_336 ?hsz_336 ?h_336 ?hs_336); (case hs_336 => (intro _ _; exact rfl)); (case h0_336 => (first | lia | omega)); (case hx_336 => exact rfl); (case hsz_336 => (simp; done))
              (with_reducible refine' wA_cons ?h_337 ?hs_337); (case hs_337 => (intro _; exact rfl))
              (with_reducible refine' wE_local ?hv_338 ?h_338 ?hl_338 ?hd_338); (case hl_338 => exact rfl); (case hd_338 => decide +kernel); (case hv_338 => none_booked)
              (with_reducible refine' wA_cons ?h_339 ?hs_339); (case hs_339 => (intro _; exact rfl))
              (with_reducible refine' wE_local ?hv_340 ?h_340 ?hl_340 ?hd_340); (case hl_340 => exact rfl); (case hd_340 => decide +kernel); (case hv_340 => none_booked)
              with_reducible refine' wA_nil ?_
              refine op_pure (sw (.inl ⟨a1.1, h2, hf.1, h1⟩)) (by show (_ : Nat) ≤ 12; decide) fun r hr => ?_
              (with_reducible refine' wE_local ?hv_342 ?h_342 ?hl_342 ?hd_342); (case hl_342 => exact rfl); (case hd_342 => decide +kernel); (case hv_342 => none_booked)
              refine c_neN (w := w) (by (first | lia | omega)) hr hx ?_
              with_reducible refine' exTB ?_
              with_reducible refine' iteF ?_
              with_reducible refine' wS_nil ?_
              with_reducible refine' wS_nil ?_
              with_reducible refine' andNext ?_
              refine ⟨?_, ?_⟩
              · exact ⟨by none_booked, by none_booked, by none_booked, by none_booked, by none_booked, by none_booked⟩
              · exact ⟨by none_booked, by none_booked, by none_booked, by none_booked, by none_booked, by none_booked, by none_booked, by none_booked⟩
            · with_reducible refine' iteF ?_
              with_reducible refine' wT_or ?_
              with_reducible refine' wT_and ?_
              (with_reducible refine' wT_cmp ?h_351 ?hm_351); (case hm_351 => with_unfolding_all exact rfl)
              (with_reducible refine' wE_local ?hv_352 ?h_352 ?hl_352 ?hd_352); (case hl_352 => exact rfl); (case hd_352 => decide +kernel); (case hv_352 => none_booked)
              with_reducible refine' wE_int ?_
              with_reducible refine' c_eq ?_
              with_reducible refine' exTB ?_
              refine iteEq (fun h3 => absurd h3 (by (first | lia | omega))) (fun h3 => ?_)
              with_reducible refine' iteF ?_
              with_reducible refine' wT_or_nil ?_
              with_reducible refine' iteF ?_
              with_reducible refine' iteF ?_
              with_reducible refine' wS_nil ?_
              with_reducible refine' andNext ?_
              refine ⟨?_, ?_⟩
              · exact ⟨by none_booked, by none_booked, by none_booked, by none_booked, by none_booked, by none_booked⟩
              · exact ⟨by none_booked, by none_booked, by none_booked, by none_booked, by none_booked, by none_booked, by none_booked, by none_booked⟩
          · with_reducible refine' iteF ?_
            with_reducible refine' wT_or ?_
            with_reducible refine' wT_and ?_
            (with_reducible refine' wT_cmp ?h_365 ?hm_365); (case hm_365 => with_unfolding_all exact rfl)
            (with_reducible refine' wE_local ?hv_366 ?h_366 ?hl_366 ?hd_366); (case hl_366 => exact rfl); (case hd_366 => decide +kernel); (case hv_366 => none_booked)
            with_reducible refine' wE_int ?_
            with_reducible refine' c_eq ?_
            with_reducible refine' exTB ?_
            refine iteEq (fun h3 => ?_) (fun h3 => ?_)
            · with_reducible refine' wT_and ?_
              (with_reducible refine' wT_cmp ?h_371 ?hm_371); (case hm_371 => with_unfolding_all exact rfl)
              with_reducible refine' wE_sub ?_
              with_reducible refine' wE_sub ?_
              with_reducible refine' wE_sub ?_
              (with_reducible refine' wE_local ?hv_375 ?h_375 ?hl_375 ?hd_375); (case hl_375 => exact rfl); (case hd_375 => decide +kernel); (case hv_375 => none_booked)
              with_reducible refine' wE_unop ?_
              with_reducible refine' wE_int ?_
              with_reducible refine' o_neg ?_
              refine s_refM (l := ds) (k := j - 1) (by none_booked) (by (first | lia | omega)) (by (first | lia | omega)) a9 (by (first | lia | omega)) ?_
              with_reducible refine' wE_int ?_
              (with_reducible refine' s_tup ?h0_380 ?hx_380 ?hsz_380 ?h_380 ?hs_380); (case hs_380 => (intro _ _; exact rfl)); (case h0_380 => (first | lia | omega)); (case hx_380 => exact rfl); (case hsz_380 => (simp; done))
              with_reducible refine' wE_int ?_
              (with_reducible refine' s_tup ?h0_382 ?hx_382 ?hsz_382 ?h_382 ?hs_382); (case hs_382 => (intro _ _; exact rfl)); (case h0_382 => (first | lia | omega)); (case hx_382 => exact rfl); (case hsz_382 => (simp; done))
              with_reducible refine' wE_int ?_
              with_reducible refine' c_eq ?_
              with_reducible refine' exTB ?_
              refine iteEq (fun h4 => ?_) (fun h4 => ?_)
              · with_reducible refine' wT_and_nil ?_
                with_reducible refine' iteT ?_
                with_reducible refine' iteT ?_
                with_reducible refine' wT_and_nil ?_
                with_reducible refine' iteT ?_
                with_reducible refine' wS_cons ?_
                with_reducible refine' wX_if ?_
                (with_reducible refine' wT_cmp ?h_393 ?hm_393); (case hm_393 => with_unfolding_all exact rfl)
                (with_reducible refine' wE_def ?h_394 ?h1_394 ?h2_394 ?h3_394 ?h4_394 ?h5_394); (case h1_394 => decide +kernel); (case h2_394 => exact rfl); (case h3_394 => decide +kernel); (case h4_394 => (intro _; exact rfl)); (case h5_394 => (intro _; exact ⟨_, _, rfl, rfl⟩))
                (with_reducible refine' wA_cons ?h_395 ?hs_395); (case hs_395 => (intro _; exact rfl))
                with_reducible refine' wE_sub ?_
                (with_reducible refine' wE_local ?hv_397 ?h_397 ?hl_397 ?hd_397); (case hl_397 => exact rfl); (case hd_397 => decide +kernel); (case hv_397 => none_booked)
                with_reducible refine' wE_unop ?_
                with_reducible refine' wE_int ?_
                with_reducible refine' o_neg ?_
                refine s_refM (l := ms) (k := j - 1) (by none_booked) (by (first | lia | omega)) (by (first | lia | omega)) a11 (by (first | lia | omega)) ?_
                (with_reducible refine' wA_cons ?h_401 ?hs_401); (case hs_401 => (intro _; exact rfl))
                with_reducible refine' wE_sub ?_
                with_reducible refine' wE_sub ?_
                (with_reducible refine' wE_local ?hv_404 ?h_404 ?hl_404 ?hd_404); (case hl_404 => exact rfl); (case hd_404 => decide +kernel); (case hv_404 => none_booked)
                with_reducible refine' wE_unop ?_
                with_reducible refine' wE_int ?_
                with_reducible refine' o_neg ?_
                refine s_refM (l := ds) (k := j - 1) (by none_booked) (by (first | lia | omega)) (by (first | lia | omega)) a9 (by (first | lia | omega)) ?_
                with_reducible refine' wE_int ?_
                (with_reducible refine' s_tup ?h0_409 ?hx_409 ?hsz_409 ?h_409 ?hs_409); (case hs_409 => (intro _ _; exact rfl)); (case h0_409 => (first | lia | omega)); (case hx_409 => exact rfl); (case hsz_409 => (simp; done))
                (with_reducible refine' wA_cons ?h_410 ?hs_410); (case hs_410 => (intro _; exact rfl))
                (with_reducible refine' wE_local ?hv_411 ?h_411 ?hl_411 ?hd_411); (case hl_411 => exact rfl); (case hd_411 => decide +kernel); (case hv_411 => none_booked)
                (with_reducible refine' wA_cons ?h_412 ?hs_412); (case hs_412 => (intro _; exact rfl))
                (with_reducible refine' wE_local ?hv_413 ?h_413 ?hl_413 ?hd_413); (case hl_413 => exact rfl); (case hd_413 => decide +kernel); (case hv_413 => none_booked)
                with_reducible refine' wA_nil ?_
                refine op_pure (sw (.inr ⟨h4, h3⟩)) (by show (_ : Nat) ≤ 12; decide) fun r hr => ?_
                (with_reducible refine' wE_local ?hv_415 ?h_415 ?hl_415 ?hd_415); (case hl_415 => exact rfl); (case hd_415 => decide +kernel); (case hv_415 => none_booked)
                refine c_neN (w := w) (by (first | lia | omega)) hr hx ?_
                with_reducible refine' exTB ?_
                with_reducible refine' iteF ?_
                with_reducible refine' wS_nil ?_
                with_reducible refine' wS_nil ?_
                with_reducible refine' andNext ?_
                refine ⟨?_, ?_⟩
                · exact ⟨by none_booked, by none_booked, by none_booked, by none_booked, by none_booked, by none_booked⟩
                · exact ⟨by none_booked, by none_booked, by none_booked, by none_booked, by none_booked, by none_booked, by none_booked, by none_booked⟩
              · with_reducible refine' iteF ?_
                with_reducible refine' wT_or_nil ?_
                with_reducible refine' iteF ?_
                with_reducible refine' iteF ?_
                with_reducible refine' wS_nil ?_
                with_reducible refine' andNext ?_
                refine ⟨?_, ?_⟩
                · exact ⟨by none_booked, by none_booked, by none_booked, by none_booked, by none_booked, by none_booked⟩
                · exact ⟨by none_booked, by none_booked, by none_booked, by none_booked, by none_booked, by none_booked, by none_booked, by none_booked⟩
            · with_reducible refine' iteF ?_
              with_reducible refine' wT_or_nil ?_
              with_reducible refine' iteF ?_
              with_reducible refine' iteF ?_
              with_reducible refine' wS_nil ?_
              with_reducible refine' andNext ?_
              refine ⟨?_, ?_⟩
              · exact ⟨by none_booked, by none_booked, by none_booked, by none_booked, by none_booked, by none_booked⟩
              · exact ⟨by none_booked, by none_booked, by none_booked, by none_booked, by none_booked, by none_booked, by none_booked, by none_booked⟩
        · with_reducible refine' iteF ?_
          with_reducible refine' wS_nil ?_
          with_reducible refine' andNext ?_
          refine ⟨?_, ?_⟩
          · exact ⟨by none_booked, by none_booked, by none_booked, by none_booked, by none_booked, by none_booked⟩
          · exact ⟨by none_booked, by none_booked, by none_booked, by none_booked, by none_booked, by none_booked, by none_booked, by none_booked⟩
      clear htub hsad hww hnu hmo hsam hdd hsde hfo hot hde hxx hlo hdu S
      rintro S ⟨⟨hfo, hot, hde, hxx, hlo, hdu⟩, htub, hsad, hww, hnu, hmo, hsam, hdd, hsde⟩
      with_reducible refine' wS_cons ?_
      (with_reducible refine' wX_append ?h_437 ?h1_437 ?h2_437 ?h3_437 ?h4_437 ?h5_437); (case h1_437 => (intros; exact rfl)); (case h2_437 => exact rfl); (case h3_437 => (intros; exact rfl)); (case h4_437 => (intros; exact rfl)); (case h5_437 => (intros; exact rfl))
      (with_reducible refine' wE_local ?hv_438 ?h_438 ?hl_438 ?hd_438); (case hl_438 => exact rfl); (case hd_438 => decide +kernel); (case hv_438 => none_booked)
      (with_reducible refine' exApp ?h1_439 ?h_439); (case h1_439 => none_booked)
      (with_reducible refine' wE_local ?hv_440 ?h_440 ?hl_440 ?hd_440); (case hl_440 => exact rfl); (case hd_440 => decide +kernel); (case hv_440 => none_booked)
      refine exAppV (l := ms) (by none_booked) (by (first | lia | omega)) ?_
      with_reducible refine' wS_cons ?_
      (with_reducible refine' wX_append ?h_442 ?h1_442 ?h2_442 ?h3_442 ?h4_442 ?h5_442); (case h1_442 => (intros; exact rfl)); (case h2_442 => exact rfl); (case h3_442 => (intros; exact rfl)); (case h4_442 => (intros; exact rfl)); (case h5_442 => (intros; exact rfl))
      (with_reducible refine' wE_local ?hv_443 ?h_443 ?hl_443 ?hd_443); (case hl_443 => exact rfl); (case hd_443 => decide +kernel); (case hv_443 => none_booked)
      (with_reducible refine' exApp ?h1_444 ?h_444); (case h1_444 => none_booked)
      with_reducible refine' wE_tuple ?_
      (with_reducible refine' wA_cons ?h_446 ?hs_446); (case hs_446 => (intro _; exact rfl))
      (with_reducible refine' wE_local ?hv_447 ?h_447 ?hl_447 ?hd_447); (case hl_447 => exact rfl); (case hd_447 => decide +kernel); (case hv_447 => none_booked)
      (with_reducible refine' wA_cons ?h_448 ?hs_448); (case hs_448 => (intro _; exact rfl))
      (with_reducible refine' wE_local ?hv_449 ?h_449 ?hl_449 ?hd_449); (case hl_449 => exact rfl); (case hd_449 => decide +kernel); (case hv_449 => none_booked)
      with_reducible refine' wA_nil ?_
      (with_reducible refine' andLen ?h1_451 ?h_451); (case h1_451 => (simp; done))
      refine exAppV (l := ds) (by none_booked) (by (first | lia | omega)) ?_
      with_reducible refine' wS_cons ?_
      (with_reducible refine' wX_assign ?h_453 ?hl_453 ?hs_453); (case hl_453 => exact rfl); (case hs_453 => (intros; exact rfl))
      (with_reducible refine' wE_local ?hv_454 ?h_454 ?hl_454 ?hd_454); (case hl_454 => exact rfl); (case hd_454 => decide +kernel); (case hv_454 => none_booked)
      with_reducible refine' wS_nil ?_
      refine ⟨j + 1, n, k + 1 + 1 + 1, due f num o m, ms ++ [x], ds ++ [.tup [.tup [.int f, y, .int (m : Int)], b]], by congr 1 <;> (first | lia | omega), by (first | lia | omega), hn, by (first | lia | omega), .step hh hf ho hm9 h9 hy hx hb, ?_⟩
      exact ⟨by none_booked, by none_booked, by none_booked, by none_booked, by none_booked, by none_booked, by none_booked, by none_booked⟩
    · rintro S ⟨j, n, k, num, ms, ds, hvs, hj, hn, hk, hh, hls⟩
      exact ⟨rfl, k, j, num, ms, ds, by (first | lia | omega), hh, hls⟩
    · refine ⟨0, (1 + v8).toNat, 0 + 1 + 1 + 1, num, [v0], [], by simp, by (first | lia | omega), by (first | lia | omega), by (first | lia | omega), .start hv0 (by (first | lia | omega)), ?_⟩
      exact ⟨by none_booked, by none_booked, by none_booked, by none_booked, by none_booked, by none_booked, by none_booked, by none_booked⟩
  clear htub hsad hww hnu hmo hsam hdd hsde S hv0 v0 hnum num
  rintro S ⟨k, j, num, ms, ds, hj, hh, htub, hsad, hww, hnu, hmo, hsam, hdd, hsde⟩
  obtain ⟨hl1, hl2⟩ := hh.len
  with_reducible refine' wS_cons ?_
  (with_reducible refine' wX_for ?h_457 ?h1_457 ?h2_457); (case h1_457 => exact rfl); (case h2_457 => (intros; exact rfl))
  (with_reducible refine' wI_rng ?h_458 ?h1_458 ?h2_458 ?h3_458); (case h1_458 => exact rfl); (case h2_458 => (intro _; exact rfl)); (case h3_458 => (intro _; exact ⟨_, _, rfl, rfl⟩))
  (with_reducible refine' wA_cons ?h_459 ?hs_459); (case hs_459 => (intro _; exact rfl))
  with_reducible refine' wE_binop ?_
  (with_reducible refine' wE_len ?h_461 ?h1_461 ?h2_461 ?h3_461 ?h4_461); (case h1_461 => exact rfl); (case h2_461 => (intro _; exact rfl)); (case h3_461 => (intro _; exact ⟨_, _, rfl, rfl⟩)); (case h4_461 => (intro _; exact rfl))
  (with_reducible refine' wE_local ?hv_462 ?h_462 ?hl_462 ?hd_462); (case hl_462 => exact rfl); (case hd_462 => decide +kernel); (case hv_462 => none_booked)
  refine b_len_ref (l := ds) (by none_booked) (by (first | lia | omega)) ?_
  with_reducible refine' wE_int ?_
  with_reducible refine' o_sub ?_
  (with_reducible refine' wA_cons ?h_465 ?hs_465); (case hs_465 => (intro _; exact rfl))
  with_reducible refine' wE_binop ?_
  with_reducible refine' wE_int ?_
  with_reducible refine' wE_int ?_
  with_reducible refine' o_sub ?_
  (with_reducible refine' wA_cons ?h_470 ?hs_470); (case hs_470 => (intro _; exact rfl))
  with_reducible refine' wE_binop ?_
  with_reducible refine' wE_int ?_
  with_reducible refine' wE_int ?_
  with_reducible refine' o_sub ?_
  with_reducible refine' wA_nil ?_
  (with_reducible refine' exRngD ?he_476 ?h1_476 ?h2_476 ?h_476); (case he_476 => (first | lia | omega)); (case h1_476 => (unfold Fit; (first | lia | omega))); (case h2_476 => (unfold Fit; (first | lia | omega)))
  refine loop_inv (fun vs S => ∃ (i : Nat), vs = downFrom ((i : Int) - 1) i ∧ i ≤ j ∧ LS ad am de w gs ms ds num k S) ?_ ?_ ?_
  · clear htub hsad hww hnu hmo hsam hdd hsde S
    rintro u vs S ⟨i1, hvs, hi, htub, hsad, hww, hnu, hmo, hsam, hdd, hsde⟩
    obtain ⟨i, rfl, rfl, rfl⟩ := downFrom_cons hvs
    have ej : ((i + 1 : Nat) : Int) - 1 = (i : Int) := by (first | lia | omega)
    rw [ej]
    obtain ⟨f, o, n', m, x, x', y, b, a1, a2, a3, a4, a5, a6, a7, a8, a9, a10, a11, a12, _⟩ := hh.at i (by (first | lia | omega))
    have hj8 : 512 ^ j ≤ 512 ^ 8 := Nat.pow_le_pow_right (by decide) hj
    have htm : Tm n' := by unfold Tm; (first | lia | omega)
    with_reducible refine' wS_cons ?_
    with_reducible refine' wX_if ?_
    (with_reducible refine' wT_cmp ?h_479 ?hm_479); (case hm_479 => with_unfolding_all exact rfl)
    (with_reducible refine' wE_def ?h_480 ?h1_480 ?h2_480 ?h3_480 ?h4_480 ?h5_480); (case h1_480 => decide +kernel); (case h2_480 => exact rfl); (case h3_480 => decide +kernel); (case h4_480 => (intro _; exact rfl)); (case h5_480 => (intro _; exact ⟨_, _, rfl, rfl⟩))
    (with_reducible refine' wA_cons ?h_481 ?hs_481); (case hs_481 => (intro _; exact rfl))
    with_reducible refine' wE_sub ?_
    with_reducible refine' wE_sub ?_
    (with_reducible refine' wE_local ?hv_484 ?h_484 ?hl_484 ?hd_484); (case hl_484 => exact rfl); (case hd_484 => decide +kernel); (case hv_484 => none_booked)
    (with_reducible refine' wE_local ?hv_485 ?h_485 ?hl_485 ?hd_485); (case hl_485 => exact rfl); (case hd_485 => decide +kernel); (case hv_485 => none_booked)
    refine s_refN (l := ds) (by none_booked) a9 (by (first | lia | omega)) ?_
    with_reducible refine' wE_int ?_
    (with_reducible refine' s_tup ?h0_487 ?hx_487 ?hsz_487 ?h_487 ?hs_487); (case hs_487 => (intro _ _; exact rfl)); (case h0_487 => (first | lia | omega)); (case hx_487 => exact rfl); (case hsz_487 => (simp; done))
    (with_reducible refine' wA_cons ?h_488 ?hs_488); (case hs_488 => (intro _; exact rfl))
    with_reducible refine' wE_sub ?_
    (with_reducible refine' wE_local ?hv_490 ?h_490 ?hl_490 ?hd_490); (case hl_490 => exact rfl); (case hd_490 => decide +kernel); (case hv_490 => none_booked)
    with_reducible refine' wE_binop ?_
    (with_reducible refine' wE_local ?hv_492 ?h_492 ?hl_492 ?hd_492); (case hl_492 => exact rfl); (case hd_492 => decide +kernel); (case hv_492 => none_booked)
    with_reducible refine' wE_int ?_
    with_reducible refine' o_addN1 ?_
    refine s_refN (l := ms) (k := i + 1) (by none_booked) a10 (by (first | lia | omega)) ?_
    (with_reducible refine' wA_cons ?h_495 ?hs_495); (case hs_495 => (intro _; exact rfl))
    with_reducible refine' wE_sub ?_
    with_reducible refine' wE_sub ?_
    (with_reducible refine' wE_local ?hv_498 ?h_498 ?hl_498 ?hd_498); (case hl_498 => exact rfl); (case hd_498 => decide +kernel); (case hv_498 => none_booked)
    (with_reducible refine' wE_local ?hv_499 ?h_499 ?hl_499 ?hd_499); (case hl_499 => exact rfl); (case hd_499 => decide +kernel); (case hv_499 => none_booked)
    refine s_refN (l := ds) (by none_booked) a9 (by (first | lia | omega)) ?_
    with_reducible refine' wE_int ?_
    (with_reducible refine' s_tup ?h0_501 ?hx_501 ?hsz_501 ?h_501 ?hs_501); (case hs_501 => (intro _ _; exact rfl)); (case h0_501 => (first | lia | omega)); (case hx_501 => exact rfl); (case hsz_501 => (simp; done))
    (with_reducible refine' wA_cons ?h_502 ?hs_502); (case hs_502 => (intro _; exact rfl))
    (with_reducible refine' wE_local ?hv_503 ?h_503 ?hl_503 ?hd_503); (case hl_503 => exact rfl); (case hd_503 => decide +kernel); (case hv_503 => none_booked)
    with_reducible refine' wA_nil ?_
    refine op_pure (t_law_undone w (by (first | lia | omega)) f n' o m x y b a1 a6 a5 a7 htm a2 a3 a4) (by show (_ : Nat) ≤ 12; decide) fun r hr => ?_
    with_reducible refine' wE_sub ?_
    (with_reducible refine' wE_local ?hv_506 ?h_506 ?hl_506 ?hd_506); (case hl_506 => exact rfl); (case hd_506 => decide +kernel); (case hv_506 => none_booked)
    (with_reducible refine' wE_local ?hv_507 ?h_507 ?hl_507 ?hd_507); (case hl_507 => exact rfl); (case hd_507 => decide +kernel); (case hv_507 => none_booked)
    refine s_refN (l := ms) (by none_booked) a11 (by (first | lia | omega)) ?_
    refine c_neN (w := w) (by (first | lia | omega)) hr a8 ?_
    with_reducible refine' exTB ?_
    with_reducible refine' iteF ?_
    with_reducible refine' wS_nil ?_
    with_reducible refine' wS_nil ?_
    refine ⟨i, rfl, by (first | lia | omega), ?_⟩
    exact ⟨by none_booked, by none_booked, by none_booked, by none_booked, by none_booked, by none_booked, by none_booked, by none_booked⟩
  · rintro S ⟨i, hvs, hi, htub, hsad, hww, hnu, hmo, hsam, hdd, hsde⟩
    with_reducible refine' wS_cons ?_
    with_reducible refine' wX_return ?_
    with_reducible refine' wE_bool ?_
    rfl
  · refine ⟨j, by rw [hl2]; congr 1 <;> (first | lia | omega), by (first | lia | omega), ?_⟩
    exact ⟨by none_booked, by none_booked, by none_booked, by none_booked, by none_booked, by none_booked, by none_booked, by none_booked⟩
end
theorem bi_free : ∀ x ∈ biNames, x ∉ startupNames ∧ x ∉ looseW PP [] ∧ x ∉ (recsOf PP).map (·.name) ∧ x ∉ (litsOf PP).map (·.1) ∧ x ∉ (clssOf PP (looseW PP [])).map (·.name) := by decide +kernel
theorem law_join {prog : Program} {wd : World} {mean : ExcName → Option Value} {mg mb : Str → Option Value} {s₁ : Shared} {h₁ : Heap} {tk : Nat} {la fa : Addr} {cd : Value} {items : List Value} {ns : List Int} {Q : Flow → Shared → Prop} {E : Value → Shared → Prop}
    (T : Top PP (looseW PP []) mean mg mb s₁.heap) (hL : s₁.heap.IsList la items.toArray) (hI : IntsAre items ns) (hlen : ns.length ≤ 63)
    (F : Fr s₁.heap s₁.heap.objs.size h₁ (fun x => ([(("script" : Str), Value.ref la)]).reverse.lookup x))
    (hq : ∀ h' tk', (∀ b o, s₁.heap.get? b = some o → h'.get? b = some o) → Q (.ret (.bool true)) { s₁ with heap := h', toks := tk' }) :
    wpAny (model prog wd) (callerA.deeper (envOf (dOf 36).name (dOf 36).scope s₁.heap.objs.size fa cd)) (execs (dOf 36).body (envOf (dOf 36).name (dOf 36).scope s₁.heap.objs.size fa cd)) Q E { s₁ with heap := h₁, toks := tk } := by
  have hbi : ∀ x, x ∈ biNames → mg x = none := fun x hx => by
    obtain ⟨a, b, c, d, e⟩ := bi_free x hx
    exact T.free x a b c d e
  obtain ⟨hk, hW⟩ := t_law (g := ⟨prog, wd, looseW PP [], mean, mg, mb, s₁.heap, s₁, T, hbi⟩) la items.toArray ns hL (fun W => by simpa using repL_ints hI) hlen
  have hnone : s₁.heap.get? s₁.heap.objs.size = none := Heap.get?_none_of_le (Nat.le_refl _)
  refine wpAny_noRaise (hW (callerA.deeper (envOf (dOf 36).name (dOf 36).scope s₁.heap.objs.size fa cd)) s₁.heap.objs.size fa cd (fun _ => none) (fun _ => none) { s₁ with heap := h₁, toks := tk } Q ⟨⟨rfl, ?_, ?_⟩, ?_⟩ ?_ ?_)
  · show 301 + 1 + 12 ≤ 900; decide
  · show callerA.units + 3 + 40 * 12 ≤ 9000; decide
  · refine ⟨⟨_, Around.frames_deeper rfl, ?_, rfl⟩, Nat.le_refl _⟩
    show (dOf 36).scope.kind ≠ .module
    rw [hk]; decide
  · exact { rest := ⟨h₁, tk, rfl⟩, base := F.keep, z := fun _ _ e => (by cases e), w := fun _ _ e => (by cases e), mu := fun _ _ e => (by cases e),
            ns := ⟨_, F.ns, fun y u e => repL_lookup (names := ["script"]) (vs := [.ref la]) (.cons (.lit _) .nil) y u e⟩, lz := rfl, lw := rfl, lb := hnone, lm := rfl }
  · intro W' x b S' s' e r rr h
    subst h
    cases r with
    | ret hr =>
      cases hr
      obtain ⟨h', tk', rfl⟩ := rr.rest
      exact hq h' tk' rr.base
theorem good_post (as ds : List WData) : Challenge.rw_sj0082_01.row.claim.post as (.bool true) ds = true := by
  show (WShape.has [] (.bool true) .bool && WTm.holds [] (.eq .res (.lit (.bool true))) { args := as, res := some (.bool true), after := ds }) = true
  simp [WShape.has, WTm.holds, WTm.value]
  refine ⟨⟨.bool, ?_, rfl⟩, ?_⟩
  · simp [WShape.arms]
  · have : same (WData.bool true) (WData.bool true) = true := by first | rfl | decide | simp [same]
    rw [this]
theorem good_true {cl : Str → Option Addr} {mean : ExcName → Option Value} {ns : List Int} {s₁ : Shared} {h : Heap} {tk : Nat} (hg : s₁.gens = #[]) (hk : ∀ b o, s₁.heap.get? b = some o → h.get? b = some o) :
    GoodW Challenge.rw_sj0082_01.row.claim cl mean [ofPy (PyData.list (List.map PyData.int ns))] s₁ (.ok (.ret (.bool true))) { s₁ with heap := h, toks := tk } :=
  ⟨.inl ⟨.bool true, .bool true, [], rfl, fun _ => rfl, .bool true, good_post _ _, fun _ => ⟨List.nodup_nil, fun _ h => nomatch h⟩⟩, hk, rfl, hg⟩
end Mine
namespace Mine
theorem walk : ∀ d kwd, defOf PP "law" = some (d, kwd) → WalkO PP [] (XL PP []) Hook.none.says PySem.Challenge.rw_sj0082_01.row.toRowW d kwd fun f vs => PySem.call f vs := by
  intro d kwd hd
  conv at hd => lhs; whnf
  obtain ⟨rfl, rfl⟩ := Prod.mk.inj (Option.some.inj hd)
  clear hd
  intro w s₀ s₁ mg mb G Y fa o pm cd doc dV kV ho hd hcd hD hmg hg args vals as hpre hlay hrd hwl hlo
  refine Ground.open G ?_
  intro T B D TE TW
  clear hmg
  wrow_args hpre hlay hrd hwl hlo
  refine enter_call ?_
  w_top on
  refine codeAny_mono ?_ (fun _ _ g => GoodW.toG g)
  w_call any ho hd hcd hD T F
  refine law_join (by assumption) (by assumption) (by assumption) (by omega) (by assumption) (fun h' tk' hk => ?_)
  exact good_true (by assumption) hk
end Mine
theorem PySem.Challenge.cw_sj0082_01_holds : PySem.Challenge.rw_sj0082_01.Holds := by
  w_on
  o_law
  o_head Hook.none
  case hw => w_witness2
  exact Mine.walk _ _ rfl
