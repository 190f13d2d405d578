import PyProof.Rows.All
import Wide.All
import OpenK.AllK
import Wide.FinOn
import PySem.Challenge.RW_rg0224_01
open PySem PySem.W PyProof.Rows
set_option Elab.async false
set_option genSizeOfSpec false
set_option genInjectivity false
set_option linter.unusedVariables false

-- Core1
namespace Mine

/-! # A small logic of pure calls: known objects, heap extension, one mutable object -/

/-- shut, so that no one runs the model in looking at a type -/
structure Wp (p : Prop) : Prop where
  h : p
noncomputable abbrev Kn := Addr → Obj → Prop

/-- One object may change (its address c); I is what stays true of it, by the addresses of foot alone. -/
structure Mode where
  c : Option Addr
  foot : List Addr
  I : Heap → Prop
  keep : ∀ h h' : Heap, (∀ a ∈ foot, ∀ o, h.get? a = some o → h'.get? a = some o) → I h → I h'
  here : ∀ h : Heap, I h → ∀ a ∈ foot, ∃ o, h.get? a = some o
  sub : ∀ a, c = some a → a ∈ foot

noncomputable def quiet : Mode := ⟨none, [], fun _ => True, fun _ _ _ _ => trivial, fun _ _ a ha => (nomatch ha), fun _ h => by cases h⟩

structure G0 (Kf : Frag) (mg mb : Str → Option Value) (b : Heap) : Prop where
  k : Kf.In b
  gn : b.Ns mainGlobals mg
  bn : b.Ns builtinsNs mb
  nolimit : b.NoLimit
  builtins : ∀ x : Str, x ≠ "__name__" → mb x = bootBuiltins x

noncomputable def Gd (Kf : Frag) (mg mb : Str → Option Value) (X : Addr → Prop) (h : Heap) : Prop :=
  ∃ b, G0 Kf mg mb b ∧ (∀ a, X a → b.get? a = none) ∧ ∀ a o, b.get? a = some o → h.get? a = some o

theorem Gd.weak {Kf mg mb X Y h} (g : Gd Kf mg mb X h) (hy : ∀ a, Y a → X a) : Gd Kf mg mb Y h :=
  let ⟨b, h0, hx, hk⟩ := g; ⟨b, h0, fun a ha => hx a (hy a ha), hk⟩
theorem Gd.ext {Kf mg mb X h h'} (g : Gd Kf mg mb X h) (e : ∀ a o, ¬ X a → h.get? a = some o → h'.get? a = some o) : Gd Kf mg mb X h' :=
  let ⟨b, h0, hx, hk⟩ := g
  ⟨b, h0, hx, fun a o q => e a o (fun hX => by rw [hx a hX] at q; cases q) (hk a o q)⟩
theorem Gd.ns {Kf mg mb X h} (g : Gd Kf mg mb X h) : h.Ns mainGlobals mg :=
  let ⟨_, h0, _, hk⟩ := g; h0.gn.keeps hk
theorem Gd.bs {Kf mg mb X h} (g : Gd Kf mg mb X h) : h.Ns builtinsNs mb :=
  let ⟨_, h0, _, hk⟩ := g; h0.bn.keeps hk
theorem Gd.kin {Kf mg mb X h} (g : Gd Kf mg mb X h) : Kf.In h :=
  let ⟨_, h0, _, hk⟩ := g; fun a o q => hk a o (h0.k a o q)
theorem Gd.nolimit {Kf mg mb X h} (g : Gd Kf mg mb X h) : h.NoLimit :=
  let ⟨_, h0, _, hk⟩ := g; h0.nolimit.keeps hk
theorem Gd.mg_some {Kf mg mb X h n v} (g : Gd Kf mg mb X h) (e : nsIn Kf mainGlobals n = some (some v)) : mg n = some v :=
  mg_of g.kin g.ns e
theorem Gd.mg_none {Kf mg mb X h n} (g : Gd Kf mg mb X h) (e : nsIn Kf mainGlobals n = some none) : mg n = none :=
  mg_none_of g.kin g.ns e
theorem Gd.mb_some {Kf mg mb X h n v} (g : Gd Kf mg mb X h) (e : bootBuiltins n = some v) (hn : n ≠ "__name__") : mb n = some v :=
  let ⟨_, h0, _, _⟩ := g; (h0.builtins n hn).trans e

/-- a name of the environment evaluates to v in this heap and in all that extend it -/
noncomputable def Sees (md : Mode) (env : Env) (h : Heap) (x : Str) (v : Value) : Prop :=
  ∀ (M : Model) (A : Around) (Q E : Value → Shared → Prop) (s : Shared) (pos : Pos),
    (∀ a o, md.c ≠ some a → h.get? a = some o → s.heap.get? a = some o) → Q v s → wpAny M A (eval (.Name x pos) env) Q E s

theorem Sees.ext {md env h h' x v} (q : Sees md env h x v) (e : ∀ a o, md.c ≠ some a → h.get? a = some o → h'.get? a = some o) : Sees md env h' x v :=
  fun M A Q E s pos k hq => q M A Q E s pos (fun a o ha r => k a o ha (e a o ha r)) hq

theorem sees_local {md : Mode} {env : Env} {h : Heap} {x : Str} {v : Value} {lm : Str → Option Value} (hn : h.Ns env.locals lm) (hc : md.c ≠ some env.locals)
    (hk : env.scope.kind = .function) (hl : env.kindOf x = some .local) (hv : lm x = some v) (hd : (x == ("__debug__" : Str)) = false) : Sees md env h x v :=
  fun _ _ _ _ _ _ k hq => wpAny_Name (wpAny_loadName_local hk hl (let ⟨o, es, ep, e, r⟩ := hn; ⟨o, es, ep, k _ _ hc e, r⟩) hv hq) hd

theorem sees_cell {md : Mode} {env : Env} {h : Heap} {x : Str} {v : Value} {c : Addr} (hv : h.IsCell c (some v)) (hc : md.c ≠ some c)
    (hk : env.scope.kind = .function) (hl : env.kindOf x = some .cell) (hcl : env.cells.lookup x = some c) (hd : (x == ("__debug__" : Str)) = false) : Sees md env h x v :=
  fun _ _ _ _ _ _ k hq => wpAny_Name (wpAny_loadName_cell hk hl hcl (let ⟨o, e, r⟩ := hv; ⟨o, k _ _ hc e, r⟩) hq) hd

section
variable (Kf : Frag) (mg mb : Str → Option Value)

structure Cx (md : Mode) (env : Env) (m : Str → Option Value) (K : Kn) (h : Heap) : Prop where
  g : Gd Kf mg mb (fun a => md.c = some a) h
  eg : env.globals = mainGlobals
  eb : env.builtins = builtinsNs
  ek : env.scope.kind = .function
  sees : ∀ x v, m x = some v → Sees md env h x v
  cells : ∀ x v, m x = some v → env.kindOf x = some .cell → ∃ c, env.cells.lookup x = some c ∧ h.IsCell c (some v) ∧ md.c ≠ some c
  known : ∀ a o, K a o → h.get? a = some o
  off : ∀ a o, K a o → md.c ≠ some a
  inv : md.I h
end

structure Step (md : Mode) (K : Kn) (h : Heap) (K' : Kn) (h' : Heap) : Prop where
  ext : ∀ a o, md.c ≠ some a → h.get? a = some o → h'.get? a = some o
  sub : ∀ a o, K a o → K' a o
  known : ∀ a o, K' a o → h'.get? a = some o
  off : ∀ a o, K' a o → md.c ≠ some a
  fresh : ∀ a o, K' a o → K a o ∨ h.get? a = none
  inv : md.I h'

theorem Cx.step {Kf mg mb md env m K h K' h'} (x : Cx Kf mg mb md env m K h) (t : Step md K h K' h') : Cx Kf mg mb md env m K' h' where
  g := x.g.ext fun a o hX e => t.ext a o hX e
  eg := x.eg
  eb := x.eb
  ek := x.ek
  sees := fun y v hy => (x.sees y v hy).ext t.ext
  cells := fun y v hy hk => let ⟨c, h1, ⟨o, h2, h3⟩, h4⟩ := x.cells y v hy hk; ⟨c, h1, ⟨o, t.ext c o h4 h2, h3⟩, h4⟩
  known := t.known
  off := t.off
  inv := t.inv
theorem Cx.refl {Kf mg mb md env m K h} (x : Cx Kf mg mb md env m K h) : Step md K h K h := ⟨fun _ _ _ e => e, fun _ _ e => e, x.known, x.off, fun _ _ e => .inl e, x.inv⟩

theorem Step.trans {md K h K1 h1 K2 h2} (s : Step md K h K1 h1) (t : Step md K1 h1 K2 h2) : Step md K h K2 h2 where
  ext := fun a o hc e => t.ext a o hc (s.ext a o hc e)
  sub := fun a o e => t.sub a o (s.sub a o e)
  known := t.known
  off := t.off
  fresh := fun a o e => by
    rcases t.fresh a o e with e1 | e1
    · exact s.fresh a o e1
    · right
      cases q : h.get? a with
      | none => rfl
      | some o' => have := s.ext a o' (t.off a o e) q; rw [e1] at this; cases this
  inv := t.inv

noncomputable abbrev Both (K1 K2 : Kn) : Kn := fun a o => K1 a o ∨ K2 a o
theorem Step.both {md K K1 h K2 h'} (hK : ∀ a o, K a o → K1 a o) (k1 : ∀ a o, K1 a o → h.get? a = some o) (o1 : ∀ a o, K1 a o → md.c ≠ some a) (t : Step md K h K2 h') : Step md K1 h (Both K1 K2) h' where
  ext := t.ext
  sub := fun _ _ e => .inl e
  known := fun a o e => e.elim (fun e => t.ext a o (o1 a o e) (k1 a o e)) (t.known a o)
  off := fun a o e => e.elim (o1 a o) (t.off a o)
  fresh := fun a o e => e.elim .inl fun e => (t.fresh a o e).imp (hK a o) id
  inv := t.inv

/-! ## Data -/
inductive Ty where
  | val (v : Value)
  | int (i : Int)
  | str (s : Str)
  | ints (xs : List Int)
  | pairL (xs ys : List Int)
  | pairI (i j : Int)
  | rows (xss : List (List Int))

inductive Each {α β : Type} (F : α → β → Prop) : List α → List β → Prop
  | nil : Each F [] []
  | cons {a b l₁ l₂} : F a b → Each F l₁ l₂ → Each F (a :: l₁) (b :: l₂)
theorem Each.imp {α β : Type} {F G : α → β → Prop} (h : ∀ a b, F a b → G a b) : ∀ {l₁ l₂}, Each F l₁ l₂ → Each G l₁ l₂
  | _, _, .nil => .nil
  | _, _, .cons x r => .cons (h _ _ x) (r.imp h)
theorem Each.length {α β : Type} {F : α → β → Prop} : ∀ {l₁ : List α} {l₂ : List β}, Each F l₁ l₂ → l₁.length = l₂.length
  | _, _, .nil => rfl
  | _, _, .cons _ r => by simp [r.length]

noncomputable abbrev tupOf (vs : List Value) (n : Nat) : Obj := { cls := .type "tuple", data := .seq vs.toArray n }

noncomputable def HasInts (K : Kn) (xs : List Int) (v : Value) : Prop := ∃ a n vs, v = .ref a ∧ K a (listOf vs.toArray n) ∧ IntsAre vs xs
noncomputable def Has (K : Kn) : Ty → Value → Prop
  | .val u, v => v = u
  | .int i, v => ∃ t, v = .int i t
  | .str s, v => ∃ t, v = .str s t
  | .ints xs, v => HasInts K xs v
  | .pairL xs ys, v => ∃ a n v1 v2, v = .ref a ∧ K a (tupOf [v1, v2] n) ∧ HasInts K xs v1 ∧ HasInts K ys v2
  | .pairI i j, v => ∃ a n t u, v = .ref a ∧ K a (tupOf [.int i t, .int j u] n)
  | .rows xss, v => ∃ a n vs, v = .ref a ∧ K a (listOf vs.toArray n) ∧ Each (fun xs v => HasInts K xs v) xss vs

theorem HasInts.mono {K K' : Kn} (h : ∀ a o, K a o → K' a o) {xs v} (x : HasInts K xs v) : HasInts K' xs v :=
  let ⟨a, n, vs, e, k, i⟩ := x; ⟨a, n, vs, e, h _ _ k, i⟩
theorem Has.mono {K K' : Kn} (h : ∀ a o, K a o → K' a o) : ∀ {T : Ty} {v : Value}, Has K T v → Has K' T v
  | .val _, _, x => x
  | .int _, _, x => x
  | .str _, _, x => x
  | .ints _, _, x => HasInts.mono h x
  | .pairL _ _, _, ⟨a, n, v1, v2, e, k, i, j⟩ => ⟨a, n, v1, v2, e, h _ _ k, i.mono h, j.mono h⟩
  | .pairI _ _, _, ⟨a, n, t, u, e, k⟩ => ⟨a, n, t, u, e, h _ _ k⟩
  | .rows _, _, ⟨a, n, vs, e, k, r⟩ => ⟨a, n, vs, e, h _ _ k, r.imp fun _ _ x => x.mono h⟩

/-- a property of a value and the known objects that stays when more is known -/
noncomputable def Mono (P : Value → Kn → Prop) : Prop := ∀ v (K K' : Kn), (∀ a o, K a o → K' a o) → P v K → P v K'
theorem mono_has (T : Ty) : Mono (fun v K => Has K T v) := fun _ _ _ h x => x.mono h
structure Ok (n : Nat) (A : Around) : Prop where
  hh : A.handled = none
  dep : A.depth + n < recursionLimit
  un : A.units + 100 * n < cLine
theorem Ok.deeper {n A env} (o : Ok (n + 1) A) : Ok n (A.deeper env) :=
  ⟨o.hh, by have := o.dep; show A.depth + 1 + n < _; omega, by have := o.un; show A.units + 3 + 100 * n < _; omega⟩
theorem Ok.weak {n k A} (o : Ok n A) (h : k ≤ n) : Ok k A := ⟨o.hh, by have := o.dep; omega, by have := o.un; omega⟩

section
variable (prog : Program) (w : World) (Kf : Frag) (mg mb : Str → Option Value)

/-- what a tree may hand on -/
noncomputable abbrev Gives (md : Mode) (K : Kn) (P : Value → Kn → Prop) (s : Shared) (Q : Value → Shared → Prop) : Prop :=
  ∀ v K' h' tk, Step md K s.heap K' h' → P v K' → Q v { s with heap := h', toks := tk }

/-- a pure expression -/
noncomputable def Ev (n : Nat) (md : Mode) (env : Env) (m : Str → Option Value) (K : Kn) (e : Expr) (P : Value → Kn → Prop) : Prop :=
  ∀ (A : Around) (s : Shared) (Q E : Value → Shared → Prop), Ok n A → Cx Kf mg mb md env m K s.heap → Gives md K P s Q → Wp (wpAny (model prog w) A (eval e env) Q E s)

/-- an operation upon values at hand -/
noncomputable def Op (n : Nat) (md : Mode) (K : Kn) (t : Sem Value) (P : Value → Kn → Prop) : Prop :=
  ∀ (A : Around) (s : Shared) (Q E : Value → Shared → Prop), Ok n A → Gd Kf mg mb (fun a => md.c = some a) s.heap → Step md K s.heap K s.heap → Gives md K P s Q → Wp (wpAny (model prog w) A t Q E s)

/-- a test -/
noncomputable def Tst (n : Nat) (md : Mode) (env : Env) (m : Str → Option Value) (K : Kn) (e : Expr) (b : Bool) : Prop :=
  ∀ (A : Around) (s : Shared) (Q : Bool → Shared → Prop) (E : Value → Shared → Prop), Ok n A → Cx Kf mg mb md env m K s.heap →
    (∀ K' h' tk, Step md K s.heap K' h' → Q b { s with heap := h', toks := tk }) → Wp (wpAny (model prog w) A (isTrue e env (eval e env)) Q E s)
end

section
variable {prog : Program} {w : World} {Kf : Frag} {mg mb : Str → Option Value} {n : Nat} {md : Mode} {env : Env} {m : Str → Option Value} {K : Kn}

end
end Mine

-- Core2
namespace Mine

section
variable {prog : Program} {w : World} {Kf : Frag} {mg mb : Str → Option Value} {n : Nat} {md : Mode} {env : Env} {m : Str → Option Value} {K : Kn}

theorem Cx.down {K1 : Kn} {h : Heap} (hK : ∀ a o, K a o → K1 a o) (x : Cx Kf mg mb md env m K1 h) : Cx Kf mg mb md env m K h :=
  ⟨x.g, x.eg, x.eb, x.ek, x.sees, x.cells, fun a o e => x.known a o (hK a o e), fun a o e => x.off a o (hK a o e), x.inv⟩
theorem Cx.st {h : Heap} (x : Cx Kf mg mb md env m K h) : Step md K h K h := x.refl

/-- what was known and what is found, both -/
theorem Ev.up {e : Expr} {P : Value → Kn → Prop} {K1 : Kn} (hK : ∀ a o, K a o → K1 a o) (hP : Mono P) (h : Ev prog w Kf mg mb n md env m K e P) : Ev prog w Kf mg mb n md env m K1 e P :=
  fun A s Q E ok cx q => .mk <| Wp.h <| h A s Q E ok (cx.down hK) fun v K' h' tk t p => q v _ h' tk (t.both hK cx.known cx.off) (hP v K' _ (fun _ _ => .inr) p)
theorem Ev.imp {e : Expr} {P P' : Value → Kn → Prop} (h : Ev prog w Kf mg mb n md env m K e P) (hp : ∀ v K', (∀ a o, K a o → K' a o) → P v K' → P' v K') : Ev prog w Kf mg mb n md env m K e P' :=
  fun A s Q E ok cx q => .mk <| Wp.h <| h A s Q E ok cx fun v K' h' tk t p => q v K' h' tk t (hp v K' t.sub p)
theorem Op.imp {t : Sem Value} {P P' : Value → Kn → Prop} (h : Op prog w Kf mg mb n md K t P) (hp : ∀ v K', (∀ a o, K a o → K' a o) → P v K' → P' v K') : Op prog w Kf mg mb n md K t P' :=
  fun A s Q E ok g x q => .mk <| Wp.h <| h A s Q E ok g x fun v K' h' tk t p => q v K' h' tk t (hp v K' t.sub p)

/-! names and written values -/
theorem Ev.name {x : Str} {pos : Pos} {v : Value} {P : Value → Kn → Prop} (hv : m x = some v) (p : P v K) : Ev prog w Kf mg mb n md env m K (.Name x pos) P :=
  fun A s Q E _ cx q => .mk <| cx.sees x v hv _ A Q E s pos (fun _ _ _ e => e) (q v K s.heap s.toks cx.st p)
theorem Ev.glob {x : Str} {pos : Pos} {v : Value} {P : Value → Kn → Prop} (hx : env.kindOf x = some .globalImplicit) (e : nsIn Kf mainGlobals x = some (some v)) (p : P v K)
    (hd : (x == ("__debug__" : Str)) = false := by decide) : Ev prog w Kf mg mb n md env m K (.Name x pos) P :=
  fun A s Q E _ cx q => .mk <| Calls.Name_function_global cx.ek hx (Calls.loadGlobal_global (by rw [cx.eg]; exact cx.g.ns) (cx.g.mg_some e) (q v K s.heap s.toks cx.st p)) hd
theorem Ev.boot {x : Str} {pos : Pos} {v : Value} {P : Value → Kn → Prop} (hx : env.kindOf x = some .globalImplicit) (e : nsIn Kf mainGlobals x = some none) (hb : bootBuiltins x = some v) (p : P v K)
    (hn : x ≠ "__name__" := by decide) (hd : (x == ("__debug__" : Str)) = false := by decide) : Ev prog w Kf mg mb n md env m K (.Name x pos) P :=
  fun A s Q E _ cx q => .mk <| Calls.Name_function_global cx.ek hx (Calls.loadGlobal_builtin (by rw [cx.eg]; exact cx.g.ns) (cx.g.mg_none e) (by rw [cx.eb]; exact cx.g.bs) (cx.g.mb_some hb hn) (q v K s.heap s.toks cx.st p)) hd
theorem Ev.cint {i : Int} {k : Nat} {pos : Pos} : Ev prog w Kf mg mb n md env m K (.Constant (.int i) k pos) (fun v K => Has K (.int i) v) :=
  fun _ s _ _ _ cx q => .mk <| wpAny_Constant_int (q _ K s.heap _ cx.st ⟨_, rfl⟩)
theorem Ev.cstr {x : Str} {k : Nat} {pos : Pos} : Ev prog w Kf mg mb n md env m K (.Constant (.str x) k pos) (fun v K => Has K (.str x) v) :=
  fun _ s _ _ _ cx q => .mk <| Calls.Constant_str (q _ K s.heap _ cx.st ⟨_, rfl⟩)
theorem Ev.cbool {b : Bool} {k : Nat} {pos : Pos} : Ev prog w Kf mg mb n md env m K (.Constant (.bool b) k pos) (fun v K => Has K (.val (.bool b)) v) :=
  fun _ s _ _ _ cx q => .mk <| wpAny_Constant_bool (q _ K s.heap s.toks cx.st rfl)
theorem Ev.cnone {k : Nat} {pos : Pos} : Ev prog w Kf mg mb n md env m K (.Constant .none k pos) (fun v K => Has K (.val .none) v) :=
  fun _ s _ _ _ cx q => .mk <| wpAny_Constant_none (q _ K s.heap s.toks cx.st rfl)

/-! one operator -/
theorem Ev.bin {o : PySem.Operator} {l r : Expr} {pos : Pos} {P1 P2 P : Value → Kn → Prop} (h1 : Ev prog w Kf mg mb n md env m K l P1) (m1 : Mono P1) (h2 : Ev prog w Kf mg mb n md env m K r P2) (m2 : Mono P2)
    (op : ∀ v1 v2 K', (∀ a o, K a o → K' a o) → P1 v1 K' → P2 v2 K' → Op prog w Kf mg mb n md K' (binaryOp o v1 v2) P) : Ev prog w Kf mg mb n md env m K (.BinOp l o r pos) P :=
  fun A s Q E ok cx q => .mk <| wpAny_BinOp (Wp.h <| h1 A s _ E ok cx fun v1 K1 h1' tk1 t1 p1 => Wp.h <| h2 A _ _ E ok ((cx.step t1).down t1.sub) fun v2 K2 h2' tk2 t2 p2 =>
    have t3 : Step md K1 h1' (Both K1 K2) h2' := t2.both t1.sub t1.known t1.off
    have t4 := t1.trans t3
    Wp.h <| op v1 v2 (Both K1 K2) t4.sub (m1 _ _ _ (fun _ _ => .inl) p1) (m2 _ _ _ (fun _ _ => .inr) p2) A _ _ E ok (cx.step t4).g (cx.step t4).st fun v K' h' tk t p => q v K' h' tk (t4.trans t) p)
theorem Ev.binT {o : PySem.Operator} {l r : Expr} {pos : Pos} {T1 T2 : Ty} {P : Value → Kn → Prop} (h1 : Ev prog w Kf mg mb n md env m K l (fun v K => Has K T1 v)) (h2 : Ev prog w Kf mg mb n md env m K r (fun v K => Has K T2 v))
    (op : ∀ v1 v2 K', Has K' T1 v1 → Has K' T2 v2 → Op prog w Kf mg mb n md K' (binaryOp o v1 v2) P) : Ev prog w Kf mg mb n md env m K (.BinOp l o r pos) P :=
  .bin h1 (mono_has _) h2 (mono_has _) fun v1 v2 K' _ p1 p2 => op v1 v2 K' p1 p2
/-- int op int, one way: no object made -/
theorem op_ii {t : Sem Value} {T : Ty} (h : ∀ (A : Around) (s : Shared) (Q E : Value → Shared → Prop), (∀ v tk, Has K T v → Q v { s with toks := tk }) → wpAny (model prog w) A t Q E s) :
    Op prog w Kf mg mb n md K t (fun v K => Has K T v) := fun A s Q E _ _ x q => .mk <| h A s Q E fun v tk p => q v K s.heap tk x p
theorem op_add {a b : Int} {v1 v2 : Value} (p1 : Has K (.int a) v1) (p2 : Has K (.int b) v2) : Op prog w Kf mg mb n md K (binaryOp .Add v1 v2) (fun v K => Has K (.int (a + b)) v) := by
  obtain ⟨_, rfl⟩ := p1; obtain ⟨_, rfl⟩ := p2
  exact op_ii fun A s Q E q => PyProof.Rows.add_int (q _ _ ⟨_, rfl⟩)
theorem op_sub {a b : Int} {v1 v2 : Value} (p1 : Has K (.int a) v1) (p2 : Has K (.int b) v2) : Op prog w Kf mg mb n md K (binaryOp .Sub v1 v2) (fun v K => Has K (.int (a - b)) v) := by
  obtain ⟨_, rfl⟩ := p1; obtain ⟨_, rfl⟩ := p2
  exact op_ii fun A s Q E q => PyProof.Rows.sub_int (q _ _ ⟨_, rfl⟩)
theorem op_mod {a b : Int} {v1 v2 : Value} (hb : b ≠ 0) (p1 : Has K (.int a) v1) (p2 : Has K (.int b) v2) : Op prog w Kf mg mb n md K (binaryOp .Mod v1 v2) (fun v K => Has K (.int (a.fmod b)) v) := by
  obtain ⟨_, rfl⟩ := p1; obtain ⟨_, rfl⟩ := p2
  exact op_ii fun A s Q E q => PyProof.Rows.mod_int hb (q _ _ ⟨_, rfl⟩)
end
end Mine

-- Core3
namespace Mine

section
variable {prog : Program} {w : World} {Kf : Frag} {mg mb : Str → Option Value} {n : Nat} {md : Mode} {env : Env} {m : Str → Option Value} {K : Kn}

theorem op_mul {a b : Int} {v1 v2 : Value} (hm : IntMulOk a b) (p1 : Has K (.int a) v1) (p2 : Has K (.int b) v2) : Op prog w Kf mg mb n md K (binaryOp .Mult v1 v2) (fun v K => Has K (.int (a * b)) v) := by
  obtain ⟨_, rfl⟩ := p1; obtain ⟨_, rfl⟩ := p2
  exact op_ii fun A s Q E q => PyProof.Rows.mul_int (q _ _ ⟨_, rfl⟩) hm
theorem op_fdiv {a b : Int} {v1 v2 : Value} (hb : b ≠ 0) (hp : Builtin.divisionGoesByPylong a b = false) (p1 : Has K (.int a) v1) (p2 : Has K (.int b) v2) : Op prog w Kf mg mb n md K (binaryOp .FloorDiv v1 v2) (fun v K => Has K (.int (a.fdiv b)) v) := by
  obtain ⟨_, rfl⟩ := p1; obtain ⟨_, rfl⟩ := p2
  exact op_ii fun A s Q E q => PyProof.Rows.floordiv_int hb (q _ _ ⟨_, rfl⟩) (.inl hp)
theorem op_pow {a b : Int} {v1 v2 : Value} (h0 : 0 ≤ b) (h1 : b ≤ 1000000) (ha : a.natAbs < 2 ^ 64) (p1 : Has K (.int a) v1) (p2 : Has K (.int b) v2) : Op prog w Kf mg mb n md K (binaryOp .Pow v1 v2) (fun v K => Has K (.int (a ^ b.toNat)) v) := by
  obtain ⟨_, rfl⟩ := p1; obtain ⟨_, rfl⟩ := p2
  exact op_ii fun A s Q E q => PyProof.Rows.pow_int_small h0 h1 ha (q _ _ ⟨_, rfl⟩)
theorem op_shl {a b : Int} {v1 v2 : Value} (h0 : 0 ≤ b) (h1 : b ≤ 1000000) (ha : a.natAbs < 2 ^ 64) (p1 : Has K (.int a) v1) (p2 : Has K (.int b) v2) : Op prog w Kf mg mb n md K (binaryOp .LShift v1 v2) (fun v K => Has K (.int (a * 2 ^ b.toNat)) v) := by
  obtain ⟨_, rfl⟩ := p1; obtain ⟨_, rfl⟩ := p2
  exact op_ii fun A s Q E q => PyProof.Rows.lshift_int_small h0 h1 ha (q _ _ ⟨_, rfl⟩)
theorem op_shr {a b : Int} {v1 v2 : Value} (h0 : 0 ≤ b) (p1 : Has K (.int a) v1) (p2 : Has K (.int b) v2) : Op prog w Kf mg mb n md K (binaryOp .RShift v1 v2) (fun v K => Has K (.int (a.fdiv (2 ^ b.toNat))) v) := by
  obtain ⟨_, rfl⟩ := p1; obtain ⟨_, rfl⟩ := p2
  exact op_ii fun A s Q E q => PyProof.Rows.rshift_int h0 (q _ _ ⟨_, rfl⟩)
theorem op_and {a b : Int} {v1 v2 : Value} (p1 : Has K (.int a) v1) (p2 : Has K (.int b) v2) : Op prog w Kf mg mb n md K (binaryOp .BitAnd v1 v2) (fun v K => Has K (.int (Builtin.bitAnd a b)) v) := by
  obtain ⟨_, rfl⟩ := p1; obtain ⟨_, rfl⟩ := p2
  exact op_ii fun A s Q E q => PyProof.Rows.and_int (q _ _ ⟨_, rfl⟩)
theorem op_or {a b : Int} {v1 v2 : Value} (p1 : Has K (.int a) v1) (p2 : Has K (.int b) v2) : Op prog w Kf mg mb n md K (binaryOp .BitOr v1 v2) (fun v K => Has K (.int (Builtin.bitOr a b)) v) := by
  obtain ⟨_, rfl⟩ := p1; obtain ⟨_, rfl⟩ := p2
  exact op_ii fun A s Q E q => PyProof.Rows.or_int (q _ _ ⟨_, rfl⟩)
theorem op_xor {a b : Int} {v1 v2 : Value} (p1 : Has K (.int a) v1) (p2 : Has K (.int b) v2) : Op prog w Kf mg mb n md K (binaryOp .BitXor v1 v2) (fun v K => Has K (.int (Builtin.bitXor a b)) v) := by
  obtain ⟨_, rfl⟩ := p1; obtain ⟨_, rfl⟩ := p2
  exact op_ii fun A s Q E q => PyProof.Rows.xor_int (q _ _ ⟨_, rfl⟩)
theorem op_neg {a : Int} {v1 : Value} (p1 : Has K (.int a) v1) : Op prog w Kf mg mb n md K (unaryOp .USub v1) (fun v K => Has K (.int (-a)) v) := by
  obtain ⟨_, rfl⟩ := p1
  exact op_ii fun A s Q E q => PyProof.Rows.neg_int (q _ _ ⟨_, rfl⟩)
theorem op_lt {a b : Int} {v1 v2 : Value} (p1 : Has K (.int a) v1) (p2 : Has K (.int b) v2) : Op prog w Kf mg mb n md K (compareOp .Lt v1 v2) (fun v K => Has K (.val (.bool (decide (a < b)))) v) := by
  obtain ⟨_, rfl⟩ := p1; obtain ⟨_, rfl⟩ := p2
  exact op_ii fun A s Q E q => P.lt_int (q _ s.toks rfl)
theorem op_le {a b : Int} {v1 v2 : Value} (p1 : Has K (.int a) v1) (p2 : Has K (.int b) v2) : Op prog w Kf mg mb n md K (compareOp .LtE v1 v2) (fun v K => Has K (.val (.bool (decide (a ≤ b)))) v) := by
  obtain ⟨_, rfl⟩ := p1; obtain ⟨_, rfl⟩ := p2
  exact op_ii fun A s Q E q => P.le_int (q _ s.toks rfl)
theorem op_gt {a b : Int} {v1 v2 : Value} (p1 : Has K (.int a) v1) (p2 : Has K (.int b) v2) : Op prog w Kf mg mb n md K (compareOp .Gt v1 v2) (fun v K => Has K (.val (.bool (decide (b < a)))) v) := by
  obtain ⟨_, rfl⟩ := p1; obtain ⟨_, rfl⟩ := p2
  exact op_ii fun A s Q E q => P.gt_int (q _ s.toks rfl)
theorem op_eq {a b : Int} {v1 v2 : Value} (p1 : Has K (.int a) v1) (p2 : Has K (.int b) v2) : Op prog w Kf mg mb n md K (compareOp .Eq v1 v2) (fun v K => Has K (.val (.bool (a == b))) v) := by
  obtain ⟨_, rfl⟩ := p1; obtain ⟨_, rfl⟩ := p2
  exact op_ii fun A s Q E q => P.eq_int (q _ s.toks rfl)
theorem op_ne {a b : Int} {v1 v2 : Value} (p1 : Has K (.int a) v1) (p2 : Has K (.int b) v2) : Op prog w Kf mg mb n md K (compareOp .NotEq v1 v2) (fun v K => Has K (.val (.bool (a != b))) v) := by
  obtain ⟨_, rfl⟩ := p1; obtain ⟨_, rfl⟩ := p2
  exact op_ii fun A s Q E q => P.ne_int (q _ s.toks rfl)
theorem op_eqS {a b : Str} {v1 v2 : Value} (p1 : Has K (.str a) v1) (p2 : Has K (.str b) v2) : Op prog w Kf mg mb n md K (compareOp .Eq v1 v2) (fun v K => Has K (.val (.bool (a == b))) v) := by
  obtain ⟨_, rfl⟩ := p1; obtain ⟨_, rfl⟩ := p2
  exact op_ii fun A s Q E q => PyProof.Rows.eq_str (q _ s.toks rfl)
theorem op_isNotNone {v1 : Value} : Op prog w Kf mg mb n md K (compareOp .IsNot v1 .none) (fun v K => Has K (.val (.bool (!(v1 == .none)))) v) :=
  op_ii fun A s Q E q => isNot_none (q _ s.toks rfl)

/-! unary, comparison -/
theorem Ev.neg {x : Expr} {pos : Pos} {a : Int} (h : Ev prog w Kf mg mb n md env m K x (fun v K => Has K (.int a) v)) : Ev prog w Kf mg mb n md env m K (.UnaryOp .USub x pos) (fun v K => Has K (.int (-a)) v) :=
  fun A s Q E ok cx q => .mk <| wpAny_UnaryOp (Wp.h <| h A s _ E ok cx fun _ _ _ _ t1 p1 => Wp.h <| op_neg p1 A _ _ E ok (cx.step t1).g (cx.step t1).st fun v K' h' tk t p => q v K' h' tk (t1.trans t) p)
theorem Ev.cmp {o : CmpOp} {l r : Expr} {pos : Pos} {T1 T2 : Ty} {P : Value → Kn → Prop} (h1 : Ev prog w Kf mg mb n md env m K l (fun v K => Has K T1 v)) (h2 : Ev prog w Kf mg mb n md env m K r (fun v K => Has K T2 v))
    (op : ∀ v1 v2 K', Has K' T1 v1 → Has K' T2 v2 → Op prog w Kf mg mb n md K' (compareOp o v1 v2) P) (hm : behindInMarks o r = false) : Ev prog w Kf mg mb n md env m K (.Compare l [o] [r] pos) P :=
  fun A s Q E ok cx q => .mk <| wpAny_Compare1 (Wp.h <| h1 A s _ E ok cx fun v1 K1 h1' tk1 t1 p1 => Wp.h <| h2 A _ _ E ok ((cx.step t1).down t1.sub) fun v2 K2 h2' tk2 t2 p2 =>
    have t3 : Step md K1 h1' (Both K1 K2) h2' := t2.both t1.sub t1.known t1.off
    have t4 := t1.trans t3
    Wp.h <| op v1 v2 (Both K1 K2) (p1.mono fun _ _ => .inl) (p2.mono fun _ _ => .inr) A _ _ E ok (cx.step t4).g (cx.step t4).st fun v K' h' tk t p => q v K' h' tk (t4.trans t) p) hm

/-! tests -/
theorem Tst.cmp {o : CmpOp} {l r : Expr} {pos : Pos} {T1 T2 : Ty} {b : Bool} (h1 : Ev prog w Kf mg mb n md env m K l (fun v K => Has K T1 v)) (h2 : Ev prog w Kf mg mb n md env m K r (fun v K => Has K T2 v))
    (op : ∀ v1 v2 K', Has K' T1 v1 → Has K' T2 v2 → Op prog w Kf mg mb n md K' (compareOp o v1 v2) (fun v K => Has K (.val (.bool b)) v)) (hm : behindInMarks o r = false) : Tst prog w Kf mg mb n md env m K (.Compare l [o] [r] pos) b :=
  fun A s Q E ok cx q => .mk <| wpAny_isTrue_Compare1 (Wp.h <| h1 A s _ E ok cx fun v1 K1 h1' tk1 t1 p1 => Wp.h <| h2 A _ _ E ok ((cx.step t1).down t1.sub) fun v2 K2 h2' tk2 t2 p2 =>
    have t3 : Step md K1 h1' (Both K1 K2) h2' := t2.both t1.sub t1.known t1.off
    have t4 := t1.trans t3
    Wp.h <| op v1 v2 (Both K1 K2) (p1.mono fun _ _ => .inl) (p2.mono fun _ _ => .inr) A _ _ E ok (cx.step t4).g (cx.step t4).st fun v K' h' tk t p => by
      obtain rfl : v = .bool b := p
      exact wpAny_truthy_bool (q K' h' tk (t4.trans t))) hm
theorem Tst.not {x : Expr} {pos : Pos} {b : Bool} (h : Tst prog w Kf mg mb n md env m K x b) : Tst prog w Kf mg mb n md env m K (.UnaryOp .Not x pos) (!b) :=
  fun A s Q E ok cx q => .mk <| wpAny_isTrue_Not (Wp.h <| h A s _ E ok cx fun K' h' tk t => q K' h' tk t)
theorem Tst.val {e : Expr} {b : Bool} (h : Ev prog w Kf mg mb n md env m K e (fun v K => Has K (.val (.bool b)) v)) (he : isTrue e env (eval e env) = (do let v ← eval e env; standAt e.pos; holding [v] (truthy v)) := by rfl) : Tst prog w Kf mg mb n md env m K e b :=
  fun A s Q E ok cx q => .mk <| wpAny_isTrue_value (Wp.h <| h A s _ E ok cx fun v K' h' tk t p => by
    obtain rfl : v = .bool b := p
    exact wpAny_truthy_bool (q K' h' tk t)) he
/-- or of two, both false -/
theorem Tst.or2f {x y : Expr} {pos : Pos} (h1 : Tst prog w Kf mg mb n md env m K x false) (h2 : Tst prog w Kf mg mb n md env m K y false) : Tst prog w Kf mg mb n md env m K (.BoolOp .Or [x, y] pos) false :=
  fun A s Q E ok cx q => .mk <| wpAny_isTrue_BoolOp (wpAny_allTrue_Or_cons (Wp.h <| h1 A s _ E ok cx fun K1 _ _ t1 => wpAny_allTrue_Or_cons (Wp.h <| h2 A _ _ E ok ((cx.step t1).down t1.sub) fun _ _ _ t2 =>
    wpAny_allTrue_Or_nil (q _ _ _ (t1.trans (t2.both t1.sub t1.known t1.off))))))
theorem Ev.ifExp {test body orelse : Expr} {pos : Pos} {b : Bool} {P : Value → Kn → Prop} (ht : Tst prog w Kf mg mb n md env m K test b) (h1 : b = true → Ev prog w Kf mg mb n md env m K body P) (h2 : b = false → Ev prog w Kf mg mb n md env m K orelse P) (hP : Mono P) :
    Ev prog w Kf mg mb n md env m K (.IfExp test body orelse pos) P :=
  fun A s Q E ok cx q => .mk <| wpAny_IfExp (Wp.h <| ht A s _ E ok cx fun K1 h1' tk1 t1 => by
    have go : ∀ e, Ev prog w Kf mg mb n md env m K e P → wpAny (model prog w) A (eval e env) Q E { s with heap := h1', toks := tk1 } := fun e he =>
      Wp.h <| (he.up t1.sub hP) A _ _ E ok (cx.step t1) fun v K' h' tk t p => q v K' h' tk (t1.trans t) p
    cases b with
    | true => exact go _ (h1 rfl)
    | false => exact go _ (h2 rfl))

/-! several expressions in a row: arguments, items of a display -/
noncomputable def Evs (prog : Program) (w : World) (Kf : Frag) (mg mb : Str → Option Value) (n : Nat) (md : Mode) (env : Env) (m : Str → Option Value) (K : Kn) (es : List Expr) (P : List Value → Kn → Prop) : Prop :=
  ∀ (A : Around) (s : Shared) (pos : Pos) (Q : List Value → Shared → Prop) (E : Value → Shared → Prop), Ok n A → Cx Kf mg mb md env m K s.heap →
    (∀ vs K' h' tk, Step md K s.heap K' h' → P vs K' → Q vs { s with heap := h', toks := tk }) → Wp (wpAny (model prog w) A (spliced (backTo pos (starEach es env))) Q E s)
theorem Evs.nil : Evs prog w Kf mg mb n md env m K [] (fun vs _ => vs = []) := fun _ s _ _ _ _ cx q => .mk <| wpAny_items_nil (q [] K s.heap s.toks cx.st rfl)
noncomputable def MonoL (P : List Value → Kn → Prop) : Prop := ∀ v (K K' : Kn), (∀ a o, K a o → K' a o) → P v K → P v K'
theorem Evs.cons {e : Expr} {es : List Expr} {P1 : Value → Kn → Prop} {P2 : List Value → Kn → Prop} (h1 : Ev prog w Kf mg mb n md env m K e P1) (m1 : Mono P1) (h2 : Evs prog w Kf mg mb n md env m K es P2) (m2 : MonoL P2)
    (he : starEach (e :: es) env = (false, eval e env) :: starEach es env := by rfl) : Evs prog w Kf mg mb n md env m K (e :: es) (fun vs K => ∃ v r, vs = v :: r ∧ P1 v K ∧ P2 r K) :=
  fun A s pos Q E ok cx q => .mk <| wpAny_items_cons (Wp.h <| h1 A s _ E ok cx fun v1 K1 _ _ t1 p1 => Wp.h <| h2 A _ pos _ E ok ((cx.step t1).down t1.sub) fun vs K2 _ _ t2 p2 =>
    q (v1 :: vs) (Both K1 K2) _ _ (t1.trans (t2.both t1.sub t1.known t1.off)) ⟨v1, vs, rfl, m1 _ _ _ (fun _ _ => .inl) p1, m2 _ _ _ (fun _ _ => .inr) p2⟩) he
noncomputable abbrev HasAll (K : Kn) (Ts : List Ty) (vs : List Value) : Prop := Each (Has K) Ts vs
theorem HasAll.mono {K K' : Kn} {Ts : List Ty} {vs : List Value} (h : ∀ a o, K a o → K' a o) (x : HasAll K Ts vs) : HasAll K' Ts vs := x.imp fun _ _ p => p.mono h
theorem Evs.nilT : Evs prog w Kf mg mb n md env m K [] (fun vs K => HasAll K [] vs) := fun _ s _ _ _ _ cx q => .mk <| wpAny_items_nil (q [] K s.heap s.toks cx.st .nil)
theorem Evs.consT {e : Expr} {es : List Expr} {T : Ty} {Ts : List Ty} (h1 : Ev prog w Kf mg mb n md env m K e (fun v K => Has K T v)) (h2 : Evs prog w Kf mg mb n md env m K es (fun vs K => HasAll K Ts vs))
    (he : starEach (e :: es) env = (false, eval e env) :: starEach es env := by rfl) : Evs prog w Kf mg mb n md env m K (e :: es) (fun vs K => HasAll K (T :: Ts) vs) :=
  fun A s pos Q E ok cx q => .mk <| wpAny_items_cons (Wp.h <| h1 A s _ E ok cx fun v1 K1 _ _ t1 p1 => Wp.h <| h2 A _ pos _ E ok ((cx.step t1).down t1.sub) fun vs K2 _ _ t2 p2 =>
    q (v1 :: vs) (Both K1 K2) _ _ (t1.trans (t2.both t1.sub t1.known t1.off)) (.cons (p1.mono fun _ _ => .inl) (HasAll.mono (fun _ _ => .inr) p2))) he

/-! a new object -/
noncomputable abbrev Add (K : Kn) (a : Addr) (o : Obj) : Kn := fun b p => K b p ∨ (b = a ∧ p = o)
theorem step_new {h : Heap} {o : Obj} (x : Step md K h K h) (hf : o.isFreed = false) : Step md K h (Add K h.objs.size o) (h.push o) where
  ext := fun _ _ _ e => Heap.get?_push_of_some _ e
  sub := fun _ _ e => .inl e
  known := fun a p e => by
    rcases e with e | ⟨rfl, rfl⟩
    · exact Heap.get?_push_of_some _ (x.known a p e)
    · exact Heap.get?_push_size _ hf
  off := fun a p e => by
    rcases e with e | ⟨rfl, rfl⟩
    · exact x.off a p e
    · intro hc
      obtain ⟨o', ho'⟩ := md.here h x.inv _ (md.sub _ hc)
      exact absurd (Heap.lt_size ho') (Nat.lt_irrefl _)
  fresh := fun a p e => by
    rcases e with e | ⟨rfl, rfl⟩
    · exact .inl e
    · right
      cases q : h.get? h.objs.size with
      | none => rfl
      | some o' => exact absurd (Heap.lt_size q) (Nat.lt_irrefl _)
  inv := md.keep h _ (fun _ _ _ e => Heap.get?_push_of_some _ e) x.inv

theorem Ev.list {es : List Expr} {pos : Pos} {P : List Value → Kn → Prop} (h : Evs prog w Kf mg mb n md env m K es P) (hm : MonoL P) (hl : ∀ vs K, P vs K → vs.length ≤ sizeLine) :
    Ev prog w Kf mg mb n md env m K (.List es pos) (fun v K => ∃ a vs, v = .ref a ∧ K a (listOf vs.toArray 0) ∧ P vs K) :=
  fun A s Q E ok cx q => .mk <| wpAny_List (Wp.h <| h A s _ _ E ok cx fun vs K1 h1 tk1 t1 p1 => ⟨hl vs K1 p1,
    q _ _ _ _ (t1.trans (step_new (cx.step t1).st rfl)) ⟨_, vs, rfl, .inr ⟨rfl, rfl⟩, hm _ _ _ (fun _ _ => .inl) p1⟩⟩)
theorem Ev.tuple {es : List Expr} {k : Nat} {pos : Pos} {P : List Value → Kn → Prop} (h : Evs prog w Kf mg mb n md env m K es P) (hm : MonoL P) (hl : ∀ vs K, P vs K → vs.length ≤ sizeLine) :
    Ev prog w Kf mg mb n md env m K (.Tuple es k pos) (fun v K => ∃ a vs, v = .ref a ∧ K a (tupOf vs 0) ∧ P vs K) :=
  fun A s Q E ok cx q => .mk <| wpAny_Tuple (Wp.h <| h A s _ _ E ok cx fun vs K1 h1 tk1 t1 p1 => ⟨hl vs K1 p1,
    q _ _ _ _ (t1.trans (step_new (cx.step t1).st rfl)) ⟨_, vs, rfl, .inr ⟨rfl, rfl⟩, hm _ _ _ (fun _ _ => .inl) p1⟩⟩)

/-! calls of the text's own defs -/
theorem Ev.call {x : Str} {p pos : Pos} {e : Expr} {es : List Expr} {f : Addr} {o : Obj} {fd : FuncData} {Ts : List Ty} {P : Value → Kn → Prop} (hn : Ev prog w Kf mg mb n md env m K (.Name x p) (fun v _ => v = .ref f))
    (ho : Kf.lookup f = some o) (hd : o.data = .func fd) (ha : Evs prog w Kf mg mb n md env m K (e :: es) (fun vs K => HasAll K Ts vs))
    (hf : ∀ vs K', (∀ a o, K a o → K' a o) → HasAll K' Ts vs → Op prog w Kf mg mb n md K' (PySem.call (.ref f) vs) P)
    (he : starEach (e :: es) env = (false, eval e env) :: starEach es env := by rfl) : Ev prog w Kf mg mb n md env m K (.Call (.Name x p) (e :: es) [] pos) P :=
  fun A s Q E ok cx q => .mk <| PyProof.Rows.Call_ (Wp.h <| hn A s _ E ok cx fun v1 K1 h1 tk1 t1 p1 => by
    obtain rfl := p1
    refine PyProof.Rows.callWith_def hd (Wp.h <| ha A _ _ _ E ok ((cx.step t1).down t1.sub) fun vs K2 h2 tk2 t2 p2 => ?_) he
    have t4 := t1.trans (t2.both t1.sub t1.known t1.off)
    exact ⟨(cx.step t4).g.kin f o ho, Wp.h <| hf vs (Both K1 K2) t4.sub (HasAll.mono (fun _ _ => .inr) p2) A _ _ E ok (cx.step t4).g (cx.step t4).st fun v K' h' tk t p => q v K' h' tk (t4.trans t) p⟩)
end
end Mine

-- Core4
namespace Mine

noncomputable def upd (m : Str → Option Value) (x : Str) (v : Value) : Str → Option Value := fun y => if y = x then some v else m y
noncomputable def bm : List (Str × Value) → Str → Option Value
  | [], _ => none
  | (k, v) :: r, x => if x = k then some v else bm r x

noncomputable abbrev cellsAt (fd : FuncData) (L : Addr) : List (Str × Addr) := cellsFrom (L + 1) fd.scope.names []
noncomputable def IsCellAt (fd : FuncData) (L a : Addr) : Prop := ∃ k, (cellsAt fd L).lookup k = some a

section
variable (Kf : Frag) (mg mb : Str → Option Value)
/-- a frame: its locals and cells by m, the known objects, all apart -/
structure FX (md : Mode) (fd : FuncData) (L : Addr) (K : Kn) (m : Str → Option Value) (h : Heap) : Prop where
  g : Gd Kf mg mb (fun a => md.c = some a ∨ a = L ∨ IsCellAt fd L a) h
  fr : ∃ (lm cm : Str → Option Value), h.Ns L lm ∧ (∀ k c, (cellsAt fd L).lookup k = some c → h.IsCell c (cm k)) ∧
    ∀ x v, m x = some v → (x == ("__debug__" : Str)) = false ∧ ((fd.scope.names.lookup x = some .local ∧ lm x = some v) ∨ (fd.scope.names.lookup x = some .cell ∧ (∃ c, (cellsAt fd L).lookup x = some c) ∧ cm x = some v))
  apart : (cellsAt fd L).Pairwise fun x y => x.2 ≠ y.2
  above : ∀ k c, (k, c) ∈ cellsAt fd L → L < c
  known : ∀ a o, K a o → h.get? a = some o
  off : ∀ a o, K a o → md.c ≠ some a
  offL : ∀ a o, K a o → a ≠ L ∧ ¬ IsCellAt fd L a
  foot : ∀ a ∈ md.foot, a ≠ L ∧ ¬ IsCellAt fd L a
  inv : md.I h
  eg : fd.globals = mainGlobals
  eb : fd.builtins = builtinsNs
  ek : fd.scope.kind = .function
end

structure StepX (md : Mode) (fd : FuncData) (L : Addr) (K : Kn) (h : Heap) (K' : Kn) (h' : Heap) : Prop where
  ext : ∀ a o, md.c ≠ some a → a ≠ L → ¬ IsCellAt fd L a → h.get? a = some o → h'.get? a = some o
  sub : ∀ a o, K a o → K' a o
  fresh : ∀ a o, K' a o → K a o ∨ h.get? a = none

section
variable {prog : Program} {w : World} {Kf : Frag} {mg mb : Str → Option Value} {n : Nat} {md : Mode} {fd : FuncData} {f L : Addr} {m : Str → Option Value} {K K' K1 K2 : Kn} {h h' h1 h2 : Heap}

theorem FX.cL (x : FX Kf mg mb md fd L K m h) : md.c ≠ some L := fun e => (x.foot L (md.sub L e)).1 rfl
theorem FX.cC (x : FX Kf mg mb md fd L K m h) {a : Addr} (ha : IsCellAt fd L a) : md.c ≠ some a := fun e => (x.foot a (md.sub a e)).2 ha
theorem FX.cx (x : FX Kf mg mb md fd L K m h) : Cx Kf mg mb md (callEnvC fd L f) m K h where
  g := x.g.weak fun _ => .inl
  eg := x.eg
  eb := x.eb
  ek := x.ek
  sees := fun y v hy => by
    obtain ⟨lm, cm, hn, hc, hm⟩ := x.fr
    obtain ⟨hd, ⟨hl, hv⟩ | ⟨hl, ⟨c, hcl⟩, hv⟩⟩ := hm y v hy
    · exact sees_local (env := callEnvC fd L f) hn x.cL x.ek hl hv hd
    · exact sees_cell (env := callEnvC fd L f) (by have := hc y c hcl; rw [hv] at this; exact this) (x.cC ⟨y, hcl⟩) x.ek hl hcl hd
  cells := fun y v hy hk => by
    obtain ⟨lm, cm, hn, hc, hm⟩ := x.fr
    have hk' : fd.scope.names.lookup y = some .cell := hk
    obtain ⟨hd, ⟨hl, hv⟩ | ⟨hl, ⟨c, hcl⟩, hv⟩⟩ := hm y v hy
    · rw [hl] at hk'; cases hk'
    · exact ⟨c, hcl, by have := hc y c hcl; rw [hv] at this; exact this, x.cC ⟨y, hcl⟩⟩
  known := x.known
  off := x.off
  inv := x.inv
theorem FX.step (x : FX Kf mg mb md fd L K m h) (t : Step md K h K' h') : FX Kf mg mb md fd L K' m h' where
  g := x.g.ext fun a o hX e => t.ext a o (fun q => hX (.inl q)) e
  fr := by
    obtain ⟨lm, cm, hn, hc, hm⟩ := x.fr
    refine ⟨lm, cm, ?_, fun k c hk => ?_, hm⟩
    · obtain ⟨o, es, ep, e, r⟩ := hn
      exact ⟨o, es, ep, t.ext _ _ x.cL e, r⟩
    · obtain ⟨o, e, r⟩ := hc k c hk
      exact ⟨o, t.ext _ _ (x.cC ⟨k, hk⟩) e, r⟩
  apart := x.apart
  above := x.above
  known := t.known
  off := t.off
  offL := fun a o e => by
    rcases t.fresh a o e with e1 | e1
    · exact x.offL a o e1
    · obtain ⟨lm, cm, hn, hc, hm⟩ := x.fr
      constructor
      · rintro rfl
        obtain ⟨o', es, ep, e', r⟩ := hn
        rw [e1] at e'; cases e'
      · rintro ⟨k, hk⟩
        obtain ⟨o', e', r⟩ := hc k a hk
        rw [e1] at e'; cases e'
  foot := x.foot
  inv := t.inv
  eg := x.eg
  eb := x.eb
  ek := x.ek
theorem StepX.of (t : Step md K h K' h') : StepX md fd L K h K' h' := ⟨fun a o hc _ _ e => t.ext a o hc e, t.sub, t.fresh⟩
theorem StepX.refl : StepX md fd L K h K h := ⟨fun _ _ _ _ _ e => e, fun _ _ e => e, fun _ _ e => .inl e⟩
theorem StepX.trans (s : StepX md fd L K h K1 h1) (t : StepX md fd L K1 h1 K2 h2) (x : FX Kf mg mb md fd L K2 m h2) : StepX md fd L K h K2 h2 where
  ext := fun a o hc hL hC e => t.ext a o hc hL hC (s.ext a o hc hL hC e)
  sub := fun a o e => t.sub a o (s.sub a o e)
  fresh := fun a o e => by
    rcases t.fresh a o e with e1 | e1
    · exact s.fresh a o e1
    · right
      cases q : h.get? a with
      | none => rfl
      | some o' => have := s.ext a o' (x.off a o e) (x.offL a o e).1 (x.offL a o e).2 q; rw [e1] at this; cases this

theorem FX.store {M : Model} {A : Around} {s : Shared} {x : Str} {v : Value} {Q : Unit → Shared → Prop} {E : Value → Shared → Prop} (X : FX Kf mg mb md fd L K m s.heap)
    (hx : fd.scope.names.lookup x = some .local ∨ (fd.scope.names.lookup x = some .cell ∧ ∃ c, (cellsAt fd L).lookup x = some c)) (hd : (x == ("__debug__" : Str)) = false)
    (q : ∀ h' tk, FX Kf mg mb md fd L K (upd m x v) h' → StepX md fd L K s.heap K h' → Q () { s with heap := h', toks := tk }) :
    wpAny M A (storeName (callEnvC fd L f) x v) Q E s := by
  obtain ⟨lm, cm, hn, hc, hm⟩ := X.fr
  rcases hx with hl | ⟨hl, c, hcl⟩
  · refine wpAny_storeName_local (env := callEnvC fd L f) hl hn (fun h' hn' hs => ?_) (by show (fd.scope.kind == .class || (fd.scope.kind == .module && L != fd.globals)) = false; rw [X.ek]; rfl)
    have hC : ∀ k c, (cellsAt fd L).lookup k = some c → c ≠ L := fun k c hk => Nat.ne_of_gt (X.above k c (mem_of_lookup hk))
    refine q h' _ ⟨X.g.ext fun a o hX e => (hs.2 a fun q => hX (.inr (.inl q))).trans e, ⟨_, cm, hn', fun k c hk => (hc k c hk).sameBut hs (hC k c hk), fun y u hy => ?_⟩, X.apart, X.above,
      fun a o e => (hs.2 a (X.offL a o e).1).trans (X.known a o e), X.off, X.offL, X.foot, md.keep _ _ (fun a ha o e => (hs.2 a (X.foot a ha).1).trans e) X.inv, X.eg, X.eb, X.ek⟩
      ⟨fun a o _ hL _ e => (hs.2 a hL).trans e, fun _ _ e => e, fun _ _ e => .inl e⟩
    unfold upd at hy
    by_cases hyx : y = x
    · subst hyx
      rw [if_pos rfl] at hy
      exact ⟨hd, .inl ⟨hl, by rw [if_pos rfl]; exact hy⟩⟩
    · rw [if_neg hyx] at hy
      obtain ⟨h1, h2⟩ := hm y u hy
      exact ⟨h1, h2.imp (fun z => ⟨z.1, by rw [if_neg hyx]; exact z.2⟩) id⟩
  · have hLc : L < c := X.above x c (mem_of_lookup hcl)
    refine wpAny_storeName_cell (env := callEnvC fd L f) X.ek hl hcl (hc x c hcl) fun h' hv hs => ?_
    have hcA : IsCellAt fd L c := ⟨x, hcl⟩
    have ne : ∀ a, ¬ IsCellAt fd L a → a ≠ c := fun a ha e => ha (e ▸ hcA)
    refine q h' _ ⟨X.g.ext fun a o hX e => (hs.2 a (ne a fun q => hX (.inr (.inr q)))).trans e, ⟨lm, fun k => if k = x then some v else cm k, hn.sameBut hs (Nat.ne_of_lt hLc), fun k c' hk => ?_, fun y u hy => ?_⟩, X.apart, X.above,
      fun a o e => (hs.2 a (ne a (X.offL a o e).2)).trans (X.known a o e), X.off, X.offL, X.foot, md.keep _ _ (fun a ha o e => (hs.2 a (ne a (X.foot a ha).2)).trans e) X.inv, X.eg, X.eb, X.ek⟩
      ⟨fun a o _ _ hC e => (hs.2 a (ne a hC)).trans e, fun _ _ e => e, fun _ _ e => .inl e⟩
    · by_cases hkx : k = x
      · subst hkx
        rw [hcl] at hk; cases hk
        simpa using hv
      · have hcc : c' ≠ c := fun q => hkx (name_of_addr X.apart (mem_of_lookup hk) (q ▸ mem_of_lookup hcl))
        simpa [hkx] using (hc k c' hk).sameBut hs hcc
    · unfold upd at hy
      by_cases hyx : y = x
      · subst hyx
        rw [if_pos rfl] at hy
        exact ⟨hd, .inr ⟨hl, ⟨c, hcl⟩, by simpa using hy⟩⟩
      · rw [if_neg hyx] at hy
        obtain ⟨h1, h2⟩ := hm y u hy
        exact ⟨h1, h2.imp id fun z => ⟨z.1, z.2.1, by simpa [hyx] using z.2.2⟩⟩
end

section
variable (prog : Program) (w : World) (Kf : Frag) (mg mb : Str → Option Value)
noncomputable abbrev JT := Flow → Kn → (Str → Option Value) → Prop
noncomputable abbrev GivesX (md : Mode) (fd : FuncData) (L : Addr) (K : Kn) (J : JT) (s : Shared) (Q : Flow → Shared → Prop) : Prop :=
  ∀ fl K' m' h' tk, StepX md fd L K s.heap K' h' → FX Kf mg mb md fd L K' m' h' → J fl K' m' → Q fl { s with heap := h', toks := tk }
/-- a suite of a frame -/
noncomputable def Run (n : Nat) (md : Mode) (fd : FuncData) (f : Addr) (K : Kn) (m : Str → Option Value) (st : List Stmt) (J : JT) : Prop :=
  ∀ (A : Around) (L : Addr) (s : Shared) (Q : Flow → Shared → Prop) (E : Value → Shared → Prop), Ok n A → FX Kf mg mb md fd L K m s.heap → GivesX Kf mg mb md fd L K J s Q → Wp (wpAny (model prog w) A (execs st (callEnvC fd L f)) Q E s)
/-- one statement -/
noncomputable def Run1 (n : Nat) (md : Mode) (fd : FuncData) (f : Addr) (K : Kn) (m : Str → Option Value) (st : Stmt) (J : JT) : Prop :=
  ∀ (A : Around) (L : Addr) (s : Shared) (Q : Flow → Shared → Prop) (E : Value → Shared → Prop), Ok n A → FX Kf mg mb md fd L K m s.heap → GivesX Kf mg mb md fd L K J s Q → Wp (wpAny (model prog w) A (exec st (callEnvC fd L f)) Q E s)
/-- an expression of a frame -/
noncomputable def EvF (n : Nat) (md : Mode) (fd : FuncData) (f : Addr) (K : Kn) (m : Str → Option Value) (e : Expr) (P : Value → Kn → Prop) : Prop :=
  ∀ L, Ev prog w Kf mg mb n md (callEnvC fd L f) m K e P
noncomputable def TstF (n : Nat) (md : Mode) (fd : FuncData) (f : Addr) (K : Kn) (m : Str → Option Value) (e : Expr) (b : Bool) : Prop :=
  ∀ L, Tst prog w Kf mg mb n md (callEnvC fd L f) m K e b
end

section
variable {prog : Program} {w : World} {Kf : Frag} {mg mb : Str → Option Value} {n : Nat} {md : Mode} {fd : FuncData} {f : Addr} {m : Str → Option Value} {K : Kn} {J J1 : JT}

theorem Run.nil (j : J .next K m) : Run prog w Kf mg mb n md fd f K m [] J :=
  fun _ _ s _ _ _ X q => .mk <| wpAny_execs_nil (q .next K m s.heap s.toks .refl X j)
theorem Run.cons {st : Stmt} {rest : List Stmt} (h1 : Run1 prog w Kf mg mb n md fd f K m st J1) (h2 : ∀ K' m', (∀ a o, K a o → K' a o) → J1 .next K' m' → Run prog w Kf mg mb n md fd f K' m' rest J)
    (h3 : ∀ fl K' m', fl ≠ .next → J1 fl K' m' → J fl K' m') : Run prog w Kf mg mb n md fd f K m (st :: rest) J :=
  fun A L s Q E ok X q => .mk <| wpAny_execs_cons (Wp.h <| h1 A L s _ E ok X fun fl K1 m1 h1' tk1 t1 X1 j1 => by
    cases fl with
    | next => exact Wp.h <| h2 K1 m1 t1.sub j1 A L _ _ E ok X1 fun fl K2 m2 h2' tk2 t2 X2 j2 => q fl K2 m2 h2' tk2 (t1.trans t2 X2) X2 j2
    | brk => exact q _ _ _ _ _ t1 X1 (h3 _ _ _ (fun e => by cases e) j1)
    | cont => exact q _ _ _ _ _ t1 X1 (h3 _ _ _ (fun e => by cases e) j1)
    | ret v => exact q _ _ _ _ _ t1 X1 (h3 _ _ _ (fun e => by cases e) j1))
theorem Run.imp {st : List Stmt} (h : Run prog w Kf mg mb n md fd f K m st J1) (hj : ∀ fl K' m', (∀ a o, K a o → K' a o) → J1 fl K' m' → J fl K' m') : Run prog w Kf mg mb n md fd f K m st J :=
  fun A L s Q E ok X q => .mk <| Wp.h <| h A L s Q E ok X fun fl K' m' h' tk t X' j => q fl K' m' h' tk t X' (hj fl K' m' t.sub j)
theorem Run.ret {e : Expr} {pos : Pos} {rest : List Stmt} {P : Value → Kn → Prop} (h : EvF prog w Kf mg mb n md fd f K m e P) (hj : ∀ v K', (∀ a o, K a o → K' a o) → P v K' → J (.ret v) K' m) :
    Run prog w Kf mg mb n md fd f K m (.Return (some e) pos :: rest) J :=
  fun A L s Q E ok X q => .mk <| wpAny_execs_cons (wpAny_Return_some (Wp.h <| h L A s _ E ok X.cx fun v K' h' tk t p => q (.ret v) K' m h' tk (.of t) (X.step t) (hj v K' t.sub p)))
/-- which names a store may reach -/
noncomputable def storesB (sc : Scope) (x : Str) : Bool := (sc.names.lookup x == some .local || sc.names.lookup x == some .cell) && !(x == ("__debug__" : Str))
noncomputable abbrev Stores (fd : FuncData) (x : Str) : Prop := storesB fd.scope x = true
theorem lookup_cells {sc : Scope} {x : Str} (h : (sc.names.lookup x == some .local || sc.names.lookup x == some .cell) = true) (L : Nat) : sc.names.lookup x = some .local ∨ (sc.names.lookup x = some .cell ∧ ∃ c, (cellsFrom (L + 1) sc.names []).lookup x = some c) := by
  rcases Bool.or_eq_true_iff.mp h with q | q
  · exact .inl (by simpa using q)
  · have q' : sc.names.lookup x = some .cell := by simpa using q
    exact .inr ⟨q', Option.isSome_iff_exists.mp (cellsFrom_some _ _ _ (.inl q'))⟩
theorem Stores.at {x : Str} (h : Stores fd x) (L : Addr) : fd.scope.names.lookup x = some .local ∨ (fd.scope.names.lookup x = some .cell ∧ ∃ c, (cellsAt fd L).lookup x = some c) := lookup_cells (Bool.and_eq_true_iff.mp h).1 L
theorem Stores.db {x : Str} (h : Stores fd x) : (x == ("__debug__" : Str)) = false := by simpa using (Bool.and_eq_true_iff.mp h).2
theorem Run.assign {x : Str} {xp pos : Pos} {e : Expr} {rest : List Stmt} {P : Value → Kn → Prop} (hx : Stores fd x) (h : EvF prog w Kf mg mb n md fd f K m e P)
    (hr : ∀ v K', (∀ a o, K a o → K' a o) → P v K' → Run prog w Kf mg mb n md fd f K' (upd m x v) rest J)
    (hs : ∀ L, swapsWith e (some (.Name x xp)) pos.line (callEnvC fd L f) = pure false := by intro _; rfl) : Run prog w Kf mg mb n md fd f K m (.Assign [.Name x xp] e pos :: rest) J :=
  fun A L s Q E ok X q => .mk <| wpAny_execs_cons (wpAny_Assign_Name (Wp.h <| h L A s _ E ok X.cx fun v K1 h1' tk1 t1 p => (X.step t1).store (s := { s with heap := h1', toks := tk1 }) (hx.at L) hx.db fun h2' tk2 X2 t2 =>
    Wp.h <| hr v K1 t1.sub p A L _ _ E ok X2 fun fl K3 m3 h3' tk3 t3 X3 j => q fl K3 m3 h3' tk3 (((StepX.of t1).trans t2 X2).trans t3 X3) X3 j) (hs L))
theorem Run.ite {test : Expr} {body orelse rest : List Stmt} {pos : Pos} {b : Bool} (ht : TstF prog w Kf mg mb n md fd f K m test b)
    (h1 : b = true → ∀ K', (∀ a o, K a o → K' a o) → Run prog w Kf mg mb n md fd f K' m body J1) (h2 : b = false → ∀ K', (∀ a o, K a o → K' a o) → Run prog w Kf mg mb n md fd f K' m orelse J1)
    (hr : ∀ K' m', (∀ a o, K a o → K' a o) → J1 .next K' m' → Run prog w Kf mg mb n md fd f K' m' rest J) (h3 : ∀ fl K' m', fl ≠ .next → J1 fl K' m' → J fl K' m') :
    Run prog w Kf mg mb n md fd f K m (.If test body orelse pos :: rest) J :=
  Run.cons (J1 := J1) (fun A L s Q E ok X q => .mk <| wpAny_If (Wp.h <| ht L A s _ E ok X.cx fun K1 h1' tk1 t1 => by
    have go : ∀ st, Run prog w Kf mg mb n md fd f K1 m st J1 → wpAny (model prog w) A (execs st (callEnvC fd L f)) Q E { s with heap := h1', toks := tk1 } := fun st hst =>
      Wp.h <| hst A L _ _ E ok (X.step t1) fun fl K' m' h' tk t X' j => q fl K' m' h' tk ((StepX.of t1).trans t X') X' j
    cases b with
    | true => exact go _ (h1 rfl K1 t1.sub)
    | false => exact go _ (h2 rfl K1 t1.sub))) hr h3
/-- an if that is not taken, without an else -/
theorem Run.skip {test : Expr} {body rest : List Stmt} {pos : Pos} (ht : TstF prog w Kf mg mb n md fd f K m test false)
    (hr : ∀ K', (∀ a o, K a o → K' a o) → Run prog w Kf mg mb n md fd f K' m rest J) : Run prog w Kf mg mb n md fd f K m (.If test body [] pos :: rest) J :=
  Run.ite (J1 := fun fl _ m' => fl = .next ∧ m' = m) ht (fun e => by cases e) (fun _ _ _ => Run.nil ⟨rfl, rfl⟩) (fun K' m' hK ⟨_, e⟩ => e ▸ hr K' hK) fun fl _ _ hn ⟨e, _⟩ => absurd e hn
/-- an if that is taken -/
theorem Run.take {test : Expr} {body orelse rest : List Stmt} {pos : Pos} (ht : TstF prog w Kf mg mb n md fd f K m test true)
    (h1 : ∀ K', (∀ a o, K a o → K' a o) → Run prog w Kf mg mb n md fd f K' m body J1)
    (hr : ∀ K' m', (∀ a o, K a o → K' a o) → J1 .next K' m' → Run prog w Kf mg mb n md fd f K' m' rest J) (h3 : ∀ fl K' m', fl ≠ .next → J1 fl K' m' → J fl K' m') :
    Run prog w Kf mg mb n md fd f K m (.If test body orelse pos :: rest) J :=
  Run.ite (J1 := J1) ht (fun _ => h1) (fun e => by cases e) hr h3

/-! a call of a def -/
theorem bind_agree {kindOf : Str → Option NameKind} : ∀ (binds : List (Str × Value)) (lm cm : Str → Option Value), (binds.map (·.1)).Nodup →
    (∀ p ∈ binds, kindOf p.1 = some .local ∨ kindOf p.1 = some .cell) →
    (∀ x, x ∉ binds.map (·.1) → bindL kindOf binds lm x = lm x ∧ bindC kindOf binds cm x = cm x) ∧
    ∀ x v, bm binds x = some v → (kindOf x = some .local ∧ bindL kindOf binds lm x = some v) ∨ (kindOf x = some .cell ∧ bindC kindOf binds cm x = some v)
  | [], lm, cm, _, _ => ⟨fun _ _ => ⟨rfl, rfl⟩, fun _ _ e => by cases e⟩
  | (k, v) :: r, lm, cm, hnd, hk => by
    rw [List.map_cons, List.nodup_cons] at hnd
    have ih := bind_agree (kindOf := kindOf) r (if kindOf k = some .local then fun y => if y = k then some v else lm y else lm) (if kindOf k = some .local then cm else fun y => if y = k then some v else cm y) hnd.2 fun p hp => hk p (List.mem_cons_of_mem _ hp)
    refine ⟨fun x hx => ?_, fun x u e => ?_⟩
    · rw [List.map_cons, List.mem_cons, not_or] at hx
      have h1 := ih.1 x hx.2
      unfold bindL bindC
      rw [h1.1, h1.2]
      have hxk : x ≠ k := hx.1
      constructor
      · split
        · simp [hxk]
        · rfl
      · split
        · rfl
        · simp [hxk]
    · unfold bm at e
      by_cases hxk : x = k
      · subst hxk
        rw [if_pos rfl] at e
        have h1 := ih.1 x hnd.1
        unfold bindL bindC
        rw [h1.1, h1.2]
        rcases hk (x, v) List.mem_cons_self with hl | hl
        · left
          refine ⟨hl, ?_⟩
          have hl' : kindOf x = some .local := hl
          rw [if_pos hl']
          simpa using e
        · right
          refine ⟨hl, ?_⟩
          have hl' : ¬ kindOf x = some .local := by have hl2 : kindOf x = some .cell := hl; rw [hl2]; decide
          rw [if_neg hl']
          simpa using e
      · rw [if_neg hxk] at e
        have h2 := ih.2 x u e
        unfold bindL bindC
        exact h2

/-- what a def must be: plain, called by place -/
structure DefOk (Kf : Frag) (f : Addr) (fd : FuncData) (body : List Stmt) : Prop where
  ho : ∃ o, Kf.lookup f = some o ∧ o.data = .func fd
  hcd : codeIn Kf fd.code fd.qualname = true
  hbody : fd.body = .stmts body
  hclo : fd.closure = []
  hg : fd.globals = mainGlobals
  hb : fd.builtins = builtinsNs
  hco : fd.scope.isCoroutine = false
  hgen : fd.scope.isGenerator = false
  hk : fd.scope.kind = .function

theorem op_call {body : List Stmt} {vals : List Value} {binds : List (Str × Value)} {P : Value → Kn → Prop} (D : DefOk Kf f fd body) (hbind : bindArgs fd ⟨vals, []⟩ = pure binds)
    (hnd : (binds.map (·.1)).Nodup) (hdb : ∀ p ∈ binds, (p.1 == ("__debug__" : Str)) = false)
    (hkind : ∀ p ∈ binds, fd.scope.names.lookup p.1 = some .local ∨ (fd.scope.names.lookup p.1 = some .cell ∧ ∀ L, ((cellsAt fd L).lookup p.1).isSome = true))
    (run : Run prog w Kf mg mb n md fd f K (bm binds) body J) (hj : ∀ fl K' m', (∀ a o, K a o → K' a o) → J fl K' m' → P (match fl with | .ret v => v | _ => .none) K') :
    Op prog w Kf mg mb (n + 1) md K (PySem.call (.ref f) vals) P := by
  intro A s Q E ok g x q
  refine Wp.mk ?_
  obtain ⟨o, ho, hd⟩ := D.ho
  refine wpAny_call (codeAny_call_cells (fd := fd) (binds := binds) (by have := ok.dep; omega) (g.kin f o ho) hd g.nolimit (codeRec_of g.kin D.hcd) D.hbody hbind D.hclo (fun p hp => (hkind p hp).imp id fun z => ⟨z.1, z.2 _⟩) (fun s₁ X => ?_) D.hco D.hgen D.hk)
  obtain ⟨h₁, tk₁, rfl, _⟩ := X.done
  have hkeep := X.toInCall.keep
  have hLs : s.heap.objs.size ≤ (callEnvC fd s.heap.objs.size f).locals := Nat.le_refl _
  have old : ∀ a o, s.heap.get? a = some o → a ≠ s.heap.objs.size ∧ ¬ IsCellAt fd s.heap.objs.size a := fun a o e => by
    have hlt := Heap.lt_size e
    refine ⟨Nat.ne_of_lt hlt, fun ⟨k, hk⟩ => ?_⟩
    have := X.above k a (mem_of_lookup hk)
    exact absurd (Nat.lt_trans hlt this) (Nat.lt_irrefl _)
  have agree := bind_agree (kindOf := (callEnvC fd s.heap.objs.size f).kindOf) binds (fun _ => none) (fun _ => none) hnd fun p hp => (hkind p hp).imp id (·.1)
  have FX₁ : FX Kf mg mb md fd s.heap.objs.size K (bm binds) h₁ := by
    obtain ⟨b, h0, hx0, hk0⟩ := g
    refine ⟨⟨b, h0, fun a ha => ?_, fun a o e => hkeep a o (hk0 a o e)⟩, ⟨_, _, X.toInCall.ns, X.cell, fun y v hy => ?_⟩, X.apart, X.above, fun a o e => hkeep a o (x.known a o e), x.off, fun a o e => old a o (x.known a o e),
      fun a ha => ?_, md.keep _ _ (fun a _ o e => hkeep a o e) x.inv, D.hg, D.hb, D.hk⟩
    · rcases ha with ha | rfl | ha
      · exact hx0 a ha
      · cases q : b.get? s.heap.objs.size with
        | none => rfl
        | some o' => exact absurd rfl (old _ o' (hk0 _ _ q)).1
      · cases q : b.get? a with
        | none => rfl
        | some o' => exact absurd ha (old _ o' (hk0 _ _ q)).2
    · have hmem : ∃ p ∈ binds, p.1 = y := by
        clear agree hkind hdb hnd hbind X run
        induction binds with
        | nil => cases hy
        | cons p r ih =>
          obtain ⟨k, u⟩ := p
          unfold bm at hy
          by_cases hyk : y = k
          · exact ⟨(k, u), List.mem_cons_self, hyk.symm⟩
          · rw [if_neg hyk] at hy
            obtain ⟨p, hp, e⟩ := ih hy
            exact ⟨p, List.mem_cons_of_mem _ hp, e⟩
      obtain ⟨p, hp, rfl⟩ := hmem
      refine ⟨hdb p hp, ?_⟩
      rcases agree.2 p.1 v hy with z | z
      · exact .inl z
      · refine .inr ⟨z.1, ?_, z.2⟩
        rcases hkind p hp with y | y
        · have z1 : fd.scope.names.lookup p.1 = some .cell := z.1
          rw [y] at z1; cases z1
        · exact Option.isSome_iff_exists.mp (y.2 _)
    · obtain ⟨o', ho'⟩ := md.here _ x.inv a ha
      exact old a o' ho'
  refine Wp.h <| run _ _ { s with heap := h₁, toks := tk₁ } _ _ ok.deeper FX₁ fun fl K' m' h' tk t X' j => ?_
  refine q _ K' h' tk ⟨fun a o hc e => t.ext a o hc (old a o e).1 (old a o e).2 (hkeep a o e), t.sub, X'.known, X'.off, fun a o e => (t.fresh a o e).imp id fun e1 => ?_, X'.inv⟩ (hj fl K' m' t.sub j)
  cases q2 : s.heap.get? a with
  | none => rfl
  | some o' => have e1' : h₁.get? a = none := e1; rw [hkeep a o' q2] at e1'; cases e1'
end
end Mine

-- Core5
namespace Mine

/-! ## Iterators -/
inductive Item where
  | one (T : Ty)
  | two (T U : Ty)
noncomputable def Item.arity : Item → Nat
  | .one _ => 1
  | .two _ _ => 2
noncomputable def IsItem (K : Kn) : Item → Value → Heap → Prop
  | .one T, v, _ => Has K T v
  | .two T U, v, h => ∃ t a b, v = .ref t ∧ h.IsTuple t #[a, b] ∧ Has K T a ∧ Has K U b
theorem IsItem.mono {K K' : Kn} (hk : ∀ a o, K a o → K' a o) {it : Item} {v : Value} {h : Heap} (x : IsItem K it v h) : IsItem K' it v h := by
  cases it with
  | one T => exact Has.mono hk x
  | two T U => obtain ⟨t, a, b, e, q, x, y⟩ := x; exact ⟨t, a, b, e, q, x.mono hk, y.mono hk⟩
inductive IsTgt : Expr → List Str → Prop
  | name (x : Str) (p : Pos) : IsTgt (.Name x p) [x]
  | pair (a b : Str) (pa pb p : Pos) (k : Nat) : IsTgt (.Tuple [.Name a pa, .Name b pb] k p) [a, b]
noncomputable def updAll (m : Str → Option Value) : List (Str × Value) → Str → Option Value
  | [] => m
  | (x, v) :: r => updAll (upd m x v) r
theorem updAll_out : ∀ (bs : List (Str × Value)) (m : Str → Option Value) (y : Str), y ∉ bs.map (·.1) → updAll m bs y = m y
  | [], _, _, _ => rfl
  | (x, v) :: r, m, y, h => by
    rw [List.map_cons, List.mem_cons, not_or] at h
    unfold updAll
    rw [updAll_out r _ y h.2]
    unfold upd
    exact if_neg h.1
theorem updAll_in : ∀ (bs : List (Str × Value)) (m m' : Str → Option Value) (y : Str), y ∈ bs.map (·.1) → updAll m bs y = updAll m' bs y
  | [], _, _, _, h => by cases h
  | (x, v) :: r, m, m', y, h => by
    unfold updAll
    by_cases hr : y ∈ r.map (·.1)
    · exact updAll_in r _ _ y hr
    · rw [updAll_out r _ y hr, updAll_out r _ y hr]
      have hx : y = x := by
        rcases List.mem_cons.mp h with e | e
        · exact e
        · exact absurd e hr
      unfold upd
      rw [if_pos hx, if_pos hx]
inductive Vals (K : Kn) : Item → List Str → List (Str × Value) → Prop
  | one {T x v} : Has K T v → Vals K (.one T) [x] [(x, v)]
  | two {T U a b u v} : Has K T u → Has K U v → Vals K (.two T U) [a, b] [(a, u), (b, v)]
theorem Vals.names {K : Kn} {it : Item} {names : List Str} {bs : List (Str × Value)} (h : Vals K it names bs) : bs.map (·.1) = names := by cases h <;> rfl

section
variable {prog : Program} {w : World} {A : Around} {E : Value → Shared → Prop} {s : Shared}
theorem assign_ns {env : Env} {target : Expr} {names : List Str} {it : Item} {v : Value} {K : Kn} {mm : Str → Option Value} {Q : Unit → Shared → Prop} (ht : IsTgt target names) (ha : it.arity = names.length)
    (hi : IsItem K it v s.heap) (hloc : ∀ x ∈ names, env.kindOf x = some .local) (hp : (env.scope.kind == .class || (env.scope.kind == .module && env.locals != env.globals)) = false) (hn : s.heap.Ns env.locals mm) (hh : A.handled = none)
    (q : ∀ h' tk bs, Vals K it names bs → h'.Ns env.locals (updAll mm bs) → (∀ c o, c ≠ env.locals → s.heap.get? c = some o → h'.get? c = some o) → Q () { s with heap := h', toks := tk }) :
    wpAny (model prog w) A (assign target env v) Q E s := by
  cases ht with
  | name x p =>
    cases it with
    | two T U => cases ha
    | one T =>
      exact wpAny_assign_Name (wpAny_storeName_local (hloc x List.mem_cons_self) hn (fun h' hn' hs => q h' _ [(x, v)] (.one hi) hn' fun c o hc e => (hs.2 c hc).trans e) hp)
  | pair a b pa pb p k =>
    cases it with
    | one T => cases ha
    | two T U =>
      obtain ⟨t, va, vb, rfl, ht, x, y⟩ := hi
      exact kcp_assign hh ht (hloc a List.mem_cons_self) (hloc b (List.mem_cons_of_mem _ List.mem_cons_self)) hp hn fun h' tk hn' hk => q h' tk [(a, va), (b, vb)] (.two x y) hn' hk
end

section
variable (prog : Program) (w : World) (Kf : Frag) (mg mb : Str → Option Value)
/-- an iterator made from an expression: what it hands on, turn by turn -/
structure It (A : Around) (md : Mode) (target : Expr) (xs : List Item) (h0 : Heap) (I : Addr) (K' : Kn) (h' : Heap) : Prop where
  ex : ∃ fp wr P Md St, KTurns prog w A target I fp wr xs.length P Md St ∧ St 0 h' ∧ (∀ i (s : Shared) (Q : Value → Shared → Prop) (E : Value → Shared → Prop), St i s.heap → Q (.ref I) s → wpAny (model prog w) A (pyIter (.ref I)) Q E s) ∧
    (∀ i h, St i h → ∀ b ∈ wr, ∃ o, h.get? b = some o) ∧ (∀ b ∈ wr, h0.get? b = none) ∧ (∀ b ∈ wr, ∀ o, ¬ K' b o) ∧ (∀ b ∈ fp, h0.get? b = none ∨ ∃ o, K' b o) ∧ (∀ b ∈ fp, b < h'.objs.size) ∧
    (∀ i v h it, xs[i]? = some it → P i v h → IsItem K' it v h)
noncomputable def Iter (n : Nat) (md : Mode) (env : Env) (m : Str → Option Value) (K : Kn) (target iter : Expr) (xs : List Item) : Prop :=
  ∀ (A : Around) (s : Shared) (Q E : Value → Shared → Prop), Ok n A → Cx Kf mg mb md env m K s.heap →
    (∀ I K' h' tk, Step md K s.heap K' h' → It prog w A md target xs s.heap I K' h' → Q (.ref I) { s with heap := h', toks := tk }) →
    Wp (wpAny (model prog w) A (eval iter env) (fun xv s₁ => wpAny (model prog w) A (pyIter xv) Q E s₁) E s)
noncomputable def IterF (n : Nat) (md : Mode) (fd : FuncData) (f : Addr) (K : Kn) (m : Str → Option Value) (target iter : Expr) (xs : List Item) : Prop :=
  ∀ L, Iter prog w Kf mg mb n md (callEnvC fd L f) m K target iter xs
end

section
variable {prog : Program} {w : World} {Kf : Frag} {mg mb : Str → Option Value} {n : Nat} {fd : FuncData} {f L : Addr} {m : Str → Option Value} {K : Kn}

/-- another state of the one mutable object -/
theorem FX.mode {md md' : Mode} {h : Heap} (X : FX Kf mg mb md fd L K m h) (hc : md'.c = md.c) (hf : md'.foot = md.foot) (hI : md'.I h) : FX Kf mg mb md' fd L K m h :=
  ⟨by have := X.g; rw [← hc] at this; exact this, X.fr, X.apart, X.above, X.known, fun a o e => by rw [hc]; exact X.off a o e, X.offL, fun a ha => X.foot a (hf ▸ ha), hI, X.eg, X.eb, X.ek⟩
theorem StepX.mode {md md' : Mode} {K K' : Kn} {h h' : Heap} (t : StepX md fd L K h K' h') (hc : md'.c = md.c) : StepX md' fd L K h K' h' := ⟨fun a o e => t.ext a o (by rw [← hc]; exact e), t.sub, t.fresh⟩

/-- the heap changes away from a frame -/
theorem FX.away {md : Mode} {h h' : Heap} {wr : List Addr} (X : FX Kf mg mb md fd L K m h) (hk : ∀ b o, b ∉ wr → h.get? b = some o → h'.get? b = some o)
    (wg : Gd Kf mg mb (fun a => (md.c = some a ∨ a = L ∨ IsCellAt fd L a) ∨ a ∈ wr) h) (wL : L ∉ wr) (wC : ∀ a, IsCellAt fd L a → a ∉ wr) (wK : ∀ a o, K a o → a ∉ wr) (wf : ∀ a ∈ md.foot, a ∉ wr) : FX Kf mg mb md fd L K m h' where
  g := (wg.ext fun a o hX e => hk a o (fun q => hX (.inr q)) e).weak fun a ha => .inl ha
  fr := by
    obtain ⟨lm, cm, hn, hc, hm⟩ := X.fr
    refine ⟨lm, cm, ?_, fun k c hkk => ?_, hm⟩
    · obtain ⟨o, es, ep, e, r⟩ := hn
      exact ⟨o, es, ep, hk _ _ wL e, r⟩
    · obtain ⟨o, e, r⟩ := hc k c hkk
      exact ⟨o, hk _ _ (wC c ⟨k, hkk⟩) e, r⟩
  apart := X.apart
  above := X.above
  known := fun a o e => hk a o (wK a o e) (X.known a o e)
  off := X.off
  offL := X.offL
  foot := X.foot
  inv := md.keep _ _ (fun a ha o e => hk a o (wf a ha) e) X.inv
  eg := X.eg
  eb := X.eb
  ek := X.ek

theorem FX.assign {md : Mode} {A : Around} {s : Shared} {target : Expr} {names : List Str} {it : Item} {v : Value} {Q : Unit → Shared → Prop} {E : Value → Shared → Prop} (X : FX Kf mg mb md fd L K m s.heap) (hh : A.handled = none)
    (ht : IsTgt target names) (ha : it.arity = names.length) (hi : IsItem K it v s.heap) (hloc : ∀ x ∈ names, fd.scope.names.lookup x = some .local ∧ (x == ("__debug__" : Str)) = false)
    (q : ∀ h' tk bs, Vals K it names bs → FX Kf mg mb md fd L K (updAll m bs) h' → (∀ c o, c ≠ L → s.heap.get? c = some o → h'.get? c = some o) → Q () { s with heap := h', toks := tk }) :
    wpAny (model prog w) A (assign target (callEnvC fd L f) v) Q E s := by
  obtain ⟨lm, cm, hn, hc, hm⟩ := X.fr
  refine assign_ns (env := callEnvC fd L f) ht ha hi (fun x hx => (hloc x hx).1) (by show (fd.scope.kind == .class || (fd.scope.kind == .module && L != fd.globals)) = false; rw [X.ek]; rfl) hn hh fun h' tk bs hB hn' hk => ?_
  refine q h' tk bs hB ⟨X.g.ext fun a o hX e => hk a o (fun z => hX (.inr (.inl z))) e, ⟨updAll lm bs, cm, hn', fun k c hkk => ?_, fun y u hy => ?_⟩, X.apart, X.above, fun a o e => hk a o (X.offL a o e).1 (X.known a o e), X.off, X.offL, X.foot,
    md.keep _ _ (fun a ha o e => hk a o (X.foot a ha).1 e) X.inv, X.eg, X.eb, X.ek⟩ hk
  · obtain ⟨o, e, r⟩ := hc k c hkk
    exact ⟨o, hk _ _ (Nat.ne_of_gt (X.above k c (mem_of_lookup hkk))) e, r⟩
  · by_cases hyn : y ∈ bs.map (·.1)
    · obtain ⟨h1, h2⟩ := hloc y (hB.names ▸ hyn)
      exact ⟨h2, .inl ⟨h1, (updAll_in bs lm m y hyn).trans hy⟩⟩
    · rw [updAll_out bs m y hyn] at hy
      rw [updAll_out bs lm y hyn]
      exact hm y u hy

/-- a for: word J of the turns done, the known objects and the names; the one mutable object may go from state to state -/
theorem Run1.for {md : Nat → Mode} {target iter : Expr} {names : List Str} {body : List Stmt} {pos : Pos} {xs : List Item} {J : Nat → Kn → (Str → Option Value) → Prop}
    (hmd : ∀ i, (md i).c = (md 0).c ∧ (md i).foot = (md 0).foot)
    (src : IterF prog w Kf mg mb n (md 0) fd f K m target iter xs) (ht : IsTgt target names) (ha : ∀ it ∈ xs, it.arity = names.length)
    (hloc : ∀ x ∈ names, fd.scope.names.lookup x = some .local ∧ (x == ("__debug__" : Str)) = false)
    (h0 : ∀ K', (∀ a o, K a o → K' a o) → J 0 K' m)
    (step : ∀ i it K1 m1 bs (A : Around) (L : Addr) (s : Shared) (Q : Flow → Shared → Prop) (E : Value → Shared → Prop), xs[i]? = some it → (∀ a o, K a o → K1 a o) → J i K1 m1 → Vals K1 it names bs → Ok n A → FX Kf mg mb (md i) fd L K1 (updAll m1 bs) s.heap →
      (∀ K' m' h' tk, StepX (md 0) fd L K1 s.heap K' h' → FX Kf mg mb (md (i + 1)) fd L K' m' h' → J (i + 1) K' m' → Q .next { s with heap := h', toks := tk }) → wpAny (model prog w) A (execs body (callEnvC fd L f)) Q E s)
    (hs : ∀ L x, foldedSetIterable iter (callEnvC fd L f) x = pure x := by intro _ _; rfl)
    (A : Around) (L : Addr) (s : Shared) (Q : Flow → Shared → Prop) (E : Value → Shared → Prop) (ok : Ok n A) (X : FX Kf mg mb (md 0) fd L K m s.heap)
    (q : ∀ K' m' h' tk, StepX (md 0) fd L K s.heap K' h' → FX Kf mg mb (md xs.length) fd L K' m' h' → J xs.length K' m' → Q .next { s with heap := h', toks := tk }) :
    wpAny (model prog w) A (exec (.For target iter body [] pos) (callEnvC fd L f)) Q E s := by
  refine wpAny_For (Wp.h <| src L A s _ E ok X.cx fun I K0 h1 tk1 t0 it => ?_) (hs L)
  obtain ⟨fp, wr, P, Md, St, W, hst, _, hex, hnew, hKw, hfp, hlt, hP⟩ := it.ex
  have X0 := X.step t0
  have objL : ∃ o, s.heap.get? L = some o := by obtain ⟨lm, cm, ⟨o, es, ep, e, r⟩, _⟩ := X.fr; exact ⟨o, e⟩
  have objC : ∀ a, IsCellAt fd L a → ∃ o, s.heap.get? a = some o := fun a ⟨k, hk⟩ => by obtain ⟨lm, cm, _, hc, _⟩ := X.fr; obtain ⟨o, e, _⟩ := hc k a hk; exact ⟨o, e⟩
  have wL : L ∉ wr := fun hm => by obtain ⟨o, e⟩ := objL; rw [hnew L hm] at e; cases e
  have wC : ∀ a, IsCellAt fd L a → a ∉ wr := fun a ha hm => by obtain ⟨o, e⟩ := objC a ha; rw [hnew a hm] at e; cases e
  have wf : ∀ a ∈ (md 0).foot, a ∉ wr := fun a ha hm => by obtain ⟨o, e⟩ := (md 0).here _ X.inv a ha; rw [hnew a hm] at e; cases e
  -- what the iterator stands on is no frame's and no mutable's
  have fL : L ∉ fp := fun hm => by
    rcases hfp L hm with e | ⟨o, e⟩
    · obtain ⟨o, e'⟩ := objL; rw [e] at e'; cases e'
    · exact (X0.offL L o e).1 rfl
  have fC : ∀ a, IsCellAt fd L a → a ∉ fp := fun a ha hm => by
    rcases hfp a hm with e | ⟨o, e⟩
    · obtain ⟨o, e'⟩ := objC a ha; rw [e] at e'; cases e'
    · exact (X0.offL a o e).2 ha
  have fc : ∀ a, (md 0).c = some a → a ∉ fp := fun a ha hm => by
    rcases hfp a hm with e | ⟨o, e⟩
    · obtain ⟨o, e'⟩ := (md 0).here _ X.inv a ((md 0).sub a ha); rw [e] at e'; cases e'
    · exact X0.off a o e ha
  have G0 : Gd Kf mg mb (fun a => ((md 0).c = some a ∨ a = L ∨ IsCellAt fd L a) ∨ a ∈ wr) h1 := by
    obtain ⟨b, g0, hx, hk⟩ := X.g
    refine ⟨b, g0, fun a ha => ?_, fun a o e => ?_⟩
    · rcases ha with ha | ha
      · exact hx a ha
      · cases qq : b.get? a with
        | none => rfl
        | some o => have := hk a o qq; rw [hnew a ha] at this; cases this
    · exact t0.ext a o (fun hc => by rw [hx a (.inl hc)] at e; cases e) (hk a o e)
  refine codeAny_forLoop_any (R := fun r s' => match r with | .ok f => Q f s' | .error e => cameBackBy (model prog w) A (callEnvC fd L f) E e s')
    (fun k s' => ∃ h' tk i K1 m1, s' = { s with heap := h', toks := tk } ∧ i ≤ xs.length ∧ k = xs.length + 1 - i ∧ St i h' ∧ FX Kf mg mb (md i) fd L K1 m1 h' ∧ J i K1 m1 ∧ (∀ a o, K0 a o → K1 a o) ∧ StepX (md 0) fd L K s.heap K1 h' ∧
      (∀ a o, K1 a o → a ∉ wr) ∧ Gd Kf mg mb (fun a => ((md 0).c = some a ∨ a = L ∨ IsCellAt fd L a) ∨ a ∈ wr) h') ?_ (xs.length + 1)
    ⟨h1, tk1, 0, K0, m, rfl, Nat.zero_le _, rfl, hst, X0, h0 K0 t0.sub, fun _ _ e => e, .of t0, fun a o e hm => hKw a hm o e, G0⟩
  rintro k s' ⟨h', tk, i, K1, m1, rfl, hi, rfl, hst', X1, hJ, hsub, t1, hw1, G1⟩
  obtain ⟨hc1, hf1⟩ := hmd i
  have wf1 : ∀ a ∈ (md i).foot, a ∉ wr := fun a ha => wf a (hf1 ▸ ha)
  have Gw : ∀ {h : Heap}, Gd Kf mg mb (fun a => ((md 0).c = some a ∨ a = L ∨ IsCellAt fd L a) ∨ a ∈ wr) h → Gd Kf mg mb (fun a => ((md i).c = some a ∨ a = L ∨ IsCellAt fd L a) ∨ a ∈ wr) h := fun g => by rw [hc1]; exact g
  by_cases hlt' : i < xs.length
  · refine W.item i _ _ _ hlt' hst' fun v h2 tk2 hMd hk2 => ?_
    refine W.go i v _ _ _ hMd fun h3 hPv hst3 hk3 => ?_
    have k13 : ∀ b o, b ∉ wr → h'.get? b = some o → h3.get? b = some o := fun b o hb e => hk3 b o hb (hk2 b o hb e)
    have X3 : FX Kf mg mb (md i) fd L K1 m1 h3 := X1.away k13 (Gw G1) wL wC hw1 wf1
    obtain ⟨it', hit'⟩ : ∃ it', xs[i]? = some it' := ⟨_, List.getElem?_eq_getElem hlt'⟩
    have hItem : IsItem K1 it' v h3 := (hP i v h3 it' hit' hPv).mono hsub
    refine X3.assign (s := { s with heap := h3, toks := tk2 }) ok.hh ht (ha it' (List.mem_of_getElem? hit')) hItem hloc fun h4 tk4 bs hB X4 hk4 => ?_
    have hst4 : St (i + 1) h4 := W.frame _ _ _ hst3 fun b hb o e => hk4 b o (fun z => fL (z ▸ hb)) e
    refine step i it' K1 (m1) bs A L { s with heap := h4, toks := tk4 } _ _ hit' (fun a o e => hsub a o (t0.sub a o e)) hJ hB ok X4 fun K5 m5 h5 tk5 t5 X5 hJ5 => ?_
    have hst5 : St (i + 1) h5 := W.frame _ _ _ hst4 fun b hb o e => t5.ext b o (fun z => fc b z hb) (fun z => fL (z ▸ hb)) (fun z => fC b z hb) e
    have hw5 : ∀ a o, K5 a o → a ∉ wr := fun a o e hm => by
      rcases t5.fresh a o e with e1 | e1
      · exact hw1 a o e1 hm
      · obtain ⟨o', e'⟩ := hex _ _ hst4 a hm
        have e1' : h4.get? a = none := e1
        rw [e1'] at e'; cases e'
    refine ⟨xs.length + 1 - (i + 1), by omega, h5, tk5, i + 1, K5, m5, rfl, hlt', rfl, hst5, X5, hJ5, fun a o e => t5.sub a o (hsub a o e), ?_, hw5, ?_⟩
    · refine ⟨fun a o hc hL hC e => ?_, fun a o e => t5.sub a o (t1.sub a o e), fun a o e => ?_⟩
      · have hb : a ∉ wr := fun hm => by rw [hnew a hm] at e; cases e
        exact t5.ext a o hc hL hC (hk4 a o hL (k13 a o hb (t1.ext a o hc hL hC e)))
      · rcases t5.fresh a o e with e1 | e1
        · exact t1.fresh a o e1
        · right
          cases qq : s.heap.get? a with
          | none => rfl
          | some o' =>
            exfalso
            have hb : a ∉ wr := fun hm => by rw [hnew a hm] at qq; cases qq
            have hc : (md 0).c ≠ some a := fun z => X5.off a o e (by rw [(hmd (i + 1)).1]; exact z)
            have hL := (X5.offL a o e).1
            have hC := (X5.offL a o e).2
            have := hk4 a o' hL (k13 a o' hb (t1.ext a o' hc hL hC qq))
            have e1' : h4.get? a = none := e1
            rw [e1'] at this; cases this
    · refine G1.ext fun a o hX e => ?_
      have hb : a ∉ wr := fun hm => hX (.inr hm)
      exact t5.ext a o (fun z => hX (.inl (.inl z))) (fun z => hX (.inl (.inr (.inl z)))) (fun z => hX (.inl (.inr (.inr z)))) (hk4 a o (fun z => hX (.inl (.inr (.inl z)))) (k13 a o hb e))
  · have hin : i = xs.length := by omega
    subst hin
    refine W.done _ _ _ hst' fun h2 tk2 hk2 => wpAny_execs_nil ?_
    have X2 : FX Kf mg mb (md xs.length) fd L K1 m1 h2 := X1.away hk2 (Gw G1) wL wC hw1 wf1
    refine q K1 m1 h2 tk2 ⟨fun a o hc hL hC e => ?_, t1.sub, t1.fresh⟩ X2 hJ
    have hb : a ∉ wr := fun hm => by rw [hnew a hm] at e; cases e
    exact hk2 a o hb (t1.ext a o hc hL hC e)
end
end Mine

-- Core6
namespace Mine

section
variable {prog : Program} {w : World} {Kf : Frag} {mg mb : Str → Option Value} {n : Nat} {md : Mode} {env : Env} {m : Str → Option Value} {K : Kn}

theorem step_full {h h' : Heap} (x : Step md K h K h) (hk : ∀ a o, h.get? a = some o → h'.get? a = some o) : Step md K h K h' :=
  ⟨fun a o _ e => hk a o e, fun _ _ e => e, fun a o e => hk a o (x.known a o e), x.off, fun _ _ e => .inl e, md.keep _ _ (fun a _ o e => hk a o e) x.inv⟩
/-- an address that the heap does not bear was not there before -/
theorem new_back {K0 K1 : Kn} {h h1 : Heap} (t : Step md K0 h K1 h1) {b : Addr} (hb : h1.objs.size ≤ b) : h.get? b = none := by
  cases q : h.get? b with
  | none => rfl
  | some o =>
    exfalso
    by_cases hc : md.c = some b
    · obtain ⟨o', e'⟩ := md.here h1 t.inv b (md.sub b hc)
      exact absurd (Heap.lt_size e') (Nat.not_lt.mpr hb)
    · exact absurd (Heap.lt_size (t.ext b o hc q)) (Nat.not_lt.mpr hb)
theorem not_known_new {h1 : Heap} (k : ∀ a o, K a o → h1.get? a = some o) {b : Addr} (hb : h1.objs.size ≤ b) (o : Obj) : ¬ K b o := fun e => absurd (Heap.lt_size (k b o e)) (Nat.not_lt.mpr hb)

theorem Each.get {α β : Type} {F : α → β → Prop} : ∀ {l₁ : List α} {l₂ : List β}, Each F l₁ l₂ → ∀ {i : Nat} {a : α} {b : β}, l₁[i]? = some a → l₂[i]? = some b → F a b
  | _, _, .nil, _, _, _, e, _ => by simp at e
  | _, _, .cons x _, 0, _, _, e1, e2 => by simp at e1 e2; subst e1; subst e2; exact x
  | _, _, .cons _ r, i + 1, _, _, e1, e2 => r.get (i := i) (by simpa using e1) (by simpa using e2)
theorem eval_callT {x : Str} {p pos : Pos} {T : String} {e : Expr} {es : List Expr} {P : List Value → Kn → Prop} {A : Around} {s : Shared} {Q E : Value → Shared → Prop} (hn : Ev prog w Kf mg mb n md env m K (.Name x p) (fun v _ => v = .type T))
    (ha : Evs prog w Kf mg mb n md env m K (e :: es) P) (ok : Ok n A) (cx : Cx Kf mg mb md env m K s.heap)
    (q : ∀ vs K' h' tk, Step md K s.heap K' h' → P vs K' → wpAny (model prog w) A (PySem.call (.type T) vs) Q E { s with heap := h', toks := tk })
    (he : starEach (e :: es) env = (false, eval e env) :: starEach es env := by rfl) (hplain : (backTo pos (starEach es env)).any (·.1) = false := by rfl) :
    wpAny (model prog w) A (eval (.Call (.Name x p) (e :: es) [] pos) env) Q E s :=
  PyProof.Rows.Call_ (Wp.h <| hn A s _ E ok cx fun v1 K1 h1 tk1 t1 p1 => by
    obtain rfl := p1
    exact PyProof.Rows.callWith_type1 (Wp.h <| ha A _ _ _ E ok ((cx.step t1).down t1.sub) fun vs K2 h2 tk2 t2 p2 =>
      q vs K2 h2 tk2 ⟨fun a o hc e => t2.ext a o hc (t1.ext a o hc e), t2.sub, t2.known, t2.off, (fun a o e => by
        rcases t2.fresh a o e with e1 | e1
        · exact .inl e1
        · right
          cases qq : s.heap.get? a with
          | none => rfl
          | some o' => have := t1.ext a o' (t2.off a o e) qq; rw [e1] at this; cases this), t2.inv⟩ p2) he hplain)
theorem Ev.callT {x : Str} {p pos : Pos} {T : String} {e : Expr} {es : List Expr} {P : List Value → Kn → Prop} {P' : Value → Kn → Prop} (hn : Ev prog w Kf mg mb n md env m K (.Name x p) (fun v _ => v = .type T))
    (ha : Evs prog w Kf mg mb n md env m K (e :: es) P) (hf : ∀ vs K', (∀ a o, K a o → K' a o) → P vs K' → Op prog w Kf mg mb n md K' (PySem.call (.type T) vs) P')
    (he : starEach (e :: es) env = (false, eval e env) :: starEach es env := by rfl) (hplain : ∀ pos, (backTo pos (starEach es env)).any (·.1) = false := by intro _; rfl) :
    Ev prog w Kf mg mb n md env m K (.Call (.Name x p) (e :: es) [] pos) P' :=
  fun A s Q E ok cx q => .mk <| eval_callT hn ha ok cx (fun vs K' h' tk t pp => Wp.h <| hf vs K' t.sub pp A _ _ E ok (cx.step t).g (cx.step t).st fun v K2 h2 tk2 t2 p2 => q v K2 h2 tk2 (t.trans t2) p2) he (hplain pos)

/-! ### sources -/
theorem go_name {x : Str} {p : Pos} {I : Addr} {v : Value} {A : Around} {s : Shared} {Q : Unit → Shared → Prop} {E : Value → Shared → Prop} (h : Q () s) : wpAny (model prog w) A (letOwnedTupleGo (.Name x p) (.ref I) v) Q E s :=
  wpAny_pure h

noncomputable def IsListOf (K : Kn) (Ts : List Ty) (v : Value) : Prop := ∃ a k vs, v = .ref a ∧ K a (listOf vs.toArray k) ∧ Each (Has K) Ts vs
noncomputable def IsTupOf (K : Kn) (Ts : List Ty) (v : Value) : Prop := ∃ a k vs, v = .ref a ∧ K a (tupOf vs k) ∧ Each (Has K) Ts vs
theorem IsListOf.ints {K : Kn} {xs : List Int} {v : Value} (h : HasInts K xs v) : IsListOf K (xs.map .int) v := by
  obtain ⟨a, k, vs, e, hk, hi⟩ := h
  refine ⟨a, k, vs, e, hk, ?_⟩
  clear hk
  induction hi with
  | nil => exact .nil
  | cons n t _ ih => exact .cons ⟨t, rfl⟩ ih

theorem Iter.list {x : Str} {px : Pos} {iter : Expr} {Ts : List Ty} (h : Ev prog w Kf mg mb n md env m K iter (fun v K' => IsListOf K' Ts v)) : Iter prog w Kf mg mb n md env m K (.Name x px) iter (Ts.map .one) :=
  fun A s Q E ok cx q => .mk <| Wp.h <| h A s _ E ok cx fun v K1 h1 tk1 t1 p1 => by
    obtain ⟨a, k, vs, rfl, hk, hT⟩ := p1
    have hl : h1.IsList a vs.toArray := ⟨_, t1.known _ _ hk, rfl, _, rfl⟩
    have halt : a < h1.objs.size := Heap.lt_size (t1.known _ _ hk)
    refine wpAny_pyIter_list hl ?_
    have x1 := (cx.step t1).st
    have up : ∀ b o, h1.get? b = some o → (h1.push { cls := .type "list_iterator", data := .fields #[.ref a, .int 0 0] }).get? b = some o := fun b o e => Heap.get?_push_of_some _ e
    have hlen : (Ts.map Item.one).length = vs.toArray.size := by rw [List.length_map, List.size_toArray]; exact hT.length
    have W := Walks.list (prog := prog) (w := w) (A := A) ok.hh h1.objs.size a (Nat.ne_of_lt halt) vs.toArray
    rw [← hlen] at W
    have KT := KTurns.ofWalks (target := Expr.Name x px) W fun _ _ _ _ _ _ hq => go_name hq
    refine q h1.objs.size K1 _ tk1 (t1.trans (step_full x1 up)) ⟨_, _, _, _, _, KT, ?_, ?_, ?_, ?_, ?_, ?_, ?_, ?_⟩
    · exact ⟨⟨_, Heap.get?_push_size _ rfl, rfl, rfl⟩, hl.push _⟩
    · exact fun i s Q E st hq => wpAny_pyIter_listiter st.1 hq
    · intro i h st b hb
      rw [List.mem_singleton.mp hb]
      obtain ⟨o, e, _⟩ := st.1
      exact ⟨o, e⟩
    · intro b hb
      rw [List.mem_singleton.mp hb]
      exact new_back t1 (Nat.le_refl _)
    · intro b hb
      rw [List.mem_singleton.mp hb]
      exact not_known_new t1.known (Nat.le_refl _)
    · intro b hb
      rcases List.mem_cons.mp hb with rfl | hb
      · exact .inl (new_back t1 (Nat.le_refl _))
      · rw [List.mem_singleton.mp hb]; exact .inr ⟨_, hk⟩
    · intro b hb
      rw [Heap.size_push]
      rcases List.mem_cons.mp hb with rfl | hb
      · exact Nat.lt_succ_self _
      · rw [List.mem_singleton.mp hb]; exact Nat.lt_succ_of_lt halt
    · intro i v h it hit hv
      rw [List.getElem?_map] at hit
      obtain ⟨T, hTi, rfl⟩ := Option.map_eq_some_iff.mp hit
      exact hT.get hTi (by simpa using hv)

theorem Iter.tuple {x : Str} {px : Pos} {iter : Expr} {Ts : List Ty} (h : Ev prog w Kf mg mb n md env m K iter (fun v K' => IsTupOf K' Ts v)) : Iter prog w Kf mg mb n md env m K (.Name x px) iter (Ts.map .one) :=
  fun A s Q E ok cx q => .mk <| Wp.h <| h A s _ E ok cx fun v K1 h1 tk1 t1 p1 => by
    obtain ⟨a, k, vs, rfl, hk, hT⟩ := p1
    have hl : h1.IsTuple a vs.toArray := ⟨_, t1.known _ _ hk, rfl, _, rfl⟩
    have halt : a < h1.objs.size := Heap.lt_size (t1.known _ _ hk)
    refine wpAny_pyIter_tuple hl ?_
    have x1 := (cx.step t1).st
    have up : ∀ b o, h1.get? b = some o → (h1.push { cls := .type "tuple_iterator", data := .fields #[.ref a, .int 0 0] }).get? b = some o := fun b o e => Heap.get?_push_of_some _ e
    have hlen : (Ts.map Item.one).length = vs.toArray.size := by rw [List.length_map, List.size_toArray]; exact hT.length
    have W := Walks.tuple (prog := prog) (w := w) (A := A) ok.hh h1.objs.size a (Nat.ne_of_lt halt) vs.toArray
    rw [← hlen] at W
    have KT := KTurns.ofWalks (target := Expr.Name x px) W fun _ _ _ _ _ _ hq => go_name hq
    refine q h1.objs.size K1 _ tk1 (t1.trans (step_full x1 up)) ⟨_, _, _, _, _, KT, ?_, ?_, ?_, ?_, ?_, ?_, ?_, ?_⟩
    · exact ⟨⟨_, Heap.get?_push_size _ rfl, rfl, rfl⟩, hl.at fun o e => up _ o e⟩
    · exact fun i s Q E st hq => wpAny_pyIter_tupleiter st.1 hq
    · intro i h st b hb
      rw [List.mem_singleton.mp hb]
      obtain ⟨o, e, _⟩ := st.1
      exact ⟨o, e⟩
    · intro b hb
      rw [List.mem_singleton.mp hb]
      exact new_back t1 (Nat.le_refl _)
    · intro b hb
      rw [List.mem_singleton.mp hb]
      exact not_known_new t1.known (Nat.le_refl _)
    · intro b hb
      rcases List.mem_cons.mp hb with rfl | hb
      · exact .inl (new_back t1 (Nat.le_refl _))
      · rw [List.mem_singleton.mp hb]; exact .inr ⟨_, hk⟩
    · intro b hb
      rw [Heap.size_push]
      rcases List.mem_cons.mp hb with rfl | hb
      · exact Nat.lt_succ_self _
      · rw [List.mem_singleton.mp hb]; exact Nat.lt_succ_of_lt halt
    · intro i v h it hit hv
      rw [List.getElem?_map] at hit
      obtain ⟨T, hTi, rfl⟩ := Option.map_eq_some_iff.mp hit
      exact hT.get hTi (by simpa using hv)

noncomputable def rangeTys (k : Nat) : List Ty := (List.range k).map fun (i : Nat) => Ty.int (i : Int)
theorem range_small {k : Nat} (hk : k ≤ 1000000) : Builtin.Range.small 0 (k : Int) 1 = true ∧ Builtin.Range.rangeSize 0 (k : Int) 1 = (k : Int) := by
  have hs : Builtin.Range.rangeSize 0 (k : Int) 1 = (k : Int) := by
    unfold Builtin.Range.rangeSize
    simp
    try omega
  refine ⟨?_, hs⟩
  unfold Builtin.Range.small
  rw [hs]
  have f : ∀ i : Int, 0 ≤ i → i ≤ 1000001 → Builtin.Range.rangeFitsLong i = true := fun i h0 h1 => by
    unfold Builtin.Range.rangeFitsLong
    rw [Bool.and_eq_true, decide_eq_true_eq, decide_eq_true_eq]
    exact ⟨by omega, by omega⟩
  rw [f 0 (by omega) (by omega), f (k : Int) (by omega) (by omega), f 1 (by omega) (by omega), if_pos (by decide), f ((k : Int) + (1 - 1)) (by omega) (by omega)]
  simp
theorem Iter.range {x xr : Str} {px pr pos : Pos} {e : Expr} {k : Nat} (hn : Ev prog w Kf mg mb n md env m K (.Name xr pr) (fun v _ => v = .type "range")) (h : Ev prog w Kf mg mb n md env m K e (fun v K' => Has K' (.int (k : Int)) v)) (hk : k ≤ 1000000)
    (he : starEach [e] env = (false, eval e env) :: starEach [] env := by rfl) : Iter prog w Kf mg mb n md env m K (.Name x px) (.Call (.Name xr pr) [e] [] pos) ((rangeTys k).map .one) :=
  fun A s Q E ok cx q => .mk <| eval_callT hn (Evs.consT h Evs.nilT he) ok cx (fun vs K1 h1 tk1 t1 p1 => by
    cases p1 with
    | cons p1 r =>
      cases r
      obtain ⟨t, rfl⟩ := p1
      refine call_range_1 ?_
      obtain ⟨hsm, hrs⟩ := range_small hk
      have x1 := (cx.step t1).st
      refine wpAny_pyIter_range (IsRange.new h1 0 (k : Int) 1 _ _ _) hsm ?_
      rw [hrs]
      have up1 : ∀ b o, h1.get? b = some o → (h1.push { cls := .type "range", data := .fields #[.int 0 tk1, .int (k : Int) t, .int 1 (tk1 + 1)] }).get? b = some o := fun b o e => Heap.get?_push_of_some _ e
      have t2 := t1.trans (step_full x1 up1)
      have x2 := (cx.step t2).st
      have W := LCg.range_walks (prog := prog) (w := w) (A := A) (I := (h1.push { cls := .type "range", data := .fields #[.int 0 tk1, .int (k : Int) t, .int 1 (tk1 + 1)] }).objs.size) ok.hh 0 k
      have hlen : ((rangeTys k).map Item.one).length = k := by simp [rangeTys]
      have KT := KTurns.ofWalks (target := Expr.Name x px) W fun _ _ _ _ _ _ hq => go_name hq
      refine q _ K1 _ _ (t2.trans (step_full x2 fun b o e => Heap.get?_push_of_some _ e)) ⟨_, _, _, _, _, by rw [hlen]; exact KT, ?_, ?_, ?_, ?_, ?_, ?_, ?_, ?_⟩
      · have e0 := Heap.get?_push_size (h1.push { cls := .type "range", data := .fields #[.int 0 tk1, .int (k : Int) t, .int 1 (tk1 + 1)] }) (o := { cls := .type "range_iterator", data := .fields #[rawInt 0, rawInt (k : Int), rawInt 1] }) rfl
        show IsRangeIter _ _ _ _ _
        simpa using e0
      · exact fun i s Q E st hq => wpAny_pyIter_rangeiter st hq
      · intro i h st b hb
        rw [List.mem_singleton.mp hb]
        exact ⟨_, st⟩
      · intro b hb
        rw [List.mem_singleton.mp hb]
        exact new_back t2 (Nat.le_refl _)
      · intro b hb
        rw [List.mem_singleton.mp hb]
        exact not_known_new t2.known (Nat.le_refl _)
      · intro b hb
        rw [List.mem_singleton.mp hb]
        exact .inl (new_back t2 (Nat.le_refl _))
      · intro b hb
        rw [List.mem_singleton.mp hb]
        refine Nat.lt_of_lt_of_eq (Nat.lt_succ_self _) (Heap.size_push _ _).symm
      · intro i v h it hit hv
        obtain ⟨t', rfl⟩ := hv
        rw [List.getElem?_map] at hit
        obtain ⟨T, hTi, rfl⟩ := Option.map_eq_some_iff.mp hit
        unfold rangeTys at hTi
        rw [List.getElem?_map] at hTi
        obtain ⟨j, hj, rfl⟩ := Option.map_eq_some_iff.mp hTi
        have hji : j = i := by
          have h1 := List.getElem?_eq_some_iff.mp hj
          obtain ⟨h2, h3⟩ := h1
          rw [List.getElem_range] at h3
          exact h3.symm
        subst hji
        exact ⟨t', by simp⟩) he rfl

theorem Iter.zip {a b xz : Str} {pa pb pt pz pos : Pos} {k : Nat} {e1 e2 : Expr} {Ts Us : List Ty} (hn : Ev prog w Kf mg mb n md env m K (.Name xz pz) (fun v _ => v = .type "zip"))
    (h1 : Ev prog w Kf mg mb n md env m K e1 (fun v K' => IsListOf K' Ts v)) (h2 : Ev prog w Kf mg mb n md env m K e2 (fun v K' => IsListOf K' Us v))
    (he : starEach [e1, e2] env = (false, eval e1 env) :: starEach [e2] env := by rfl) (he2 : starEach [e2] env = (false, eval e2 env) :: starEach [] env := by rfl) :
    Iter prog w Kf mg mb n md env m K (.Tuple [.Name a pa, .Name b pb] k pt) (.Call (.Name xz pz) [e1, e2] [] pos) ((Ts.zip Us).map fun p => .two p.1 p.2) :=
  fun A s Q E ok cx q => .mk <| eval_callT hn (Evs.cons h1 (fun _ _ _ hk ⟨a, j, vs, e, x, y⟩ => ⟨a, j, vs, e, hk _ _ x, HasAll.mono hk y⟩) (Evs.cons h2 (fun _ _ _ hk ⟨a, j, vs, e, x, y⟩ => ⟨a, j, vs, e, hk _ _ x, HasAll.mono hk y⟩) Evs.nil (fun _ _ _ _ e => e) he2)
      (fun _ _ _ hk ⟨v, r, e, ⟨a, j, vs, e', x, y⟩, z⟩ => ⟨v, r, e, ⟨a, j, vs, e', hk _ _ x, HasAll.mono hk y⟩, z⟩) he) ok cx (fun vs K1 h1 tk1 t1 p1 => by
    obtain ⟨v1, r, rfl, ⟨l1, j1, xs, rfl, hk1, hT⟩, v2, r2, rfl, ⟨l2, j2, ys, rfl, hk2, hU⟩, rfl⟩ := p1
    have hl1 : h1.IsList l1 xs.toArray := ⟨_, t1.known _ _ hk1, rfl, _, rfl⟩
    have hl2 : h1.IsList l2 ys.toArray := ⟨_, t1.known _ _ hk2, rfl, _, rfl⟩
    have a1 : l1 < h1.objs.size := Heap.lt_size (t1.known _ _ hk1)
    have a2 : l2 < h1.objs.size := Heap.lt_size (t1.known _ _ hk2)
    refine call_zip_2 hl1 hl2 fun h' hz hTI hTO hit1 hit2 hsz hk => ?_
    have x1 := (cx.step t1).st
    have W := WalksT.zip2 (prog := prog) (w := w) (A := A) ok.hh _ _ _ _ _ l1 l2 (zipApart_new a1 a2) xs.toArray ys.toArray
    refine W.self 0 _ _ _ ⟨hz, hTI, ⟨_, _, hTO⟩, hit1, hit2, hl1.at fun o e => hk l1 o e, hl2.at fun o e => hk l2 o e⟩ ?_
    have hlen : ((Ts.zip Us).map fun p => Item.two p.1 p.2).length = min xs.toArray.size ys.toArray.size := by
      rw [List.length_map, List.length_zip, List.size_toArray, List.size_toArray, hT.length, hU.length]
    have KT := KTurns.ofWalksU (elts := [Expr.Name a pa, Expr.Name b pb]) (k := k) (pos := pt) W.toU
    rw [← hlen] at KT
    refine q _ K1 h' tk1 (t1.trans (step_full x1 hk)) ⟨_, _, _, _, _, KT, ⟨hz, hTI, ⟨_, _, hTO⟩, hit1, hit2, hl1.at fun o e => hk l1 o e, hl2.at fun o e => hk l2 o e⟩, ?_, ?_, ?_, ?_, ?_, ?_, ?_⟩
    · exact fun i s Q E st hq => W.self i s Q E st hq
    · rintro i h ⟨z1, z2, ⟨_, _, z3⟩, ⟨_, z4, _⟩, ⟨_, z5, _⟩, _, _⟩ b hb
      simp only [List.mem_cons, List.not_mem_nil, or_false] at hb
      rcases hb with rfl | rfl | rfl | rfl
      · exact ⟨_, z1⟩
      · exact ⟨_, z3⟩
      · exact ⟨_, z4⟩
      · exact ⟨_, z5⟩
    · intro b hb
      simp only [List.mem_cons, List.not_mem_nil, or_false] at hb
      rcases hb with rfl | rfl | rfl | rfl <;> exact new_back t1 (by first | exact Nat.le_refl _ | exact Nat.le_add_right _ _)
    · intro b hb
      simp only [List.mem_cons, List.not_mem_nil, or_false] at hb
      rcases hb with rfl | rfl | rfl | rfl <;> exact not_known_new t1.known (by first | exact Nat.le_refl _ | exact Nat.le_add_right _ _)
    · intro b hb
      simp only [List.mem_cons, List.not_mem_nil, or_false] at hb
      rcases hb with rfl | rfl | rfl | rfl | rfl | rfl | rfl
      · exact .inl (new_back t1 (by first | exact Nat.le_refl _ | exact Nat.le_add_right _ _))
      · exact .inl (new_back t1 (by first | exact Nat.le_refl _ | exact Nat.le_add_right _ _))
      · exact .inl (new_back t1 (by first | exact Nat.le_refl _ | exact Nat.le_add_right _ _))
      · exact .inl (new_back t1 (by first | exact Nat.le_refl _ | exact Nat.le_add_right _ _))
      · exact .inl (new_back t1 (by first | exact Nat.le_refl _ | exact Nat.le_add_right _ _))
      · exact .inr ⟨_, hk1⟩
      · exact .inr ⟨_, hk2⟩
    · intro b hb
      simp only [List.mem_cons, List.not_mem_nil, or_false] at hb
      rw [hsz]
      rcases hb with rfl | rfl | rfl | rfl | rfl | rfl | rfl <;> first | exact Nat.lt_succ_of_lt (Nat.lt_succ_of_lt (Nat.lt_succ_of_lt (Nat.lt_succ_of_lt (Nat.lt_succ_of_lt a1)))) | exact Nat.lt_succ_of_lt (Nat.lt_succ_of_lt (Nat.lt_succ_of_lt (Nat.lt_succ_of_lt (Nat.lt_succ_of_lt a2)))) | exact Nat.add_lt_add_left (by decide) _ | exact Nat.lt_add_of_pos_right (by decide) | exact Nat.lt_succ_of_lt (Nat.lt_succ_of_lt a1)
    · rintro i v h it hit ⟨T, vals, rfl, ⟨x, y, hx, hy, rfl⟩, hTup⟩
      rw [List.getElem?_map] at hit
      obtain ⟨⟨p1, p2⟩, hp, rfl⟩ := Option.map_eq_some_iff.mp hit
      obtain ⟨g1, g2⟩ := List.getElem?_zip_eq_some.mp hp
      exact ⟨T, x, y, rfl, hTup, hT.get g1 (by simpa using hx), hU.get g2 (by simpa using hy)⟩) he (by rw [he2]; rfl)

theorem Iter.enum {a b xz : Str} {pa pb pt pz pos : Pos} {k : Nat} {e1 : Expr} {Ts : List Ty} (hn : Ev prog w Kf mg mb n md env m K (.Name xz pz) (fun v _ => v = .type "enumerate"))
    (h1 : Ev prog w Kf mg mb n md env m K e1 (fun v K' => IsListOf K' Ts v)) (he : starEach [e1] env = (false, eval e1 env) :: starEach [] env := by rfl) :
    Iter prog w Kf mg mb n md env m K (.Tuple [.Name a pa, .Name b pb] k pt) (.Call (.Name xz pz) [e1] [] pos) (Ts.mapIdx fun i T => .two (.int (i : Int)) T) :=
  fun A s Q E ok cx q => .mk <| eval_callT hn (Evs.cons h1 (fun _ _ _ hk ⟨a, j, vs, e, x, y⟩ => ⟨a, j, vs, e, hk _ _ x, HasAll.mono hk y⟩) Evs.nil (fun _ _ _ _ e => e) he) ok cx (fun vs K1 h1 tk1 t1 p1 => by
    obtain ⟨v1, r, rfl, ⟨l1, j1, xs, rfl, hk1, hT⟩, rfl⟩ := p1
    have hl1 : h1.IsList l1 xs.toArray := ⟨_, t1.known _ _ hk1, rfl, _, rfl⟩
    have a1 : l1 < h1.objs.size := Heap.lt_size (t1.known _ _ hk1)
    refine call_enumerate_list hl1 fun h' hE hit hsz hk => ?_
    have x1 := (cx.step t1).st
    have W := WalksT.enumerate (prog := prog) (w := w) (A := A) ok.hh (h1.objs.size + 1) h1.objs.size l1 (Nat.succ_ne_self _) (Nat.ne_of_lt (Nat.lt_succ_of_lt a1)) (Nat.ne_of_lt a1) xs.toArray
    refine W.self 0 _ _ _ ⟨⟨_, hE⟩, hit, hl1.at fun o e => hk l1 o e⟩ ?_
    have hlen : (Ts.mapIdx fun i T => Item.two (.int (i : Int)) T).length = xs.toArray.size := by
      rw [List.length_mapIdx, List.size_toArray, hT.length]
    have KT := KTurns.ofWalksU (elts := [Expr.Name a pa, Expr.Name b pb]) (k := k) (pos := pt) W.toU
    rw [← hlen] at KT
    refine q _ K1 h' tk1 (t1.trans (step_full x1 hk)) ⟨_, _, _, _, _, KT, ⟨⟨_, hE⟩, hit, hl1.at fun o e => hk l1 o e⟩, ?_, ?_, ?_, ?_, ?_, ?_, ?_⟩
    · exact fun i s Q E st hq => W.self i s Q E st hq
    · rintro i h ⟨⟨_, z1⟩, ⟨_, z4, _⟩, _⟩ b hb
      simp only [List.mem_cons, List.not_mem_nil, or_false] at hb
      rcases hb with rfl | rfl
      · exact ⟨_, z1⟩
      · exact ⟨_, z4⟩
    · intro b hb
      simp only [List.mem_cons, List.not_mem_nil, or_false] at hb
      rcases hb with rfl | rfl <;> exact new_back t1 (by first | exact Nat.le_refl _ | exact Nat.le_add_right _ _)
    · intro b hb
      simp only [List.mem_cons, List.not_mem_nil, or_false] at hb
      rcases hb with rfl | rfl <;> exact not_known_new t1.known (by first | exact Nat.le_refl _ | exact Nat.le_add_right _ _)
    · intro b hb
      simp only [List.mem_cons, List.not_mem_nil, or_false] at hb
      rcases hb with rfl | rfl | rfl
      · exact .inl (new_back t1 (by first | exact Nat.le_refl _ | exact Nat.le_add_right _ _))
      · exact .inl (new_back t1 (by first | exact Nat.le_refl _ | exact Nat.le_add_right _ _))
      · exact .inr ⟨_, hk1⟩
    · intro b hb
      simp only [List.mem_cons, List.not_mem_nil, or_false] at hb
      rw [hsz]
      rcases hb with rfl | rfl | rfl <;> first | exact Nat.lt_succ_of_lt (Nat.lt_succ_of_lt (Nat.lt_succ_of_lt (Nat.lt_succ_of_lt (Nat.lt_succ_of_lt a1)))) | exact Nat.lt_succ_of_lt (Nat.lt_succ_of_lt (Nat.lt_succ_of_lt (Nat.lt_succ_of_lt (Nat.lt_succ_of_lt a2)))) | exact Nat.add_lt_add_left (by decide) _ | exact Nat.lt_add_of_pos_right (by decide) | exact Nat.lt_succ_of_lt (Nat.lt_succ_of_lt a1)
    · rintro i v h it hit ⟨T, vals, rfl, ⟨t, x, hx, rfl⟩, hTup⟩
      rw [List.getElem?_mapIdx] at hit
      obtain ⟨T', hT', rfl⟩ := Option.map_eq_some_iff.mp hit
      exact ⟨T, .int i t, x, rfl, hTup, ⟨t, rfl⟩, hT.get hT' (by simpa using hx)⟩) he rfl
end
end Mine

-- Core7
namespace Mine

noncomputable def mcap (cap : List Str) (m : Str → Option Value) : Str → Option Value := fun y => if y ∈ cap then m y else none

section
variable {prog : Program} {w : World} {Kf : Frag} {mg mb : Str → Option Value} {n : Nat} {md : Mode} {env : Env} {m : Str → Option Value} {K : Kn}

/-- which names a comprehension takes from its frame -/
inductive Caps (scope : Scope) (env : Env) (cl : List (Str × Addr)) : List Str → Prop
  | nil : Caps scope env cl []
  | cons {y cap} : (env.kindOf y = some .cell ∧ (relabel scope env).names.lookup y = some .cell ∧ cl.lookup y = env.cells.lookup y ∧ (y == ("__debug__" : Str)) = false) → Caps scope env cl cap → Caps scope env cl (y :: cap)
theorem Caps.ok {scope : Scope} {env : Env} {cl : List (Str × Addr)} {cap : List Str} (h : Caps scope env cl cap) : ∀ y ∈ cap, env.kindOf y = some .cell ∧ (relabel scope env).names.lookup y = some .cell ∧ cl.lookup y = env.cells.lookup y ∧ (y == ("__debug__" : Str)) = false := by
  induction h with
  | nil => intro y hy; cases hy
  | cons h _ ih =>
    intro y hy
    rcases List.mem_cons.mp hy with rfl | hy
    · exact h
    · exact ih y hy

theorem Each.snoc {α β : Type} {F : α → β → Prop} {a : α} {b : β} : ∀ {l₁ : List α} {l₂ : List β}, Each F l₁ l₂ → F a b → Each F (l₁ ++ [a]) (l₂ ++ [b])
  | _, _, .nil, h => .cons h .nil
  | _, _, .cons x r, h => .cons x (r.snoc h)

/-- the comprehension's own frame -/
theorem cx_comp {scope : Scope} {cl : List (Str × Addr)} {cap : List Str} {C : Addr} {h : Heap} {it : Item} {names : List Str} {bs : List (Str × Value)} {mm : Str → Option Value} (cx : Cx Kf mg mb md env m K h) (hkind : scope.kind = .function) (hc : Caps scope env cl cap)
    (hloc : ∀ x ∈ names, scope.names.lookup x = some .local ∧ (x == ("__debug__" : Str)) = false) (hB : Vals K it names bs) (hn : h.Ns C (updAll mm bs)) (hCc : md.c ≠ some C) :
    Cx Kf mg mb md (compEnvC scope cl C env) (updAll (mcap cap m) bs) K h where
  g := cx.g
  eg := cx.eg
  eb := cx.eb
  ek := hkind
  sees := fun y v hy => by
    by_cases hyn : y ∈ bs.map (·.1)
    · obtain ⟨h1, h2⟩ := hloc y (hB.names ▸ hyn)
      exact sees_local (env := compEnvC scope cl C env) hn hCc hkind (lookup_relabel_local h1) ((updAll_in bs mm _ y hyn).trans hy) h2
    · rw [updAll_out bs _ y hyn] at hy
      unfold mcap at hy
      by_cases hyc : y ∈ cap
      · rw [if_pos hyc] at hy
        obtain ⟨h1, h2, h3, h4⟩ := hc.ok y hyc
        obtain ⟨c, e1, e2, e3⟩ := cx.cells y v hy h1
        exact sees_cell (env := compEnvC scope cl C env) e2 e3 hkind h2 (h3.trans e1) h4
      · rw [if_neg hyc] at hy; cases hy
  cells := fun y v hy hk => by
    by_cases hyn : y ∈ bs.map (·.1)
    · obtain ⟨h1, _⟩ := hloc y (hB.names ▸ hyn)
      have h2 : (compEnvC scope cl C env).kindOf y = some .local := lookup_relabel_local h1
      rw [h2] at hk; cases hk
    · rw [updAll_out bs _ y hyn] at hy
      unfold mcap at hy
      by_cases hyc : y ∈ cap
      · rw [if_pos hyc] at hy
        obtain ⟨h1, h2, h3, h4⟩ := hc.ok y hyc
        obtain ⟨c, e1, e2, e3⟩ := cx.cells y v hy h1
        exact ⟨c, h3.trans e1, e2, e3⟩
      · rw [if_neg hyc] at hy; cases hy
  known := cx.known
  off := cx.off
  inv := cx.inv

theorem Ev.comp {elt target iter : Expr} {names cap : List Str} {scope : Scope} {pos : Pos} {cl : List (Str × Addr)} {xs : List Item} {Us : List Ty}
    (src : Iter prog w Kf mg mb n md env m K target iter xs) (ht : IsTgt target names) (ha : ∀ it ∈ xs, it.arity = names.length)
    (hclos : closureFor scope env = pure cl) (hcell : ∀ y ∈ scope.names, y.2 ≠ .cell) (hkind : scope.kind = .function) (hnames : ∀ x ∈ scope.names, x.2 = .local → scope.names.lookup x.1 = some .local)
    (hloc : ∀ x ∈ names, scope.names.lookup x = some .local ∧ (x == ("__debug__" : Str)) = false) (hcap : Caps scope env cl cap) (hlen : xs.length = Us.length) (hsz : xs.length ≤ sizeLine)
    (he : ∀ (i : Nat) (it : Item) (U : Ty) (bs : List (Str × Value)) (K1 : Kn) (C : Addr), xs[i]? = some it → Us[i]? = some U → (∀ a o, K a o → K1 a o) → Vals K1 it names bs → Ev prog w Kf mg mb n md (compEnvC scope cl C env) (updAll (mcap cap m) bs) K1 elt (fun v K' => Has K' U v))
    (hs : ∀ x, foldedSetIterable iter env x = pure x := by intro _; rfl) :
    Ev prog w Kf mg mb n md env m K (.ListComp elt [⟨target, iter, [], 0⟩] scope pos) (fun v K' => IsListOf K' Us v) := by
  intro A s Q E ok cx q
  refine Wp.mk ?_
  rw [eval_ListComp]
  refine wpAny_comprehension_free (use := none) rfl hs hclos hkind hnames ?_
  refine Wp.h <| src A s _ E ok cx fun I K0 h2 tk2 t0 it => ?_
  obtain ⟨fp, wr, P, Md, St, W, hst, hself, hex, hnew, hKw, hfp, hlt, hP⟩ := it.ex
  refine wpAny_newObj_type (wpAny_newFunctionEnv hcell (by intro y hy; simp at hy) (fun h₁ hns₁ hsb₁ => ?_) hkind)
  dsimp only at hns₁ hsb₁ ⊢
  generalize hH2 : h2.push { cls := .type "list", dict := none, data := .seq ([] : List Value).toArray } = H2 at hns₁ hsb₁ ⊢
  have hC : H2.objs.size = h2.objs.size + 1 := by rw [← hH2, Heap.size_push]
  have hDC : h2.objs.size ≠ H2.objs.size := by rw [hC]; exact Nat.ne_of_lt (Nat.lt_succ_self _)
  have below : ∀ b, b < h2.objs.size → b ≠ H2.objs.size ∧ b ≠ h2.objs.size := fun b hb => ⟨by rw [hC]; exact Nat.ne_of_lt (Nat.lt_succ_of_lt hb), Nat.ne_of_lt hb⟩
  have old : ∀ b o, h2.get? b = some o → h₁.get? b = some o := fun b o e => hsb₁.extBut b o (below b (Heap.lt_size e)).1 (Heap.get?_push_of_some _ (hH2 ▸ Heap.get?_push_of_some _ e))
  have hacc : h₁.get? h2.objs.size = some (listOf #[] 0) := hsb₁.extBut _ _ hDC (Heap.get?_push_of_some _ (hH2 ▸ Heap.get?_push_size _ rfl))
  -- addresses
  have sD : s.heap.get? h2.objs.size = none := new_back t0 (Nat.le_refl _)
  have sC : s.heap.get? H2.objs.size = none := new_back t0 (by rw [hC]; exact Nat.le_succ _)
  have hereS : ∀ a ∈ md.foot, ∃ o, s.heap.get? a = some o := md.here _ cx.inv
  have fS : ∀ a, s.heap.get? a = none → a ∉ md.foot := fun a e hm => by obtain ⟨o, e'⟩ := hereS a hm; rw [e] at e'; cases e'
  have cS : ∀ a, s.heap.get? a = none → md.c ≠ some a := fun a e hc => fS a e (md.sub a hc)
  have fpD : h2.objs.size ∉ fp := fun hm => Nat.lt_irrefl _ (hlt _ hm)
  have fpC : H2.objs.size ∉ fp := fun hm => by have := hlt _ hm; rw [hC] at this; exact Nat.lt_irrefl _ (Nat.lt_of_succ_lt this)
  have wrD : h2.objs.size ∉ wr := fun hm => fpD (W.sub _ hm)
  have wrC : H2.objs.size ∉ wr := fun hm => fpC (W.sub _ hm)
  have fpc : ∀ b ∈ fp, md.c ≠ some b := fun b hb hc => by
    rcases hfp b hb with e | ⟨o, e⟩
    · exact cS b e hc
    · exact t0.off b o e hc
  have hst₁ : St 0 h₁ := W.frame _ _ _ hst fun b _ o e => old b o e
  have tA : Step md K s.heap K0 h₁ := t0.trans (step_full ⟨fun _ _ _ e => e, fun _ _ e => e, t0.known, t0.off, fun _ _ e => .inl e, t0.inv⟩ old)
  have loop : ∀ s₃ : Shared, s₃ = { s with heap := h₁, toks := tk2 + ([] : List (Str × Value)).length } →
      codeAny (model prog w) A (.compLoop (.ListComp elt [⟨target, iter, [], 0⟩] scope pos) 0 (.ref I) (.ref h2.objs.size) (compEnvC scope cl H2.objs.size env)) (compPost (model prog w) A E none Q (.ref h2.objs.size) H2.objs.size) s₃ := by
    rintro s₃ rfl
    refine kcp_loop
      (fun k s' => ∃ h' tk i ys mC K1, s' = { s with heap := h', toks := tk } ∧ i ≤ xs.length ∧ k = xs.length + 1 - i ∧ ys.length = i ∧ St i h' ∧ h'.Ns H2.objs.size mC ∧ h'.get? h2.objs.size = some (listOf ys.toArray i) ∧ Each (Has K1) (Us.take i) ys ∧
        Step md K s.heap K1 h' ∧ (∀ a o, K1 a o → a ∉ wr ∧ a ≠ h2.objs.size ∧ a ≠ H2.objs.size) ∧ ∀ a o, K0 a o → K1 a o) ?_ (xs.length + 1)
      ⟨h₁, _, 0, [], _, K0, rfl, Nat.zero_le _, rfl, rfl, hst₁, hns₁, hacc, by rw [List.take_zero]; exact .nil, tA, fun a o e => ⟨fun hm => hKw a hm o e, (below a (Heap.lt_size (t0.known a o e))).2, (below a (Heap.lt_size (t0.known a o e))).1⟩, fun _ _ e => e⟩
    rintro k s' ⟨h', tk, i, ys, mC, K1, rfl, hi, rfl, hyl, hst', hn', hD', hEa, t1, hap, hsub⟩
    by_cases hlt' : i < xs.length
    · refine W.item i _ _ _ hlt' hst' fun v h3 tk3 hMd hk3 => ?_
      refine W.go i v _ _ _ hMd fun h4 hPv hst4 hk4 => ?_
      have k14 : ∀ b o, b ∉ wr → h'.get? b = some o → h4.get? b = some o := fun b o hb e => hk4 b o hb (hk3 b o hb e)
      obtain ⟨it', hit'⟩ : ∃ it', xs[i]? = some it' := ⟨_, List.getElem?_eq_getElem hlt'⟩
      obtain ⟨U, hU⟩ : ∃ U, Us[i]? = some U := ⟨_, List.getElem?_eq_getElem (hlen ▸ hlt')⟩
      have hItem : IsItem K1 it' v h4 := (hP i v h4 it' hit' hPv).mono hsub
      have hn4 : h4.Ns H2.objs.size mC := by obtain ⟨o, es, ep, e, r⟩ := hn'; exact ⟨o, es, ep, k14 _ _ wrC e, r⟩
      refine assign_ns (env := compEnvC scope cl H2.objs.size env) (s := { s with heap := h4, toks := tk3 }) ht (ha it' (List.mem_of_getElem? hit')) hItem (fun x hx => lookup_relabel_local (hloc x hx).1)
        (by show (scope.kind == .class || (scope.kind == .module && _)) = false; rw [hkind]; rfl) hn4 ok.hh fun h5 tk5 bs hB hn5 hk5 => ?_
      have k15 : ∀ b o, b ∉ wr → b ≠ H2.objs.size → h'.get? b = some o → h5.get? b = some o := fun b o hb hc e => hk5 b o hc (k14 b o hb e)
      have wS : ∀ a o, s.heap.get? a = some o → a ∉ wr ∧ a ≠ H2.objs.size := fun a o e => ⟨fun hm => (by rw [hnew a hm] at e; cases e), fun z => (by rw [z, sC] at e; cases e)⟩
      have t5 : Step md K s.heap K1 h5 := ⟨fun a o hc e => k15 a o (wS a o e).1 (wS a o e).2 (t1.ext a o hc e), t1.sub, fun a o e => k15 a o (hap a o e).1 (hap a o e).2.2 (t1.known a o e), t1.off, t1.fresh,
        md.keep _ _ (fun a ha o e => by obtain ⟨o', e'⟩ := hereS a ha; exact k15 a o (wS a o' e').1 (wS a o' e').2 e) t1.inv⟩
      have cx5 := cx.step t5
      have hst5 : St (i + 1) h5 := W.frame _ _ _ hst4 fun b hb o e => hk5 b o (fun z => by have z' : b = H2.objs.size := z; rw [z'] at hb; exact fpC hb) e
      have hD5 : h5.get? h2.objs.size = some (listOf ys.toArray i) := k15 _ _ wrD hDC hD'
      have cxc := cx_comp (K := K1) (it := it') (mm := mC) (C := H2.objs.size) cx5 hkind hcap hloc hB hn5 (cS _ sC)
      refine Wp.h <| he i it' U bs K1 H2.objs.size hit' hU t1.sub hB A { s with heap := h5, toks := tk5 } _ _ ok cxc fun y K6 h6 tk6 t6 hy => ?_
      have hD6 : h6.get? h2.objs.size = some (listOf ys.toArray i) := t6.ext _ _ (cS _ sD) hD5
      refine append_at (hsz := by show ys.toArray.size ≤ sizeLine; rw [List.size_toArray, hyl]; exact Nat.le_trans hi hsz) hD6 fun h7 hs7 hD7 => ?_
      have ap6 : ∀ a o, K6 a o → a ∉ wr ∧ a ≠ h2.objs.size ∧ a ≠ H2.objs.size := fun a o e => by
        rcases t6.fresh a o e with e1 | e1
        · exact hap a o e1
        · have e1' : h5.get? a = none := e1
          refine ⟨fun hm => ?_, fun z => ?_, fun z => ?_⟩
          · obtain ⟨o', e'⟩ := hex _ _ hst5 a hm; rw [e1'] at e'; cases e'
          · rw [z, hD5] at e1'; cases e1'
          · obtain ⟨o', es, ep, e', r⟩ := hn5; rw [z] at e1'; have e'' : h5.get? H2.objs.size = some o' := e'; rw [e1'] at e''; cases e''
      have k7 : ∀ b o, b ≠ h2.objs.size → h6.get? b = some o → h7.get? b = some o := fun b o hb e => hs7.extBut b o hb e
      have t56 : Step md K s.heap K6 h6 := t5.trans t6
      refine ⟨xs.length + 1 - (i + 1), by omega, h7, tk6, i + 1, ys ++ [y], updAll mC bs, K6, rfl, hlt', rfl, by rw [List.length_append, List.length_singleton, hyl], ?_, ?_, ?_, ?_, ?_, ap6, fun a o e => t6.sub a o (hsub a o e)⟩
      · exact W.frame _ _ _ hst5 fun b hb o e => k7 b o (fun z => fpD (z ▸ hb)) (t6.ext b o (fpc b hb) e)
      · obtain ⟨o', es, ep, e', r⟩ := hn5
        exact ⟨o', es, ep, k7 _ _ (Ne.symm hDC) (t6.ext _ _ (cS _ sC) e'), r⟩
      · rw [hD7]; simp
      · have htk : Us.take (i + 1) = Us.take i ++ [U] := by rw [List.take_add_one, hU]; rfl
        rw [htk]
        exact (hEa.imp fun _ _ p => p.mono t6.sub).snoc hy
      · exact ⟨fun a o hc e => k7 a o (fun z => by rw [z, sD] at e; cases e) (t56.ext a o hc e), t56.sub, fun a o e => k7 a o (ap6 a o e).2.1 (t56.known a o e), t56.off, t56.fresh,
          md.keep _ _ (fun a ha o e => k7 a o (fun z => fS _ sD (z ▸ ha)) e) t56.inv⟩
    · obtain rfl : i = xs.length := Nat.le_antisymm hi (Nat.not_lt.mp hlt')
      refine W.done _ _ _ hst' fun h3 tk3 hk3 => ?_
      have hn3 : h3.Ns H2.objs.size mC := by obtain ⟨o, es, ep, e, r⟩ := hn'; exact ⟨o, es, ep, hk3 _ _ wrC e, r⟩
      refine ⟨mC, hn3, fun h4 hs4 => ?_⟩
      have k4 : ∀ b o, b ∉ wr → b ≠ H2.objs.size → h'.get? b = some o → h4.get? b = some o := fun b o hb hc e => hs4.extBut b o hc (hk3 b o hb e)
      have wS : ∀ a o, s.heap.get? a = some o → a ∉ wr ∧ a ≠ H2.objs.size := fun a o e => ⟨fun hm => (by rw [hnew a hm] at e; cases e), fun z => (by rw [z, sC] at e; cases e)⟩
      have hUs : Us.take xs.length = Us := by rw [hlen, List.take_length]
      rw [hUs] at hEa
      refine q (.ref h2.objs.size) (Add K1 h2.objs.size (listOf ys.toArray xs.length)) h4 _ ⟨fun a o hc e => k4 a o (wS a o e).1 (wS a o e).2 (t1.ext a o hc e), fun a o e => .inl (t1.sub a o e), fun a o e => ?_, fun a o e => ?_, fun a o e => ?_,
        md.keep _ _ (fun a ha o e => by obtain ⟨o', e'⟩ := hereS a ha; exact k4 a o (wS a o' e').1 (wS a o' e').2 e) t1.inv⟩ ⟨_, _, ys, rfl, .inr ⟨rfl, rfl⟩, HasAll.mono (fun _ _ => .inl) hEa⟩
      · rcases e with e | ⟨rfl, rfl⟩
        · exact k4 a o (hap a o e).1 (hap a o e).2.2 (t1.known a o e)
        · exact k4 _ _ wrD hDC hD'
      · rcases e with e | ⟨rfl, rfl⟩
        · exact t1.off a o e
        · exact cS _ sD
      · rcases e with e | ⟨rfl, rfl⟩
        · exact t1.fresh a o e
        · exact .inr sD
  exact codeAny_compStart_list (loop _ rfl) (hself 0 _ _ _ hst₁ (loop _ rfl))
end
end Mine

-- Core8
namespace Mine

section
variable {prog : Program} {w : World} {Kf : Frag} {mg mb : Str → Option Value} {n : Nat} {md : Mode} {env : Env} {m : Str → Option Value} {K : Kn}

theorem ints_of_list {K : Kn} : ∀ {ns : List Int} {vs : List Value}, Each (Has K) (ns.map .int) vs → IntsAre vs ns
  | [], _, h => by cases h; exact .nil
  | n :: ns, _, h => by
    cases h with
    | cons h r => obtain ⟨t, rfl⟩ := h; exact .cons n t (ints_of_list r)
theorem HasInts.of {K : Kn} {ns : List Int} {v : Value} (h : IsListOf K (ns.map .int) v) : HasInts K ns v := by
  obtain ⟨a, k, vs, e, hk, hi⟩ := h
  exact ⟨a, k, vs, e, hk, ints_of_list hi⟩
theorem IsListOf.mono {K K' : Kn} {Ts : List Ty} {v : Value} (hk : ∀ a o, K a o → K' a o) (h : IsListOf K Ts v) : IsListOf K' Ts v := let ⟨a, k, vs, e, x, y⟩ := h; ⟨a, k, vs, e, hk _ _ x, HasAll.mono hk y⟩
theorem IsTupOf.mono {K K' : Kn} {Ts : List Ty} {v : Value} (hk : ∀ a o, K a o → K' a o) (h : IsTupOf K Ts v) : IsTupOf K' Ts v := let ⟨a, k, vs, e, x, y⟩ := h; ⟨a, k, vs, e, hk _ _ x, HasAll.mono hk y⟩
theorem mono_list (Ts : List Ty) : Mono (fun v K => IsListOf K Ts v) := fun _ _ _ h x => x.mono h
theorem mono_tup (Ts : List Ty) : Mono (fun v K => IsTupOf K Ts v) := fun _ _ _ h x => x.mono h

theorem ints_len {vs : List Value} {ns : List Int} (h : IntsAre vs ns) : vs.length = ns.length := by
  induction h with
  | nil => rfl
  | cons _ _ _ ih => simp [ih]
theorem ints_app {vs ws : List Value} {ns ms : List Int} (h : IntsAre vs ns) (h2 : IntsAre ws ms) : IntsAre (vs ++ ws) (ns ++ ms) := by
  induction h with
  | nil => exact h2
  | cons n t _ ih => exact .cons n t ih

/-! displays with types -/
theorem Ev.listT {es : List Expr} {pos : Pos} {Ts : List Ty} (h : Evs prog w Kf mg mb n md env m K es (fun vs K => HasAll K Ts vs)) (hl : Ts.length ≤ sizeLine) : Ev prog w Kf mg mb n md env m K (.List es pos) (fun v K => IsListOf K Ts v) :=
  (Ev.list h (fun _ _ _ hk x => HasAll.mono hk x) fun vs K x => by rw [← Each.length x]; exact hl).imp fun v K' _ ⟨a, vs, e, hk, x⟩ => ⟨a, 0, vs, e, hk, x⟩
theorem Ev.tupleT {es : List Expr} {k : Nat} {pos : Pos} {Ts : List Ty} (h : Evs prog w Kf mg mb n md env m K es (fun vs K => HasAll K Ts vs)) (hl : Ts.length ≤ sizeLine) : Ev prog w Kf mg mb n md env m K (.Tuple es k pos) (fun v K => IsTupOf K Ts v) :=
  (Ev.tuple h (fun _ _ _ hk x => HasAll.mono hk x) fun vs K x => by rw [← Each.length x]; exact hl).imp fun v K' _ ⟨a, vs, e, hk, x⟩ => ⟨a, 0, vs, e, hk, x⟩
theorem Ev.int1 {e : Expr} {pos : Pos} {i : Int} (h : Ev prog w Kf mg mb n md env m K e (fun v K => Has K (.int i) v)) (he : starEach [e] env = (false, eval e env) :: starEach [] env := by rfl) :
    Ev prog w Kf mg mb n md env m K (.List [e] pos) (fun v K => Has K (.ints [i]) v) :=
  (Ev.listT (Ts := [.int i]) (Evs.consT h Evs.nilT he) (by simp [sizeLine])).imp fun v K' _ x => HasInts.of (ns := [i]) x

/-! list + list, list * int -/
theorem op_known {P : Value → Kn → Prop} {t : Sem Value} {o : Obj} (hf : o.isFreed = false)
    (h : ∀ (A : Around) (s : Shared) (Q E : Value → Shared → Prop), Ok n A → (∀ a p, K a p → s.heap.get? a = some p) → Q (.ref s.heap.objs.size) { s with heap := s.heap.push o } → wpAny (model prog w) A t Q E s)
    (hP : ∀ a (K' : Kn), (∀ b p, K b p → K' b p) → K' a o → P (.ref a) K') : Op prog w Kf mg mb n md K t P :=
  fun A s Q E ok g x q => .mk <| h A s Q E ok x.known (q _ _ _ s.toks (step_new x hf) (hP _ _ (fun _ _ => .inl) (.inr ⟨rfl, rfl⟩)))
theorem op_addL {xs ys : List Int} {v1 v2 : Value} (hl : xs.length + ys.length ≤ 100000) (p1 : Has K (.ints xs) v1) (p2 : Has K (.ints ys) v2) : Op prog w Kf mg mb n md K (binaryOp .Add v1 v2) (fun v K => Has K (.ints (xs ++ ys)) v) := by
  obtain ⟨a1, k1, vs, rfl, h1, i1⟩ := p1
  obtain ⟨a2, k2, ws, rfl, h2, i2⟩ := p2
  refine op_known (o := listOf (vs.toArray ++ ws.toArray) 0) rfl (fun A s Q E _ hk q => ?_) fun a K' _ ha => ⟨a, 0, vs ++ ws, rfl, by simpa using ha, ints_app i1 i2⟩
  have e1 := hk _ _ h1
  have e2 := hk _ _ h2
  refine concat_meets ⟨_, e1, rfl⟩ ⟨_, e2, rfl⟩ noFill_list_add seq_list_add PySem.F.slot_list_add PySem.F.entry_list_add (PySem.F.args_list_add_2 _ _) (list_addW a1 a2 vs.toArray ws.toArray k1 k2 none none #[] #[] ?_) ⟨e1, e2, q⟩
  have := ints_len i1; have := ints_len i2
  simp [sizeLine]; omega
theorem replicate_ints {vs : List Value} {ns : List Int} (h : IntsAre vs ns) : ∀ k : Nat, IntsAre (List.replicate k vs).flatten (List.replicate k ns).flatten
  | 0 => .nil
  | k + 1 => by
    rw [List.replicate_succ, List.replicate_succ, List.flatten_cons, List.flatten_cons]
    exact ints_app h (replicate_ints h k)
theorem foldl_append (items : Array Value) : ∀ (l : List (Array Value)) (a : Array Value), (List.foldl (fun x1 x2 => x1 ++ x2) a l).toList = a.toList ++ (l.map Array.toList).flatten
  | [], a => by simp
  | x :: l, a => by rw [List.foldl_cons, foldl_append items l]; simp
theorem op_mulL {xs : List Int} {k : Int} {v1 v2 : Value} (h0 : 0 ≤ k) (h1 : k ≤ 100000) (hl : xs.length * k.toNat ≤ 100000) (hne : xs ≠ []) (p1 : Has K (.ints xs) v1) (p2 : Has K (.int k) v2) :
    Op prog w Kf mg mb n md K (binaryOp .Mult v1 v2) (fun v K => Has K (.ints (List.replicate k.toNat xs).flatten) v) := by
  obtain ⟨a1, k1, vs, rfl, h1', i1⟩ := p1
  obtain ⟨t, rfl⟩ := p2
  have hvs : vs.toArray.isEmpty = false := by
    cases i1 with
    | nil => exact absurd rfl hne
    | cons _ _ _ => rfl
  refine op_known (o := listOf (List.foldl (fun x1 x2 => x1 ++ x2) #[] (List.replicate (if vs.toArray.isEmpty = true then 0 else k.toNat) vs.toArray)) 0) rfl (fun A s Q E _ hk q => ?_) fun a K' _ ha => ?_
  · have e1 := hk _ _ h1'
    have hsz : vs.toArray.size * k.toNat ≤ 2 ^ 24 := by
      rw [List.size_toArray, ints_len i1]
      omega
    exact wpAny_binaryOp_repeat_ref (T := "list") (U := "int") (by decide) ⟨_, e1, rfl⟩ (fun s' => typeIs_int s' k t) noFill_list_mul F.fills_int_mul F.slot_int_rmul repeat_list F.slot_int_index.lookup
      (call_meets F.slot_int_rmul (typeIs_int s k t) F.entry_int_rmul (F.args_int_rmul_2 _ _) (int___rmul___int_list k t a1 vs.toArray k1)
        ⟨e1, rfl, ⟨_, e1, rfl⟩, call_meets F.slot_list_mul ⟨_, e1, rfl⟩ F.entry_list_mul (F.args_list_mul_2 _ _)
          (AutoListH.list___mul___list_int_3 a1 vs.toArray k1 k t (by simp [Builtin.List.listFitsIndex]; omega) (by omega) (by simp [Builtin.List.listTooLong, sizeLine] at hsz ⊢; omega))
          ⟨e1, q⟩⟩)
  · rw [hvs] at ha
    refine ⟨a, 0, (List.replicate k.toNat vs).flatten, rfl, ?_, replicate_ints i1 _⟩
    have e : List.foldl (fun x1 x2 => x1 ++ x2) #[] (List.replicate (if false = true then 0 else k.toNat) vs.toArray) = (List.replicate k.toNat vs).flatten.toArray := by
      apply Array.toList_inj.mp
      rw [foldl_append vs.toArray]
      simp
    rw [e] at ha
    exact ha

/-! subscripts -/
theorem wpAny_subscripted {M : Model} {A : Around} {E : Value → Shared → Prop} {s : Shared} {slice : Expr} {o i : Value} {Q : Value → Shared → Prop} (h : wpAny M A (getItem o i) Q E s) : wpAny M A (subscripted slice false o i) Q E s := by
  unfold subscripted
  split
  · exact wpAny_operating h
  · contradiction
  · exact wpAny_operating h
/-- a built-in's item -/
noncomputable def GetOp (prog : Program) (w : World) (Kf : Frag) (mg mb : Str → Option Value) (n : Nat) (md : Mode) (K : Kn) (v i : Value) (P : Value → Kn → Prop) : Prop :=
  ∃ T id, (∀ s : Shared, (∀ a o, K a o → s.heap.get? a = some o) → s.TypeIs v T) ∧ typeLookup (.type T) "__getitem__" = pure (some (.builtin id)) ∧ Op prog w Kf mg mb n md K (getItem v i) P
theorem Ev.sub {value slice : Expr} {pos : Pos} {P1 P2 P : Value → Kn → Prop} (h1 : Ev prog w Kf mg mb n md env m K value P1) (m1 : Mono P1) (h2 : Ev prog w Kf mg mb n md env m K slice P2) (m2 : Mono P2)
    (op : ∀ v i K', (∀ a o, K a o → K' a o) → P1 v K' → P2 i K' → GetOp prog w Kf mg mb n md K' v i P) : Ev prog w Kf mg mb n md env m K (.Subscript value slice pos) P := by
  intro A s Q E ok cx q
  refine Wp.mk ?_
  rw [eval_Subscript]
  refine wpAny_bind (Wp.h <| h1 A s _ E ok cx fun v1 K1 h1' tk1 t1 p1 => wpAny_bind (wpAny_holding (Wp.h <| h2 A _ _ E ok ((cx.step t1).down t1.sub) fun v2 K2 h2' tk2 t2 p2 => wpAny_bind (wpAny_standAt ?_))))
  have t3 : Step md K1 h1' (Both K1 K2) h2' := t2.both t1.sub t1.known t1.off
  have t4 := t1.trans t3
  obtain ⟨T, id, hT, hl, hop⟩ := op v1 v2 (Both K1 K2) t4.sub (m1 _ _ _ (fun _ _ => .inl) p1) (m2 _ _ _ (fun _ _ => .inr) p2)
  have hT' := hT { s with heap := h2', toks := tk2 } t4.known
  refine wpAny_bind ?_
  rw [getitemInPython_of_ne hT'.not_modules]
  refine wpAny_bind (wpAny_specialOf hT' hl ?_)
  have fin : wpAny (model prog w) A (subscripted slice false v1 v2) (fun r s₃ => wpAny (model prog w) A (letTemporaryGo value v1 r >>= fun _ => pure r) Q E s₃) E { s with heap := h2', toks := tk2 } :=
    wpAny_subscripted (Wp.h <| hop A _ _ E ok (cx.step t4).g (cx.step t4).st fun v K' h' tk t p => wpAny_bind (wpAny_letTemporaryGo (wpAny_pure (q v K' h' tk (t4.trans t) p))))
  first
    | exact wpAny_pure (wpAny_bind fin)
    | exact wpAny_bind (wpAny_pure (wpAny_bind fin))
    | exact wpAny_bind fin

noncomputable abbrev sliceOf (a b c : Value) : Obj := { cls := .type "slice", data := .fields #[a, b, c] }
noncomputable def EvPart (prog : Program) (w : World) (Kf : Frag) (mg mb : Str → Option Value) (n : Nat) (md : Mode) (env : Env) (m : Str → Option Value) (K : Kn) (x : Option Expr) (lo : Option Int) : Prop :=
  ∀ (A : Around) (s : Shared) (Q E : Value → Shared → Prop), Ok n A → Cx Kf mg mb md env m K s.heap → (∀ v K' h' tk, Step md K s.heap K' h' → IsPart v lo → Q v { s with heap := h', toks := tk }) → Wp (wpAny (model prog w) A (evalPart x env) Q E s)
theorem EvPart.none : EvPart prog w Kf mg mb n md env m K none none := fun _ s _ _ _ cx q => .mk <| wpAny_pure (q _ K s.heap s.toks cx.st .none)
theorem EvPart.some {e : Expr} {i : Int} (h : Ev prog w Kf mg mb n md env m K e (fun v K => Has K (.int i) v)) : EvPart prog w Kf mg mb n md env m K (some e) (some i) :=
  fun A s Q E ok cx q => .mk <| by
    rw [evalPart_some]
    exact Wp.h <| h A s Q E ok cx fun v K' h' tk t p => q v K' h' tk t (by obtain ⟨t, rfl⟩ := p; exact .int i t)
noncomputable def IsSl (K : Kn) (lo hi st : Option Int) (v : Value) : Prop := ∃ a vl vu vs, v = .ref a ∧ K a (sliceOf vl vu vs) ∧ IsPart vl lo ∧ IsPart vu hi ∧ IsPart vs st
theorem Ev.slice {lower upper step : Option Expr} {p : Pos} {lo hi st : Option Int} (h1 : EvPart prog w Kf mg mb n md env m K lower lo) (h2 : EvPart prog w Kf mg mb n md env m K upper hi) (h3 : EvPart prog w Kf mg mb n md env m K step st) :
    Ev prog w Kf mg mb n md env m K (.Slice lower upper step p) (fun v K => IsSl K lo hi st v) :=
  fun A s Q E ok cx q => .mk <| wpAny_Slice (Wp.h <| h1 A s _ E ok cx fun vl K1 h1' tk1 t1 p1 => Wp.h <| h2 A _ _ E ok (cx.step t1 |>.down t1.sub) fun vu K2 h2' tk2 t2 p2 =>
    have t4 := t1.trans (t2.both t1.sub t1.known t1.off)
    Wp.h <| h3 A _ _ E ok (cx.step t4 |>.down t4.sub) fun vs K3 h3' tk3 t3 p3 => by
      have t5 := t4.trans (t3.both t4.sub t4.known t4.off)
      exact q _ _ _ _ (t5.trans (step_new (cx.step t5).st rfl)) ⟨_, vl, vu, vs, rfl, .inr ⟨rfl, rfl⟩, p1, p2, p3⟩)
theorem mono_sl (lo hi st : Option Int) : Mono (fun v K => IsSl K lo hi st v) := fun _ _ _ h ⟨a, vl, vu, vs, e, k, r⟩ => ⟨a, vl, vu, vs, e, h _ _ k, r⟩

theorem get_slice {xs ys : List Int} {lo hi st : Option Int} {v i : Value} (h0 : st ≠ some 0) (hl : xs.length ≤ 100000) (hp : ∀ vs, IntsAre vs xs → IntsAre (slicePick vs.toArray lo hi st).toList ys) (p1 : Has K (.ints xs) v) (p2 : IsSl K lo hi st i) :
    GetOp prog w Kf mg mb n md K v i (fun v K => Has K (.ints ys) v) := by
  obtain ⟨a, k, vs, rfl, ha, hi'⟩ := p1
  obtain ⟨sl, vl, vu, vst, rfl, hs, q1, q2, q3⟩ := p2
  refine ⟨"list", _, fun s hk => ⟨_, hk _ _ ha, rfl⟩, list_getitem_lookup, op_known (o := listOf (slicePick vs.toArray lo hi st) 0) rfl (fun A s Q E _ hk q => ?_) fun b K' _ hb => ⟨b, 0, (slicePick vs.toArray lo hi st).toList, rfl, hb, hp vs hi'⟩⟩
  exact wpAny_getItem_list_slice ⟨_, hk _ _ ha, rfl, _, rfl⟩ ⟨_, hk _ _ hs, rfl, rfl⟩ q1 q2 q3 h0 q (by rw [List.size_toArray, ints_len hi']; simp [sizeLine]; omega)
theorem get_list {Ts : List Ty} {T : Ty} {j : Int} {v i : Value} (h0 : 0 ≤ j) (h1 : j < 2 ^ 63) (hT : Ts[j.toNat]? = some T) (p1 : IsListOf K Ts v) (p2 : Has K (.int j) i) : GetOp prog w Kf mg mb n md K v i (fun v K => Has K T v) := by
  obtain ⟨a, k, vs, rfl, ha, hE⟩ := p1
  obtain ⟨t, rfl⟩ := p2
  refine ⟨"list", _, fun s hk => ⟨_, hk _ _ ha, rfl⟩, list_getitem_lookup, fun A s Q E ok g x q => .mk <| ?_⟩
  obtain ⟨u, hu⟩ : ∃ u, vs[j.toNat]? = some u := ⟨_, List.getElem?_eq_getElem (by rw [← hE.length]; exact (List.getElem?_eq_some_iff.mp hT).1)⟩
  exact wpAny_getItem_list ⟨_, x.known _ _ ha, rfl, _, rfl⟩ h0 h1 (by simpa using hu) (q u K s.heap s.toks x (hE.get hT hu))
theorem get_last {Ts : List Ty} {T : Ty} {v i : Value} (hT : Ts.getLast? = some T) (hl : Ts.length ≤ 100000) (p1 : IsListOf K Ts v) (p2 : Has K (.int (-1)) i) : GetOp prog w Kf mg mb n md K v i (fun v K => Has K T v) := by
  obtain ⟨a, k, vs, rfl, ha, hE⟩ := p1
  obtain ⟨t, rfl⟩ := p2
  refine ⟨"list", _, fun s hk => ⟨_, hk _ _ ha, rfl⟩, list_getitem_lookup, fun A s Q E ok g x q => .mk <| ?_⟩
  have hT' : Ts[Ts.length - 1]? = some T := by rw [← List.getLast?_eq_getElem?]; exact hT
  have hpos : 0 < Ts.length := by
    have := (List.getElem?_eq_some_iff.mp hT').1
    omega
  have hlen := hE.length
  obtain ⟨u, hu⟩ : ∃ u, vs[Ts.length - 1]? = some u := ⟨_, List.getElem?_eq_getElem (by omega)⟩
  refine wpAny_getItem_list_neg ⟨_, x.known _ _ ha, rfl, _, rfl⟩ (by decide) (by rw [List.size_toArray]; omega) (by decide) ?_ (q u K s.heap s.toks x (hE.get hT' hu))
  have e : ((-1 : Int) + ((vs.toArray.size : Nat) : Int)).toNat = Ts.length - 1 := by rw [List.size_toArray]; omega
  rw [e]
  simpa using hu
theorem get_tup {Ts : List Ty} {T : Ty} {j : Int} {v i : Value} (h0 : 0 ≤ j) (h1 : j < 2 ^ 63) (hT : Ts[j.toNat]? = some T) (p1 : IsTupOf K Ts v) (p2 : Has K (.int j) i) : GetOp prog w Kf mg mb n md K v i (fun v K => Has K T v) := by
  obtain ⟨a, k, vs, rfl, ha, hE⟩ := p1
  obtain ⟨t, rfl⟩ := p2
  refine ⟨"tuple", _, fun s hk => ⟨_, hk _ _ ha, rfl⟩, slot_tuple_getitem.lookup, fun A s Q E ok g x q => .mk <| ?_⟩
  have hlt : j.toNat < vs.length := by rw [← hE.length]; exact (List.getElem?_eq_some_iff.mp hT).1
  obtain ⟨u, hu⟩ : ∃ u, vs[j.toNat]? = some u := ⟨_, List.getElem?_eq_getElem hlt⟩
  exact getItem_tuple (t := a) (items := vs.toArray) ⟨_, x.known _ _ ha, rfl, _, rfl⟩ (by omega) h1 (seqIndex_of h0 (by rw [List.size_toArray]; omega)) (by simpa using hu) (q u K s.heap s.toks x (hE.get hT hu))

/-! calls of built-in functions -/
theorem Ev.callB {x : Str} {p pos : Pos} {id : String} {e : Expr} {es : List Expr} {P : List Value → Kn → Prop} {P' : Value → Kn → Prop} (hn : Ev prog w Kf mg mb n md env m K (.Name x p) (fun v _ => v = .builtin id))
    (ha : Evs prog w Kf mg mb n md env m K (e :: es) P) (hf : ∀ vs K', (∀ a o, K a o → K' a o) → P vs K' → Op prog w Kf mg mb n md K' (PySem.call (.builtin id) vs) P')
    (he : starEach (e :: es) env = (false, eval e env) :: starEach es env := by rfl) (hplain : ∀ pos, (backTo pos (starEach es env)).any (·.1) = false := by intro _; rfl) :
    Ev prog w Kf mg mb n md env m K (.Call (.Name x p) (e :: es) [] pos) P' :=
  fun A s Q E ok cx q => .mk <| PyProof.Rows.Call_ (Wp.h <| hn A s _ E ok cx fun v1 K1 h1 tk1 t1 p1 => by
    obtain rfl := p1
    refine PyProof.Rows.callWith_builtin1 (Wp.h <| ha A _ _ _ E ok ((cx.step t1).down t1.sub) fun vs K2 h2 tk2 t2 p2 => ?_) he (hplain pos)
    have t3 : Step md K s.heap K2 h2 := ⟨fun a o hc e => t2.ext a o hc (t1.ext a o hc e), t2.sub, t2.known, t2.off, fun a o e => (by
        rcases t2.fresh a o e with e1 | e1
        · exact .inl e1
        · right
          cases qq : s.heap.get? a with
          | none => rfl
          | some o' => have := t1.ext a o' (t2.off a o e) qq; rw [e1] at this; cases this), t2.inv⟩
    exact Wp.h <| hf vs K2 t3.sub p2 A _ _ E ok (cx.step t3).g (cx.step t3).st fun v K' h' tk t p => q v K' h' tk (t3.trans t) p)
theorem op_len {Ts : List Ty} {v : Value} (hl : Ts.length ≤ 100000) (p : IsListOf K Ts v) : Op prog w Kf mg mb n md K (PySem.call (.builtin "len") [v]) (fun v K => Has K (.int (Ts.length : Int)) v) := by
  obtain ⟨a, k, vs, rfl, ha, hE⟩ := p
  intro A s Q E ok g x q
  refine Wp.mk ?_
  refine PyProof.Rows.len_list (items := vs.toArray) ⟨_, x.known _ _ ha, rfl, _, rfl⟩ (by rw [List.size_toArray, ← hE.length]; omega) ?_
  exact q _ K s.heap _ x ⟨_, by rw [List.size_toArray, ← hE.length]⟩
theorem op_intB {b : Bool} : Op prog w Kf mg mb n md K (PySem.call (.type "int") [.bool b]) (fun v K => Has K (.int (if b then 1 else 0)) v) :=
  fun A s Q E ok g x q => .mk <| call_int_bool (q _ K s.heap _ x ⟨_, rfl⟩)
theorem op_intI {i : Int} {v : Value} (p : Has K (.int i) v) : Op prog w Kf mg mb n md K (PySem.call (.builtin "isinstance") [v, .type "int"]) (fun v K => Has K (.val (.bool true)) v) := by
  obtain ⟨t, rfl⟩ := p
  exact fun A s Q E ok g x q => .mk <| PySem.IsiPair.int_int (q _ K s.heap _ x rfl)
theorem op_max {a b : Int} {v1 v2 : Value} (p1 : Has K (.int a) v1) (p2 : Has K (.int b) v2) : Op prog w Kf mg mb n md K (PySem.call (.builtin "max") [v1, v2]) (fun v K => Has K (.int (max a b)) v) := by
  obtain ⟨t, rfl⟩ := p1
  obtain ⟨u, rfl⟩ := p2
  intro A s Q E ok g x q
  refine Wp.mk ?_
  refine max_two_ints ok.hh fun h' tk hk => ?_
  have e : Has K (.int (max a b)) (if b > a then Value.int b u else Value.int a t) := by
    by_cases h : b > a
    · rw [if_pos h]; exact ⟨u, by congr 1; omega⟩
    · rw [if_neg h]; exact ⟨t, by congr 1; omega⟩
  exact q _ K h' tk (step_full x hk) e
end
end Mine

-- Core9
namespace Mine

/-! ### lists compared -/
noncomputable def geLex : List Int → List Int → Bool
  | x :: xs, y :: ys => if x = y then geLex xs ys else decide (y ≤ x)
  | _, _ => true

theorem drop_geLex (ns ms : List Int) (i : Nat) (h1 : i < ns.length) (h2 : i < ms.length) : geLex (ns.drop i) (ms.drop i) = if ns[i] = ms[i] then geLex (ns.drop (i + 1)) (ms.drop (i + 1)) else decide (ms[i] ≤ ns[i]) := by
  rw [List.drop_eq_getElem_cons h1, List.drop_eq_getElem_cons h2]
  rfl

open AutoSeq1 (wpAny_loadPart') in
open MeetsSeq MeetsSeq2 MeetsSeq3 SeqAt in
theorem ge_loop (l b : Addr) (ps qs : List (Int × Tok)) (n n2 : Nat) (dd dd2 : Option Addr) (sl sl2 : Array (Option Value)) (hsz : ps.length = qs.length) (k : Nat) :
    ∀ i : Nat, ps.length - i = k → Meets (Builtin.«list.__eq__.loop» ⟨[.ref l, .ref b, rawInt i, rawInt 5], []⟩)
      (fun A R s => s.heap.get? l = some { cls := .type "list", dict := dd, data := .seq (ps.map fun p => Value.int p.1 p.2).toArray n, slots := sl } ∧ s.heap.get? b = some { cls := .type "list", dict := dd2, data := .seq (qs.map fun p => Value.int p.1 p.2).toArray n2, slots := sl2 } ∧
        R (.ok (.ret (.bool (geLex ((ps.map (·.1)).drop i) ((qs.map (·.1)).drop i))))) s) := by
  induction k with
  | zero =>
    intro i hk prog w A R s h
    obtain ⟨hp, g, d, tk, os⟩ := s; obtain ⟨hl, hb, h⟩ := h
    wp_walk using wpAny_loadPart' hl, wpAny_loadPart' hb
    have hi1 : (ps.map fun p => Value.int p.1 p.2).toArray[((i : Nat) : Int).toNat]? = none := by simp; omega
    have hi2 : (qs.map fun p => Value.int p.1 p.2).toArray[((i : Nat) : Int).toNat]? = none := by simp; omega
    have hd : (ps.map (·.1)).drop i = [] := by simp; omega
    rw [hd] at h
    rw [hi1, hi2]
    wp_walk using wpAny_loadPart' hl, wpAny_loadPart' hb
    show R (Except.ok (Flow.ret (Value.bool (decide ((ps.map fun p => Value.int p.1 p.2).toArray.size ≥ (qs.map fun p => Value.int p.1 p.2).toArray.size))))) _
    have e : decide ((ps.map fun p => Value.int p.1 p.2).toArray.size ≥ (qs.map fun p => Value.int p.1 p.2).toArray.size) = true := by simp [hsz]
    rw [e]
    exact h
  | succ k ih =>
    intro i hk prog w A R s h
    obtain ⟨hp, g, d, tk, os⟩ := s; obtain ⟨hl, hb, h⟩ := h
    wp_walk using wpAny_loadPart' hl, wpAny_loadPart' hb
    have hlt : i < ps.length := by omega
    have hlt2 : i < qs.length := by omega
    have hi1 : (ps.map fun p => Value.int p.1 p.2).toArray[((i : Nat) : Int).toNat]? = some (.int ps[i].1 ps[i].2) := by simp [hlt]
    have hi2 : (qs.map fun p => Value.int p.1 p.2).toArray[((i : Nat) : Int).toNat]? = some (.int qs[i].1 qs[i].2) := by simp [hlt2]
    have hc : ((i : Int) + 1) = ((i + 1 : Nat) : Int) := by push_cast; rfl
    have hd := drop_geLex (ps.map (·.1)) (qs.map (·.1)) i (by simpa using hlt) (by simpa using hlt2)
    simp only [List.getElem_map] at hd
    rw [hd] at h
    rw [hi1, hi2]
    refine wpAny_bind (EqAt.int_int _ _ _ _ prog w _ _ ?_)
    by_cases hq : ps[i].1 = qs[i].1
    · rw [if_pos hq] at h
      have hb' : (ps[i].1 == qs[i].1) = true := by simpa using hq
      rw [hb']
      wp_walk
      rw [hc]
      exact ⟨plainId_quiet plain_eq_loop _, codeAny_builtin entry_eq_loop (by
        rw [Around.under_plainId plain_eq_loop _]
        exact ih (i + 1) (by omega) prog w A R _ ⟨hl, hb, h⟩)⟩
    · rw [if_neg hq] at h
      have hb' : (ps[i].1 == qs[i].1) = false := by simpa using hq
      rw [hb']
      wp_walk using wpAny_loadPart' hl, wpAny_loadPart' hb
      rw [hi1, hi2]
      refine wpAny_bind (show wpAny _ _ (compareOp .GtE (.int ps[i].1 ps[i].2) (.int qs[i].1 qs[i].2)) _ _ _ from P.ge_int ?_)
      wp_walk
      exact h

open AutoSeq1 (wpAny_loadPart') in
open MeetsSeq MeetsSeq2 MeetsSeq3 SeqAt in
theorem list_ge_meets (l b : Addr) (ps qs : List (Int × Tok)) (n n2 : Nat) (dd dd2 : Option Addr) (sl sl2 : Array (Option Value)) (hsz : ps.length = qs.length) :
    Meets (Builtin.«list.__ge__» ⟨[.ref l, .ref b], []⟩)
      (fun _ R s => s.heap.get? l = some { cls := .type "list", dict := dd, data := .seq (ps.map fun p => Value.int p.1 p.2).toArray n, slots := sl } ∧ s.heap.get? b = some { cls := .type "list", dict := dd2, data := .seq (qs.map fun p => Value.int p.1 p.2).toArray n2, slots := sl2 } ∧
        R (.ok (.ret (.bool (geLex (ps.map (·.1)) (qs.map (·.1)))))) s) := by
  intro prog w A R s h
  obtain ⟨hp, g, d, tk, os⟩ := s; obtain ⟨hl, hb, h⟩ := h
  have f3 := AutoSeq1.sub_list_list
  wp_walk using wpAny_loadPart' hl, wpAny_loadPart' hb
  exact ⟨plainId_quiet plain_eq_loop _, codeAny_builtin entry_eq_loop (by
    rw [Around.under_plainId plain_eq_loop _]
    exact ge_loop l b ps qs n n2 dd dd2 sl sl2 hsz _ 0 rfl prog w A R _ ⟨hl, hb, h⟩)⟩

theorem ints_pairs {vs : List Value} {ns : List Int} (h : IntsAre vs ns) : ∃ ps : List (Int × Tok), vs = ps.map (fun p => Value.int p.1 p.2) ∧ ns = ps.map (·.1) := by
  induction h with
  | nil => exact ⟨[], rfl, rfl⟩
  | cons n t _ ih =>
    obtain ⟨ps, e1, e2⟩ := ih
    exact ⟨(n, t) :: ps, by rw [e1]; rfl, by rw [e2]; rfl⟩

section
variable {prog : Program} {w : World} {Kf : Frag} {mg mb : Str → Option Value} {n : Nat} {md : Mode} {env : Env} {m : Str → Option Value} {K : Kn}

theorem Ok.u64 {n A} (o : Ok (n + 1) A) : A.units + 64 < cLine := by have := o.un; omega
theorem op_geL {xs ys : List Int} {v1 v2 : Value} (hl : xs.length = ys.length) (p1 : Has K (.ints xs) v1) (p2 : Has K (.ints ys) v2) : Op prog w Kf mg mb (n + 1) md K (compareOp .GtE v1 v2) (fun v K => Has K (.val (.bool (geLex xs ys))) v) := by
  obtain ⟨a1, k1, vs, rfl, h1, i1⟩ := p1
  obtain ⟨a2, k2, ws, rfl, h2, i2⟩ := p2
  obtain ⟨ps, rfl, rfl⟩ := ints_pairs i1
  obtain ⟨qs, rfl, rfl⟩ := ints_pairs i2
  intro A s Q E ok g x q
  refine Wp.mk ?_
  have e1 := x.known _ _ h1
  have e2 := x.known _ _ h2
  show wpAny _ _ (richCompare .GtE (.ref a1) (.ref a2)) _ _ _
  exact richCompare_meets_room (op := .GtE) ⟨_, e1, rfl⟩ ⟨_, e2, rfl⟩ F.slot_list_ge F.entry_list_ge (F.args_list_ge_2 _ _) (list_ge_meets a1 a2 ps qs k1 k2 none none #[] #[] (by simpa using hl))
    ⟨e1, e2, (fun x => nomatch x), q _ K s.heap s.toks x rfl⟩ (by have := ok.un; omega)
theorem op_eqL {xs ys : List Int} {v1 v2 : Value} (p1 : Has K (.ints xs) v1) (p2 : Has K (.ints ys) v2) : Op prog w Kf mg mb (n + 1) md K (compareOp .Eq v1 v2) (fun v K => Has K (.val (.bool (decide (xs = ys)))) v) := by
  obtain ⟨a1, k1, vs, rfl, h1, i1⟩ := p1
  obtain ⟨a2, k2, ws, rfl, h2, i2⟩ := p2
  exact fun A s Q E ok g x q => .mk <| eq_intsK ⟨_, x.known _ _ h1, rfl, _, rfl⟩ i1 ⟨_, x.known _ _ h2, rfl, _, rfl⟩ i2 ok.u64 (q _ K s.heap s.toks x rfl)
theorem op_neL {xs ys : List Int} {v1 v2 : Value} (p1 : Has K (.ints xs) v1) (p2 : Has K (.ints ys) v2) : Op prog w Kf mg mb (n + 1) md K (compareOp .NotEq v1 v2) (fun v K => Has K (.val (.bool (!decide (xs = ys)))) v) := by
  obtain ⟨a1, k1, vs, rfl, h1, i1⟩ := p1
  obtain ⟨a2, k2, ws, rfl, h2, i2⟩ := p2
  exact fun A s Q E ok g x q => .mk <| ne_intsK ⟨_, x.known _ _ h1, rfl, _, rfl⟩ i1 ⟨_, x.known _ _ h2, rfl, _, rfl⟩ i2 ok.u64 (q _ K s.heap s.toks x rfl)
/-- two lists of two rows, the same rows -/
theorem op_eq2 {a b : List Int} {v1 v2 : Value} (p1 : IsListOf K [.ints a, .ints b] v1) (p2 : IsListOf K [.ints a, .ints b] v2) : Op prog w Kf mg mb (n + 1) md K (compareOp .Eq v1 v2) (fun v K => Has K (.val (.bool true)) v) := by
  obtain ⟨a1, k1, vs, rfl, h1, i1⟩ := p1
  obtain ⟨a2, k2, ws, rfl, h2, i2⟩ := p2
  cases i1 with
  | cons x1 r1 => cases r1 with
    | cons y1 r1 =>
      cases r1
      cases i2 with
      | cons x2 r2 => cases r2 with
        | cons y2 r2 =>
          cases r2
          obtain ⟨b1, j1, us1, rfl, g1, e1⟩ := x1
          obtain ⟨b2, j2, us2, rfl, g2, e2⟩ := y1
          obtain ⟨b3, j3, us3, rfl, g3, e3⟩ := x2
          obtain ⟨b4, j4, us4, rfl, g4, e4⟩ := y2
          intro A s Q E ok g x q
          refine Wp.mk ?_
          have L : ∀ {b j us ns}, K b (listOf us.toArray j) → IntsAre us ns → Reads s.heap (.ref b) (.list (ns.map PyData.int)) [b] := fun hb e => reads_of_ints ⟨_, x.known _ _ hb, rfl, _, rfl⟩ e
          have r1 : Reads s.heap (.ref a1) (.list [.list (a.map PyData.int), .list (b.map PyData.int)]) (a1 :: ([b1] ++ ([b2] ++ []))) := .list (x.known _ _ h1) rfl rfl (.cons (L g1 e1) (.cons (L g2 e2) .nil))
          have r2 : Reads s.heap (.ref a2) (.list [.list (a.map PyData.int), .list (b.map PyData.int)]) (a2 :: ([b3] ++ ([b4] ++ []))) := .list (x.known _ _ h2) rfl rfl (.cons (L g3 e3) (.cons (L g4 e4) .nil))
          have sh : PySem.SeqAt.shaped (.list [.list (a.map PyData.int), .list (b.map PyData.int)]) = true := by
            have h1 := W.depthAll_ints a
            have h2 := W.depthAll_ints b
            show (PyData.canLay0 _ && decide (PyData.depth _ ≤ 64)) = true
            rw [Bool.and_eq_true]
            refine ⟨?_, decide_eq_true ?_⟩
            · simp [PyData.canLay0, PyData.canLayAll0, canLayAll0_ints]
            · simp only [PyData.depth, PyData.depthAll]; omega
          refine eq_dataH_same r1 r2 sh sh ok.u64 (by simp [PySem.SeqAt.noMix, PySem.SeqAt.noMixAll, noMix_ints]) ?_
          have e : PySem.Spec.same (.list [.list (a.map PyData.int), .list (b.map PyData.int)]) (.list [.list (a.map PyData.int), .list (b.map PyData.int)]) = true := by
            simp [PySem.Spec.same, PySem.Spec.sameAll, same_ints]
          rw [e]
          exact q _ K s.heap s.toks x rfl
/-- an empty list is none other -/
theorem op_ne0 {v1 v2 : Value} (p1 : IsListOf K [] v1) (p2 : IsListOf K [] v2) : Op prog w Kf mg mb (n + 1) md K (compareOp .NotEq v1 v2) (fun v K => Has K (.val (.bool false)) v) :=
  (op_neL (xs := []) (ys := []) (HasInts.of (ns := []) p1) (HasInts.of (ns := []) p2)).imp fun v K' _ h => by simpa using h
theorem op_notin {xs : List Int} {i : Int} {v1 v2 : Value} (p1 : Has K (.int i) v1) (p2 : Has K (.ints xs) v2) : Op prog w Kf mg mb n md K (compareOp .NotIn v1 v2) (fun v K => Has K (.val (.bool (!(xs.any (· == i))))) v) := by
  obtain ⟨t, rfl⟩ := p1
  obtain ⟨a2, k2, ws, rfl, h2, i2⟩ := p2
  exact fun A s Q E ok g x q => .mk <| notin_list_ints ⟨_, x.known _ _ h2, rfl, _, rfl⟩ i2 (q _ K s.heap s.toks x rfl)
theorem op_sum {xs : List Int} {v : Value} (p : Has K (.ints xs) v) : Op prog w Kf mg mb n md K (PySem.call (.builtin "sum") [v]) (fun v K => Has K (.int xs.sum) v) := by
  obtain ⟨a, k, vs, rfl, h1, i1⟩ := p
  obtain ⟨ps, rfl, rfl⟩ := ints_pairs i1
  intro A s Q E ok g x q
  refine Wp.mk ?_
  refine sum_intListG (xs := ps.toArray) ok.hh ⟨_, x.known _ _ h1, rfl, k, by simp [intItems]⟩ fun h' tk t' hk => ?_
  refine q _ K h' tk (step_full x hk) ⟨t', ?_⟩
  rw [preSum_eq, List.take_of_length_le (by simp)]
/-- a comparison, in general -/
theorem Ev.cmpP {o : CmpOp} {l r : Expr} {pos : Pos} {P1 P2 P : Value → Kn → Prop} (h1 : Ev prog w Kf mg mb n md env m K l P1) (m1 : Mono P1) (h2 : Ev prog w Kf mg mb n md env m K r P2) (m2 : Mono P2)
    (op : ∀ v1 v2 K', P1 v1 K' → P2 v2 K' → Op prog w Kf mg mb n md K' (compareOp o v1 v2) P) (hm : behindInMarks o r = false) : Ev prog w Kf mg mb n md env m K (.Compare l [o] [r] pos) P :=
  fun A s Q E ok cx q => .mk <| wpAny_Compare1 (Wp.h <| h1 A s _ E ok cx fun v1 K1 h1' tk1 t1 p1 => Wp.h <| h2 A _ _ E ok ((cx.step t1).down t1.sub) fun v2 K2 h2' tk2 t2 p2 =>
    have t3 : Step md K1 h1' (Both K1 K2) h2' := t2.both t1.sub t1.known t1.off
    have t4 := t1.trans t3
    Wp.h <| op v1 v2 (Both K1 K2) (m1 _ _ _ (fun _ _ => .inl) p1) (m2 _ _ _ (fun _ _ => .inr) p2) A _ _ E ok (cx.step t4).g (cx.step t4).st fun v K' h' tk t p => q v K' h' tk (t4.trans t) p) hm
theorem Tst.cmpP {o : CmpOp} {l r : Expr} {pos : Pos} {P1 P2 : Value → Kn → Prop} {b : Bool} (h1 : Ev prog w Kf mg mb n md env m K l P1) (m1 : Mono P1) (h2 : Ev prog w Kf mg mb n md env m K r P2) (m2 : Mono P2)
    (op : ∀ v1 v2 K', P1 v1 K' → P2 v2 K' → Op prog w Kf mg mb n md K' (compareOp o v1 v2) (fun v K => Has K (.val (.bool b)) v)) (hm : behindInMarks o r = false) : Tst prog w Kf mg mb n md env m K (.Compare l [o] [r] pos) b :=
  fun A s Q E ok cx q => .mk <| wpAny_isTrue_Compare1 (Wp.h <| h1 A s _ E ok cx fun v1 K1 h1' tk1 t1 p1 => Wp.h <| h2 A _ _ E ok ((cx.step t1).down t1.sub) fun v2 K2 h2' tk2 t2 p2 =>
    have t3 : Step md K1 h1' (Both K1 K2) h2' := t2.both t1.sub t1.known t1.off
    have t4 := t1.trans t3
    Wp.h <| op v1 v2 (Both K1 K2) (m1 _ _ _ (fun _ _ => .inl) p1) (m2 _ _ _ (fun _ _ => .inr) p2) A _ _ E ok (cx.step t4).g (cx.step t4).st fun v K' h' tk t p => by
      obtain rfl : v = .bool b := p
      exact wpAny_truthy_bool (q K' h' tk (t4.trans t))) hm
end
end Mine

-- Core10
namespace Mine
section
variable {prog : Program} {w : World} {A : Around} {s : Shared}
theorem kcp_loopF {elt target iter ct : PySem.Expr} {scope : Scope} {pos : Pos} {it acc : Value} {env : Env} {R : Result → Shared → Prop} (I : Nat → Shared → Prop)
    (turn : ∀ n s, I n s → wpAny (model prog w) A (pyNext it) (fun r s₁ => match r with
      | none => R (.ok .next) s₁
      | some v => wpAny (model prog w) A (letOwnedTupleGo target it v) (fun _ s₀ => wpAny (model prog w) A (assign target env v) (fun _ s₂ =>
          wpAny (model prog w) A (isTrue ct env (eval ct env)) (fun b s₅ => b = false ∧ ∃ m, m < n ∧ I m s₅) (notedBy (model prog w) A env fun e s' => R (.error e) s') s₂)
          (notedBy (model prog w) A env fun e s' => R (.error e) s') s₀) (notedBy (model prog w) A env fun e s' => R (.error e) s') s₁) (notedBy (model prog w) A env fun e s' => R (.error e) s') s)
    (n : Nat) (h : I n s) : codeAny (model prog w) A (.compLoop (.ListComp elt [⟨target, iter, [ct], 0⟩] scope pos) 0 it acc env) R s := by
  refine codeAny_loop rfl I (fun n s hI => ?_) n h
  show wpAny _ A ((compTurn (.ListComp elt [⟨target, iter, [ct], 0⟩] scope pos) 0 it acc env).onRaise (fun x => do noteFrame x env; theTreesLotGoes x)) _ _ s
  refine wpAny_noted ?_
  rw [compTurn_list]
  refine wpAny_bind (wpAny_standAt (wpAny_bind (wpAny_mono (turn n s hI) (fun r s₁ h₁ => ?_) fun _ _ h' => h')))
  cases r with
  | none => exact wpAny_pure h₁
  | some v =>
    refine wpAny_bind (wpAny_mono h₁ (fun _ s₀ h₀' => ?_) fun _ _ h' => h')
    refine wpAny_bind (wpAny_mono h₀' (fun _ s₂ h₂ => ?_) fun _ _ h' => h')
    refine wpAny_bind (wpAny_tests_one (wpAny_mono h₂ (fun ok s₃ h₃ => ?_) fun _ _ h' => h'))
    obtain ⟨rfl, h₃⟩ := h₃
    exact wpAny_pure ⟨rfl, h₃⟩
end
section
variable {prog : Program} {w : World} {Kf : Frag} {mg mb : Str → Option Value} {n : Nat} {md : Mode} {env : Env} {m : Str → Option Value} {K : Kn}
theorem Ev.compF {elt target iter ct : Expr} {names cap : List Str} {scope : Scope} {pos : Pos} {cl : List (Str × Addr)} {xs : List Item}
    (src : Iter prog w Kf mg mb n md env m K target iter xs) (ht : IsTgt target names) (ha : ∀ it ∈ xs, it.arity = names.length)
    (hclos : closureFor scope env = pure cl) (hcell : ∀ y ∈ scope.names, y.2 ≠ .cell) (hkind : scope.kind = .function) (hnames : ∀ x ∈ scope.names, x.2 = .local → scope.names.lookup x.1 = some .local)
    (hloc : ∀ x ∈ names, scope.names.lookup x = some .local ∧ (x == ("__debug__" : Str)) = false) (hcap : Caps scope env cl cap)
    (he : ∀ (i : Nat) (it : Item) (bs : List (Str × Value)) (K1 : Kn) (C : Addr), xs[i]? = some it → (∀ a o, K a o → K1 a o) → Vals K1 it names bs → Tst prog w Kf mg mb n md (compEnvC scope cl C env) (updAll (mcap cap m) bs) K1 ct false)
    (hs : ∀ x, foldedSetIterable iter env x = pure x := by intro _; rfl) :
    Ev prog w Kf mg mb n md env m K (.ListComp elt [⟨target, iter, [ct], 0⟩] scope pos) (fun v K' => IsListOf K' [] v) := by
  intro A s Q E ok cx q
  refine Wp.mk ?_
  rw [eval_ListComp]
  refine wpAny_comprehension_free (use := none) rfl hs hclos hkind hnames ?_
  refine Wp.h <| src A s _ E ok cx fun I K0 h2 tk2 t0 it => ?_
  obtain ⟨fp, wr, P, Md, St, W, hst, hself, hex, hnew, hKw, hfp, hlt, hP⟩ := it.ex
  refine wpAny_newObj_type (wpAny_newFunctionEnv hcell (by intro y hy; simp at hy) (fun h₁ hns₁ hsb₁ => ?_) hkind)
  dsimp only at hns₁ hsb₁ ⊢
  generalize hH2 : h2.push { cls := .type "list", dict := none, data := .seq ([] : List Value).toArray } = H2 at hns₁ hsb₁ ⊢
  have hC : H2.objs.size = h2.objs.size + 1 := by rw [← hH2, Heap.size_push]
  have hDC : h2.objs.size ≠ H2.objs.size := by rw [hC]; exact Nat.ne_of_lt (Nat.lt_succ_self _)
  have below : ∀ b, b < h2.objs.size → b ≠ H2.objs.size ∧ b ≠ h2.objs.size := fun b hb => ⟨by rw [hC]; exact Nat.ne_of_lt (Nat.lt_succ_of_lt hb), Nat.ne_of_lt hb⟩
  have old : ∀ b o, h2.get? b = some o → h₁.get? b = some o := fun b o e => hsb₁.extBut b o (below b (Heap.lt_size e)).1 (Heap.get?_push_of_some _ (hH2 ▸ Heap.get?_push_of_some _ e))
  have hacc : h₁.get? h2.objs.size = some (listOf #[] 0) := hsb₁.extBut _ _ hDC (Heap.get?_push_of_some _ (hH2 ▸ Heap.get?_push_size _ rfl))
  -- addresses
  have sD : s.heap.get? h2.objs.size = none := new_back t0 (Nat.le_refl _)
  have sC : s.heap.get? H2.objs.size = none := new_back t0 (by rw [hC]; exact Nat.le_succ _)
  have hereS : ∀ a ∈ md.foot, ∃ o, s.heap.get? a = some o := md.here _ cx.inv
  have fS : ∀ a, s.heap.get? a = none → a ∉ md.foot := fun a e hm => by obtain ⟨o, e'⟩ := hereS a hm; rw [e] at e'; cases e'
  have cS : ∀ a, s.heap.get? a = none → md.c ≠ some a := fun a e hc => fS a e (md.sub a hc)
  have fpD : h2.objs.size ∉ fp := fun hm => Nat.lt_irrefl _ (hlt _ hm)
  have fpC : H2.objs.size ∉ fp := fun hm => by have := hlt _ hm; rw [hC] at this; exact Nat.lt_irrefl _ (Nat.lt_of_succ_lt this)
  have wrD : h2.objs.size ∉ wr := fun hm => fpD (W.sub _ hm)
  have wrC : H2.objs.size ∉ wr := fun hm => fpC (W.sub _ hm)
  have fpc : ∀ b ∈ fp, md.c ≠ some b := fun b hb hc => by
    rcases hfp b hb with e | ⟨o, e⟩
    · exact cS b e hc
    · exact t0.off b o e hc
  have hst₁ : St 0 h₁ := W.frame _ _ _ hst fun b _ o e => old b o e
  have tA : Step md K s.heap K0 h₁ := t0.trans (step_full ⟨fun _ _ _ e => e, fun _ _ e => e, t0.known, t0.off, fun _ _ e => .inl e, t0.inv⟩ old)
  have loop : ∀ s₃ : Shared, s₃ = { s with heap := h₁, toks := tk2 + ([] : List (Str × Value)).length } →
      codeAny (model prog w) A (.compLoop (.ListComp elt [⟨target, iter, [ct], 0⟩] scope pos) 0 (.ref I) (.ref h2.objs.size) (compEnvC scope cl H2.objs.size env)) (compPost (model prog w) A E none Q (.ref h2.objs.size) H2.objs.size) s₃ := by
    rintro s₃ rfl
    refine kcp_loopF
      (fun k s' => ∃ h' tk i mC K1, s' = { s with heap := h', toks := tk } ∧ i ≤ xs.length ∧ k = xs.length + 1 - i ∧ St i h' ∧ h'.Ns H2.objs.size mC ∧ h'.get? h2.objs.size = some (listOf #[] 0) ∧
        Step md K s.heap K1 h' ∧ (∀ a o, K1 a o → a ∉ wr ∧ a ≠ h2.objs.size ∧ a ≠ H2.objs.size) ∧ ∀ a o, K0 a o → K1 a o) ?_ (xs.length + 1)
      ⟨h₁, _, 0, _, K0, rfl, Nat.zero_le _, rfl, hst₁, hns₁, hacc, tA, fun a o e => ⟨fun hm => hKw a hm o e, (below a (Heap.lt_size (t0.known a o e))).2, (below a (Heap.lt_size (t0.known a o e))).1⟩, fun _ _ e => e⟩
    rintro k s' ⟨h', tk, i, mC, K1, rfl, hi, rfl, hst', hn', hD', t1, hap, hsub⟩
    by_cases hlt' : i < xs.length
    · refine W.item i _ _ _ hlt' hst' fun v h3 tk3 hMd hk3 => ?_
      refine W.go i v _ _ _ hMd fun h4 hPv hst4 hk4 => ?_
      have k14 : ∀ b o, b ∉ wr → h'.get? b = some o → h4.get? b = some o := fun b o hb e => hk4 b o hb (hk3 b o hb e)
      obtain ⟨it', hit'⟩ : ∃ it', xs[i]? = some it' := ⟨_, List.getElem?_eq_getElem hlt'⟩
      have hItem : IsItem K1 it' v h4 := (hP i v h4 it' hit' hPv).mono hsub
      have hn4 : h4.Ns H2.objs.size mC := by obtain ⟨o, es, ep, e, r⟩ := hn'; exact ⟨o, es, ep, k14 _ _ wrC e, r⟩
      refine assign_ns (env := compEnvC scope cl H2.objs.size env) (s := { s with heap := h4, toks := tk3 }) ht (ha it' (List.mem_of_getElem? hit')) hItem (fun x hx => lookup_relabel_local (hloc x hx).1)
        (by show (scope.kind == .class || (scope.kind == .module && _)) = false; rw [hkind]; rfl) hn4 ok.hh fun h5 tk5 bs hB hn5 hk5 => ?_
      have k15 : ∀ b o, b ∉ wr → b ≠ H2.objs.size → h'.get? b = some o → h5.get? b = some o := fun b o hb hc e => hk5 b o hc (k14 b o hb e)
      have wS : ∀ a o, s.heap.get? a = some o → a ∉ wr ∧ a ≠ H2.objs.size := fun a o e => ⟨fun hm => (by rw [hnew a hm] at e; cases e), fun z => (by rw [z, sC] at e; cases e)⟩
      have t5 : Step md K s.heap K1 h5 := ⟨fun a o hc e => k15 a o (wS a o e).1 (wS a o e).2 (t1.ext a o hc e), t1.sub, fun a o e => k15 a o (hap a o e).1 (hap a o e).2.2 (t1.known a o e), t1.off, t1.fresh,
        md.keep _ _ (fun a ha o e => by obtain ⟨o', e'⟩ := hereS a ha; exact k15 a o (wS a o' e').1 (wS a o' e').2 e) t1.inv⟩
      have cx5 := cx.step t5
      have hst5 : St (i + 1) h5 := W.frame _ _ _ hst4 fun b hb o e => hk5 b o (fun z => by have z' : b = H2.objs.size := z; rw [z'] at hb; exact fpC hb) e
      have hD5 : h5.get? h2.objs.size = some (listOf #[] 0) := k15 _ _ wrD hDC hD'
      have cxc := cx_comp (K := K1) (it := it') (mm := mC) (C := H2.objs.size) cx5 hkind hcap hloc hB hn5 (cS _ sC)
      refine Wp.h <| he i it' bs K1 H2.objs.size hit' t1.sub hB A { s with heap := h5, toks := tk5 } _ _ ok cxc fun K6 h6 tk6 t6 => ⟨rfl, ?_⟩
      have hD6 : h6.get? h2.objs.size = some (listOf #[] 0) := t6.ext _ _ (cS _ sD) hD5
      have ap6 : ∀ a o, K6 a o → a ∉ wr ∧ a ≠ h2.objs.size ∧ a ≠ H2.objs.size := fun a o e => by
        rcases t6.fresh a o e with e1 | e1
        · exact hap a o e1
        · have e1' : h5.get? a = none := e1
          refine ⟨fun hm => ?_, fun z => ?_, fun z => ?_⟩
          · obtain ⟨o', e'⟩ := hex _ _ hst5 a hm; rw [e1'] at e'; cases e'
          · rw [z, hD5] at e1'; cases e1'
          · obtain ⟨o', es, ep, e', r⟩ := hn5; rw [z] at e1'; have e'' : h5.get? H2.objs.size = some o' := e'; rw [e1'] at e''; cases e''
      refine ⟨xs.length + 1 - (i + 1), by omega, h6, tk6, i + 1, updAll mC bs, K6, rfl, hlt', rfl, ?_, ?_, hD6, t5.trans t6, ap6, fun a o e => t6.sub a o (hsub a o e)⟩
      · exact W.frame _ _ _ hst5 fun b hb o e => t6.ext b o (fpc b hb) e
      · obtain ⟨o', es, ep, e', r⟩ := hn5
        exact ⟨o', es, ep, t6.ext _ _ (cS _ sC) e', r⟩
    · obtain rfl : i = xs.length := Nat.le_antisymm hi (Nat.not_lt.mp hlt')
      refine W.done _ _ _ hst' fun h3 tk3 hk3 => ?_
      have hn3 : h3.Ns H2.objs.size mC := by obtain ⟨o, es, ep, e, r⟩ := hn'; exact ⟨o, es, ep, hk3 _ _ wrC e, r⟩
      refine ⟨mC, hn3, fun h4 hs4 => ?_⟩
      have k4 : ∀ b o, b ∉ wr → b ≠ H2.objs.size → h'.get? b = some o → h4.get? b = some o := fun b o hb hc e => hs4.extBut b o hc (hk3 b o hb e)
      have wS : ∀ a o, s.heap.get? a = some o → a ∉ wr ∧ a ≠ H2.objs.size := fun a o e => ⟨fun hm => (by rw [hnew a hm] at e; cases e), fun z => (by rw [z, sC] at e; cases e)⟩
      refine q (.ref h2.objs.size) (Add K1 h2.objs.size (listOf #[] 0)) h4 _ ⟨fun a o hc e => k4 a o (wS a o e).1 (wS a o e).2 (t1.ext a o hc e), fun a o e => .inl (t1.sub a o e), fun a o e => ?_, fun a o e => ?_, fun a o e => ?_,
        md.keep _ _ (fun a ha o e => by obtain ⟨o', e'⟩ := hereS a ha; exact k4 a o (wS a o' e').1 (wS a o' e').2 e) t1.inv⟩ ⟨_, _, [], rfl, .inr ⟨rfl, rfl⟩, .nil⟩
      · rcases e with e | ⟨rfl, rfl⟩
        · exact k4 a o (hap a o e).1 (hap a o e).2.2 (t1.known a o e)
        · exact k4 _ _ wrD hDC hD'
      · rcases e with e | ⟨rfl, rfl⟩
        · exact t1.off a o e
        · exact cS _ sD
      · rcases e with e | ⟨rfl, rfl⟩
        · exact t1.fresh a o e
        · exact .inr sD
  exact codeAny_compStart_list (loop _ rfl) (hself 0 _ _ _ hst₁ (loop _ rfl))
end
end Mine

-- Core11
namespace Mine

section
variable {prog : Program} {w : World} {Kf : Frag} {mg mb : Str → Option Value} {n : Nat} {md : Mode} {env : Env} {m : Str → Option Value} {K : Kn}

/-! ### lo <= x < hi, as a test -/
theorem Tst.chain2 {o1 o2 : CmpOp} {l r1 r2 : Expr} {pos : Pos} {T1 T2 T3 : Ty} {b1 b2 : Bool} (h1 : Ev prog w Kf mg mb n md env m K l (fun v K => Has K T1 v)) (h2 : Ev prog w Kf mg mb n md env m K r1 (fun v K => Has K T2 v))
    (h3 : Ev prog w Kf mg mb n md env m K r2 (fun v K => Has K T3 v))
    (op1 : ∀ v1 v2 K', Has K' T1 v1 → Has K' T2 v2 → Op prog w Kf mg mb n md K' (compareOp o1 v1 v2) (fun v K => Has K (.val (.bool b1)) v))
    (op2 : ∀ v1 v2 K', Has K' T2 v1 → Has K' T3 v2 → Op prog w Kf mg mb n md K' (compareOp o2 v1 v2) (fun v K => Has K (.val (.bool b2)) v))
    (hm : lastMarks [o1, o2] [r1, r2] = false) : Tst prog w Kf mg mb n md env m K (.Compare l [o1, o2] [r1, r2] pos) (b1 && b2) :=
  fun A s Q E ok cx q => .mk <| isTrue_chain (Wp.h <| h1 A s _ E ok cx fun v1 K1 h1' tk1 t1 p1 => test_link (Wp.h <| h2 A _ _ E ok ((cx.step t1).down t1.sub) fun v2 K2 h2' tk2 t2 p2 => by
    have t3 : Step md K1 h1' (Both K1 K2) h2' := t2.both t1.sub t1.known t1.off
    have t4 := t1.trans t3
    refine Wp.h <| op1 v1 v2 (Both K1 K2) (p1.mono fun _ _ => .inl) (p2.mono fun _ _ => .inr) A _ _ E ok (cx.step t4).g (cx.step t4).st fun v K3 h3' tk3 t5 p => ?_
    obtain rfl : v = .bool b1 := p
    have t6 := t4.trans t5
    refine wpAny_truthy_bool ?_
    cases b1 with
    | false => exact q K3 h3' tk3 t6
    | true =>
      refine test_last (Wp.h <| h3 A _ _ E ok ((cx.step t6).down t6.sub) fun v3 K4 h4' tk4 t7 p3 => ?_)
      have t8 := t6.trans (t7.both t6.sub t6.known t6.off)
      refine Wp.h <| op2 v2 v3 (Both K3 K4) (p2.mono fun a o e => .inl (t5.sub a o (.inr e))) (p3.mono fun _ _ => .inr) A _ _ E ok (cx.step t8).g (cx.step t8).st fun v K5 h5' tk5 t9 p => ?_
      obtain rfl : v = .bool b2 := p
      exact wpAny_truthy_bool (q K5 h5' tk5 (t8.trans t9)))) hm
end

/-! ### several names at once -/
section
variable {prog : Program} {w : World} {Kf : Frag} {mg mb : Str → Option Value} {n : Nat} {md : Mode} {fd : FuncData} {f L : Addr} {m : Str → Option Value} {K : Kn} {J : JT}

inductive StoreFns (M : Model) (env : Env) : List (Value → Sem Unit) → List Str → Prop
  | nil : StoreFns M env [] []
  | cons {t x ts xs} : (∀ (A : Around) (v : Value) (Q : Unit → Shared → Prop) (E : Value → Shared → Prop) (s : Shared), wpAny M A (storeName env x v) Q E s → wpAny M A (t v) Q E s) → StoreFns M env ts xs → StoreFns M env (t :: ts) (x :: xs)
theorem storeFns_bind {M : Model} {env : Env} : ∀ names : List Str, StoreFns M env (names.map fun x => bindName env x) names
  | [] => .nil
  | x :: r => .cons (fun _ _ _ _ _ h => wpAny_bindName h) (storeFns_bind r)

theorem stores_run {A : Around} : ∀ {names : List Str} {ts : List (Value → Sem Unit)} {vals : List Value} {m : Str → Option Value} {s : Shared} {Q : Unit → Shared → Prop} {E : Value → Shared → Prop}, FX Kf mg mb md fd L K m s.heap →
    StoreFns (model prog w) (callEnvC fd L f) ts names → names.length = vals.length → (∀ x ∈ names, storesB fd.scope x = true) →
    (∀ h' tk, FX Kf mg mb md fd L K (updAll m (names.zip vals)) h' → StepX md fd L K s.heap K h' → Q () { s with heap := h', toks := tk }) → wpAny (model prog w) A (assignInOrder ts vals) Q E s
  | _, _, [], m, s, Q, E, X, .nil, _, _, q => wpAny_pure (q s.heap s.toks X .refl)
  | _, _, v :: vals, m, s, Q, E, X, @StoreFns.cons _ _ t x ts xs ht hr, hlen, hst, q => by
    show wpAny _ _ (do holding vals (t v); assignInOrder ts vals) _ _ _
    refine wpAny_bind (wpAny_holding (ht A v _ E s ?_))
    have hx : Stores fd x := hst x List.mem_cons_self
    refine X.store (hx.at L) hx.db fun h1 tk1 X1 t1 => ?_
    exact stores_run (s := { s with heap := h1, toks := tk1 }) X1 hr (by simpa using hlen) (fun y hy => hst y (List.mem_cons_of_mem _ hy)) fun h2 tk2 X2 t2 => q h2 tk2 X2 (t1.trans t2 X2)

theorem unpack_run {A : Around} {s : Shared} {Q : List Value → Shared → Prop} {E : Value → Shared → Prop} {a : Addr} {vs : List Value} {k : Nat} {c : Nat} (X : FX Kf mg mb md fd L K m s.heap) (hh : A.handled = none) (ha : K a (tupOf vs k)) (hc : c = vs.length)
    (q : ∀ h', FX Kf mg mb md fd L K m h' → StepX md fd L K s.heap K h' → Q vs { s with heap := h' }) : wpAny (model prog w) A (unpackItems (.ref a) c none) Q E s := by
  subst hc
  refine unpackItems_tuple (items := vs.toArray) hh ⟨_, X.known _ _ ha, rfl, _, rfl⟩ fun h' he => ?_
  have st := step_full (X.cx (f := 0)).st (h' := h') fun b o e => he b o (Nat.ne_of_lt (Heap.lt_size e)) e
  have := q h' (X.step st) (.of st)
  simpa using this

/-- a, b = .. of a tuple, name by name from the left -/
theorem Run.assignTup {elts : List Expr} {k : Nat} {tpos pos : Pos} {value : Expr} {rest : List Stmt} {names : List Str} {Ts : List Ty} (h : EvF prog w Kf mg mb n md fd f K m value (fun v K => IsTupOf K Ts v))
    (hn : names.length = Ts.length) (hst : names.all (storesB fd.scope) = true)
    (hfn : ∀ L, StoreFns (model prog w) (callEnvC fd L f) ((assignEach elts (callEnvC fd L f)).map (·.2)) names)
    (hr : ∀ vals K', (∀ a o, K a o → K' a o) → HasAll K' Ts vals → Run prog w Kf mg mb n md fd f K' (updAll m (names.zip vals)) rest J)
    (hs : ∀ L, swapsWithSole [.Tuple elts k tpos] value pos.line (callEnvC fd L f) = pure false := by intro _; rfl)
    (hw : ∀ L, swappedStores [.Tuple elts k tpos] value (callEnvC fd L f) = pure none := by intro _; rfl)
    (hel : ∀ L, (assignEach elts (callEnvC fd L f)).length = names.length := by intro _; rfl) (hstar : ∀ L, (assignEach elts (callEnvC fd L f)).findIdx? (·.1) = none := by intro _; rfl) : Run prog w Kf mg mb n md fd f K m (.Assign [.Tuple elts k tpos] value pos :: rest) J :=
  fun A L s Q E ok X q => .mk <| wpAny_execs_cons (Assign_Tuple (Wp.h <| h L A s _ E ok X.cx fun v K1 h1' tk1 t1 p => by
    obtain ⟨a, j, vals, rfl, ha, hT⟩ := p
    have X1 := X.step t1
    refine wpAny_assign_Tuple (items := vals.toArray) (s := { s with heap := h1', toks := tk1 }) ok.hh ⟨_, X1.known _ _ ha, rfl, _, rfl⟩ (by rw [hel, hn, List.size_toArray]; exact hT.length) (hstar L) fun h2 he => ?_
    have st2 := step_full (X1.cx (f := f)).st (h' := h2) fun b o e => he b o (Nat.ne_of_lt (Heap.lt_size e)) e
    have X2 := X1.step st2
    have t2 : StepX md fd L K1 h1' K1 h2 := .of st2
    rw [List.toList_toArray]
    refine stores_run (s := { s with heap := h2, toks := tk1 }) X2 (hfn L) (by rw [hn]; exact hT.length) (fun x hx => List.all_eq_true.mp hst x hx) fun h3 tk3 X3 t3 => ?_
    exact Wp.h <| hr vals K1 t1.sub hT A L _ _ E ok X3 fun fl K4 m4 h4' tk4 t4 X4 j4 => q fl K4 m4 h4' tk4 ((((StepX.of t1).trans t2 X2).trans t3 X3).trans t4 X4) X4 j4) (hs L) (hw L))

/-- a, b = .. the same, name by name from the right -/
theorem Run.assignSwp {elts : List Expr} {k : Nat} {tpos pos : Pos} {value : Expr} {rest : List Stmt} {names : List Str} {Ts : List Ty} (h : EvF prog w Kf mg mb n md fd f K m value (fun v K => IsTupOf K Ts v))
    (hn : names.length = Ts.length) (hst : names.all (storesB fd.scope) = true)
    (hr : ∀ vals K', (∀ a o, K a o → K' a o) → HasAll K' Ts vals → Run prog w Kf mg mb n md fd f K' (updAll m (names.reverse.zip vals.reverse)) rest J)
    (hs : ∀ L, swapsWithSole [.Tuple elts k tpos] value pos.line (callEnvC fd L f) = pure false := by intro _; rfl)
    (hw : ∀ L, swappedStores [.Tuple elts k tpos] value (callEnvC fd L f) = pure (some names) := by intro _; rfl) : Run prog w Kf mg mb n md fd f K m (.Assign [.Tuple elts k tpos] value pos :: rest) J :=
  fun A L s Q E ok X q => .mk <| wpAny_execs_cons (Assign_Tuple_swapped (names := names) (Wp.h <| h L A s _ E ok X.cx fun v K1 h1' tk1 t1 p => by
    obtain ⟨a, j, vals, rfl, ha, hT⟩ := p
    have X1 := X.step t1
    refine unpack_run (s := { s with heap := h1', toks := tk1 }) X1 ok.hh ha (by rw [hn]; exact hT.length) fun h2 X2 t2 => ?_
    refine stores_run (s := { s with heap := h2, toks := tk1 }) X2 (storeFns_bind names.reverse) (by rw [List.length_reverse, List.length_reverse, hn]; exact hT.length) (fun x hx => List.all_eq_true.mp hst x (List.mem_reverse.mp hx)) fun h3 tk3 X3 t3 => ?_
    exact Wp.h <| hr vals K1 t1.sub hT A L _ _ E ok X3 fun fl K4 m4 h4' tk4 t4 X4 j4 => q fl K4 m4 h4' tk4 ((((StepX.of t1).trans t2 X2).trans t3 X3).trans t4 X4) X4 j4) (hs L) (hw L))
end
end Mine

-- Core12
namespace Mine

section
variable {prog : Program} {w : World} {Kf : Frag} {mg mb : Str → Option Value} {n : Nat} {md : Mode} {env : Env} {m : Str → Option Value} {K : Kn}

/-! ### a dict of rows by names -/
noncomputable def IsTab (prog : Program) (w : World) (K : Kn) (D : List (Str × List Int)) (v : Value) : Prop :=
  ∃ d o kvs, v = .ref d ∧ K d o ∧ (∀ h : Heap, h.get? d = some o → h.DictOf (PySem.strKind prog w) d kvs) ∧ (d == sysModules) = false ∧ Each (fun (p : Str × List Int) (q : Str × Value) => p.1 = q.1 ∧ HasInts K p.2 q.2) D kvs
theorem IsTab.mono {K K' : Kn} {D : List (Str × List Int)} {v : Value} (hk : ∀ a o, K a o → K' a o) (h : IsTab prog w K D v) : IsTab prog w K' D v :=
  let ⟨d, o, kvs, e, k, x, y, z⟩ := h
  ⟨d, o, kvs, e, hk _ _ k, x, y, z.imp fun _ _ q => ⟨q.1, q.2.mono hk⟩⟩
theorem mono_tab (D : List (Str × List Int)) : Mono (fun v K => IsTab prog w K D v) := fun _ _ _ h x => x.mono h

noncomputable abbrev PairsHave (K : Kn) (D : List (Str × List Int)) (vs : List (Value × Value)) : Prop := Each (fun (p : Str × List Int) (q : Value × Value) => Has K (.str p.1) q.1 ∧ HasInts K p.2 q.2) D vs
noncomputable def EvTab (prog : Program) (w : World) (Kf : Frag) (mg mb : Str → Option Value) (n : Nat) (md : Mode) (env : Env) (m : Str → Option Value) (K : Kn) (keys : List (Option Expr)) (values : List Expr) (D : List (Str × List Int)) : Prop :=
  ∀ (A : Around) (s : Shared) (pos : Pos) (Q : List (Value × Value) → Shared → Prop) (E : Value → Shared → Prop), Ok n A → Cx Kf mg mb md env m K s.heap →
    (∀ vs K' h' tk, Step md K s.heap K' h' → PairsHave K' D vs → Q vs { s with heap := h', toks := tk }) → Wp (wpAny (model prog w) A (evalPairs (pairTrees keys values env pos)) Q E s)
theorem EvTab.nil : EvTab prog w Kf mg mb n md env m K [] [] [] := fun _ s _ _ _ _ cx q => .mk <| pairTrees_nil_walk (q [] K s.heap s.toks cx.st .nil)
theorem EvTab.cons {k v : Expr} {ks : List (Option Expr)} {vs : List Expr} {x : Str} {xs : List Int} {D : List (Str × List Int)} (h1 : Ev prog w Kf mg mb n md env m K k (fun v K => Has K (.str x) v)) (h2 : Ev prog w Kf mg mb n md env m K v (fun v K => Has K (.ints xs) v))
    (h3 : EvTab prog w Kf mg mb n md env m K ks vs D) : EvTab prog w Kf mg mb n md env m K (some k :: ks) (v :: vs) ((x, xs) :: D) :=
  fun A s pos Q E ok cx q => .mk <| pairTrees_cons_walk (Wp.h <| h1 A s _ E ok cx fun v1 K1 h1' tk1 t1 p1 => Wp.h <| h2 A _ _ E ok ((cx.step t1).down t1.sub) fun v2 K2 h2' tk2 t2 p2 => by
    have t3 := t1.trans (t2.both t1.sub t1.known t1.off)
    refine Wp.h <| h3 A _ pos _ E ok ((cx.step t3).down t3.sub) fun r K3 h3' tk3 t4 p3 => ?_
    have t5 := t3.trans (t4.both t3.sub t3.known t3.off)
    exact q _ _ _ tk3 t5 (.cons ⟨p1.mono fun a o e => .inl (.inl e), HasInts.mono (fun a o e => .inl (.inr e)) p2⟩ (p3.imp fun _ _ z => ⟨z.1.mono fun _ _ e => .inr e, z.2.mono fun _ _ e => .inr e⟩)))

theorem pairs_carry {K : Kn} : ∀ {D : List (Str × List Int)} {vs : List (Value × Value)}, PairsHave K D vs → ∃ kvs, Carries (PySem.strKind prog w) vs kvs ∧ kvs.map (·.1) = D.map (·.1) ∧ Each (fun (p : Str × List Int) (q : Str × Value) => p.1 = q.1 ∧ HasInts K p.2 q.2) D kvs
  | _, _, .nil => ⟨[], trivial, rfl, .nil⟩
  | (x, xs) :: D, (kv, vv) :: vs, .cons ⟨h1, h2⟩ r => by
    obtain ⟨kvs, c, e, y⟩ := pairs_carry r
    obtain ⟨t, rfl⟩ := h1
    exact ⟨(x, vv) :: kvs, ⟨strKind_is prog w x t, rfl, c⟩, by rw [List.map_cons, List.map_cons, e], .cons ⟨rfl, h2⟩ y⟩

theorem big {K : Kn} {h : Heap} (cx : Cx Kf mg mb md env m K h) : (h.objs.size == sysModules) = false := by
  obtain ⟨o, es, ep, e, _⟩ := cx.g.ns
  have h1 := Heap.lt_size e
  have h2 : sysModules ≤ mainGlobals := by decide
  have h3 : h.objs.size ≠ sysModules := Nat.ne_of_gt (Nat.lt_of_le_of_lt h2 h1)
  simpa using h3

theorem Ev.dict {keys : List (Option Expr)} {values : List Expr} {pos : Pos} {D : List (Str × List Int)} (h : EvTab prog w Kf mg mb n md env m K keys values D) (hnd : (D.map (·.1)).Nodup)
    (hall : keys.all (·.isSome) = true) (hl : keys.length = values.length) (h0 : keys ≠ []) (hlen : keys.length ≤ 15) : Ev prog w Kf mg mb n md env m K (.Dict keys values pos) (fun v K => IsTab prog w K D v) := by
  intro A s Q E ok cx q
  refine Wp.mk ?_
  refine wpAny_Dict_walk (knd := PySem.strKind prog w) hall hl h0 hlen ?_
  have st0 : Step md K s.heap K (s.heap.push { cls := .type "dict", data := .dict #[] }) := step_full cx.st fun _ _ e => Heap.get?_push_of_some _ e
  have hD0 : (s.heap.push { cls := .type "dict", data := .dict #[] }).get? s.heap.objs.size = some { cls := .type "dict", data := .dict #[] } := Heap.get?_push_size _ rfl
  have hDn : s.heap.get? s.heap.objs.size = none := new_back cx.st (Nat.le_refl _)
  have hDc : md.c ≠ some s.heap.objs.size := fun hc => by obtain ⟨o, e⟩ := md.here _ cx.inv _ (md.sub _ hc); rw [hDn] at e; cases e
  have hDf : s.heap.objs.size ∉ md.foot := fun hm => by obtain ⟨o, e⟩ := md.here _ cx.inv _ hm; rw [hDn] at e; cases e
  refine Wp.h <| h A _ pos _ E ok (cx.step st0) fun vs K1 h1 tk1 t1 p1 => ?_
  obtain ⟨kvs, hc, hk, hE⟩ := pairs_carry (prog := prog) (w := w) p1
  have hD1 : h1.get? s.heap.objs.size = some { cls := .type "dict", data := .dict #[] } := t1.ext _ _ hDc hD0
  refine ⟨kvs, hc, ⟨_, _, _, hD1, ⟨rfl, rfl, rfl⟩, rfl, by intro e he; simp at he, .nil, .nil⟩, fun h' hd hs => ?_⟩
  rw [merged_nil_of_nodup kvs (by rw [hk]; exact hnd)] at hd
  obtain ⟨o, es, ep, e, x1, x2, x3, x4, x5⟩ := hd
  have ne1 : ∀ a p, K1 a p → a ≠ s.heap.objs.size := fun a p e z => by
    rcases t1.fresh a p e with e1 | e1
    · have := cx.known a p e1; rw [z, hDn] at this; cases this
    · rw [z] at e1; have e1' : (s.heap.push { cls := .type "dict", data := .dict #[] }).get? s.heap.objs.size = none := e1; rw [hD0] at e1'; cases e1'
  have k1 : ∀ a p, a ≠ s.heap.objs.size → h1.get? a = some p → h'.get? a = some p := fun a p hne e => hs.extBut a p hne e
  refine q _ (Add K1 s.heap.objs.size o) h' _ ⟨fun a p hc e => ?_, fun a p e => .inl (t1.sub a p e), fun a p e => ?_, fun a p e => ?_, fun a p e => ?_, md.keep _ _ (fun a ha p e => k1 a p (fun z => hDf (z ▸ ha)) e) t1.inv⟩
    ⟨_, o, kvs, rfl, .inr ⟨rfl, rfl⟩, fun h e => ⟨o, es, ep, e, x1, x2, x3, x4, x5⟩, big cx, hE.imp fun _ _ z => ⟨z.1, z.2.mono fun _ _ => .inl⟩⟩
  · exact k1 a p (fun z => by rw [z, hDn] at e; cases e) (t1.ext a p hc (Heap.get?_push_of_some _ e))
  · rcases e with e | ⟨rfl, rfl⟩
    · exact k1 a p (ne1 a p e) (t1.known a p e)
    · assumption
  · rcases e with e | ⟨rfl, rfl⟩
    · exact t1.off a p e
    · exact hDc
  · rcases e with e | ⟨rfl, rfl⟩
    · rcases t1.fresh a p e with e1 | e1
      · exact .inl e1
      · right
        cases qq : s.heap.get? a with
        | none => rfl
        | some o' => have e2 := Heap.get?_push_of_some ({ cls := .type "dict", data := .dict #[] } : Obj) qq; have e1' : (s.heap.push { cls := .type "dict", data := .dict #[] }).get? a = none := e1; rw [e1'] at e2; cases e2
    · exact .inr hDn

theorem Each.find {K : Kn} {x : Str} {xs : List Int} : ∀ {D : List (Str × List Int)} {kvs : List (Str × Value)}, Each (fun (p : Str × List Int) (q : Str × Value) => p.1 = q.1 ∧ HasInts K p.2 q.2) D kvs → D.lookup x = some xs → ∃ v, valueAt kvs x = some v ∧ HasInts K xs v
  | _, _, .nil, e => by cases e
  | (y, ys) :: D, (k, v) :: kvs, .cons ⟨h1, h2⟩ r, e => by
    have h1' : y = k := h1
    subst h1'
    by_cases hx : x = y
    · subst hx
      rw [List.lookup_cons_self] at e
      cases e
      exact ⟨v, by simp [valueAt], h2⟩
    · have hxy : (x == y) = false := by simpa using hx
      rw [List.lookup_cons, hxy] at e
      obtain ⟨u, hu, hv⟩ := Each.find r e
      refine ⟨u, ?_, hv⟩
      unfold valueAt at hu ⊢
      have hyx : ¬ (y = x) := fun z => hx z.symm
      rw [List.find?_cons]
      simpa [hyx] using hu
theorem get_tab {D : List (Str × List Int)} {x : Str} {xs : List Int} {v i : Value} (hx : D.lookup x = some xs) (p1 : IsTab prog w K D v) (p2 : Has K (.str x) i) : GetOp prog w Kf mg mb n md K v i (fun v K => Has K (.ints xs) v) := by
  obtain ⟨d, o, kvs, rfl, hd, hDO, hs, hE⟩ := p1
  obtain ⟨t, rfl⟩ := p2
  obtain ⟨u, hu, hv⟩ := hE.find hx
  refine ⟨"dict", _, fun s hk => (hDO s.heap (hk _ _ hd)).typeIs, slot_dict_getitem.lookup, fun A s Q E ok g st q => .mk <| ?_⟩
  exact wpAny_getItem_of (knd := PySem.strKind prog w) (strKind_is prog w x t) (hDO s.heap (st.known _ _ hd)).mapOf hu (q u K s.heap _ st hv)

theorem Iter.dict {x : Str} {px : Pos} {iter : Expr} {D : List (Str × List Int)} (h : Ev prog w Kf mg mb n md env m K iter (fun v K' => IsTab prog w K' D v)) : Iter prog w Kf mg mb n md env m K (.Name x px) iter (D.map fun p => .one (.str p.1)) :=
  fun A s Q E ok cx q => .mk <| Wp.h <| h A s _ E ok cx fun v K1 h1 tk1 t1 p1 => by
    obtain ⟨d, o, kvs, rfl, hd, hDO, hs, hE⟩ := p1
    have hdo := hDO h1 (t1.known _ _ hd)
    obtain ⟨ep, hat⟩ := hdo.dictAt
    refine wpAny_pyIter_dict hs hat ?_
    have x1 := (cx.step t1).st
    have halt : d < h1.objs.size := Heap.lt_size (t1.known _ _ hd)
    have hlen : (D.map fun p => Item.one (.str p.1)).length = kvs.length := by rw [List.length_map]; exact hE.length
    have W := Walks.dictKeys (knd := PySem.strKind prog w) (prog := prog) (w := w) (A := A) ok.hh h1.objs.size d (Nat.ne_of_lt halt) kvs ep
    rw [← hlen] at W
    have KT := KTurns.ofWalks (target := Expr.Name x px) W fun _ _ _ _ _ _ hq => go_name hq
    refine q h1.objs.size K1 _ tk1 (t1.trans (step_full x1 fun _ _ e => Heap.get?_push_of_some _ e)) ⟨_, _, _, _, _, KT, ?_, ?_, ?_, ?_, ?_, ?_, ?_, ?_⟩
    · exact ⟨⟨_, Heap.get?_push_size _ rfl, rfl, by rw [hlen]; rfl⟩, hat.push _⟩
    · exact fun i s Q E st hq => wpAny_pyIter_keyiter st.1 hq
    · intro i h st b hb
      rw [List.mem_singleton.mp hb]
      obtain ⟨o, e, _⟩ := st.1
      exact ⟨o, e⟩
    · intro b hb
      rw [List.mem_singleton.mp hb]
      exact new_back t1 (Nat.le_refl _)
    · intro b hb
      rw [List.mem_singleton.mp hb]
      exact not_known_new t1.known (Nat.le_refl _)
    · intro b hb
      rcases List.mem_cons.mp hb with rfl | hb
      · exact .inl (new_back t1 (Nat.le_refl _))
      · rw [List.mem_singleton.mp hb]; exact .inr ⟨_, hd⟩
    · intro b hb
      rw [Heap.size_push]
      rcases List.mem_cons.mp hb with rfl | hb
      · exact Nat.lt_succ_self _
      · rw [List.mem_singleton.mp hb]; exact Nat.lt_succ_of_lt halt
    · rintro i v h it hit ⟨k, xv, hx, hkey⟩
      rw [List.getElem?_map] at hit
      obtain ⟨p, hp, rfl⟩ := Option.map_eq_some_iff.mp hit
      obtain ⟨t, rfl⟩ := Value.isStrOf_shape hkey
      have := hE.get hp hx
      exact ⟨t, by rw [this.1]⟩

/-! ### a method of a made object, from its class -/
structure IsInst (K : Kn) (C : Addr) (name : Str) (x : Addr) : Prop where
  ex : ∃ ox dx od, K x ox ∧ ox.cls = .ref C ∧ notCls ox = true ∧ ox.dict = some dx ∧ K dx od ∧ shadowIn (some od) name = some false
theorem IsInst.mono {K K' : Kn} {C : Addr} {name : Str} {x : Addr} (hk : ∀ a o, K a o → K' a o) (h : IsInst K C name x) : IsInst K' C name x :=
  let ⟨ox, dx, od, a, b, c, d, e, f⟩ := h.ex; ⟨ox, dx, od, hk _ _ a, b, c, d, hk _ _ e, f⟩
theorem Ev.meth {o : Expr} {name : Str} {apos pos : Pos} {e : Expr} {es : List Expr} {C x f : Addr} {pl : Sem Bool} {Ts : List Ty} {P : Value → Kn → Prop} (h1 : Ev prog w Kf mg mb n md env m K o (fun v _ => v = .ref x)) (I : IsInst K C name x)
    (hg : plainGet Kf C name = true) (hf : findIn Kf (.ref C) name = some (some (.ref f))) (ht : isFn Kf (.ref f) = true) (hk : keepIn Kf (.ref f) = true)
    (ha : Evs prog w Kf mg mb n md env m K (e :: es) (fun vs K => HasAll K Ts vs))
    (hop : ∀ vs K', (∀ a o, K a o → K' a o) → HasAll K' Ts vs → Op prog w Kf mg mb n md K' (PySem.call (.ref f) (.ref x :: vs)) P)
    (he : starEach (e :: es) env = (false, eval e env) :: starEach es env := by rfl) (hplain : ∀ pos, (backTo pos (starEach es env)).any (·.1) = false := by intro _; rfl)
    (hcall : eval (.Call (.Attribute o name apos) (e :: es) [] pos) env = (do
      let ov ← eval o env
      standAt apos.atName
      let (f, first) ← holding [ov] (getMethod ov name pl)
      callWith pos f first (backTo pos (starEach (e :: es) env)) []) := by rfl) :
    Ev prog w Kf mg mb n md env m K (.Call (.Attribute o name apos) (e :: es) [] pos) P :=
  fun A s Q E ok cx q => .mk <| PyProof.Rows.MethodCall_ (Wp.h <| h1 A s _ E ok cx fun v1 K1 h1' tk1 t1 p1 => by
    obtain rfl := p1
    obtain ⟨ox, dx, od, a1, a2, a3, a4, a5, a6⟩ := (I.mono t1.sub).ex
    have g1 := (cx.step t1).g
    refine method_fn (C := C) (ox := ox) (od := some od) (f := f) g1.kin ⟨t1.known _ _ a1, a2, a3, by rw [a4]; exact t1.known _ _ a5⟩ (plainGet_of hg).1 (plainGet_of hg).2 hf (beq_iff_eq.mp ht) a6 ?_
    refine callWith_K (K := Kf) g1.kin hk (Wp.h <| ha A _ _ _ E ok ((cx.step t1).down t1.sub) fun vs K2 h2 tk2 t2 p2 => ?_) he (hplain pos)
    have t4 := t1.trans (t2.both t1.sub t1.known t1.off)
    exact ⟨(cx.step t4).g.kin, Wp.h <| hop vs (Both K1 K2) t4.sub (HasAll.mono (fun _ _ => .inr) p2) A _ _ E ok (cx.step t4).g (cx.step t4).st fun v K' h' tk t p => q v K' h' tk (t4.trans t) p⟩) hcall
end
end Mine

-- Core13
namespace Mine

section
variable {prog : Program} {w : World} {Kf : Frag} {mg mb : Str → Option Value} {n : Nat} {md : Mode} {env : Env} {m : Str → Option Value} {K : Kn} {fd : FuncData} {f L : Addr}

/-- what changes nothing changes nothing beside a mutable object either -/
theorem Op.lift {t : Sem Value} {P : Value → Kn → Prop} (h : Op prog w Kf mg mb n quiet K t P) : Op prog w Kf mg mb n md K t P :=
  fun A s Q E ok g x q => .mk <| Wp.h <| h A s Q E ok (g.weak fun _ e => nomatch e) ⟨fun _ _ _ e => e, fun _ _ e => e, x.known, fun _ _ _ e => (nomatch e), fun _ _ e => .inl e, trivial⟩ fun v K' h' tk t p => by
    have ext : ∀ a o, s.heap.get? a = some o → h'.get? a = some o := fun a o e => t.ext a o (fun e => nomatch e) e
    refine q v K' h' tk ⟨fun a o _ e => ext a o e, t.sub, t.known, fun a o e hc => ?_, t.fresh, md.keep _ _ (fun a _ o e => ext a o e) x.inv⟩ p
    rcases t.fresh a o e with e1 | e1
    · exact x.off a o e1 hc
    · obtain ⟨o', e'⟩ := md.here _ x.inv a (md.sub a hc)
      rw [e1] at e'; cases e'

/-- one list of ints that grows -/
noncomputable def lm (a : Addr) (ns : List Int) : Mode where
  c := some a
  foot := [a]
  I := fun h => ∃ vs k, h.get? a = some (listOf vs.toArray k) ∧ IntsAre vs ns
  keep := fun h h' hk hI => by
    obtain ⟨vs, k, e, i⟩ := hI
    exact ⟨vs, k, hk a (List.mem_singleton.mpr rfl) _ e, i⟩
  here := fun h ⟨vs, k, e, i⟩ b hb => by rw [List.mem_singleton.mp hb]; exact ⟨_, e⟩
  sub := fun b hb => by injection hb with hb; rw [hb]; exact List.mem_singleton.mpr rfl

noncomputable abbrev JL := Flow → Kn → (Str → Option Value) → List Int → Prop
noncomputable def RunM (prog : Program) (w : World) (Kf : Frag) (mg mb : Str → Option Value) (n : Nat) (a : Addr) (ns : List Int) (fd : FuncData) (f : Addr) (K : Kn) (m : Str → Option Value) (st : List Stmt) (J : JL) : Prop :=
  ∀ (A : Around) (L : Addr) (s : Shared) (Q : Flow → Shared → Prop) (E : Value → Shared → Prop), Ok n A → FX Kf mg mb (lm a ns) fd L K m s.heap →
    (∀ fl K' m' ns' h' tk, StepX (lm a ns) fd L K s.heap K' h' → FX Kf mg mb (lm a ns') fd L K' m' h' → J fl K' m' ns' → Q fl { s with heap := h', toks := tk }) → Wp (wpAny (model prog w) A (execs st (callEnvC fd L f)) Q E s)

theorem Run.newList {x : Str} {xp pos lp : Pos} {rest : List Stmt} {JJ : Addr → JL} (hx : Stores fd x) (h : ∀ a, RunM prog w Kf mg mb n a [] fd f K (upd m x (.ref a)) rest (JJ a))
    (hs : ∀ L, swapsWith (.List [] lp) (some (.Name x xp)) pos.line (callEnvC fd L f) = pure false := by intro _; rfl) : Run prog w Kf mg mb n quiet fd f K m (.Assign [.Name x xp] (.List [] lp) pos :: rest) (fun fl K' m' => ∃ a vs k ns K1, (K' = Add K1 a (listOf vs.toArray k)) ∧ IntsAre vs ns ∧ (∀ b o, K b o → K1 b o) ∧ JJ a fl K1 m' ns) := by
  intro A L s Q E ok X q
  refine Wp.mk ?_
  refine wpAny_execs_cons (wpAny_Assign_Name (wpAny_List (wpAny_items_nil ⟨Nat.zero_le _, ?_⟩)) (hs L))
  have hnone : s.heap.get? s.heap.objs.size = none := new_back (X.cx (f := f)).st (Nat.le_refl _)
  have hnew : (s.heap.push (listOf #[] 0)).get? s.heap.objs.size = some (listOf #[] 0) := Heap.get?_push_size _ rfl
  have old : ∀ b o, s.heap.get? b = some o → (s.heap.push (listOf #[] 0)).get? b = some o := fun b o e => Heap.get?_push_of_some _ e
  have hL : ∃ o, s.heap.get? L = some o := by obtain ⟨lm, cm, ⟨o, es, ep, e, r⟩, _⟩ := X.fr; exact ⟨o, e⟩
  have hC : ∀ a, IsCellAt fd L a → ∃ o, s.heap.get? a = some o := fun a ⟨k, hk⟩ => by obtain ⟨lm, cm, _, hc, _⟩ := X.fr; obtain ⟨o, e, _⟩ := hc k a hk; exact ⟨o, e⟩
  have X1 : FX Kf mg mb (lm s.heap.objs.size []) fd L K m (s.heap.push (listOf #[] 0)) := by
    refine ⟨?_, ?_, X.apart, X.above, fun a o e => old a o (X.known a o e), fun a o e hc => ?_, X.offL, fun a ha => ?_, ⟨[], 0, hnew, .nil⟩, X.eg, X.eb, X.ek⟩
    · obtain ⟨b, h0, hb, hk⟩ := X.g
      refine ⟨b, h0, fun a ha => ?_, fun a o e => old a o (hk a o e)⟩
      rcases ha with ha | ha
      · injection ha with ha
        subst ha
        cases qq : b.get? s.heap.objs.size with
        | none => rfl
        | some o => have := hk _ _ qq; rw [hnone] at this; cases this
      · exact hb a (.inr ha)
    · obtain ⟨lm', cm, hn, hc, hm⟩ := X.fr
      refine ⟨lm', cm, ?_, fun k c hk => ?_, hm⟩
      · obtain ⟨o, es, ep, e, r⟩ := hn
        exact ⟨o, es, ep, old _ _ e, r⟩
      · obtain ⟨o, e, r⟩ := hc k c hk
        exact ⟨o, old _ _ e, r⟩
    · injection hc with hc
      subst hc
      have := X.known _ _ e
      rw [hnone] at this; cases this
    · rw [List.mem_singleton.mp ha]
      refine ⟨fun z => ?_, fun z => ?_⟩
      · obtain ⟨o, e⟩ := hL; rw [← z, hnone] at e; cases e
      · obtain ⟨o, e⟩ := hC _ z; rw [hnone] at e; cases e
  refine X1.store (hx.at L) hx.db fun h2 tk2 X2 t2 => ?_
  refine Wp.h <| h s.heap.objs.size A L { s with heap := h2, toks := tk2 } _ _ ok X2 fun fl K' m' ns h' tk t X' j => ?_
  obtain ⟨vs, k, hv, hi⟩ := X'.inv
  have hcn : ∀ b, (lm s.heap.objs.size ([] : List Int)).c ≠ some b ↔ b ≠ s.heap.objs.size := fun b => ⟨fun hc z => hc (by rw [z]; rfl), fun hc z => by injection z with z; exact hc z.symm⟩
  have offA : ∀ b o, K' b o → b ≠ s.heap.objs.size := fun b o e z => X'.off b o e (by rw [z]; rfl)
  refine q fl (Add K' s.heap.objs.size (listOf vs.toArray k)) m' h' tk ⟨fun b o _ hbL hbC e => ?_, fun b o e => .inl (t.sub b o e), fun b o e => ?_⟩ ⟨?_, X'.fr, X'.apart, X'.above, fun b o e => ?_, fun b o e hc => (nomatch hc), fun b o e => ?_, fun b hb => (nomatch hb), trivial, X'.eg, X'.eb, X'.ek⟩
    ⟨_, vs, k, ns, K', rfl, hi, t.sub, j⟩
  · have hb : b ≠ s.heap.objs.size := fun z => by rw [z, hnone] at e; cases e
    exact t.ext b o ((hcn b).mpr hb) hbL hbC (t2.ext b o ((hcn b).mpr hb) hbL hbC (old b o e))
  · rcases e with e | ⟨rfl, rfl⟩
    · rcases t.fresh b o e with e1 | e1
      · exact .inl e1
      · right
        cases qq : s.heap.get? b with
        | none => rfl
        | some o' =>
          have e2 := t2.ext b o' ((hcn b).mpr (offA b o e)) (X'.offL b o e).1 (X'.offL b o e).2 (old b o' qq)
          have e1' : h2.get? b = none := e1
          rw [e1'] at e2; cases e2
    · exact .inr hnone
  · obtain ⟨b, h0, hb, hk⟩ := X'.g
    exact ⟨b, h0, fun a ha => hb a (ha.elim (fun z => nomatch z) .inr), hk⟩
  · rcases e with e | ⟨rfl, rfl⟩
    · exact X'.known b o e
    · exact hv
  · rcases e with e | ⟨rfl, rfl⟩
    · exact X'.offL b o e
    · exact X'.foot _ (List.mem_singleton.mpr rfl)

/-- found.append(e) -/
theorem append_stmt {a : Addr} {ns : List Int} {i : Int} {x : Str} {e : Expr} {xp ap pos pos2 : Pos} {rest : List Stmt} {pl : Sem Bool} {A : Around} {s : Shared} {Q : Flow → Shared → Prop} {E : Value → Shared → Prop} (ok : Ok n A) (X : FX Kf mg mb (lm a ns) fd L K m s.heap)
    (hm : m x = some (.ref a)) (he : EvF prog w Kf mg mb n (lm a ns) fd f K m e (fun v K => Has K (.int i) v)) (hsz : ns.length ≤ sizeLine)
    (q : ∀ K' h' tk, FX Kf mg mb (lm a (ns ++ [i])) fd L K' m h' → StepX (lm a ns) fd L K s.heap K' h' → wpAny (model prog w) A (execs rest (callEnvC fd L f)) Q E { s with heap := h', toks := tk })
    (hst : starEach [e] (callEnvC fd L f) = (false, eval e (callEnvC fd L f)) :: starEach [] (callEnvC fd L f) := by rfl)
    (hcall : eval (.Call (.Attribute (.Name x xp) "append" ap) [e] [] pos) (callEnvC fd L f) = (do
      let ov ← eval (.Name x xp) (callEnvC fd L f)
      standAt ap.atName
      let (g, first) ← holding [ov] (getMethod ov "append" pl)
      callWith pos g first (backTo pos (starEach [e] (callEnvC fd L f))) []) := by rfl)
    (hi : interactive (callEnvC fd L f) = false := by rfl) (hs : swapsWith (.Call (.Attribute (.Name x xp) "append" ap) [e] [] pos) none pos2.line (callEnvC fd L f) = pure false := by rfl) :
    wpAny (model prog w) A (execs (.Expr (.Call (.Attribute (.Name x xp) "append" ap) [e] [] pos) pos2 :: rest) (callEnvC fd L f)) Q E s := by
  refine wpAny_execs_cons (wpAny_Expr_any (PyProof.Rows.MethodCall_ (pl := pl) ?_ hcall) hi hs)
  refine X.cx.sees x _ hm _ A _ E s xp (fun _ _ _ e => e) ?_
  obtain ⟨vs, k, hv, hI⟩ := X.inv
  refine getMethod_builtin ⟨_, hv, rfl⟩ PySem.F.plainAttrs_list PySem.F.slot_list_append PySem.F.type_list_append (fun a e => by cases e; exact ⟨_, hv, rfl⟩) ?_
  refine callWith_method1 (Wp.h <| (Evs.consT (he L) Evs.nilT hst) A s _ _ E ok X.cx fun us K1 h1 tk1 t1 p1 => ?_) hst rfl
  cases p1 with
  | cons p1 r =>
    cases r
    obtain ⟨t, rfl⟩ := p1
    obtain ⟨vs1, k1, hv1, hI1⟩ := t1.inv
    refine append_at (hsz := by rw [List.size_toArray, ints_len hI1]; exact hsz) hv1 fun h2 hs2 hv2 => ?_
    have X1 := X.step t1
    have hne : ∀ b, (lm a ns).c ≠ some b ↔ b ≠ a := fun b => ⟨fun hc z => hc (by rw [z]; rfl), fun hc z => by injection z with z; exact hc z.symm⟩
    have k2 : ∀ b o, b ≠ a → h1.get? b = some o → h2.get? b = some o := fun b o hb e => hs2.extBut b o hb e
    have fa := X1.foot a (List.mem_singleton.mpr rfl)
    refine q K1 h2 tk1 ⟨X1.g.ext fun b o hX e => k2 b o (fun z => hX (.inl (by rw [z]; rfl))) e, ?_, X1.apart, X1.above, fun b o e => k2 b o (fun z => X1.off b o e (by rw [z]; rfl)) (X1.known b o e), X1.off, X1.offL, X1.foot, ⟨vs1 ++ [.int i t], k1 + 1, by rw [hv2]; simp, ints_app hI1 (.cons _ _ .nil)⟩, X1.eg, X1.eb, X1.ek⟩
      ⟨fun b o hc _ _ e => k2 b o ((hne b).mp hc) (t1.ext b o hc e), t1.sub, t1.fresh⟩
    obtain ⟨lm', cm, hn, hc, hm⟩ := X1.fr
    refine ⟨lm', cm, ?_, fun k c hk => ?_, hm⟩
    · obtain ⟨o, es, ep, e, r⟩ := hn
      exact ⟨o, es, ep, k2 _ _ (fun z => fa.1 z.symm) e, r⟩
    · obtain ⟨o, e, r⟩ := hc k c hk
      exact ⟨o, k2 _ _ (fun z => fa.2 ⟨k, z ▸ hk⟩) e, r⟩
end
end Mine

-- KeyK
namespace Mine
/-! # A dict key that is a tuple of a str, the empty tuple and two ints -/
section
variable {prog : Program} {w : World}
noncomputable def HashesTo (prog : Program) (w : World) (j : Nat) (h : Heap) (v : Value) (x : Int) : Prop :=
  ∀ (A : Around) (E : Value → Shared → Prop) (s : Shared) (Q : Int → Shared → Prop), s.heap = h → A.units + j < cLine → Q x { s with toks := s.toks + 1 } → wpAny (model prog w) A (PySem.pyHash v) Q E s
inductive HashAll (prog : Program) (w : World) (j : Nat) (h : Heap) : List Value → List Int → Prop
  | nil : HashAll prog w j h [] []
  | cons {v x vs xs} : HashesTo prog w j h v x → HashAll prog w j h vs xs → HashAll prog w j h (v :: vs) (x :: xs)

theorem hash_tuple {A : Around} {j : Nat} {E : Value → Shared → Prop} {s : Shared} {a : Addr} {o : Obj} {items : Array Value} {n : Nat} {xs : List Int} {Q : Int → Shared → Prop} (hu : A.units + (j + 1) < cLine) (ho : s.heap.get? a = some o) (hc : o.cls = .type "tuple") (hd : o.data = .seq items n)
    (hi : HashAll prog w j s.heap items.toList xs) (h : Q (reduceHash (Builtin.Tuple.tupleHashOf xs)) { s with toks := s.toks + (xs.length + 1) }) : wpAny (model prog w) A (PySem.pyHash (.ref a)) Q E s := by
  have hT : s.TypeIs (.ref a) "tuple" := ⟨o, ho, hc⟩
  unfold PySem.pyHash
  first | unfold pyHashByItsType | skip
  first | refine wpAny_bind (wpAny_cRoomFor_or (.inr (by omega)) ?_) | skip
  refine wpAny_bind (wpAny_specialOf hT F.slot_tuple_hash.lookup ?_)
  show wpAny _ _ (if (some (Value.builtin "tuple.__hash__") == some Value.none) = true then _ else _) Q E s
  rw [if_neg (by rw [beq_builtin_none]; exact Bool.false_ne_true)]
  refine wpAny_bind (wpAny_specialOf hT F.slot_tuple_hash.lookup ?_)
  show wpAny _ _ (callSpecialIfBoundUnlessNone? (.ref a) "__hash__" _ >>= _) Q E s
  refine wpAny_bind (wpAny_callSpecialIfBoundUnlessNone?_slot hT F.slot_tuple_hash (wpAny_call_entry F.slot_tuple_hash hT F.entry_tuple_hash ?_ (F.args_tuple_hash_1 _)))
  show wpAny _ _ (Builtin.Tuple.tupleItemsOf (.ref a) >>= _) _ _ s
  refine wpAny_bind (wpAny_tupleItemsOf ho hd ?_)
  refine wpAny_bind ?_
  rw [← Array.forIn_toList]
  refine wpAny_forIn_list _
    (fun rest (b : Array Int) s' => ∃ done left, xs = done ++ left ∧ HashAll prog w j s.heap rest left ∧ b.toList = done ∧ s' = { s with toks := s.toks + done.length })
    _ ?_ ?_ _ _ ⟨[], xs, rfl, hi, rfl, rfl⟩
  · rintro x rest b s' ⟨done, left, rfl, hl, hb, rfl⟩
    cases hl with
    | @cons _ k _ ks' h1 hl' =>
      refine wpAny_bind (h1 _ _ _ _ rfl (by show A.units + 1 + j < cLine; omega) ?_)
      first
        | exact wpAny_pure ⟨done ++ [k], ks', by simp, hl', by simp [hb], by simp [Nat.add_assoc]⟩
        | exact wpAny_bind (wpAny_pure (wpAny_pure ⟨done ++ [k], ks', by simp, hl', by simp [hb], by simp [Nat.add_assoc]⟩))
  · rintro b s' ⟨done, left, rfl, hl, hb, rfl⟩
    cases hl
    rw [List.append_nil] at h
    show wpAny _ _ (retInt (Builtin.Tuple.tupleHashOf b.toList)) _ _ _
    rw [hb]
    refine wpAny_ret_mkInt ?_
    show wpAny _ _ (if (decide (-(2 : Int) ^ 63 ≤ Builtin.Tuple.tupleHashOf done) && decide (Builtin.Tuple.tupleHashOf done < 2 ^ 63)) = true then _ else _) Q E _
    unfold reduceHash at h
    by_cases hr : (decide (-(2 : Int) ^ 63 ≤ Builtin.Tuple.tupleHashOf done) && decide (Builtin.Tuple.tupleHashOf done < 2 ^ 63)) = true
    · rw [if_pos hr]
      rw [if_pos hr] at h
      exact wpAny_pure (by simpa [Nat.add_assoc] using h)
    · rw [if_neg hr]
      rw [if_neg hr] at h
      exact wpAny_bind (wpAny_rule (wpAny_pure (by simpa [Nat.add_assoc] using h)))

noncomputable def EqTo (prog : Program) (w : World) (j : Nat) (s : Shared) (u v : Value) (b : Bool) : Prop :=
  ∀ (A : Around) (E : Value → Shared → Prop) (Q : Bool → Shared → Prop), A.units + j < cLine → Q b s → wpAny (model prog w) A (PySem.eqBool u v) Q E s
inductive EqAll (prog : Program) (w : World) (j : Nat) (s : Shared) : List Value → List Value → Bool → Prop
  | nil : EqAll prog w j s [] [] true
  | cons {u v b us vs c} : EqTo prog w j s u v b → EqAll prog w j s us vs c → EqAll prog w j s (u :: us) (v :: vs) (b && c)
theorem EqAll.length {j : Nat} {s : Shared} {us vs : List Value} {c : Bool} (h : EqAll prog w j s us vs c) : us.length = vs.length := by
  induction h with
  | nil => rfl
  | cons _ _ ih => simp [ih]

theorem eq_tuple {A : Around} {j : Nat} {E : Value → Shared → Prop} {s : Shared} {a b : Addr} {oa ob : Obj} {xs ys : Array Value} {n1 n2 : Nat} {c : Bool} {Q : Bool → Shared → Prop} (hu : A.units + (j + 1) < cLine) (hoa : s.heap.get? a = some oa) (hca : oa.cls = .type "tuple") (hda : oa.data = .seq xs n1)
    (hob : s.heap.get? b = some ob) (hcb : ob.cls = .type "tuple") (hdb : ob.data = .seq ys n2) (hE : EqAll prog w j s xs.toList ys.toList c) (hsame : a = b → c = true) (h : Q c s) : wpAny (model prog w) A (PySem.eqBool (.ref a) (.ref b)) Q E s := by
  have hTa : s.TypeIs (.ref a) "tuple" := ⟨oa, hoa, hca⟩
  have hTb : s.TypeIs (.ref b) "tuple" := ⟨ob, hob, hcb⟩
  unfold PySem.eqBool
  try with_reducible refine wpAny_holding ?_
  show wpAny _ _ (if (Value.ref a == Value.ref b) = true then _ else _) Q E s
  by_cases hab : (Value.ref a == Value.ref b) = true
  · rw [if_pos hab]
    have e : a = b := by have := eq_of_beq hab; injection this
    rw [hsame e] at h
    exact wpAny_bind (wpAny_rule (wpAny_pure h))
  · rw [if_neg hab]
    refine wpAny_bind (wpAny_richCompare_same_room (op := .Eq) hTa hTb F.slot_tuple_eq
      (wpAny_call_entry F.slot_tuple_eq hTa F.entry_tuple_eq (?_) (F.args_tuple_eq_2 _ _)) (by omega))
    have hfin : ∀ {P : Fin → Shared → Prop}, P (.done (.ret (.bool c))) s → wpAny (model prog w) A.in1 (Builtin.«tuple.__eq__» ⟨[.ref a, .ref b], []⟩) P E s := fun {P} h => by
      show wpAny _ _ (isInstance (.ref b) (.type "tuple") >>= _) _ _ s
      refine wpAny_bind (wpAny_isInstance hTb isSubtype_tuple_tuple ?_)
      simp only [Bool.not_true, Bool.false_eq_true, if_false]
      refine wpAny_bind (wpAny_tupleItemsOf hoa hda ?_)
      refine wpAny_bind (wpAny_tupleItemsOf hob hdb ?_)
      refine wpAny_bind ?_
      have hlen := hE.length
      refine wpAny_forIn_list _
        (fun rest r s' => r.1 = none ∧ s' = s ∧ ∃ us vs d, rest = List.zip us vs ∧ EqAll prog w j s us vs d ∧ d = c)
        _ ?_ ?_ _ _ ⟨rfl, rfl, xs.toList, ys.toList, c, rfl, hE, rfl⟩
      · rintro ⟨u, v⟩ rest r s' ⟨hr, rfl, us, vs, d, hz, hE', hd⟩
        cases hE' with
        | nil => simp at hz
        | @cons u' v' b' us' vs' c' h1 h2 =>
          simp only [List.zip_cons_cons, List.cons.injEq, Prod.mk.injEq] at hz
          obtain ⟨⟨rfl, rfl⟩, rfl⟩ := hz
          refine wpAny_bind (h1 _ _ _ (by show A.units + 1 + j < cLine; omega) ?_)
          cases b' with
          | true =>
            simp only [Bool.not_true, Bool.false_eq_true, if_false]
            exact wpAny_pure ⟨rfl, rfl, us', vs', c', rfl, h2, by simpa using hd⟩
          | false =>
            simp only [Bool.not_false, if_true]
            have hf : c = false := by simpa using hd.symm
            rw [hf] at h
            exact wpAny_bind (wpAny_pure (wpAny_pure (wpAny_pure h)))
      · rintro ⟨r1, r2⟩ s' ⟨hr, rfl, us, vs, d, hz, hE', hd⟩
        simp only at hr
        subst hr
        refine wpAny_pure ?_
        show P (.done (.ret (.bool (xs.size == ys.size)))) s'
        have e1 : (xs.size == ys.size) = true := by simpa using hlen
        have e2 : c = true := by
          cases hE' with
          | nil => exact hd.symm
          | cons _ _ => simp at hz
        rw [e1, ← e2]; exact h
    exact hfin ⟨_, rfl, (fun e => nomatch e), wpAny_truthy_bool h⟩
end

section
variable {prog : Program} {w : World}
noncomputable def QuietAt (prog : Program) (w : World) (h : Heap) (n : Nat) (v : Value) : Prop :=
  ∀ (A : Around) (E : Value → Shared → Prop) (s : Shared) (Q : Bool → Shared → Prop), s.heap = h → Q true s → wpAny (model prog w) A (eqIsQuiet n v) Q E s
theorem quiet_tuple {h : Heap} {a : Addr} {o : Obj} {items : Array Value} {k n : Nat} (ho : h.get? a = some o) (hc : o.cls = .type "tuple") (hd : o.data = .seq items k) (hi : ∀ v ∈ items.toList, QuietAt prog w h n v) : QuietAt prog w h (n + 1) (.ref a) := by
  intro A E s Q hs hq
  subst hs
  have hT : s.TypeIs (.ref a) "tuple" := ⟨o, ho, hc⟩
  unfold eqIsQuiet
  refine wpAny_bind (wpAny_specialOf hT F.slot_tuple_eq.lookup ?_)
  show wpAny _ _ (isInstance (.ref a) (.type "tuple") >>= _) _ _ s
  refine wpAny_bind (wpAny_isInstance hT isSubtype_tuple_tuple ?_)
  simp only [Bool.not_true, Bool.false_eq_true, if_false]
  refine wpAny_bind (wpAny_seqItems ho hd ?_)
  refine wpAny_bind ?_
  show wpAny _ _ (forIn items _ _) _ _ s
  rw [← Array.forIn_toList]
  refine wpAny_forIn_list _ (fun rest r s' => r.1 = none ∧ s' = s ∧ ∀ v ∈ rest, QuietAt prog w s.heap n v) _ ?_ ?_ _ _ ⟨rfl, rfl, hi⟩
  · rintro v rest r s' ⟨hr, rfl, hall⟩
    refine wpAny_bind (hall v List.mem_cons_self _ _ _ _ rfl ?_)
    simp only [Bool.not_true, Bool.false_eq_true, if_false]
    exact wpAny_pure ⟨rfl, rfl, fun u hu' => hall u (List.mem_cons_of_mem _ hu')⟩
  · rintro ⟨r1, r2⟩ s' ⟨hr, rfl, _⟩
    simp only at hr
    subst hr
    exact wpAny_pure hq
theorem quiet_val {h : Heap} {n : Nat} {v : Value} (hv : carriedByValue v = true) : QuietAt prog w h n v := fun A E s Q _ hq => by
  rw [eqIsQuiet_byValue _ hv]
  exact wpAny_pure hq

noncomputable abbrev MK := Str × Int × Int
noncomputable def KeyIs (h : Heap) (k : MK) (a : Addr) : Prop := ∃ o n e oe ne t u v, h.get? a = some o ∧ o.cls = .type "tuple" ∧ o.data = .seq #[.str k.1 t, .ref e, .int k.2.1 u, .int k.2.2 v] n ∧ h.get? e = some oe ∧ oe.cls = .type "tuple" ∧ oe.data = .seq #[] ne
noncomputable def mkHashes (prog : Program) (w : World) (k : MK) : List Int := [(PySem.strKind prog w).hash k.1, reduceHash (Builtin.Tuple.tupleHashOf []), (PySem.intKind prog w).hash k.2.1, (PySem.intKind prog w).hash k.2.2]

theorem HashesTo.str {j : Nat} {h : Heap} (x : Str) (t : Tok) : HashesTo prog w j h (.str x t) ((PySem.strKind prog w).hash x) := fun _ _ _ _ _ _ hq => (PySem.strKind prog w).pyHash (strKind_is prog w x t) hq
theorem HashesTo.int {j : Nat} {h : Heap} (x : Int) (t : Tok) : HashesTo prog w j h (.int x t) ((PySem.intKind prog w).hash x) := fun _ _ _ _ _ _ hq => (PySem.intKind prog w).pyHash (intKind_is prog w x t) hq
theorem EqTo.str {j : Nat} {s : Shared} (x y : Str) (t u : Tok) : EqTo prog w j s (.str x t) (.str y u) (decide (x = y)) := fun _ _ _ _ hq => (PySem.strKind prog w).eqBool (strKind_is prog w x t) (strKind_is prog w y u) hq
theorem EqTo.int {j : Nat} {s : Shared} (x y : Int) (t u : Tok) : EqTo prog w j s (.int x t) (.int y u) (decide (x = y)) := fun _ _ _ _ hq => (PySem.intKind prog w).eqBool (intKind_is prog w x t) (intKind_is prog w y u) hq

noncomputable def mkKind (prog : Program) (w : World) : HeapKind prog w MK where
  is := KeyIs
  hash := fun k => reduceHash (Builtin.Tuple.tupleHashOf (mkHashes prog w k))
  draws := fun _ => 5
  room := fun A => A.units + 2 < cLine
  inj := fun {h a x y} hx hy => by
    obtain ⟨o, n, e, oe, ne, t, u, v, ho, _, hd, _⟩ := hx
    obtain ⟨o', n', e', oe', ne', t', u', v', ho', _, hd', _⟩ := hy
    obtain rfl : o = o' := Option.some.inj (ho.symm.trans ho')
    rw [hd] at hd'
    injection hd' with h1 _
    injection h1 with h1
    injection h1 with a1 h1
    injection h1 with a2 h1
    injection h1 with a3 h1
    injection h1 with a4 h1
    injection a1 with b1 _
    injection a3 with b3 _
    injection a4 with b4 _
    exact Prod.ext b1 (Prod.ext b3 b4)
  keeps := fun {h h' k a d o es ep} x ho hd hs => by
    obtain ⟨oa, n, e, oe, ne, t, u, v, hoa, hca, hda, hoe, hce, hde⟩ := x
    have h1 : a ≠ d := by
      rintro rfl
      obtain rfl : oa = o := Option.some.inj (hoa.symm.trans ho)
      rw [hd] at hda; exact nomatch hda
    have h2 : e ≠ d := by
      rintro rfl
      obtain rfl : oe = o := Option.some.inj (hoe.symm.trans ho)
      rw [hd] at hde; exact nomatch hde
    exact ⟨oa, n, e, oe, ne, t, u, v, (hs.2 a h1).trans hoa, hca, hda, (hs.2 e h2).trans hoe, hce, hde⟩
  pyHash := fun {A E s k a Q} hu hk hq => by
    obtain ⟨oa, n, e, oe, ne, t, u, v, hoa, hca, hda, hoe, hce, hde⟩ := hk
    have he : HashesTo prog w 1 s.heap (.ref e) (reduceHash (Builtin.Tuple.tupleHashOf [])) := fun A E s' Q hs hu hq => by
      rw [← hs] at hoe
      exact hash_tuple (j := 0) hu hoe hce hde .nil hq
    exact hash_tuple (j := 1) hu hoa hca hda (.cons (.str _ _) (.cons he (.cons (.int _ _) (.cons (.int _ _) .nil)))) hq
  eqBool := fun {A E s x y a b Q} hu hx hy hq => by
    have hinj : a = b → x = y := fun e => by
      subst e
      obtain ⟨o, n, e, oe, ne, t, u, v, ho, _, hd, _⟩ := hx
      obtain ⟨o', n', e', oe', ne', t', u', v', ho', _, hd', _⟩ := hy
      obtain rfl : o = o' := Option.some.inj (ho.symm.trans ho')
      rw [hd] at hd'
      injection hd' with h1 _
      injection h1 with h1
      injection h1 with a1 h1
      injection h1 with a2 h1
      injection h1 with a3 h1
      injection h1 with a4 h1
      injection a1 with b1 _
      injection a3 with b3 _
      injection a4 with b4 _
      exact Prod.ext b1 (Prod.ext b3 b4)
    obtain ⟨oa, n, e, oe, ne, t, u, v, hoa, hca, hda, hoe, hce, hde⟩ := hx
    obtain ⟨ob, n', e', oe', ne', t', u', v', hob, hcb, hdb, hoe', hce', hde'⟩ := hy
    have he : EqTo prog w 1 s (.ref e) (.ref e') true := fun A E Q hu hq => eq_tuple (j := 0) hu hoe hce hde hoe' hce' hde' .nil (fun _ => rfl) hq
    have hb : (decide (x.1 = y.1) && (true && (decide (x.2.1 = y.2.1) && (decide (x.2.2 = y.2.2) && true)))) = decide (x = y) := by
      obtain ⟨x1, x2, x3⟩ := x
      obtain ⟨y1, y2, y3⟩ := y
      simp [Prod.ext_iff]
    refine eq_tuple (j := 1) (c := decide (x = y)) hu hoa hca hda hob hcb hdb ?_ (fun e => by simpa using hinj e) hq
    rw [← hb]
    exact .cons (.str _ _ _ _) (.cons he (.cons (.int _ _ _ _) (.cons (.int _ _ _ _) .nil)))
  quiet := fun {A E s k a Q} hk hq => by
    obtain ⟨oa, n, e, oe, ne, t, u, v, hoa, hca, hda, hoe, hce, hde⟩ := hk
    refine quiet_tuple (n := 7) hoa hca hda (fun x hx => ?_) A E s Q rfl hq
    simp only [List.mem_cons, List.not_mem_nil, or_false] at hx
    rcases hx with rfl | rfl | rfl | rfl
    · exact quiet_val rfl
    · exact quiet_tuple (n := 6) hoe hce hde (fun x hx => by simp at hx)
    · exact quiet_val rfl
    · exact quiet_val rfl
end
end Mine

-- WalkR
namespace Mine
section
variable {prog : Program} {w : World} {A : Around} {E : Value → Shared → Prop} {s : Shared} {h₀ : Heap} {L d : Addr} {m : Str → Option Value} {news : List (Addr × Obj)} {g : Obj → List (Addr × Obj)} {o : Obj}
/-- a dict with such keys, as an object -/
noncomputable def MkObj (prog : Program) (w : World) (xs : List (MK × Addr × Value)) (o : Obj) : Prop := ∃ es ep, o.ExactDict ∧ o.data = .dict es ep ∧ es.toList = xs.map (entryOfKey (mkKind prog w)) ∧ (xs.map (·.1)).Nodup
theorem MkObj.none (hd : o.IsDictOf (PySem.strKind prog w) []) : MkObj prog w [] o := by
  obtain ⟨es, ep, h1, h2, _, h4, _⟩ := hd
  refine ⟨es, ep, h1, h2, ?_, List.nodup_nil⟩
  cases hes : es.toList with
  | nil => rfl
  | cons e r => rw [hes] at h4; cases h4
noncomputable abbrev keyObj (x : Str) (t : Tok) (e : Addr) (i : Int) (u : Tok) (j : Int) (v : Tok) : Obj := { cls := .type "tuple", data := .seq #[.str x t, .ref e, .int i u, .int j v] }
noncomputable abbrev nilObj : Obj := { cls := .type "tuple", data := .seq #[] }
theorem keyIs (N : News h₀ L s.heap news) {a e : Addr} {x : Str} {t : Tok} {i j : Int} {u v : Tok} (hk : (a, keyObj x t e i u j v) ∈ news) (he : (e, nilObj) ∈ news) : KeyIs s.heap (x, i, j) a :=
  ⟨_, _, e, _, _, t, u, v, (N _ hk).1, rfl, rfl, (N _ he).1, rfl, rfl⟩
theorem mk_get {xs : List (MK × Addr × Value)} {a e : Addr} {x : Str} {t : Tok} {i j : Int} {u v : Tok} {z : Int} {tz : Tok} {Q : Value → Shared → Prop} (N : News h₀ L s.heap news) (hd : (d, o) ∈ news) (ho : MkObj prog w xs o) (lo : (d == sysModules) = false)
    (hk : (a, keyObj x t e i u j v) ∈ news) (he : (e, nilObj) ∈ news) (hall : ∀ y ∈ xs, KeyIs s.heap y.1 y.2.1) (hm : atKey xs (x, i, j) = none) (hu : A.units + 64 < cLine)
    (h : Q (.int z tz) { s with toks := s.toks + 5 }) : wpAny (model prog w) A (PySem.call (.builtin "dict.get") [.ref d, .ref a, .int z tz]) Q E s := by
  obtain ⟨es, ep, h1, h2, h3, h4⟩ := ho
  have hD : s.heap.DictOfH (mkKind prog w) d xs := ⟨o, es, ep, (N _ hd).1, h1, h2, h3, hall, h4⟩
  refine call_meetsIn F.slot_dict_get hD.typeIs F.entry_dict_get (F.args_dict_get_3 _ _ _) (meetsH_dict_get_default (mkKind prog w) d a lo (.int z tz)) ⟨?_, (x, i, j), xs, keyIs N hk he, hD, ?_⟩
  · show A.units + 1 + 2 < cLine
    omega
  · rw [hm]; exact h
theorem mk_set {xs : List (MK × Addr × Value)} {a e : Addr} {x : Str} {t : Tok} {i j : Int} {u v : Tok} {val : Value} {Q : Unit → Shared → Prop} (F : Fr h₀ L s.heap m) (N : News h₀ L s.heap news) (U : UpdF d o news g) (ho : MkObj prog w xs o)
    (hk : (a, keyObj x t e i u j v) ∈ news) (he : (e, nilObj) ∈ news) (hall : ∀ y ∈ xs, KeyIs s.heap y.1 y.2.1) (hsz : xs.length ≤ 100) (hu : A.units + 64 < cLine)
    (h : ∀ h' o', Fr h₀ L h' m → News h₀ L h' (g o') → MkObj prog w (storedH xs (x, i, j) a val) o' → Q () { s with heap := h', toks := s.toks + 5 }) : wpAny (model prog w) A (setItem (.ref d) (.ref a) val) Q E s := by
  obtain ⟨pre, post, rfl, hg, b1, b2⟩ := U.split
  have hm := N (d, o) (List.mem_append_right _ (.head _))
  obtain ⟨es, ep, h1, h2, h3, h4⟩ := ho
  have hD : s.heap.DictOfH (mkKind prog w) d xs := ⟨o, es, ep, hm.1, h1, h2, h3, hall, h4⟩
  refine wpAny_setItem_heap (knd := mkKind prog w) (k := (x, i, j)) (hsz := by simp [sizeLine]; omega) (by show A.units + 1 + 2 < cLine; omega) (keyIs N hk he) hD fun h' hmm hs => ?_
  obtain ⟨o', es', ep', ho', a1, a2, a3, a4, a5⟩ := hmm
  exact h h' o' (F.change hs hm.2.1 hm.2.2) (hg o' ▸ N.setIn b1 b2 hs ho') ⟨es', ep', a1, a2, a3, a5⟩
theorem mk_get0 {a e : Addr} {x : Str} {t : Tok} {i j : Int} {u v : Tok} {z : Int} {tz : Tok} {Q : Value → Shared → Prop} (N : News h₀ L s.heap news) (hd : (d, o) ∈ news) (ho : o.IsDictOf (PySem.strKind prog w) []) (lo : (d == sysModules) = false)
    (hk : (a, keyObj x t e i u j v) ∈ news) (he : (e, nilObj) ∈ news) (hu : A.units + 64 < cLine)
    (h : Q (.int z tz) { s with toks := s.toks + 5 }) : wpAny (model prog w) A (PySem.call (.builtin "dict.get") [.ref d, .ref a, .int z tz]) Q E s :=
  mk_get N hd (MkObj.none ho) lo hk he (fun _ h => nomatch h) rfl hu h
theorem mk_set0 {a e : Addr} {x : Str} {t : Tok} {i j : Int} {u v : Tok} {val : Value} {Q : Unit → Shared → Prop} (F : Fr h₀ L s.heap m) (N : News h₀ L s.heap news) (U : UpdF d o news g) (ho : o.IsDictOf (PySem.strKind prog w) [])
    (hk : (a, keyObj x t e i u j v) ∈ news) (he : (e, nilObj) ∈ news) (hu : A.units + 64 < cLine)
    (h : ∀ h' o', Fr h₀ L h' m → News h₀ L h' (g o') → MkObj prog w [((x, i, j), a, val)] o' → Q () { s with heap := h', toks := s.toks + 5 }) : wpAny (model prog w) A (setItem (.ref d) (.ref a) val) Q E s :=
  mk_set F N U (MkObj.none ho) hk he (fun _ h => nomatch h) (by simp) hu h
theorem mk_get1 {a e : Addr} {x : Str} {t : Tok} {i j : Int} {u v : Tok} {z : Int} {tz : Tok} {a1 e1 : Addr} {x1 : Str} {t1 : Tok} {i1 j1 : Int} {u1 v1 : Tok} {val1 : Value} {Q : Value → Shared → Prop} (N : News h₀ L s.heap news) (hd : (d, o) ∈ news) (ho : MkObj prog w [((x1, i1, j1), a1, val1)] o) (lo : (d == sysModules) = false)
    (hk : (a, keyObj x t e i u j v) ∈ news) (he : (e, nilObj) ∈ news) (hk1 : (a1, keyObj x1 t1 e1 i1 u1 j1 v1) ∈ news) (he1 : (e1, nilObj) ∈ news) (hne : x1 ≠ x) (hu : A.units + 64 < cLine)
    (h : Q (.int z tz) { s with toks := s.toks + 5 }) : wpAny (model prog w) A (PySem.call (.builtin "dict.get") [.ref d, .ref a, .int z tz]) Q E s :=
  mk_get N hd ho lo hk he (fun y h => by rw [List.mem_singleton.mp h]; exact keyIs N hk1 he1) (by
    have : ¬ ((x1, i1, j1) = (x, i, j)) := fun e => hne (congrArg Prod.fst e)
    simp [atKey, this]) hu h
theorem mk_set1 {a e : Addr} {x : Str} {t : Tok} {i j : Int} {u v : Tok} {val : Value} {a1 e1 : Addr} {x1 : Str} {t1 : Tok} {i1 j1 : Int} {u1 v1 : Tok} {val1 : Value} {Q : Unit → Shared → Prop} (F : Fr h₀ L s.heap m) (N : News h₀ L s.heap news) (U : UpdF d o news g) (ho : MkObj prog w [((x1, i1, j1), a1, val1)] o)
    (hk : (a, keyObj x t e i u j v) ∈ news) (he : (e, nilObj) ∈ news) (hk1 : (a1, keyObj x1 t1 e1 i1 u1 j1 v1) ∈ news) (he1 : (e1, nilObj) ∈ news) (hu : A.units + 64 < cLine)
    (h : ∀ h' o', Fr h₀ L h' m → News h₀ L h' (g o') → Q () { s with heap := h', toks := s.toks + 5 }) : wpAny (model prog w) A (setItem (.ref d) (.ref a) val) Q E s :=
  mk_set F N U ho hk he (fun y h => by rw [List.mem_singleton.mp h]; exact keyIs N hk1 he1) (by simp) hu fun h' o' F' N' _ => h h' o' F' N'
theorem mk_method {xs : List (MK × Addr × Value)} {pl : Sem Bool} {Q : Value × List Value → Shared → Prop} (N : News h₀ L s.heap news) (hp : (d, o) ∈ news) (ho : MkObj prog w xs o) (h : Q (.builtin "dict.get", [.ref d]) s) : wpAny (model prog w) A (getMethod (.ref d) "get" pl) Q E s := by
  obtain ⟨es, ep, h1, _⟩ := ho
  exact getMethod_builtin ⟨_, (N _ hp).1, h1.1⟩ PySem.F.plainAttrs_dict PySem.F.slot_dict_get PySem.F.type_dict_get (fun a e => by cases e; exact ⟨_, (N _ hp).1, h1.2.1⟩) h
end
end Mine

-- Sh
namespace Mine
/-- a word kept shut -/
structure Hid (p : Prop) : Prop where
  out : p
/-! # Addresses of the ledger: apart, in one fact -/
noncomputable abbrev Ap (l : List Addr) : Prop := l.Pairwise fun x y => x ≠ y
noncomputable def adr : List (Addr × Obj) → List Addr
  | [] => []
  | p :: r => p.1 :: adr r
theorem mem_adr {a : Addr} : ∀ {l : List (Addr × Obj)}, a ∈ adr l → ∃ p ∈ l, p.1 = a
  | p :: r, h => by
    rcases List.mem_cons.mp h with rfl | h
    · exact ⟨p, .head _, rfl⟩
    · obtain ⟨q, hq, e⟩ := mem_adr h
      exact ⟨q, .tail _ hq, e⟩
theorem adr_mem {p : Addr × Obj} : ∀ {l : List (Addr × Obj)}, p ∈ l → p.1 ∈ adr l
  | _ :: _, .head _ => .head _
  | _ :: _, .tail _ h => .tail _ (adr_mem h)
structure Tp (d : Addr) (l : List Addr) : Prop where
  lt : ∀ a ∈ l, a < d
  ap : Ap l
theorem Tp.apart {d : Addr} {l : List Addr} (T : Tp d l) : Ap (d :: l) := List.Pairwise.cons (fun a ha e => Nat.lt_irrefl d (Nat.lt_of_le_of_lt (Nat.le_of_eq e) (T.lt a ha))) T.ap
theorem tp_of {d : Addr} {l : List (Addr × Obj)} (h : ∀ p ∈ l, p.1 < d) (A : Ap (adr l)) : Tp d (adr l) :=
  ⟨fun a ha => by obtain ⟨p, hp, rfl⟩ := mem_adr ha; exact h p hp, A⟩
theorem Tp.up {d x : Addr} {l : List Addr} (T : Tp d l) (h : d < x) : Tp x (d :: l) :=
  ⟨fun a ha => by
    rcases List.mem_cons.mp ha with rfl | ha
    · exact h
    · exact Nat.lt_trans (T.lt a ha) h, T.apart⟩
theorem ap_n {h₀ h : Heap} {L : Addr} {l : List (Addr × Obj)} (_N : News h₀ L h l) (A : Ap (adr l)) : Ap (adr l) := A
theorem apc {p : Addr × Obj} {r : List (Addr × Obj)} (hne : ∀ q ∈ r, q.1 ≠ p.1) (A : Ap (adr r)) : Ap (adr (p :: r)) :=
  List.Pairwise.cons (fun a ha e => by obtain ⟨q, hq, rfl⟩ := mem_adr ha; exact hne q hq e.symm) A
/-- the shape of a change, without the reasons -/
inductive ShF (d : Addr) (o : Obj) : List (Addr × Obj) → (Obj → List (Addr × Obj)) → Prop
  | head {r} : ShF d o ((d, o) :: r) (fun o' => (d, o') :: r)
  | tail {p r g} : ShF d o r g → ShF d o (p :: r) (fun o' => p :: g o')
inductive ShU (d : Addr) (o o' : Obj) : List (Addr × Obj) → List (Addr × Obj) → Prop
  | head {r} : ShU d o o' ((d, o) :: r) ((d, o') :: r)
  | tail {p r r'} : ShU d o o' r r' → ShU d o o' (p :: r) (p :: r')
theorem ShF.mem {d : Addr} {o : Obj} : ∀ {l : List (Addr × Obj)} {g : Obj → List (Addr × Obj)}, ShF d o l g → d ∈ adr l
  | _, _, .head => .head _
  | _, _, .tail s => .tail _ s.mem
theorem ShU.mem {d : Addr} {o o' : Obj} : ∀ {l l' : List (Addr × Obj)}, ShU d o o' l l' → d ∈ adr l
  | _, _, .head => .head _
  | _, _, .tail s => .tail _ s.mem
theorem updF_sh {d : Addr} {o : Obj} : ∀ {l : List (Addr × Obj)} {g : Obj → List (Addr × Obj)}, ShF d o l g → Ap (adr l) → UpdF d o l g
  | _, _, .head, A => .head fun _ hp => ((List.pairwise_cons.mp A).1 _ (adr_mem hp)).symm
  | _, _, .tail s, A => .tail ((List.pairwise_cons.mp A).1 _ s.mem) (updF_sh s (List.pairwise_cons.mp A).2)
theorem upd_sh {d : Addr} {o o' : Obj} : ∀ {l l' : List (Addr × Obj)}, ShU d o o' l l' → Ap (adr l) → Upd d o o' l l'
  | _, _, .head, A => .head fun _ hp => ((List.pairwise_cons.mp A).1 _ (adr_mem hp)).symm
  | _, _, .tail s, A => .tail ((List.pairwise_cons.mp A).1 _ s.mem) (upd_sh s (List.pairwise_cons.mp A).2)
end Mine

-- Plain
namespace Mine
/-! # The plain functions -/
noncomputable def rowI (x : Int) (w : Nat) : List Int := (List.range w).map fun (k : Nat) => (x.fdiv (2 ^ k)).fmod 2
noncomputable def turnI (xs : List Int) : List Int := xs.map fun i => 1 - i
noncomputable def sumI : List Int → List Int → Int → List Int
  | a :: xs, b :: ys, c => (a + b + c).fmod 2 :: sumI xs ys (if 1 < a + b + c then 1 else 0)
  | _, _, _ => []
noncomputable def moveI (xs : List Int) (k : Nat) : List Int := (List.replicate k 0 ++ xs).take xs.length
noncomputable def prodGo (one : List Int) : List Int → Nat → List Int → List Int
  | [], _, found => found
  | bit :: r, k, found => prodGo one r (k + 1) (if bit == 1 then sumI found (moveI one k) 0 else found)
noncomputable def prodI (one other : List Int) : List Int := prodGo one other 0 (List.replicate one.length 0)
noncomputable def divGo (divisor : List Int) : List Int → List Int → List Int → List Int × List Int
  | [], q, r => (q, r)
  | bit :: bits, q, r =>
    let r1 := bit :: r.dropLast
    let t := geLex r1.reverse divisor.reverse
    let r2 := if t then sumI r1 (turnI divisor) 1 else r1
    divGo divisor bits ((if t then 1 else 0) :: q) r2
noncomputable def divI (one other : List Int) : List Int × List Int :=
  if !(other.any (· == 1)) then (List.replicate one.length 1, one)
  else let p := divGo (other ++ [0]) one.reverse [] (List.replicate (one.length + 1) 0); (p.1, p.2.dropLast)

theorem rowI_len (x : Int) (w : Nat) : (rowI x w).length = w := by simp [rowI]
theorem turnI_len (xs : List Int) : (turnI xs).length = xs.length := by simp [turnI]
theorem sumI_len : ∀ (xs ys : List Int) (c : Int), (sumI xs ys c).length = min xs.length ys.length
  | [], _, _ => by simp [sumI]
  | _ :: _, [], _ => by simp [sumI]
  | a :: xs, b :: ys, c => by simp [sumI, sumI_len xs ys]
theorem moveI_len (xs : List Int) (k : Nat) : (moveI xs k).length = xs.length := by simp [moveI]
end Mine

-- Sugar
namespace Mine
section
variable {prog : Program} {w : World} {Kf : Frag} {mg mb : Str → Option Value} {n : Nat} {md : Mode} {env : Env} {m : Str → Option Value} {K : Kn}

theorem flat_rep (k : Nat) (i : Int) : (List.replicate k [i]).flatten = List.replicate k i := by
  induction k with
  | zero => rfl
  | succ k ih => rw [List.replicate_succ, List.flatten_cons, ih]; rfl
theorem ints_of_pairs : ∀ qs : List (Int × Tok), IntsAre (qs.map fun p => Value.int p.1 p.2) (qs.map (·.1))
  | [] => .nil
  | q :: r => .cons _ _ (ints_of_pairs r)
/-- [i] * many -/
theorem Ev.rep {e c : Expr} {lp pos : Pos} {i : Int} {k : Nat} (h1 : Ev prog w Kf mg mb n md env m K e (fun v K => Has K (.int i) v)) (h2 : Ev prog w Kf mg mb n md env m K c (fun v K => Has K (.int (k : Int)) v)) (hk : k ≤ 1000)
    (he : starEach [e] env = (false, eval e env) :: starEach [] env := by rfl) : Ev prog w Kf mg mb n md env m K (.BinOp (.List [e] lp) .Mult c pos) (fun v K => Has K (.ints (List.replicate k i)) v) :=
  Ev.binT (T2 := .int (k : Int)) (Ev.int1 h1 he) h2 fun v1 v2 K' p1 p2 => (op_mulL (by omega) (by omega) (by simp; omega) (by simp) p1 p2).imp fun v K'' _ h => by
    rw [Int.toNat_natCast, flat_rep] at h; exact h
theorem Ev.addL {l r : Expr} {pos : Pos} {xs ys : List Int} (h1 : Ev prog w Kf mg mb n md env m K l (fun v K => Has K (.ints xs) v)) (h2 : Ev prog w Kf mg mb n md env m K r (fun v K => Has K (.ints ys) v)) (hl : xs.length + ys.length ≤ 100000) :
    Ev prog w Kf mg mb n md env m K (.BinOp l .Add r pos) (fun v K => Has K (.ints (xs ++ ys)) v) := Ev.binT h1 h2 fun _ _ _ p1 p2 => op_addL hl p1 p2
theorem Ev.len {x : Str} {p pos : Pos} {e : Expr} {xs : List Int} (hn : Ev prog w Kf mg mb n md env m K (.Name x p) (fun v _ => v = .builtin "len")) (h : Ev prog w Kf mg mb n md env m K e (fun v K => Has K (.ints xs) v)) (hl : xs.length ≤ 100000)
    (he : starEach [e] env = (false, eval e env) :: starEach [] env := by rfl) : Ev prog w Kf mg mb n md env m K (.Call (.Name x p) [e] [] pos) (fun v K => Has K (.int (xs.length : Int)) v) :=
  Ev.callB hn (Evs.consT h Evs.nilT he) (fun vs K' _ hvs => by
    cases hvs with
    | cons q r =>
      cases r
      exact (op_len (Ts := xs.map .int) (by simpa using hl) (IsListOf.ints q)).imp fun v K'' _ h => by simpa using h) he (by intro _; rfl)
theorem Ev.cut {e : Expr} {lower upper step : Option Expr} {p pos : Pos} {xs ys : List Int} {lo hi st : Option Int} (h1 : Ev prog w Kf mg mb n md env m K e (fun v K => Has K (.ints xs) v))
    (e1 : EvPart prog w Kf mg mb n md env m K lower lo) (e2 : EvPart prog w Kf mg mb n md env m K upper hi) (e3 : EvPart prog w Kf mg mb n md env m K step st) (h0 : st ≠ some 0) (hl : xs.length ≤ 100000)
    (hp : ∀ vs, IntsAre vs xs → IntsAre (slicePick vs.toArray lo hi st).toList ys) : Ev prog w Kf mg mb n md env m K (.Subscript e (.Slice lower upper step p) pos) (fun v K => Has K (.ints ys) v) :=
  Ev.sub h1 (mono_has _) (Ev.slice e1 e2 e3) (mono_sl _ _ _) fun _ _ _ _ p1 p2 => get_slice h0 hl hp p1 p2
theorem Ev.upto {e hi : Expr} {p pos : Pos} {xs : List Int} {k : Nat} (h1 : Ev prog w Kf mg mb n md env m K e (fun v K => Has K (.ints xs) v)) (h2 : Ev prog w Kf mg mb n md env m K hi (fun v K => Has K (.int (k : Int)) v)) (hl : xs.length ≤ 100000) :
    Ev prog w Kf mg mb n md env m K (.Subscript e (.Slice none (some hi) none p) pos) (fun v K => Has K (.ints (xs.take k)) v) :=
  Ev.cut h1 .none (.some h2) .none (by simp) hl fun vs h => by have := kmk_upto h (y := (k : Int)) (by omega); simpa using this
theorem Ev.run {e lo hi : Expr} {p pos : Pos} {xs : List Int} {j k : Nat} (h1 : Ev prog w Kf mg mb n md env m K e (fun v K => Has K (.ints xs) v)) (h2 : Ev prog w Kf mg mb n md env m K lo (fun v K => Has K (.int (j : Int)) v))
    (h3 : Ev prog w Kf mg mb n md env m K hi (fun v K => Has K (.int (k : Int)) v)) (hl : xs.length ≤ 100000) (hk : k ≤ xs.length) :
    Ev prog w Kf mg mb n md env m K (.Subscript e (.Slice (some lo) (some hi) none p) pos) (fun v K => Has K (.ints ((xs.drop j).take (k - j))) v) :=
  Ev.cut h1 (.some h2) (.some h3) .none (by simp) hl fun vs h => by
    have := kmk_run h (x := (j : Int)) (y := (k : Int)) (by omega) (by omega)
    have e : min k xs.length = k := Nat.min_eq_left hk
    simpa [e] using this
theorem Ev.rev {e o : Expr} {p pos : Pos} {xs : List Int} (h1 : Ev prog w Kf mg mb n md env m K e (fun v K => Has K (.ints xs) v)) (h2 : Ev prog w Kf mg mb n md env m K o (fun v K => Has K (.int (-1)) v)) (hl : xs.length ≤ 100000) :
    Ev prog w Kf mg mb n md env m K (.Subscript e (.Slice none none (some o) p) pos) (fun v K => Has K (.ints xs.reverse) v) :=
  Ev.cut h1 .none .none (.some h2) (by simp) hl fun vs h => by
    rw [krv_pick]
    obtain ⟨ps, rfl, rfl⟩ := ints_pairs h
    have := ints_of_pairs ps.reverse
    simpa [List.map_reverse] using this
theorem Ev.init {e o : Expr} {p pos : Pos} {xs : List Int} (h1 : Ev prog w Kf mg mb n md env m K e (fun v K => Has K (.ints xs) v)) (h2 : Ev prog w Kf mg mb n md env m K o (fun v K => Has K (.int (-1)) v)) (hl : xs.length ≤ 100000) :
    Ev prog w Kf mg mb n md env m K (.Subscript e (.Slice none (some o) none p) pos) (fun v K => Has K (.ints xs.dropLast) v) :=
  Ev.cut h1 .none (.some h2) .none (by simp) hl fun vs h => by
    have := kmk_upto_neg h (y := -1) (by omega)
    rw [List.dropLast_eq_take]
    simpa using this
theorem Ev.lastL {e o : Expr} {p pos : Pos} {xs : List Int} (h1 : Ev prog w Kf mg mb n md env m K e (fun v K => Has K (.ints xs) v)) (h2 : Ev prog w Kf mg mb n md env m K o (fun v K => Has K (.int (-1)) v)) (hl : xs.length ≤ 100000) :
    Ev prog w Kf mg mb n md env m K (.Subscript e (.Slice (some o) none none p) pos) (fun v K => Has K (.ints (xs.drop (xs.length - 1))) v) :=
  Ev.cut h1 (.some h2) .none .none (by simp) hl fun vs h => by
    have := kmk_from_neg h (x := -1) (by omega)
    simpa using this
/-- -1, written -/
theorem Ev.neg1 {k : Nat} {p pos : Pos} : Ev prog w Kf mg mb n md env m K (.UnaryOp .USub (.Constant (.int 1) k p) pos) (fun v K => Has K (.int (-1)) v) := Ev.neg Ev.cint
end
end Mine
namespace Mine
section
variable {prog : Program} {w : World} {Kf : Frag} {mg mb : Str → Option Value} {n : Nat} {md : Mode} {fd : FuncData} {f : Addr} {m : Str → Option Value} {K : Kn} {J : JT}
/-- a for whose body goes on to the next turn -/
theorem Run.forC {target iter : Expr} {names : List Str} {body rest : List Stmt} {pos : Pos} {xs : List Item} (I : Nat → Kn → (Str → Option Value) → Prop)
    (src : IterF prog w Kf mg mb n md fd f K m target iter xs) (ht : IsTgt target names) (ha : ∀ it ∈ xs, it.arity = names.length)
    (hloc : ∀ x ∈ names, fd.scope.names.lookup x = some .local ∧ (x == ("__debug__" : Str)) = false)
    (h0 : ∀ K', (∀ a o, K a o → K' a o) → I 0 K' m)
    (step : ∀ i it K1 m1 bs, xs[i]? = some it → (∀ a o, K a o → K1 a o) → I i K1 m1 → Vals K1 it names bs → Run prog w Kf mg mb n md fd f K1 (updAll m1 bs) body (fun fl K' m' => fl = .next ∧ I (i + 1) K' m'))
    (hr : ∀ K' m', (∀ a o, K a o → K' a o) → I xs.length K' m' → Run prog w Kf mg mb n md fd f K' m' rest J)
    (hs : ∀ L x, foldedSetIterable iter (callEnvC fd L f) x = pure x := by intro _ _; rfl) : Run prog w Kf mg mb n md fd f K m (.For target iter body [] pos :: rest) J :=
  fun A L s Q E ok X q => .mk <| wpAny_execs_cons (Run1.for (md := fun _ => md) (J := I) (fun _ => ⟨rfl, rfl⟩) src ht ha hloc h0 (fun i it K1 m1 bs A L s Q E hit hK hI hB ok X q => by
      refine Wp.h <| step i it K1 m1 bs hit hK hI hB A L s Q E ok X fun fl K' m' h' tk t X' j => ?_
      obtain ⟨rfl, j⟩ := j
      exact q K' m' h' tk t X' j) hs A L s _ E ok X fun K' m' h' tk t X' j =>
    Wp.h <| hr K' m' t.sub j A L _ _ E ok X' fun fl K2 m2 h2 tk2 t2 X2 j2 => q fl K2 m2 h2 tk2 (t.trans t2 X2) X2 j2)
end
end Mine
namespace Mine
noncomputable def zipI (g : Int → Int → Int) (xs ys : List Int) : List Int := (xs.zip ys).map fun p => g p.1 p.2
theorem zip_item {xs ys : List Int} {g : Int → Int → Int} {i : Nat} {it : Item} {U : Ty} (hit : (((xs.map Ty.int).zip (ys.map Ty.int)).map fun p => Item.two p.1 p.2)[i]? = some it)
    (hU : ((xs.zip ys).map fun p => Ty.int (g p.1 p.2))[i]? = some U) : ∃ x y, xs[i]? = some x ∧ ys[i]? = some y ∧ it = .two (.int x) (.int y) ∧ U = .int (g x y) := by
  rw [List.getElem?_map] at hit hU
  obtain ⟨⟨T, T'⟩, hTU, rfl⟩ := Option.map_eq_some_iff.mp hit
  obtain ⟨hT, hT'⟩ := List.getElem?_zip_eq_some.mp hTU
  simp only [List.getElem?_map] at hT hT'
  obtain ⟨x, hx, rfl⟩ := Option.map_eq_some_iff.mp hT
  obtain ⟨y, hy, rfl⟩ := Option.map_eq_some_iff.mp hT'
  obtain ⟨⟨p, q⟩, hpq, rfl⟩ := Option.map_eq_some_iff.mp hU
  obtain ⟨hp, hq⟩ := List.getElem?_zip_eq_some.mp hpq
  rw [hx] at hp
  rw [hy] at hq
  cases hp; cases hq
  exact ⟨_, _, hx, hy, rfl, rfl⟩
section
variable {prog : Program} {w : World} {Kf : Frag} {mg mb : Str → Option Value} {n : Nat} {md : Mode} {env : Env} {m : Str → Option Value} {K : Kn}
/-- [f(a, b) for a, b in zip(one, other)] -/
theorem Ev.zipComp {elt e1 e2 : Expr} {a b xz : Str} {pa pb pt pz pos pos2 : Pos} {k : Nat} {scope : Scope} {cl : List (Str × Addr)} {xs ys : List Int} {g : Int → Int → Int}
    (hn : Ev prog w Kf mg mb n md env m K (.Name xz pz) (fun v _ => v = .type "zip")) (h1 : Ev prog w Kf mg mb n md env m K e1 (fun v K => Has K (.ints xs) v)) (h2 : Ev prog w Kf mg mb n md env m K e2 (fun v K => Has K (.ints ys) v)) (hl : xs.length ≤ 1000)
    (hclos : closureFor scope env = pure cl) (hcell : ∀ y ∈ scope.names, y.2 ≠ .cell) (hkind : scope.kind = .function) (hnames : ∀ x ∈ scope.names, x.2 = .local → scope.names.lookup x.1 = some .local)
    (hloc : ∀ x ∈ [a, b], scope.names.lookup x = some .local ∧ (x == ("__debug__" : Str)) = false)
    (he : ∀ x y u v K1 C, x ∈ xs → y ∈ ys → Has K1 (.int x) u → Has K1 (.int y) v → Ev prog w Kf mg mb n md (compEnvC scope cl C env) (updAll (mcap [] m) [(a, u), (b, v)]) K1 elt (fun v K => Has K (.int (g x y)) v))
    (hs : ∀ x, foldedSetIterable (.Call (.Name xz pz) [e1, e2] [] pos) env x = pure x := by intro _; rfl)
    (hst : starEach [e1, e2] env = (false, eval e1 env) :: starEach [e2] env := by rfl) (hst2 : starEach [e2] env = (false, eval e2 env) :: starEach [] env := by rfl) :
    Ev prog w Kf mg mb n md env m K (.ListComp elt [⟨.Tuple [.Name a pa, .Name b pb] k pt, .Call (.Name xz pz) [e1, e2] [] pos, [], 0⟩] scope pos2) (fun v K => Has K (.ints (zipI g xs ys)) v) := by
  refine Ev.imp (P := fun v K' => IsListOf K' ((xs.zip ys).map fun p => .int (g p.1 p.2)) v) ?_ (fun v K' _ h => HasInts.of (by unfold zipI; rw [List.map_map]; exact h))
  refine Ev.comp (names := [a, b]) (cap := []) (xs := ((xs.map Ty.int).zip (ys.map Ty.int)).map fun p => .two p.1 p.2) (Iter.zip hn (h1.imp fun _ _ _ h => IsListOf.ints h) (h2.imp fun _ _ _ h => IsListOf.ints h) hst hst2) (.pair _ _ _ _ _ _) ?_ hclos hcell hkind hnames hloc .nil (by simp) ?_ ?_ hs
  · intro it hit
    obtain ⟨T, _, rfl⟩ := List.mem_map.mp hit
    rfl
  · have : (((xs.map Ty.int).zip (ys.map Ty.int)).map fun p => Item.two p.1 p.2).length ≤ xs.length := by simp; omega
    simp only [sizeLine]
    omega
  · intro i it U bs K1 C hit hU hK hB
    obtain ⟨x, y, hx, hy, rfl, rfl⟩ := zip_item hit hU
    cases hB with
    | two hu hv => exact he x y _ _ K1 C (List.mem_of_getElem? hx) (List.mem_of_getElem? hy) hu hv
end
end Mine
namespace Mine
section
variable {prog : Program} {w : World} {Kf : Frag} {mg mb : Str → Option Value} {n : Nat} {md : Mode} {fd : FuncData} {f L : Addr} {m : Str → Option Value} {K : Kn} {J : JT}
theorem storeFns2 {M : Model} {env : Env} {a b : Str} {pa pb : Pos} : StoreFns M env ((assignEach [.Name a pa, .Name b pb] env).map (·.2)) [a, b] := by
  show StoreFns M env [assign (.Name a pa) env, assign (.Name b pb) env] [a, b]
  exact .cons (fun _ _ _ _ _ h => wpAny_assign_Name h) (.cons (fun _ _ _ _ _ h => wpAny_assign_Name h) .nil)
/-- a, b = a pair -/
theorem Run.assign2 {a b : Str} {pa pb : Pos} {k : Nat} {tpos pos : Pos} {value : Expr} {rest : List Stmt} {T U : Ty} (h : EvF prog w Kf mg mb n md fd f K m value (fun v K => IsTupOf K [T, U] v))
    (hst : [a, b].all (storesB fd.scope) = true)
    (hr : ∀ u v K', (∀ a o, K a o → K' a o) → Has K' T u → Has K' U v → Run prog w Kf mg mb n md fd f K' (updAll m [(a, u), (b, v)]) rest J)
    (hs : ∀ env : Env, swapsWithSole [.Tuple [.Name a pa, .Name b pb] k tpos] value pos.line env = pure false)
    (hw : ∀ env : Env, swappedStores [.Tuple [.Name a pa, .Name b pb] k tpos] value env = pure none) : Run prog w Kf mg mb n md fd f K m (.Assign [.Tuple [.Name a pa, .Name b pb] k tpos] value pos :: rest) J :=
  Run.assignTup (names := [a, b]) (Ts := [T, U]) h rfl hst (fun _ => storeFns2) (fun vals K' hK hv => by
    cases hv with
    | cons h1 r => cases r with
      | cons h2 r => cases r; exact hr _ _ K' hK h1 h2) (fun _ => hs _) (fun _ => hw _)
theorem Run.swap2 {a b : Str} {pa pb : Pos} {k : Nat} {tpos pos : Pos} {value : Expr} {rest : List Stmt} {T U : Ty} (h : EvF prog w Kf mg mb n md fd f K m value (fun v K => IsTupOf K [T, U] v))
    (hst : [a, b].all (storesB fd.scope) = true)
    (hr : ∀ u v K', (∀ a o, K a o → K' a o) → Has K' T u → Has K' U v → Run prog w Kf mg mb n md fd f K' (updAll m [(b, v), (a, u)]) rest J)
    (hs : ∀ L, swapsWithSole [.Tuple [.Name a pa, .Name b pb] k tpos] value pos.line (callEnvC fd L f) = pure false := by intro _; rfl)
    (hw : ∀ L, swappedStores [.Tuple [.Name a pa, .Name b pb] k tpos] value (callEnvC fd L f) = pure (some [a, b]) := by intro _; rfl) : Run prog w Kf mg mb n md fd f K m (.Assign [.Tuple [.Name a pa, .Name b pb] k tpos] value pos :: rest) J :=
  Run.assignSwp (names := [a, b]) (Ts := [T, U]) h rfl hst (fun vals K' hK hv => by
    cases hv with
    | cons h1 r => cases r with
      | cons h2 r => cases r; exact hr _ _ K' hK h1 h2) hs hw
end
end Mine

-- Core14
namespace Mine

/-! # Expressions and statements that change the mode -/
section
variable {Kf : Frag} {mg mb : Str → Option Value} {md md1 md2 : Mode} {env : Env} {m : Str → Option Value} {K K1 K2 K' : Kn} {h h1 h2 h' : Heap} {fd : FuncData} {L : Addr}

theorem Cx.to (x : Cx Kf mg mb md env m K h) (t : Step md1 K h K' h') (hc : md1.c = md.c) : Cx Kf mg mb md1 env m K' h' where
  g := by
    have := x.g
    rw [← hc] at this
    exact this.ext fun a o hX e => t.ext a o hX e
  eg := x.eg
  eb := x.eb
  ek := x.ek
  sees := fun y v hy M A Q E s pos k hq => (x.sees y v hy) M A Q E s pos (fun a o ha e => k a o (by rw [hc]; exact ha) (t.ext a o (by rw [hc]; exact ha) e)) hq
  cells := fun y v hy hk => let ⟨c, h1, ⟨o, h2, h3⟩, h4⟩ := x.cells y v hy hk; ⟨c, h1, ⟨o, t.ext c o (by rw [hc]; exact h4) h2, h3⟩, by rw [hc]; exact h4⟩
  known := t.known
  off := t.off
  inv := t.inv
theorem Step.transT (s : Step md1 K h K1 h1) (t : Step md2 K1 h1 K2 h2) (hc : md2.c = md1.c) : Step md2 K h K2 h2 where
  ext := fun a o ha e => t.ext a o ha (s.ext a o (by rw [← hc]; exact ha) e)
  sub := fun a o e => t.sub a o (s.sub a o e)
  known := t.known
  off := t.off
  fresh := fun a o e => by
    rcases t.fresh a o e with e1 | e1
    · exact s.fresh a o e1
    · right
      cases q : h.get? a with
      | none => rfl
      | some o' => have := s.ext a o' (by rw [← hc]; exact t.off a o e) q; rw [e1] at this; cases this
  inv := t.inv
theorem FX.to (x : FX Kf mg mb md fd L K m h) (t : Step md1 K h K' h') (hc : md1.c = md.c) (hf : md1.foot = md.foot) : FX Kf mg mb md1 fd L K' m h' where
  g := by
    have := x.g
    rw [← hc] at this
    exact this.ext fun a o hX e => t.ext a o (fun q => hX (.inl q)) e
  fr := by
    obtain ⟨lm, cm, hn, hcl, hm⟩ := x.fr
    refine ⟨lm, cm, ?_, fun k c hk => ?_, hm⟩
    · obtain ⟨o, es, ep, e, r⟩ := hn
      exact ⟨o, es, ep, t.ext _ _ (by rw [hc]; exact x.cL) e, r⟩
    · obtain ⟨o, e, r⟩ := hcl k c hk
      exact ⟨o, t.ext _ _ (by rw [hc]; exact x.cC ⟨k, hk⟩) e, r⟩
  apart := x.apart
  above := x.above
  known := t.known
  off := t.off
  offL := fun a o e => by
    rcases t.fresh a o e with e1 | e1
    · exact x.offL a o e1
    · obtain ⟨lm, cm, hn, hcl, hm⟩ := x.fr
      constructor
      · rintro rfl
        obtain ⟨o', es, ep, e', r⟩ := hn
        rw [e1] at e'; cases e'
      · rintro ⟨k, hk⟩
        obtain ⟨o', e', r⟩ := hcl k a hk
        rw [e1] at e'; cases e'
  foot := by rw [hf]; exact x.foot
  inv := t.inv
  eg := x.eg
  eb := x.eb
  ek := x.ek
theorem StepX.transT (s : StepX md fd L K h K1 h1) (t : StepX md1 fd L K1 h1 K2 h2) (x : FX Kf mg mb md2 fd L K2 m h2) (c1 : md1.c = md.c) (c2 : md2.c = md.c) : StepX md fd L K h K2 h2 where
  ext := fun a o hc hL hC e => t.ext a o (by rw [c1]; exact hc) hL hC (s.ext a o hc hL hC e)
  sub := fun a o e => t.sub a o (s.sub a o e)
  fresh := fun a o e => by
    rcases t.fresh a o e with e1 | e1
    · exact s.fresh a o e1
    · right
      cases q : h.get? a with
      | none => rfl
      | some o' => have := s.ext a o' (by rw [← c2]; exact x.off a o e) (x.offL a o e).1 (x.offL a o e).2 q; rw [e1] at this; cases this
theorem StepX.ofT (t : Step md1 K h K' h') (c1 : md1.c = md.c) : StepX md fd L K h K' h' := ⟨fun a o hc _ _ e => t.ext a o (by rw [c1]; exact hc) e, t.sub, t.fresh⟩
end

section
variable (prog : Program) (w : World) (Kf : Frag) (mg mb : Str → Option Value)
noncomputable def EvT (n : Nat) (md md1 : Mode) (env : Env) (m : Str → Option Value) (K : Kn) (e : Expr) (P : Value → Kn → Prop) : Prop :=
  ∀ (A : Around) (s : Shared) (Q E : Value → Shared → Prop), Ok n A → Cx Kf mg mb md env m K s.heap → Gives md1 K P s Q → Wp (wpAny (model prog w) A (eval e env) Q E s)
noncomputable def OpT (n : Nat) (md md1 : Mode) (K : Kn) (t : Sem Value) (P : Value → Kn → Prop) : Prop :=
  ∀ (A : Around) (s : Shared) (Q E : Value → Shared → Prop), Ok n A → Gd Kf mg mb (fun a => md.c = some a) s.heap → Step md K s.heap K s.heap → Gives md1 K P s Q → Wp (wpAny (model prog w) A t Q E s)
noncomputable def RunT (n : Nat) (md md1 : Mode) (fd : FuncData) (f : Addr) (K : Kn) (m : Str → Option Value) (st : List Stmt) (J : JT) : Prop :=
  ∀ (A : Around) (L : Addr) (s : Shared) (Q : Flow → Shared → Prop) (E : Value → Shared → Prop), Ok n A → FX Kf mg mb md fd L K m s.heap →
    (∀ fl K' m' h' tk, StepX md fd L K s.heap K' h' → FX Kf mg mb md1 fd L K' m' h' → J fl K' m' → Q fl { s with heap := h', toks := tk }) → Wp (wpAny (model prog w) A (execs st (callEnvC fd L f)) Q E s)
end

section
variable {prog : Program} {w : World} {Kf : Frag} {mg mb : Str → Option Value} {n : Nat} {md md1 md2 : Mode} {env : Env} {m : Str → Option Value} {K : Kn} {fd : FuncData} {f L : Addr} {J : JT}

theorem EvT.of {e : Expr} {P : Value → Kn → Prop} (h : Ev prog w Kf mg mb n md env m K e P) : EvT prog w Kf mg mb n md md env m K e P := h
theorem RunT.of {st : List Stmt} (h : Run prog w Kf mg mb n md fd f K m st J) : RunT prog w Kf mg mb n md md fd f K m st J := h
theorem EvT.bin {o : PySem.Operator} {l r : Expr} {pos : Pos} {P1 P2 P : Value → Kn → Prop} (c1 : md1.c = md.c) (c2 : md2.c = md1.c) (h1 : EvT prog w Kf mg mb n md md1 env m K l P1) (m1 : Mono P1)
    (h2 : ∀ K', (∀ a o, K a o → K' a o) → EvT prog w Kf mg mb n md1 md2 env m K' r P2) (m2 : Mono P2)
    (op : ∀ v1 v2 K', (∀ a o, K a o → K' a o) → P1 v1 K' → P2 v2 K' → Op prog w Kf mg mb n md2 K' (binaryOp o v1 v2) P) : EvT prog w Kf mg mb n md md2 env m K (.BinOp l o r pos) P :=
  fun A s Q E ok cx q => .mk <| wpAny_BinOp (Wp.h <| h1 A s _ E ok cx fun v1 K1 h1' tk1 t1 p1 => Wp.h <| h2 K1 t1.sub A _ _ E ok (cx.to t1 c1) fun v2 K2 h2' tk2 t2 p2 =>
    have t4 := t1.transT t2 c2
    have cx2 := (cx.to t1 c1).to t2 c2
    Wp.h <| op v1 v2 K2 t4.sub (m1 _ _ _ t2.sub p1) p2 A _ _ E ok cx2.g cx2.st fun v K' h' tk t p => q v K' h' tk (t4.trans t) p)
/-- a pair of values with words of their own -/
noncomputable def IsTup2 (P1 P2 : Value → Kn → Prop) (v : Value) (K : Kn) : Prop := ∃ a v1 v2, v = .ref a ∧ K a (tupOf [v1, v2] 0) ∧ P1 v1 K ∧ P2 v2 K
theorem EvT.tup2 {e1 e2 : Expr} {k : Nat} {pos : Pos} {P1 P2 : Value → Kn → Prop} (c1 : md1.c = md.c) (c2 : md2.c = md1.c) (h1 : EvT prog w Kf mg mb n md md1 env m K e1 P1) (m1 : Mono P1)
    (h2 : ∀ K', (∀ a o, K a o → K' a o) → EvT prog w Kf mg mb n md1 md2 env m K' e2 P2) (m2 : Mono P2)
    (s1 : starEach [e1, e2] env = (false, eval e1 env) :: starEach [e2] env) (s2 : starEach [e2] env = (false, eval e2 env) :: starEach [] env) :
    EvT prog w Kf mg mb n md md2 env m K (.Tuple [e1, e2] k pos) (IsTup2 P1 P2) :=
  fun A s Q E ok cx q => .mk <| wpAny_Tuple (wpAny_items_cons (Wp.h <| h1 A s _ E ok cx fun v1 K1 _ _ t1 p1 => wpAny_items_cons (Wp.h <| h2 K1 t1.sub A _ _ E ok (cx.to t1 c1) fun v2 K2 h2' tk2 t2 p2 => wpAny_items_nil ⟨by simp [sizeLine], by
    have t4 := t1.transT t2 c2
    have cx2 := (cx.to t1 c1).to t2 c2
    exact q _ _ _ _ (t4.trans (step_new cx2.st rfl)) ⟨_, v1, v2, rfl, .inr ⟨rfl, rfl⟩, m1 _ _ _ (fun a o e => .inl (t2.sub a o e)) p1, m2 _ _ _ (fun _ _ => .inl) p2⟩⟩) s2) s1)
theorem EvT.call {x : Str} {p pos : Pos} {e : Expr} {es : List Expr} {f : Addr} {o : Obj} {fd : FuncData} {Ts : List Ty} {P : Value → Kn → Prop} (hn : Ev prog w Kf mg mb n md env m K (.Name x p) (fun v _ => v = .ref f))
    (ho : Kf.lookup f = some o) (hd : o.data = .func fd) (ha : Evs prog w Kf mg mb n md env m K (e :: es) (fun vs K => HasAll K Ts vs))
    (hf : ∀ vs K', (∀ a o, K a o → K' a o) → HasAll K' Ts vs → OpT prog w Kf mg mb n md md1 K' (PySem.call (.ref f) vs) P) (c1 : md1.c = md.c)
    (he : starEach (e :: es) env = (false, eval e env) :: starEach es env := by rfl) : EvT prog w Kf mg mb n md md1 env m K (.Call (.Name x p) (e :: es) [] pos) P :=
  fun A s Q E ok cx q => .mk <| PyProof.Rows.Call_ (Wp.h <| hn A s _ E ok cx fun v1 K1 h1 tk1 t1 p1 => by
    obtain rfl := p1
    refine PyProof.Rows.callWith_def hd (Wp.h <| ha A _ _ _ E ok ((cx.step t1).down t1.sub) fun vs K2 h2 tk2 t2 p2 => ?_) he
    have t4 := t1.trans (t2.both t1.sub t1.known t1.off)
    exact ⟨(cx.step t4).g.kin f o ho, Wp.h <| hf vs (Both K1 K2) t4.sub (HasAll.mono (fun _ _ => .inr) p2) A _ _ E ok (cx.step t4).g (cx.step t4).st fun v K' h' tk t p => q v K' h' tk (t4.transT t c1) p⟩)
theorem EvT.sub {value slice : Expr} {pos : Pos} {P1 P2 P : Value → Kn → Prop} (c1 : md1.c = md.c) (h1 : Ev prog w Kf mg mb n md env m K value P1) (m1 : Mono P1) (h2 : ∀ K', (∀ a o, K a o → K' a o) → EvT prog w Kf mg mb n md md1 env m K' slice P2) (m2 : Mono P2)
    (op : ∀ v i K', (∀ a o, K a o → K' a o) → P1 v K' → P2 i K' → GetOp prog w Kf mg mb n md1 K' v i P) : EvT prog w Kf mg mb n md md1 env m K (.Subscript value slice pos) P := by
  intro A s Q E ok cx q
  refine Wp.mk ?_
  rw [eval_Subscript]
  refine wpAny_bind (Wp.h <| h1 A s _ E ok cx fun v1 K1 h1' tk1 t1 p1 => wpAny_bind (wpAny_holding (Wp.h <| h2 K1 t1.sub A _ _ E ok (cx.step t1) fun v2 K2 h2' tk2 t2 p2 => wpAny_bind (wpAny_standAt ?_))))
  have t4 := t1.transT t2 c1
  have cx2 := (cx.step t1).to t2 c1
  obtain ⟨T, id, hT, hl, hop⟩ := op v1 v2 K2 t4.sub (m1 _ _ _ t2.sub p1) p2
  have hT' := hT { s with heap := h2', toks := tk2 } t4.known
  refine wpAny_bind ?_
  rw [getitemInPython_of_ne hT'.not_modules]
  refine wpAny_bind (wpAny_specialOf hT' hl ?_)
  have fin : wpAny (model prog w) A (subscripted slice false v1 v2) (fun r s₃ => wpAny (model prog w) A (letTemporaryGo value v1 r >>= fun _ => pure r) Q E s₃) E { s with heap := h2', toks := tk2 } :=
    wpAny_subscripted (Wp.h <| hop A _ _ E ok cx2.g cx2.st fun v K' h' tk t p => wpAny_bind (wpAny_letTemporaryGo (wpAny_pure (q v K' h' tk (t4.trans t) p))))
  first
    | exact wpAny_pure (wpAny_bind fin)
    | exact wpAny_bind (wpAny_pure (wpAny_bind fin))
    | exact wpAny_bind fin

/-! statements -/
theorem RunT.assign {x : Str} {xp pos : Pos} {e : Expr} {rest : List Stmt} {P : Value → Kn → Prop} (c1 : md1.c = md.c) (f1 : md1.foot = md.foot) (c2 : md2.c = md.c) (hx : Stores fd x) (h : ∀ L, EvT prog w Kf mg mb n md md1 (callEnvC fd L f) m K e P)
    (hr : ∀ v K', (∀ a o, K a o → K' a o) → P v K' → RunT prog w Kf mg mb n md1 md2 fd f K' (upd m x v) rest J)
    (hs : ∀ L, swapsWith e (some (.Name x xp)) pos.line (callEnvC fd L f) = pure false := by intro _; rfl) : RunT prog w Kf mg mb n md md2 fd f K m (.Assign [.Name x xp] e pos :: rest) J :=
  fun A L s Q E ok X q => .mk <| wpAny_execs_cons (wpAny_Assign_Name (Wp.h <| h L A s _ E ok X.cx fun v K1 h1' tk1 t1 p => (X.to t1 c1 f1).store (s := { s with heap := h1', toks := tk1 }) (hx.at L) hx.db fun h2' tk2 X2 t2 =>
    Wp.h <| hr v K1 t1.sub p A L _ _ E ok X2 fun fl K3 m3 h3' tk3 t3 X3 j => q fl K3 m3 h3' tk3 (((StepX.ofT t1 c1).transT t2 X2 c1 c1).transT t3 X3 c1 c2) X3 j) (hs L))
theorem RunT.skip {test : Expr} {body rest : List Stmt} {pos : Pos} (c1 : md1.c = md.c) (ht : TstF prog w Kf mg mb n md fd f K m test false)
    (hr : ∀ K', (∀ a o, K a o → K' a o) → RunT prog w Kf mg mb n md md1 fd f K' m rest J) : RunT prog w Kf mg mb n md md1 fd f K m (.If test body [] pos :: rest) J :=
  fun A L s Q E ok X q => .mk <| wpAny_execs_cons (wpAny_If (Wp.h <| ht L A s _ E ok X.cx fun K1 h1' tk1 t1 => wpAny_execs_nil (Wp.h <| hr K1 t1.sub A L _ _ E ok (X.step t1) fun fl K' m' h' tk t X' j => q fl K' m' h' tk ((StepX.of t1).transT t X' rfl c1) X' j)))
theorem RunT.ret {e : Expr} {pos : Pos} {rest : List Stmt} {P : Value → Kn → Prop} (c1 : md1.c = md.c) (f1 : md1.foot = md.foot) (h : ∀ L, EvT prog w Kf mg mb n md md1 (callEnvC fd L f) m K e P) (hj : ∀ v K', (∀ a o, K a o → K' a o) → P v K' → J (.ret v) K' m) :
    RunT prog w Kf mg mb n md md1 fd f K m (.Return (some e) pos :: rest) J :=
  fun A L s Q E ok X q => .mk <| wpAny_execs_cons (wpAny_Return_some (Wp.h <| h L A s _ E ok X.cx fun v K' h' tk t p => q (.ret v) K' m h' tk (StepX.ofT t c1) (X.to t c1 f1) (hj v K' t.sub p)))
/-- a, b = the pair, name by name from the left -/
theorem RunT.assign2 {a b : Str} {pa pb : Pos} {k : Nat} {tpos pos : Pos} {value : Expr} {rest : List Stmt} {P1 P2 : Value → Kn → Prop} (c1 : md1.c = md.c) (f1 : md1.foot = md.foot) (c2 : md2.c = md.c) (h : ∀ L, EvT prog w Kf mg mb n md md1 (callEnvC fd L f) m K value (IsTup2 P1 P2))
    (hst : [a, b].all (storesB fd.scope) = true)
    (hr : ∀ u v K', (∀ a o, K a o → K' a o) → P1 u K' → P2 v K' → RunT prog w Kf mg mb n md1 md2 fd f K' (updAll m [(a, u), (b, v)]) rest J)
    (hs : ∀ L, swapsWithSole [.Tuple [.Name a pa, .Name b pb] k tpos] value pos.line (callEnvC fd L f) = pure false := by intro _; rfl)
    (hw : ∀ L, swappedStores [.Tuple [.Name a pa, .Name b pb] k tpos] value (callEnvC fd L f) = pure none := by intro _; rfl) : RunT prog w Kf mg mb n md md2 fd f K m (.Assign [.Tuple [.Name a pa, .Name b pb] k tpos] value pos :: rest) J :=
  fun A L s Q E ok X q => .mk <| wpAny_execs_cons (Assign_Tuple (Wp.h <| h L A s _ E ok X.cx fun v K1 h1' tk1 t1 p => by
    obtain ⟨ad, u, v, rfl, ha, hu, hv⟩ := p
    have X1 := X.to t1 c1 f1
    refine wpAny_assign_Tuple (items := [u, v].toArray) (s := { s with heap := h1', toks := tk1 }) ok.hh ⟨_, X1.known _ _ ha, rfl, _, rfl⟩ rfl rfl fun h2 he => ?_
    have st2 := step_full (X1.cx (f := f)).st (h' := h2) fun b o e => he b o (Nat.ne_of_lt (Heap.lt_size e)) e
    have X2 := X1.step st2
    have t2 : StepX md1 fd L K1 h1' K1 h2 := .of st2
    refine stores_run (names := [a, b]) (s := { s with heap := h2, toks := tk1 }) X2 storeFns2 rfl (fun x hx => List.all_eq_true.mp hst x hx) fun h3 tk3 X3 t3 => ?_
    exact Wp.h <| hr u v K1 t1.sub hu hv A L _ _ E ok X3 fun fl K4 m4 h4' tk4 t4 X4 j4 => q fl K4 m4 h4' tk4 ((((StepX.ofT t1 c1).transT t2 X2 c1 c1).transT t3 X3 c1 c1).transT t4 X4 c1 c2) X4 j4) (hs L) (hw L))
/-- a, b = the pair, name by name from the right -/
theorem RunT.swap2 {a b : Str} {pa pb : Pos} {k : Nat} {tpos pos : Pos} {value : Expr} {rest : List Stmt} {P1 P2 : Value → Kn → Prop} (c1 : md1.c = md.c) (f1 : md1.foot = md.foot) (c2 : md2.c = md.c) (h : ∀ L, EvT prog w Kf mg mb n md md1 (callEnvC fd L f) m K value (IsTup2 P1 P2))
    (hst : [b, a].all (storesB fd.scope) = true)
    (hr : ∀ u v K', (∀ a o, K a o → K' a o) → P1 u K' → P2 v K' → RunT prog w Kf mg mb n md1 md2 fd f K' (updAll m [(b, v), (a, u)]) rest J)
    (hs : ∀ L, swapsWithSole [.Tuple [.Name a pa, .Name b pb] k tpos] value pos.line (callEnvC fd L f) = pure false := by intro _; rfl)
    (hw : ∀ L, swappedStores [.Tuple [.Name a pa, .Name b pb] k tpos] value (callEnvC fd L f) = pure (some [a, b]) := by intro _; rfl) : RunT prog w Kf mg mb n md md2 fd f K m (.Assign [.Tuple [.Name a pa, .Name b pb] k tpos] value pos :: rest) J :=
  fun A L s Q E ok X q => .mk <| wpAny_execs_cons (Assign_Tuple_swapped (names := [a, b]) (Wp.h <| h L A s _ E ok X.cx fun v K1 h1' tk1 t1 p => by
    obtain ⟨ad, u, v, rfl, ha, hu, hv⟩ := p
    have X1 := X.to t1 c1 f1
    refine unpack_run (s := { s with heap := h1', toks := tk1 }) X1 ok.hh ha rfl fun h2 X2 t2 => ?_
    refine stores_run (names := [b, a]) (s := { s with heap := h2, toks := tk1 }) X2 (storeFns_bind [b, a]) rfl (fun x hx => List.all_eq_true.mp hst x hx) fun h3 tk3 X3 t3 => ?_
    exact Wp.h <| hr u v K1 t1.sub hu hv A L _ _ E ok X3 fun fl K4 m4 h4' tk4 t4 X4 j4 => q fl K4 m4 h4' tk4 ((((StepX.ofT t1 c1).transT t2 X2 c1 c1).transT t3 X3 c1 c1).transT t4 X4 c1 c2) X4 j4) (hs L) (hw L))

/-! a call of a def that changes the mode -/
theorem op_callT {body : List Stmt} {vals : List Value} {binds : List (Str × Value)} {P : Value → Kn → Prop} (c1 : md1.c = md.c) (D : DefOk Kf f fd body) (hbind : bindArgs fd ⟨vals, []⟩ = pure binds)
    (hnd : (binds.map (·.1)).Nodup) (hdb : ∀ p ∈ binds, (p.1 == ("__debug__" : Str)) = false)
    (hkind : ∀ p ∈ binds, fd.scope.names.lookup p.1 = some .local ∨ (fd.scope.names.lookup p.1 = some .cell ∧ ∀ L, ((cellsAt fd L).lookup p.1).isSome = true))
    (run : RunT prog w Kf mg mb n md md1 fd f K (bm binds) body J) (hj : ∀ fl K' m', (∀ a o, K a o → K' a o) → J fl K' m' → P (match fl with | .ret v => v | _ => .none) K') :
    OpT prog w Kf mg mb (n + 1) md md1 K (PySem.call (.ref f) vals) P := by
  intro A s Q E ok g x q
  refine Wp.mk ?_
  obtain ⟨o, ho, hd⟩ := D.ho
  refine wpAny_call (codeAny_call_cells (fd := fd) (binds := binds) (by have := ok.dep; omega) (g.kin f o ho) hd g.nolimit (codeRec_of g.kin D.hcd) D.hbody hbind D.hclo (fun p hp => (hkind p hp).imp id fun z => ⟨z.1, z.2 _⟩) (fun s₁ X => ?_) D.hco D.hgen D.hk)
  obtain ⟨h₁, tk₁, rfl, _⟩ := X.done
  have hkeep := X.toInCall.keep
  have hLs : s.heap.objs.size ≤ (callEnvC fd s.heap.objs.size f).locals := Nat.le_refl _
  have old : ∀ a o, s.heap.get? a = some o → a ≠ s.heap.objs.size ∧ ¬ IsCellAt fd s.heap.objs.size a := fun a o e => by
    have hlt := Heap.lt_size e
    refine ⟨Nat.ne_of_lt hlt, fun ⟨k, hk⟩ => ?_⟩
    have := X.above k a (mem_of_lookup hk)
    exact absurd (Nat.lt_trans hlt this) (Nat.lt_irrefl _)
  have agree := bind_agree (kindOf := (callEnvC fd s.heap.objs.size f).kindOf) binds (fun _ => none) (fun _ => none) hnd fun p hp => (hkind p hp).imp id (·.1)
  have FX₁ : FX Kf mg mb md fd s.heap.objs.size K (bm binds) h₁ := by
    obtain ⟨b, h0, hx0, hk0⟩ := g
    refine ⟨⟨b, h0, fun a ha => ?_, fun a o e => hkeep a o (hk0 a o e)⟩, ⟨_, _, X.toInCall.ns, X.cell, fun y v hy => ?_⟩, X.apart, X.above, fun a o e => hkeep a o (x.known a o e), x.off, fun a o e => old a o (x.known a o e),
      fun a ha => ?_, md.keep _ _ (fun a _ o e => hkeep a o e) x.inv, D.hg, D.hb, D.hk⟩
    · rcases ha with ha | rfl | ha
      · exact hx0 a ha
      · cases q : b.get? s.heap.objs.size with
        | none => rfl
        | some o' => exact absurd rfl (old _ o' (hk0 _ _ q)).1
      · cases q : b.get? a with
        | none => rfl
        | some o' => exact absurd ha (old _ o' (hk0 _ _ q)).2
    · have hmem : ∃ p ∈ binds, p.1 = y := by
        clear agree hkind hdb hnd hbind X run
        induction binds with
        | nil => cases hy
        | cons p r ih =>
          obtain ⟨k, u⟩ := p
          unfold bm at hy
          by_cases hyk : y = k
          · exact ⟨(k, u), List.mem_cons_self, hyk.symm⟩
          · rw [if_neg hyk] at hy
            obtain ⟨p, hp, e⟩ := ih hy
            exact ⟨p, List.mem_cons_of_mem _ hp, e⟩
      obtain ⟨p, hp, rfl⟩ := hmem
      refine ⟨hdb p hp, ?_⟩
      rcases agree.2 p.1 v hy with z | z
      · exact .inl z
      · refine .inr ⟨z.1, ?_, z.2⟩
        rcases hkind p hp with y | y
        · have z1 : fd.scope.names.lookup p.1 = some .cell := z.1
          rw [y] at z1; cases z1
        · exact Option.isSome_iff_exists.mp (y.2 _)
    · obtain ⟨o', ho'⟩ := md.here _ x.inv a ha
      exact old a o' ho'
  refine Wp.h <| run _ _ { s with heap := h₁, toks := tk₁ } _ _ ok.deeper FX₁ fun fl K' m' h' tk t X' j => ?_
  refine q _ K' h' tk ⟨fun a o hc e => t.ext a o (by rw [← c1]; exact hc) (old a o e).1 (old a o e).2 (hkeep a o e), t.sub, X'.known, X'.off, fun a o e => (t.fresh a o e).imp id fun e1 => ?_, X'.inv⟩ (hj fl K' m' t.sub j)
  cases q2 : s.heap.get? a with
  | none => rfl
  | some o' => have e1' : h₁.get? a = none := e1; rw [hkeep a o' q2] at e1'; cases e1'
end
end Mine

-- Core15
namespace Mine
/-! # The cask: a dict with 'cells' (a list) and 'at' (a number, at most b) -/
noncomputable abbrev caskKvs (lc : Addr) (k : Nat) (t : Tok) : List (Str × Value) := [(Str.ofString "cells", .ref lc), (Str.ofString "at", .int (k : Int) t)]
noncomputable def cm (prog : Program) (w : World) (a lc : Addr) (b : Nat) : Mode where
  c := some a
  foot := [a]
  I := fun h => ∃ k t, h.DictOf (PySem.strKind prog w) a (caskKvs lc k t) ∧ k ≤ b
  keep := fun h h' hk hI => by
    obtain ⟨k, t, ⟨o, es, ep, e, r⟩, hb⟩ := hI
    exact ⟨k, t, ⟨o, es, ep, hk a (List.mem_singleton.mpr rfl) o e, r⟩, hb⟩
  here := fun h hI x hx => by
    obtain ⟨k, t, ⟨o, es, ep, e, r⟩, hb⟩ := hI
    rw [List.mem_singleton.mp hx]
    exact ⟨o, e⟩
  sub := fun x hx => by injection hx with hx; rw [hx]; exact List.mem_singleton.mpr rfl

section
variable {prog : Program} {w : World} {Kf : Frag} {mg mb : Str → Option Value} {n : Nat} {env : Env} {m : Str → Option Value} {K : Kn} {fd : FuncData} {f L : Addr} {J : JT} {a lc : Addr} {b : Nat}

theorem cask_cells (k : Nat) (t : Tok) : valueAt (caskKvs lc k t) (Str.ofString "cells") = some (.ref lc) := by rfl
theorem cask_at (k : Nat) (t : Tok) : valueAt (caskKvs lc k t) (Str.ofString "at") = some (.int (k : Int) t) := by rfl

theorem Ev.cask {x s : Str} {p p2 pos : Pos} {j : Nat} {P : Value → Kn → Prop} (hx : m x = some (.ref a)) (hP : ∀ k t, k ≤ b → ∃ v, valueAt (caskKvs lc k t) s = some v ∧ P v K) :
    Ev prog w Kf mg mb n (cm prog w a lc b) env m K (.Subscript (.Name x p) (.Constant (.str s) j p2) pos) P := by
  intro A S Q E ok cx q
  refine Wp.mk ?_
  rw [eval_Subscript]
  refine wpAny_bind (cx.sees x _ hx _ A _ E S p (fun _ _ _ e => e) (wpAny_bind (wpAny_holding (Calls.Constant_str (wpAny_bind (wpAny_standAt ?_))))))
  obtain ⟨k, t, hD, hb⟩ := cx.inv
  obtain ⟨v, hv, hp⟩ := hP k t hb
  have hT : ({ S with toks := S.toks + 1 } : Shared).TypeIs (.ref a) "dict" := Heap.DictOf.typeIs (s := { S with toks := S.toks + 1 }) hD
  refine wpAny_bind ?_
  rw [getitemInPython_of_ne hT.not_modules]
  refine wpAny_bind (wpAny_specialOf hT slot_dict_getitem.lookup ?_)
  have fin : wpAny (model prog w) A (subscripted (.Constant (.str s) j p2) false (.ref a) (.str s S.toks)) (fun r s₃ => wpAny (model prog w) A (letTemporaryGo (.Name x p) (.ref a) r >>= fun _ => pure r) Q E s₃) E { S with toks := S.toks + 1 } :=
    wpAny_subscripted (wpAny_getItem_of (knd := PySem.strKind prog w) (strKind_is prog w s S.toks) (Heap.DictOf.mapOf hD) hv (wpAny_bind (wpAny_letTemporaryGo (wpAny_pure (q v K S.heap _ cx.st hp)))))
  first
    | exact wpAny_pure (wpAny_bind fin)
    | exact wpAny_bind (wpAny_pure (wpAny_bind fin))
    | exact wpAny_bind fin

/-- cask['at'] = e -/
theorem RunT.setAt {x : Str} {p p2 p3 pos : Pos} {j k : Nat} {e : Expr} {rest : List Stmt} {md2 : Mode} (c2 : md2.c = some a) (hx : m x = some (.ref a)) (he : ∀ L, Ev prog w Kf mg mb n (cm prog w a lc b) (callEnvC fd L f) m K e (fun v K => Has K (.int (k : Int)) v)) (hk : k ≤ b + 1)
    (hr : ∀ K', (∀ a o, K a o → K' a o) → RunT prog w Kf mg mb n (cm prog w a lc (b + 1)) md2 fd f K' m rest J)
    (hs : ∀ L, swapsWith e (some (.Subscript (.Name x p) (.Constant (.str (Str.ofString "at")) j p2) p3)) pos.line (callEnvC fd L f) = pure false := by intro _; rfl) :
    RunT prog w Kf mg mb n (cm prog w a lc b) md2 fd f K m (.Assign [.Subscript (.Name x p) (.Constant (.str (Str.ofString "at")) j p2) p3] e pos :: rest) J := by
  intro A L S Q E ok X q
  refine Wp.mk ?_
  refine wpAny_execs_cons (wpAny_Assign_Subscript (Wp.h <| he L A S _ E ok X.cx fun v K1 h1 tk1 t1 p1 => ?_) (hs L))
  obtain ⟨t, rfl⟩ := p1
  have X1 := X.step t1
  refine X1.cx.sees x _ hx _ A _ E { S with heap := h1, toks := tk1 } p (fun _ _ _ e => e) (Calls.Constant_str ?_)
  obtain ⟨k0, t0, hD, hb⟩ := X1.inv
  refine wpAny_setItem_pairs (knd := PySem.strKind prog w) (strKind_is prog w (Str.ofString "at") tk1) hD (fun h2 hD2 hs2 => ?_) (by simp [sizeLine])
  have hst : stored (caskKvs lc k0 t0) (Str.ofString "at") (.int (k : Int) t) = caskKvs lc k t := by rfl
  rw [hst] at hD2
  have hne : ∀ x, (cm prog w a lc b).c ≠ some x ↔ x ≠ a := fun x => ⟨fun hc z => hc (by rw [z]; rfl), fun hc z => by injection z with z; exact hc z.symm⟩
  have k2 : ∀ b o, b ≠ a → h1.get? b = some o → h2.get? b = some o := fun b o hb e => hs2.extBut b o hb e
  have fa := X1.foot a (List.mem_singleton.mpr rfl)
  have X2 : FX Kf mg mb (cm prog w a lc (b + 1)) fd L K1 m h2 := by
    refine ⟨X1.g.ext fun b o hX e => k2 b o (fun z => hX (.inl (by rw [z]; rfl))) e, ?_, X1.apart, X1.above, fun b o e => k2 b o (fun z => X1.off b o e (by rw [z]; rfl)) (X1.known b o e), X1.off, X1.offL, X1.foot, ⟨k, t, hD2, hk⟩, X1.eg, X1.eb, X1.ek⟩
    obtain ⟨lm', cm', hn, hc, hm⟩ := X1.fr
    refine ⟨lm', cm', ?_, fun k c hk => ?_, hm⟩
    · obtain ⟨o, es, ep, e, r⟩ := hn
      exact ⟨o, es, ep, k2 _ _ (fun z => fa.1 z.symm) e, r⟩
    · obtain ⟨o, e, r⟩ := hc k c hk
      exact ⟨o, k2 _ _ (fun z => fa.2 ⟨k, z ▸ hk⟩) e, r⟩
  have tX : StepX (cm prog w a lc b) fd L K S.heap K1 h2 := ⟨fun b o hc _ _ e => k2 b o ((hne b).mp hc) (t1.ext b o hc e), t1.sub, t1.fresh⟩
  exact Wp.h <| hr K1 t1.sub A L { S with heap := h2, toks := tk1 + 1 + 1 } _ E ok X2 fun fl K3 m3 h3 tk3 t3 X3 j3 => q fl K3 m3 h3 tk3 (tX.transT t3 X3 rfl c2) X3 j3
end
end Mine

-- Core16
namespace Mine
section
variable {prog : Program} {w : World} {Kf : Frag} {mg mb : Str → Option Value} {n : Nat} {md md1 md2 : Mode} {m : Str → Option Value} {K : Kn} {fd : FuncData} {f : Addr} {J : JT}
/-- if not A or not B: both hold; B may change the mode -/
theorem RunT.skipOr {x e : Expr} {body rest : List Stmt} {pos pos2 pos3 : Pos} (c1 : md1.c = md.c) (f1 : md1.foot = md.foot) (c2 : md2.c = md.c) (h1 : TstF prog w Kf mg mb n md fd f K m x false)
    (h2 : ∀ L K', (∀ a o, K a o → K' a o) → EvT prog w Kf mg mb n md md1 (callEnvC fd L f) m K' e (fun v K => Has K (.val (.bool true)) v))
    (hr : ∀ K', (∀ a o, K a o → K' a o) → RunT prog w Kf mg mb n md1 md2 fd f K' m rest J)
    (he : ∀ L, isTrue e (callEnvC fd L f) (eval e (callEnvC fd L f)) = (do let v ← eval e (callEnvC fd L f); standAt e.pos; holding [v] (truthy v)) := by intro _; rfl) :
    RunT prog w Kf mg mb n md md2 fd f K m (.If (.BoolOp .Or [x, .UnaryOp .Not e pos3] pos2) body [] pos :: rest) J :=
  fun A L s Q E ok X q => .mk <| wpAny_execs_cons (wpAny_If (wpAny_isTrue_BoolOp (wpAny_allTrue_Or_cons (Wp.h <| h1 L A s _ E ok X.cx fun K1 h1' tk1 t1 => wpAny_allTrue_Or_cons (wpAny_isTrue_Not (wpAny_isTrue_value (Wp.h <| h2 L K1 t1.sub A _ _ E ok (X.step t1).cx fun v K2 h2' tk2 t2 p => by
    obtain rfl : v = .bool true := p
    refine wpAny_truthy_bool (wpAny_allTrue_Or_nil (wpAny_execs_nil ?_))
    have X2 := (X.step t1).to t2 c1 f1
    exact Wp.h <| hr K2 (fun a o h => t2.sub a o (t1.sub a o h)) A L { s with heap := h2', toks := tk2 } _ E ok X2 fun fl K3 m3 h3 tk3 t3 X3 j => q fl K3 m3 h3 tk3 (((StepX.of t1).transT (StepX.ofT t2 c1) X2 rfl c1).transT t3 X3 c1 c2) X3 j) (he L)))))))
end
end Mine
namespace Mine
section
variable {prog : Program} {w : World} {Kf : Frag} {mg mb : Str → Option Value} {n : Nat} {m : Str → Option Value} {K : Kn} {fd : FuncData} {f : Addr} {J : JT}
theorem GetOp.imp {md : Mode} {v i : Value} {P P' : Value → Kn → Prop} (h : GetOp prog w Kf mg mb n md K v i P) (hp : ∀ v K', (∀ a o, K a o → K' a o) → P v K' → P' v K') : GetOp prog w Kf mg mb n md K v i P' :=
  let ⟨T, id, h1, h2, h3⟩ := h
  ⟨T, id, h1, h2, h3.imp hp⟩
theorem RunT.for {md : Nat → Mode} {md2 : Mode} {target iter : Expr} {names : List Str} {body rest : List Stmt} {pos : Pos} {xs : List Item} (I : Nat → Kn → (Str → Option Value) → Prop)
    (hmd : ∀ i, (md i).c = (md 0).c ∧ (md i).foot = (md 0).foot) (c2 : md2.c = (md 0).c)
    (src : IterF prog w Kf mg mb n (md 0) fd f K m target iter xs) (ht : IsTgt target names) (ha : ∀ it ∈ xs, it.arity = names.length)
    (hloc : ∀ x ∈ names, fd.scope.names.lookup x = some .local ∧ (x == ("__debug__" : Str)) = false)
    (h0 : ∀ K', (∀ a o, K a o → K' a o) → I 0 K' m)
    (step : ∀ i it K1 m1 bs, xs[i]? = some it → (∀ a o, K a o → K1 a o) → I i K1 m1 → Vals K1 it names bs → RunT prog w Kf mg mb n (md i) (md (i + 1)) fd f K1 (updAll m1 bs) body (fun fl K' m' => fl = .next ∧ I (i + 1) K' m'))
    (hr : ∀ K' m', (∀ a o, K a o → K' a o) → I xs.length K' m' → RunT prog w Kf mg mb n (md xs.length) md2 fd f K' m' rest J)
    (hs : ∀ L x, foldedSetIterable iter (callEnvC fd L f) x = pure x := by intro _ _; rfl) : RunT prog w Kf mg mb n (md 0) md2 fd f K m (.For target iter body [] pos :: rest) J :=
  fun A L s Q E ok X q => .mk <| wpAny_execs_cons (Run1.for (md := md) (J := I) hmd src ht ha hloc h0 (fun i it K1 m1 bs A L s Q E hit hK hI hB ok X q => by
      refine Wp.h <| step i it K1 m1 bs hit hK hI hB A L s Q E ok X fun fl K' m' h' tk t X' j => ?_
      obtain ⟨rfl, j⟩ := j
      exact q K' m' h' tk (t.mode (hmd i).1.symm) X' j) hs A L s _ E ok X fun K' m' h' tk t X' j =>
    Wp.h <| hr K' m' t.sub j A L _ _ E ok X' fun fl K2 m2 h2 tk2 t2 X2 j2 => q fl K2 m2 h2 tk2 (t.transT t2 X2 (hmd _).1 c2) X2 j2)
end
end Mine

-- Defs
namespace Mine
noncomputable def dueI (xs ys : List Int) (M : Nat) : List (Str × List Int) :=
  [(Str.ofString "bvand", zipI (fun a b => a * b) xs ys), (Str.ofString "bvor", zipI (fun a b => max a b) xs ys), (Str.ofString "bvxor", zipI (fun a b => if a != b then 1 else 0) xs ys),
   (Str.ofString "bvadd", sumI xs ys 0), (Str.ofString "bvsub", sumI xs (turnI ys) 1), (Str.ofString "bvmul", prodI xs ys),
   (Str.ofString "bvshl", if M < xs.length then moveI xs M else List.replicate xs.length 0),
   (Str.ofString "bvlshr", if M < xs.length then ((xs ++ List.replicate xs.length 0).drop M).take xs.length else List.replicate xs.length 0),
   (Str.ofString "bvudiv", (divI xs ys).1), (Str.ofString "bvurem", (divI xs ys).2)]
noncomputable def valI (ys : List Int) : Int := (ys.mapIdx fun k bit => bit * 2 ^ k).sum
noncomputable def reckonI (s : Str) (ends : List Int) (x y : Int) (low c d : Nat) : Ty :=
  if s = Str.ofString "ite" then .int (if x = 1 then ends.getD 1 0 else ends.getD 2 0) else
  if s = Str.ofString "bvnot" then .int (2 ^ c - 1 - x) else
  if s = Str.ofString "bvneg" then .int ((-x).fmod (2 ^ c)) else
  if s = Str.ofString "bvand" then .int (Builtin.bitAnd x y) else
  if s = Str.ofString "bvor" then .int (Builtin.bitOr x y) else
  if s = Str.ofString "bvxor" then .int (Builtin.bitXor x y) else
  if s = Str.ofString "bvadd" then .int ((x + y).fmod (2 ^ c)) else
  if s = Str.ofString "bvsub" then .int ((x - y).fmod (2 ^ c)) else
  if s = Str.ofString "bvmul" then .int ((x * y).fmod (2 ^ c)) else
  if s = Str.ofString "bvshl" then .int (if y < (c : Int) then (x * 2 ^ y.toNat).fmod (2 ^ c) else 0) else
  if s = Str.ofString "bvlshr" then .int (if y < (c : Int) then x.fdiv (2 ^ y.toNat) else 0) else
  if s = Str.ofString "bvudiv" then .int (if 0 < y then x.fdiv y else 2 ^ c - 1) else
  if s = Str.ofString "bvurem" then .int (if 0 < y then x.fmod y else x) else
  if s = Str.ofString "concat" then .int (x * 2 ^ d + y) else
  if s = Str.ofString "extract" then .int ((x.fdiv (2 ^ low)).fmod (2 ^ c)) else
  if s = Str.ofString "zero_extend" then .int x else
  if s = Str.ofString "sign_extend" then .int (if x.fdiv (2 ^ (d - 1)) = 1 then x + (2 ^ c - 2 ^ d) else x) else
  .val .none

end Mine

-- LawA
namespace Mine
noncomputable def rowN (n w : Nat) : List Int := (List.range w).map fun k => ((n / 2 ^ k % 2 : Nat) : Int)
theorem pow_castN (k : Nat) : (((2 ^ k : Nat)) : Int) = (2 : Int) ^ k := by push_cast; rfl
theorem row_nat (n w : Nat) : rowI (n : Int) w = rowN n w := by
  unfold rowI rowN
  apply List.map_congr_left
  intro k _
  rw [← pow_castN, Int.fdiv_eq_ediv_of_nonneg _ (Int.natCast_nonneg _), Int.fmod_eq_emod_of_nonneg _ (by decide)]
  push_cast
  rfl
theorem row_of {x : Int} (h : 0 ≤ x) (w : Nat) : rowI x w = rowN x.toNat w := by
  rw [← row_nat, Int.toNat_of_nonneg h]
theorem rowN_zero (n : Nat) : rowN n 0 = [] := rfl
theorem rowN_succ (n w : Nat) : rowN n (w + 1) = ((n % 2 : Nat) : Int) :: rowN (n / 2) w := by
  unfold rowN
  rw [List.range_succ_eq_map, List.map_cons, List.map_map]
  congr 1
  · simp
  · apply List.map_congr_left
    intro k _
    show ((n / 2 ^ (k + 1) % 2 : Nat) : Int) = ((n / 2 / 2 ^ k % 2 : Nat) : Int)
    rw [Nat.div_div_eq_div_mul, Nat.pow_succ, Nat.mul_comm]
theorem rowN_len (n w : Nat) : (rowN n w).length = w := by simp [rowN]
theorem rowN_mod : ∀ (w n : Nat), rowN (n % 2 ^ w) w = rowN n w
  | 0, _ => rfl
  | w + 1, n => by
    rw [rowN_succ, rowN_succ n]
    have e1 : n % 2 ^ (w + 1) % 2 = n % 2 := by
      rw [Nat.pow_succ, Nat.mul_comm]
      exact Nat.mod_mul_right_mod n 2 (2 ^ w)
    have e2 : n % 2 ^ (w + 1) / 2 = n / 2 % 2 ^ w := by
      rw [Nat.pow_succ, Nat.mul_comm]
      exact Nat.mod_mul_right_div_self n 2 (2 ^ w)
    rw [e1, e2, rowN_mod w]
theorem rowN_nil : ∀ w : Nat, rowN 0 w = List.replicate w 0
  | 0 => rfl
  | w + 1 => by rw [rowN_succ, Nat.zero_div, rowN_nil w, List.replicate_succ]; rfl
theorem rowN_app : ∀ (l w n : Nat), rowN n (l + w) = rowN n l ++ rowN (n / 2 ^ l) w
  | 0, w, n => by simp [rowN_zero]
  | l + 1, w, n => by
    rw [show l + 1 + w = (l + w) + 1 by omega, rowN_succ, rowN_succ n l, rowN_app l w, List.cons_append, Nat.div_div_eq_div_mul, Nat.pow_succ, Nat.mul_comm 2]
theorem sum_row : ∀ (w a b c : Nat), c ≤ 1 → sumI (rowN a w) (rowN b w) (c : Int) = rowN (a + b + c) w
  | 0, _, _, _, _ => rfl
  | w + 1, a, b, c, hc => by
    rw [rowN_succ, rowN_succ b, rowN_succ (a + b + c)]
    show ((((a % 2 : Nat) : Int)) + ((b % 2 : Nat) : Int) + (c : Int)).fmod 2 :: sumI (rowN (a / 2) w) (rowN (b / 2) w) (if 1 < (((a % 2 : Nat) : Int)) + ((b % 2 : Nat) : Int) + (c : Int) then 1 else 0) = _
    have e1 : ((((a % 2 : Nat) : Int)) + ((b % 2 : Nat) : Int) + (c : Int)).fmod 2 = (((a + b + c) % 2 : Nat) : Int) := by
      rw [Int.fmod_eq_emod_of_nonneg _ (by decide)]; omega
    have e2 : (if 1 < (((a % 2 : Nat) : Int)) + ((b % 2 : Nat) : Int) + (c : Int) then (1 : Int) else 0) = (((a % 2 + b % 2 + c) / 2 : Nat) : Int) := by
      split <;> omega
    rw [e1, e2, sum_row w _ _ _ (by omega)]
    congr 2
    omega
theorem turn_row : ∀ (w n : Nat), n < 2 ^ w → turnI (rowN n w) = rowN (2 ^ w - 1 - n) w
  | 0, _, _ => rfl
  | w + 1, n, h => by
    rw [Nat.pow_succ] at h
    rw [rowN_succ, rowN_succ (2 ^ (w + 1) - 1 - n), Nat.pow_succ]
    show (1 - ((n % 2 : Nat) : Int)) :: turnI (rowN (n / 2) w) = _
    rw [turn_row w (n / 2) (by omega)]
    congr 1
    · omega
    · congr 1
      omega
theorem val_row : ∀ (w n : Nat), n < 2 ^ w → valI (rowN n w) = (n : Int)
  | 0, n, h => by
    have : n = 0 := by simpa using h
    subst this
    rfl
  | w + 1, n, h => by
    rw [Nat.pow_succ] at h
    have step : ∀ (b : Int) (r : List Int), valI (b :: r) = b + 2 * valI r := fun b r => by
      unfold valI
      rw [List.mapIdx_cons, List.sum_cons]
      congr 1
      · simp
      · have e : (List.mapIdx (fun i b => b * (2 : Int) ^ (i + 1)) r) = (r.mapIdx fun k bit => bit * 2 ^ k).map (fun z => 2 * z) := by
          apply List.ext_getElem?
          intro i
          simp only [List.getElem?_map, List.getElem?_mapIdx, Option.map_map]
          congr 1
          funext z
          show z * 2 ^ (i + 1) = 2 * (z * 2 ^ i)
          rw [Int.pow_succ]
          rw [Int.mul_comm ((2 : Int) ^ i) 2, ← Int.mul_assoc, Int.mul_comm z 2, Int.mul_assoc]
        rw [e]
        generalize (r.mapIdx fun k bit => bit * (2 : Int) ^ k) = l
        induction l with
        | nil => rfl
        | cons a l ih => simp only [List.map_cons, List.sum_cons, ih]; omega
    rw [rowN_succ, step, val_row w (n / 2) (by omega)]
    omega
end Mine

-- LawB
namespace Mine
theorem zip_row (g : Int → Int → Int) (f : Nat → Nat → Nat) (h0 : ∀ a b : Nat, a < 2 → b < 2 → g (a : Int) (b : Int) = ((f a b : Nat) : Int)) (h1 : ∀ a b, f a b % 2 = f (a % 2) (b % 2)) (h2 : ∀ a b, f a b / 2 = f (a / 2) (b / 2)) :
    ∀ w a b, zipI g (rowN a w) (rowN b w) = rowN (f a b) w
  | 0, _, _ => rfl
  | w + 1, a, b => by
    rw [rowN_succ, rowN_succ b, rowN_succ (f a b), h1, h2, ← zip_row g f h0 h1 h2 w (a / 2) (b / 2), ← h0 _ _ (Nat.mod_lt _ (by decide)) (Nat.mod_lt _ (by decide))]
    rfl
theorem and_mod (a b : Nat) : (a &&& b) % 2 = (a % 2) &&& (b % 2) := by simpa using Nat.and_mod_two_pow (a := a) (b := b) (n := 1)
theorem or_mod (a b : Nat) : (a ||| b) % 2 = (a % 2) ||| (b % 2) := by simpa using Nat.or_mod_two_pow (a := a) (b := b) (n := 1)
theorem xor_mod (a b : Nat) : (a ^^^ b) % 2 = (a % 2) ^^^ (b % 2) := by simpa using Nat.xor_mod_two_pow (a := a) (b := b) (n := 1)
theorem and_div2 (a b : Nat) : (a &&& b) / 2 = (a / 2) &&& (b / 2) := by simpa using Nat.and_div_two_pow (a := a) (b := b) (n := 1)
theorem or_div2 (a b : Nat) : (a ||| b) / 2 = (a / 2) ||| (b / 2) := by simpa using Nat.or_div_two_pow (a := a) (b := b) (n := 1)
theorem xor_div2 (a b : Nat) : (a ^^^ b) / 2 = (a / 2) ^^^ (b / 2) := by simpa using Nat.xor_div_two_pow (a := a) (b := b) (n := 1)
theorem and_row (w a b : Nat) : zipI (fun a b => a * b) (rowN a w) (rowN b w) = rowN (a &&& b) w :=
  zip_row _ (· &&& ·) (fun a b ha hb => by rcases (show a = 0 ∨ a = 1 by omega) with rfl | rfl <;> rcases (show b = 0 ∨ b = 1 by omega) with rfl | rfl <;> rfl) and_mod and_div2 w a b
theorem or_row (w a b : Nat) : zipI (fun a b => max a b) (rowN a w) (rowN b w) = rowN (a ||| b) w :=
  zip_row _ (· ||| ·) (fun a b ha hb => by rcases (show a = 0 ∨ a = 1 by omega) with rfl | rfl <;> rcases (show b = 0 ∨ b = 1 by omega) with rfl | rfl <;> rfl) or_mod or_div2 w a b
theorem xor_row (w a b : Nat) : zipI (fun a b => if a != b then 1 else 0) (rowN a w) (rowN b w) = rowN (a ^^^ b) w :=
  zip_row _ (· ^^^ ·) (fun a b ha hb => by rcases (show a = 0 ∨ a = 1 by omega) with rfl | rfl <;> rcases (show b = 0 ∨ b = 1 by omega) with rfl | rfl <;> rfl) xor_mod xor_div2 w a b
theorem band_nat (a b : Nat) : Builtin.bitAnd (a : Int) (b : Int) = ((a &&& b : Nat) : Int) := by
  unfold Builtin.bitAnd
  simp
/-- moved: x * 2^k -/
theorem move_row (w x k : Nat) : moveI (rowN x w) k = rowN (x * 2 ^ k) w := by
  unfold moveI
  rw [rowN_len]
  by_cases h : k ≤ w
  · obtain ⟨r, rfl⟩ := Nat.exists_eq_add_of_le h
    rw [rowN_app k r (x * 2 ^ k), Nat.mul_div_cancel _ (Nat.pow_pos (by decide))]
    have e1 : rowN (x * 2 ^ k) k = List.replicate k 0 := by
      rw [← rowN_mod, Nat.mul_mod_left, rowN_nil]
    rw [e1, List.take_append, List.length_replicate]
    have e2 : (List.replicate k (0 : Int)).take (k + r) = List.replicate k 0 := by simp
    rw [e2]
    congr 1
    rw [Nat.add_sub_cancel_left, Nat.add_comm k r, rowN_app r k]
    rw [List.take_append_of_le_length (by simp [rowN_len]), List.take_of_length_le (by simp [rowN_len])]
  · have h' : w ≤ k := by omega
    have e1 : rowN (x * 2 ^ k) w = List.replicate w 0 := by
      obtain ⟨r, rfl⟩ := Nat.exists_eq_add_of_le h'
      rw [← rowN_mod]
      have : x * 2 ^ (w + r) % 2 ^ w = 0 := by
        rw [Nat.pow_add, Nat.mul_comm (2 ^ w), ← Nat.mul_assoc, Nat.mul_mod_left]
      rw [this, rowN_nil]
    rw [e1, List.take_append_of_le_length (by simpa using h')]
    simp [Nat.min_eq_left h']
theorem prod_row (x w : Nat) : ∀ (j y k f : Nat), prodGo (rowN x w) (rowN y j) k (rowN f w) = rowN (f + x * (y % 2 ^ j) * 2 ^ k) w
  | 0, y, k, f => by
    rw [rowN_zero]
    show rowN f w = _
    rw [Nat.pow_zero, Nat.mod_one, Nat.mul_zero, Nat.zero_mul, Nat.add_zero]
  | j + 1, y, k, f => by
    rw [rowN_succ]
    show prodGo (rowN x w) (rowN (y / 2) j) (k + 1) (if (((y % 2 : Nat) : Int)) == 1 then sumI (rowN f w) (moveI (rowN x w) k) 0 else rowN f w) = _
    have hm : y % 2 ^ (j + 1) = 2 * (y / 2 % 2 ^ j) + y % 2 := by
      have e1 : y % 2 ^ (j + 1) % 2 = y % 2 := by rw [Nat.pow_succ, Nat.mul_comm]; exact Nat.mod_mul_right_mod y 2 (2 ^ j)
      have e2 : y % 2 ^ (j + 1) / 2 = y / 2 % 2 ^ j := by rw [Nat.pow_succ, Nat.mul_comm]; exact Nat.mod_mul_right_div_self y 2 (2 ^ j)
      omega
    rcases Nat.mod_two_eq_zero_or_one y with h | h
    · have hc : ((((y % 2 : Nat) : Int)) == 1) = false := by rw [h]; rfl
      rw [hc]
      show prodGo (rowN x w) (rowN (y / 2) j) (k + 1) (rowN f w) = _
      rw [prod_row x w j (y / 2) (k + 1) f, hm, h, Nat.add_zero, Nat.pow_succ]
      congr 2
      ac_rfl
    · have hc : ((((y % 2 : Nat) : Int)) == 1) = true := by rw [h]; rfl
      rw [hc]
      show prodGo (rowN x w) (rowN (y / 2) j) (k + 1) (sumI (rowN f w) (moveI (rowN x w) k) 0) = _
      have hs := sum_row w f (x * 2 ^ k) 0 (by decide)
      rw [move_row]
      have hs' : sumI (rowN f w) (rowN (x * 2 ^ k) w) 0 = rowN (f + x * 2 ^ k) w := by simpa using hs
      rw [hs', prod_row x w j (y / 2) (k + 1), hm, h, Nat.pow_succ]
      congr 1
      rw [Nat.mul_add, Nat.mul_one, Nat.add_mul, Nat.add_assoc, Nat.add_comm (x * 2 ^ k)]
      congr 2
      ac_rfl
theorem drop_row (low k n : Nat) (w : Nat) (h : low + k ≤ w) : ((rowN n w).drop low).take k = rowN (n / 2 ^ low) k := by
  obtain ⟨r, rfl⟩ := Nat.exists_eq_add_of_le h
  rw [Nat.add_assoc, rowN_app low (k + r), List.drop_append_of_le_length (by simp [rowN_len]), List.drop_of_length_le (by simp [rowN_len]), List.nil_append, rowN_app k r, List.take_append_of_le_length (by simp [rowN_len]), List.take_of_length_le (by simp [rowN_len])]
end Mine

-- LawC
namespace Mine
/-- the last place of a row first -/
theorem rowN_snoc (n w : Nat) : rowN n (w + 1) = rowN n w ++ [((n / 2 ^ w % 2 : Nat) : Int)] := by
  rw [rowN_app w 1, rowN_succ, rowN_zero]
theorem ge_row : ∀ (w a b : Nat), a < 2 ^ w → b < 2 ^ w → geLex (rowN a w).reverse (rowN b w).reverse = decide (b ≤ a)
  | 0, a, b, ha, hb => by
    have ha' : a = 0 := by simpa using ha
    have hb' : b = 0 := by simpa using hb
    subst ha' hb'
    rfl
  | w + 1, a, b, ha, hb => by
    rw [rowN_snoc, rowN_snoc b, List.reverse_append, List.reverse_append]
    show geLex (((a / 2 ^ w % 2 : Nat) : Int) :: (rowN a w).reverse) (((b / 2 ^ w % 2 : Nat) : Int) :: (rowN b w).reverse) = _
    have hp : 0 < 2 ^ w := Nat.pow_pos (by decide)
    rw [Nat.pow_succ] at ha hb
    have da : a / 2 ^ w < 2 := Nat.div_lt_of_lt_mul (by omega)
    have db : b / 2 ^ w < 2 := Nat.div_lt_of_lt_mul (by omega)
    rw [Nat.mod_eq_of_lt da, Nat.mod_eq_of_lt db]
    have ea := Nat.div_add_mod a (2 ^ w)
    have eb := Nat.div_add_mod b (2 ^ w)
    have ma := Nat.mod_lt a hp
    have mb := Nat.mod_lt b hp
    unfold geLex
    by_cases h : a / 2 ^ w = b / 2 ^ w
    · rw [if_pos (by rw [h])]
      rw [← rowN_mod w a, ← rowN_mod w b, ge_row w _ _ ma mb]
      rw [h] at ea
      apply decide_eq_decide.mpr
      omega
    · rw [if_neg (fun e => h (by exact_mod_cast e))]
      apply decide_eq_decide.mpr
      have c : (a / 2 ^ w = 0 ∧ b / 2 ^ w = 1) ∨ (a / 2 ^ w = 1 ∧ b / 2 ^ w = 0) := by
        clear ea eb ma mb ha hb
        generalize a / 2 ^ w = qa at *
        generalize b / 2 ^ w = qb at *
        omega
      rcases c with ⟨h1, h2⟩ | ⟨h1, h2⟩
      · rw [h1] at ea; rw [h2] at eb; rw [h1, h2]
        constructor
        · intro h; exact absurd h (by decide)
        · intro h; omega
      · rw [h1] at ea; rw [h2] at eb; rw [h1, h2]
        constructor
        · intro h; omega
        · intro h; decide
/-- one more place in front -/
theorem row_shift (w r b : Nat) (hb : b < 2) : ((b : Nat) : Int) :: (rowN r (w + 1)).dropLast = rowN (2 * r + b) (w + 1) := by
  rw [rowN_snoc, List.dropLast_concat, rowN_succ]
  congr 1
  · congr 1; omega
  · congr 1; omega
/-- the division: n the places still to come, q the places found so far, r the rest -/
theorem div_row (w y : Nat) (hy0 : 0 < y) (hy : y < 2 ^ w) : ∀ (n x j q r : Nat), r < y →
    divGo (rowN y (w + 1)) (rowN x n).reverse (rowN q j) (rowN r (w + 1)) = (rowN ((r * 2 ^ n + x % 2 ^ n) / y + q * 2 ^ n) (j + n), rowN ((r * 2 ^ n + x % 2 ^ n) % y) (w + 1))
  | 0, x, j, q, r, hr => by
    rw [rowN_zero]
    show (rowN q j, rowN r (w + 1)) = _
    simp only [Nat.pow_zero, Nat.mod_one, Nat.mul_one, Nat.add_zero, Nat.div_eq_of_lt hr, Nat.mod_eq_of_lt hr, Nat.zero_add]
  | n + 1, x, j, q, r, hr => by
    rw [rowN_snoc x n, List.reverse_append]
    show divGo (rowN y (w + 1)) (((x / 2 ^ n % 2 : Nat) : Int) :: (rowN x n).reverse) (rowN q j) (rowN r (w + 1)) = _
    have hb : x / 2 ^ n % 2 < 2 := Nat.mod_lt _ (by decide)
    generalize hbb : x / 2 ^ n % 2 = b at hb
    have hs : divGo (rowN y (w + 1)) (((b : Nat) : Int) :: (rowN x n).reverse) (rowN q j) (rowN r (w + 1)) = divGo (rowN y (w + 1)) (rowN x n).reverse
        ((if geLex (((b : Nat) : Int) :: (rowN r (w + 1)).dropLast).reverse (rowN y (w + 1)).reverse then 1 else 0) :: rowN q j)
        (if geLex (((b : Nat) : Int) :: (rowN r (w + 1)).dropLast).reverse (rowN y (w + 1)).reverse then sumI (((b : Nat) : Int) :: (rowN r (w + 1)).dropLast) (turnI (rowN y (w + 1))) 1 else ((b : Nat) : Int) :: (rowN r (w + 1)).dropLast) := rfl
    rw [hs, row_shift w r b hb, ge_row (w + 1) _ _ (by rw [Nat.pow_succ]; omega) (by rw [Nat.pow_succ]; omega)]
    have hx : x % 2 ^ (n + 1) = b * 2 ^ n + x % 2 ^ n := by
      rw [← hbb, Nat.pow_succ, Nat.mod_mul, Nat.mul_comm]
      omega
    have key : ∀ t r' : Nat, t < 2 → 2 * r + b = y * t + r' → r' < y → divGo (rowN y (w + 1)) (rowN x n).reverse (rowN (2 * q + t) (j + 1)) (rowN r' (w + 1)) = (rowN ((r * 2 ^ (n + 1) + x % 2 ^ (n + 1)) / y + q * 2 ^ (n + 1)) (j + (n + 1)), rowN ((r * 2 ^ (n + 1) + x % 2 ^ (n + 1)) % y) (w + 1)) := fun t r' _ he hr' => by
      rw [div_row w y hy0 hy n x (j + 1) (2 * q + t) r' hr']
      have e : r * 2 ^ (n + 1) + x % 2 ^ (n + 1) = y * (t * 2 ^ n) + (r' * 2 ^ n + x % 2 ^ n) := by
        rw [hx, Nat.pow_succ]
        have : (2 * r + b) * 2 ^ n = (y * t + r') * 2 ^ n := by rw [he]
        rw [Nat.add_mul, Nat.add_mul] at this
        have e1 : 2 * r * 2 ^ n = r * (2 ^ n * 2) := by ac_rfl
        have e2 : y * t * 2 ^ n = y * (t * 2 ^ n) := by ac_rfl
        omega
      rw [e, Nat.mul_add_div hy0, Nat.mul_add_mod]
      have e3 : (r' * 2 ^ n + x % 2 ^ n) / y + (2 * q + t) * 2 ^ n = t * 2 ^ n + (r' * 2 ^ n + x % 2 ^ n) / y + q * 2 ^ (n + 1) := by
        rw [Nat.pow_succ, Nat.add_mul]
        have : 2 * q * 2 ^ n = q * (2 ^ n * 2) := by ac_rfl
        omega
      rw [e3, show j + 1 + n = j + (n + 1) by omega]
    by_cases h : y ≤ 2 * r + b
    · rw [decide_eq_true h]
      have e1 : ((if true = true then (1 : Int) else 0) :: rowN q j) = rowN (2 * q + 1) (j + 1) := by
        rw [rowN_succ]
        congr 1
        · show (1 : Int) = ((2 * q + 1) % 2 : Nat)
          omega
        · congr 1; omega
      have e2 : (if true = true then sumI (rowN (2 * r + b) (w + 1)) (turnI (rowN y (w + 1))) 1 else rowN (2 * r + b) (w + 1)) = rowN (2 * r + b - y) (w + 1) := by
        rw [if_pos rfl, turn_row (w + 1) y (by rw [Nat.pow_succ]; omega)]
        have := sum_row (w + 1) (2 * r + b) (2 ^ (w + 1) - 1 - y) 1 (by decide)
        have t1 : ((1 : Nat) : Int) = 1 := rfl
        rw [t1] at this
        rw [this, ← rowN_mod (w + 1) (2 * r + b + (2 ^ (w + 1) - 1 - y) + 1)]
        have hp : y < 2 ^ (w + 1) := by rw [Nat.pow_succ]; omega
        have e3 : 2 * r + b + (2 ^ (w + 1) - 1 - y) + 1 = (2 * r + b - y) + 2 ^ (w + 1) := by omega
        rw [e3, Nat.add_mod_right, rowN_mod]
      rw [e1, e2]
      exact key 1 (2 * r + b - y) (by decide) (by omega) (by omega)
    · rw [decide_eq_false h]
      have e1 : ((if false = true then (1 : Int) else 0) :: rowN q j) = rowN (2 * q + 0) (j + 1) := by
        rw [rowN_succ]
        congr 1
        · show (0 : Int) = ((2 * q + 0) % 2 : Nat)
          omega
        · congr 1; omega
      rw [e1, if_neg (by decide)]
      exact key 0 (2 * r + b) (by decide) (by omega) (by omega)
end Mine

-- Law
namespace Mine
theorem row_bits (x : Int) (w : Nat) : ∀ b ∈ rowI x w, b = 0 ∨ b = 1 := by
  intro b hb
  obtain ⟨k, _, rfl⟩ := List.mem_map.mp hb
  have h1 := Int.fmod_nonneg_of_pos (x.fdiv (2 ^ k)) (b := 2) (by decide)
  have h2 := Int.fmod_lt_of_pos (x.fdiv (2 ^ k)) (b := 2) (by decide)
  omega
theorem lt_nat {x : Int} {w : Nat} (h0 : 0 ≤ x) (h1 : x < 2 ^ w) : ∃ n : Nat, x = (n : Int) ∧ n < 2 ^ w := by
  refine ⟨x.toNat, (Int.toNat_of_nonneg h0).symm, ?_⟩
  rw [← pow_castN] at h1
  omega
theorem val_law {y : Int} {w : Nat} (h0 : 0 ≤ y) (h1 : y < 2 ^ w) : valI (rowI y w) = y := by
  obtain ⟨n, rfl, hn⟩ := lt_nat h0 h1
  rw [row_nat, val_row w n hn]
theorem not_law {x : Int} {w : Nat} (h0 : 0 ≤ x) (h1 : x < 2 ^ w) : rowI (2 ^ w - 1 - x) w = turnI (rowI x w) := by
  obtain ⟨n, rfl, hn⟩ := lt_nat h0 h1
  rw [row_nat, turn_row w n hn, ← row_nat]
  congr 1
  rw [← pow_castN]
  omega
theorem zeros_row (w : Nat) : List.replicate w (0 : Int) = rowN 0 w := (rowN_nil w).symm
theorem fmod_nat (a : Nat) (w : Nat) : ((a : Int)).fmod (2 ^ w) = ((a % 2 ^ w : Nat) : Int) := by
  rw [← pow_castN, Int.fmod_eq_emod_of_nonneg _ (Int.natCast_nonneg _)]
  push_cast
  rfl
/-- a number below nought, turned about the whole -/
theorem fmod_sub {x : Int} {a w : Nat} (h : x + 2 ^ w = (a : Int)) : x.fmod (2 ^ w) = ((a % 2 ^ w : Nat) : Int) := by
  rw [← fmod_nat, ← h]
  rw [Int.fmod_eq_emod_of_nonneg _ (by rw [← pow_castN]; exact Int.natCast_nonneg _), Int.fmod_eq_emod_of_nonneg _ (by rw [← pow_castN]; exact Int.natCast_nonneg _)]
  exact (Int.add_emod_right ..).symm
theorem sum_row1 (w a b : Nat) : sumI (rowN a w) (rowN b w) 1 = rowN (a + b + 1) w := sum_row w a b 1 (by decide)
theorem sum_row0 (w a b : Nat) : sumI (rowN a w) (rowN b w) 0 = rowN (a + b) w := sum_row w a b 0 (by decide)
theorem neg_law {x : Int} {w : Nat} (h0 : 0 ≤ x) (h1 : x < 2 ^ w) : rowI ((-x).fmod (2 ^ w)) w = sumI (turnI (rowI x w)) (List.replicate w 0) 1 := by
  obtain ⟨n, rfl, hn⟩ := lt_nat h0 h1
  rw [row_nat, turn_row w n hn, zeros_row, sum_row1, fmod_sub (a := 2 ^ w - n) (by rw [← pow_castN]; omega), row_nat, rowN_mod]
  congr 1
  omega
theorem concat_law {x z : Int} {w l : Nat} (hx0 : 0 ≤ x) (hx1 : x < 2 ^ w) (hz0 : 0 ≤ z) (hz1 : z < 2 ^ l) : rowI (x * 2 ^ l + z) (w + l) = rowI z l ++ rowI x w := by
  obtain ⟨n, rfl, hn⟩ := lt_nat hx0 hx1
  obtain ⟨k, rfl, hk⟩ := lt_nat hz0 hz1
  have e : (n : Int) * 2 ^ l + (k : Int) = ((n * 2 ^ l + k : Nat) : Int) := by rw [← pow_castN]; push_cast; rfl
  rw [e, row_nat, row_nat, row_nat, Nat.add_comm w l, rowN_app]
  have e1 : rowN (n * 2 ^ l + k) l = rowN k l := by
    rw [← rowN_mod, Nat.mul_comm, Nat.mul_add_mod, rowN_mod]
  have e2 : (n * 2 ^ l + k) / 2 ^ l = n := by
    rw [Nat.mul_comm, Nat.mul_add_div (Nat.pow_pos (by decide)), Nat.div_eq_of_lt hk, Nat.add_zero]
  rw [e1, e2]
theorem fdiv_nat (a l : Nat) : ((a : Int)).fdiv (2 ^ l) = ((a / 2 ^ l : Nat) : Int) := by
  rw [← pow_castN, Int.fdiv_eq_ediv_of_nonneg _ (Int.natCast_nonneg _)]
  push_cast
  rfl
theorem extract_law {x : Int} {w low k : Nat} (h : low + k ≤ w) (hx0 : 0 ≤ x) : rowI ((x.fdiv (2 ^ low)).fmod (2 ^ k)) k = ((rowI x w).drop low).take k := by
  obtain ⟨n, rfl⟩ : ∃ n : Nat, x = (n : Int) := ⟨x.toNat, (Int.toNat_of_nonneg hx0).symm⟩
  rw [fdiv_nat, fmod_nat, row_nat, row_nat, rowN_mod, drop_row low k n w h]
theorem zero_law {x : Int} {w k : Nat} (hx0 : 0 ≤ x) (hx1 : x < 2 ^ w) : rowI x (w + k) = rowI x w ++ List.replicate k 0 := by
  obtain ⟨n, rfl, hn⟩ := lt_nat hx0 hx1
  rw [row_nat, row_nat, rowN_app, Nat.div_eq_of_lt hn, rowN_nil]
theorem ones_row : ∀ k : Nat, rowN (2 ^ k - 1) k = List.replicate k 1
  | 0 => rfl
  | k + 1 => by
    have hp : 0 < 2 ^ k := Nat.pow_pos (by decide)
    rw [rowN_succ, Nat.pow_succ, List.replicate_succ]
    have e1 : (2 ^ k * 2 - 1) % 2 = 1 := by omega
    have e2 : (2 ^ k * 2 - 1) / 2 = 2 ^ k - 1 := by omega
    rw [e1, e2, ones_row k]
    rfl
theorem sign_law {x : Int} {w k : Nat} (hw : 1 ≤ w) (hx0 : 0 ≤ x) (hx1 : x < 2 ^ w) : rowI (if x.fdiv (2 ^ (w - 1)) = 1 then x + (2 ^ (w + k) - 2 ^ w) else x) (w + k) = rowI x w ++ (List.replicate k ((rowI x w).drop (w - 1))).flatten := by
  obtain ⟨n, rfl, hn⟩ := lt_nat hx0 hx1
  obtain ⟨v, rfl⟩ : ∃ v, w = v + 1 := ⟨w - 1, by omega⟩
  rw [Nat.add_sub_cancel, fdiv_nat, row_nat]
  have hd : (rowN n (v + 1)).drop v = [((n / 2 ^ v % 2 : Nat) : Int)] := by
    rw [rowN_snoc, List.drop_append_of_le_length (by simp [rowN_len]), List.drop_of_length_le (by simp [rowN_len]), List.nil_append]
  rw [hd, flat_rep]
  have hp : 0 < 2 ^ v := Nat.pow_pos (by decide)
  have hlt : n / 2 ^ v < 2 := Nat.div_lt_of_lt_mul (by rw [Nat.pow_succ] at hn; omega)
  rw [Nat.mod_eq_of_lt hlt]
  have hc : n / 2 ^ v = 0 ∨ n / 2 ^ v = 1 := by
    generalize n / 2 ^ v = q at *
    omega
  rcases hc with h | h
  · rw [h, if_neg (by decide), row_nat, rowN_app, Nat.div_eq_of_lt hn, rowN_nil]
    rfl
  · rw [h, if_pos (show ((1 : Nat) : Int) = 1 from rfl)]
    have hk : 0 < 2 ^ k := Nat.pow_pos (by decide)
    have e : (n : Int) + (2 ^ (v + 1 + k) - 2 ^ (v + 1)) = ((n + 2 ^ (v + 1) * (2 ^ k - 1) : Nat) : Int) := by
      rw [← pow_castN, ← pow_castN, Nat.pow_add, Nat.mul_sub, Nat.mul_one]
      have : 2 ^ (v + 1) ≤ 2 ^ (v + 1) * 2 ^ k := Nat.le_mul_of_pos_right _ hk
      omega
    rw [e, row_nat, rowN_app]
    have e1 : rowN (n + 2 ^ (v + 1) * (2 ^ k - 1)) (v + 1) = rowN n (v + 1) := by
      rw [← rowN_mod, Nat.add_mul_mod_self_left, rowN_mod]
    have e2 : (n + 2 ^ (v + 1) * (2 ^ k - 1)) / 2 ^ (v + 1) = 2 ^ k - 1 := by
      rw [Nat.add_mul_div_left _ _ (Nat.pow_pos (by decide)), Nat.div_eq_of_lt hn, Nat.zero_add]
    rw [e1, e2, ones_row]
    rfl

theorem not_nat (a : Nat) : Builtin.bitNot (a : Int) < 0 := by unfold Builtin.bitNot; omega
theorem bnot_bnot (a : Int) : Builtin.bitNot (Builtin.bitNot a) = a := by unfold Builtin.bitNot; omega
theorem bor_nat (a b : Nat) : Builtin.bitOr (a : Int) (b : Int) = ((a ||| b : Nat) : Int) := by
  unfold Builtin.bitOr Builtin.bitAnd
  rw [decide_eq_false (Int.not_le.mpr (not_nat a)), decide_eq_false (Int.not_le.mpr (not_nat b))]
  show Builtin.bitNot (Builtin.bitNot _) = _
  rw [bnot_bnot, bnot_bnot, bnot_bnot]
  simp
theorem or_sum : ∀ (w a b : Nat), a < 2 ^ w → (a ||| b) = (a ^^^ b) + (a &&& b)
  | 0, a, b, h => by
    have : a = 0 := by simpa using h
    subst this
    simp
  | w + 1, a, b, h => by
    rw [Nat.pow_succ] at h
    have ih := or_sum w (a / 2) (b / 2) (by omega)
    have h1 := or_mod a b
    have h2 := or_div2 a b
    have h3 := and_mod a b
    have h4 := and_div2 a b
    have h5 := xor_mod a b
    have h6 := xor_div2 a b
    have hm : (a % 2 ||| b % 2) = (a % 2 ^^^ b % 2) + (a % 2 &&& b % 2) := by
      rcases Nat.mod_two_eq_zero_or_one a with ea | ea <;> rcases Nat.mod_two_eq_zero_or_one b with eb | eb <;> rw [ea, eb] <;> rfl
    omega
theorem bxor_nat (a b : Nat) : Builtin.bitXor (a : Int) (b : Int) = ((a ^^^ b : Nat) : Int) := by
  unfold Builtin.bitXor
  rw [bor_nat, band_nat, or_sum a a b (Nat.lt_two_pow_self)]
  omega
theorem due_law {x y : Int} {w : Nat} (hw : 1 ≤ w) (hx0 : 0 ≤ x) (hx1 : x < 2 ^ w) (hy0 : 0 ≤ y) (hy1 : y < 2 ^ w) : ∀ p ∈ dueI (rowI x w) (rowI y w) y.toNat, ∃ r, reckonI p.1 [x, y] x y 0 w w = .int r ∧ 0 ≤ r ∧ r < 2 ^ w ∧ p.2 = rowI r w ∧ p.1 ≠ Str.ofString "extract" ∧ p.1 ≠ Str.ofString "ite" ∧ p.1 ≠ Str.ofString "sign_extend" := by
  obtain ⟨a, rfl, ha⟩ := lt_nat hx0 hx1
  obtain ⟨b, rfl, hb⟩ := lt_nat hy0 hy1
  have hp : 0 < 2 ^ w := Nat.pow_pos (by decide)
  have fin : ∀ (s : Str) (T : Ty) (row : List Int) (c : Nat), T = .int (c : Int) → c < 2 ^ w → row = rowN c w → s ≠ Str.ofString "extract" → s ≠ Str.ofString "ite" → s ≠ Str.ofString "sign_extend" →
      ∃ r, T = .int r ∧ 0 ≤ r ∧ r < 2 ^ w ∧ row = rowI r w ∧ s ≠ Str.ofString "extract" ∧ s ≠ Str.ofString "ite" ∧ s ≠ Str.ofString "sign_extend" := fun s T row c hT hc hr h1 h2 h3 =>
    ⟨(c : Int), hT, Int.natCast_nonneg _, by rw [← pow_castN]; omega, by rw [row_nat]; exact hr, h1, h2, h3⟩
  intro p hpm
  unfold dueI at hpm
  rw [Int.toNat_natCast, row_nat, row_nat, rowN_len] at hpm
  have md : ∀ c, c % 2 ^ w < 2 ^ w := fun c => Nat.mod_lt c hp
  have moved : ∀ c, Ty.int (if (b : Int) < (w : Int) then c else 0) = if b < w then Ty.int c else Ty.int 0 := fun c => by
    by_cases h : b < w
    · rw [if_pos h, if_pos (by exact_mod_cast h)]
    · rw [if_neg h, if_neg (by exact_mod_cast h)]
  rcases List.mem_cons.mp hpm with rfl | hpm
  · exact fin (Str.ofString "bvand") _ _ (a &&& b) (show Ty.int (Builtin.bitAnd (a : Int) (b : Int)) = _ by rw [band_nat]) (Nat.and_lt_two_pow _ hb) (and_row w a b) (by decide) (by decide) (by decide)
  rcases List.mem_cons.mp hpm with rfl | hpm
  · exact fin (Str.ofString "bvor") _ _ (a ||| b) (show Ty.int (Builtin.bitOr (a : Int) (b : Int)) = _ by rw [bor_nat]) (Nat.or_lt_two_pow ha hb) (or_row w a b) (by decide) (by decide) (by decide)
  rcases List.mem_cons.mp hpm with rfl | hpm
  · exact fin (Str.ofString "bvxor") _ _ (a ^^^ b) (show Ty.int (Builtin.bitXor (a : Int) (b : Int)) = _ by rw [bxor_nat]) (Nat.xor_lt_two_pow ha hb) (xor_row w a b) (by decide) (by decide) (by decide)
  rcases List.mem_cons.mp hpm with rfl | hpm
  · exact fin (Str.ofString "bvadd") _ _ ((a + b) % 2 ^ w) (show Ty.int (((a : Int) + (b : Int)).fmod (2 ^ w)) = _ by rw [← fmod_nat]; push_cast; rfl) (md _) (by rw [rowN_mod]; exact sum_row0 w a b) (by decide) (by decide) (by decide)
  rcases List.mem_cons.mp hpm with rfl | hpm
  · refine fin (Str.ofString "bvsub") _ _ ((a + (2 ^ w - b)) % 2 ^ w) (show Ty.int (((a : Int) - (b : Int)).fmod (2 ^ w)) = _ by rw [fmod_sub (a := a + (2 ^ w - b)) (by rw [← pow_castN]; omega)]) (md _) ?_ (by decide) (by decide) (by decide)
    show sumI (rowN a w) (turnI (rowN b w)) 1 = _
    rw [rowN_mod, turn_row w b hb, sum_row1]
    congr 1
    omega
  rcases List.mem_cons.mp hpm with rfl | hpm
  · refine fin (Str.ofString "bvmul") _ _ ((a * b) % 2 ^ w) (show Ty.int (((a : Int) * (b : Int)).fmod (2 ^ w)) = _ by rw [← fmod_nat]; push_cast; rfl) (md _) ?_ (by decide) (by decide) (by decide)
    show prodI (rowN a w) (rowN b w) = _
    unfold prodI
    rw [rowN_len, zeros_row, prod_row, rowN_mod, Nat.mod_eq_of_lt hb, Nat.pow_zero, Nat.mul_one, Nat.zero_add]
  rcases List.mem_cons.mp hpm with rfl | hpm
  · by_cases h : b < w
    · refine fin (Str.ofString "bvshl") _ _ ((a * 2 ^ b) % 2 ^ w) (show Ty.int (if (b : Int) < (w : Int) then ((a : Int) * 2 ^ ((b : Int)).toNat).fmod (2 ^ w) else 0) = _ by rw [moved, if_pos h, Int.toNat_natCast, ← fmod_nat, ← pow_castN b]; push_cast; rfl) (md _) ?_ (by decide) (by decide) (by decide)
      show (if b < w then moveI (rowN a w) b else List.replicate w 0) = _
      rw [if_pos h, move_row, rowN_mod]
    · refine fin (Str.ofString "bvshl") _ _ 0 (show Ty.int (if (b : Int) < (w : Int) then ((a : Int) * 2 ^ ((b : Int)).toNat).fmod (2 ^ w) else 0) = _ by rw [moved, if_neg h]; rfl) hp ?_ (by decide) (by decide) (by decide)
      show (if b < w then moveI (rowN a w) b else List.replicate w 0) = _
      rw [if_neg h, zeros_row]
  rcases List.mem_cons.mp hpm with rfl | hpm
  · by_cases h : b < w
    · refine fin (Str.ofString "bvlshr") _ _ (a / 2 ^ b) (show Ty.int (if (b : Int) < (w : Int) then ((a : Int)).fdiv (2 ^ ((b : Int)).toNat) else 0) = _ by rw [moved, if_pos h, Int.toNat_natCast, fdiv_nat]) (Nat.lt_of_le_of_lt (Nat.div_le_self _ _) ha) ?_ (by decide) (by decide) (by decide)
      show (if b < w then ((rowN a w ++ List.replicate w 0).drop b).take w else List.replicate w 0) = _
      have e : rowN a w ++ List.replicate w 0 = rowN a (w + w) := by rw [rowN_app, Nat.div_eq_of_lt ha, rowN_nil]
      rw [if_pos h, e, drop_row b w a (w + w) (by omega)]
    · refine fin (Str.ofString "bvlshr") _ _ 0 (show Ty.int (if (b : Int) < (w : Int) then ((a : Int)).fdiv (2 ^ ((b : Int)).toNat) else 0) = _ by rw [moved, if_neg h]; rfl) hp ?_ (by decide) (by decide) (by decide)
      show (if b < w then ((rowN a w ++ List.replicate w 0).drop b).take w else List.replicate w 0) = _
      rw [if_neg h, zeros_row]
  have hdiv : divI (rowN a w) (rowN b w) = (rowN (if b = 0 then 2 ^ w - 1 else a / b) w, rowN (if b = 0 then a else a % b) w) := by
    unfold divI
    by_cases h : b = 0
    · subst h
      have e : (!((rowN 0 w).any (· == 1))) = true := by rw [rowN_nil]; simp
      rw [e, if_pos rfl, if_pos rfl, if_pos rfl, rowN_len, ones_row]
    · have e : (!((rowN b w).any (· == 1))) = false := by
        rw [Bool.not_eq_false']
        by_cases hn : (rowN b w).any (· == 1) = true
        · exact hn
        · exfalso
          have hall : ∀ z ∈ rowN b w, z = 0 := fun z hz => by
            have h1 : z = 0 ∨ z = 1 := row_bits (b : Int) w z (by rw [row_nat]; exact hz)
            rcases h1 with h1 | h1
            · exact h1
            · exact absurd (List.any_eq_true.mpr ⟨z, hz, by simp [h1]⟩) hn
          have hrow : rowN b w = List.replicate w 0 := List.eq_replicate_iff.mpr ⟨rowN_len b w, hall⟩
          have hv := val_row w b hb
          rw [hrow, zeros_row, val_row w 0 hp] at hv
          omega
      have hb0 : 0 < b := by omega
      rw [e, if_neg (by decide), if_neg h, if_neg h]
      have e1 : rowN b w ++ [0] = rowN b (w + 1) := by rw [rowN_snoc, Nat.div_eq_of_lt hb]; rfl
      have e2 : List.replicate ((rowN a w).length + 1) (0 : Int) = rowN 0 (w + 1) := by rw [rowN_len, zeros_row]
      have := div_row w b hb0 hb w a 0 0 0 hb0
      rw [rowN_zero] at this
      show ((divGo (rowN b w ++ [0]) (rowN a w).reverse [] (List.replicate ((rowN a w).length + 1) 0)).1, (divGo (rowN b w ++ [0]) (rowN a w).reverse [] (List.replicate ((rowN a w).length + 1) 0)).2.dropLast) = _
      rw [e1, e2, this, Nat.zero_mul, Nat.zero_add, Nat.zero_add, Nat.mod_eq_of_lt ha, Nat.add_zero]
      congr 1
      show (rowN (a % b) (w + 1)).dropLast = _
      rw [rowN_snoc, List.dropLast_concat]
  rcases List.mem_cons.mp hpm with rfl | hpm
  · refine fin (Str.ofString "bvudiv") _ _ (if b = 0 then 2 ^ w - 1 else a / b) (show Ty.int (if 0 < (b : Int) then ((a : Int)).fdiv (b : Int) else 2 ^ w - 1) = _ from ?_) ?_ ?_ (by decide) (by decide) (by decide)
    · by_cases h : b = 0
      · subst h
        rw [if_neg (by decide), if_pos rfl, ← pow_castN]
        congr 1
        omega
      · rw [if_pos (by omega), if_neg h, Int.fdiv_eq_ediv_of_nonneg _ (Int.natCast_nonneg _)]
        rfl
    · split
      · omega
      · exact Nat.lt_of_le_of_lt (Nat.div_le_self _ _) ha
    · show (divI (rowN a w) (rowN b w)).1 = _
      rw [hdiv]
  rcases List.mem_cons.mp hpm with rfl | hpm
  · refine fin (Str.ofString "bvurem") _ _ (if b = 0 then a else a % b) (show Ty.int (if 0 < (b : Int) then ((a : Int)).fmod (b : Int) else (a : Int)) = _ from ?_) ?_ ?_ (by decide) (by decide) (by decide)
    · by_cases h : b = 0
      · subst h
        rw [if_neg (by decide), if_pos rfl]
      · rw [if_pos (by omega), if_neg h, Int.fmod_eq_emod_of_nonneg _ (Int.natCast_nonneg _)]
        rfl
    · split
      · exact ha
      · exact Nat.lt_of_le_of_lt (Nat.mod_le _ _) ha
    · show (divI (rowN a w) (rowN b w)).2 = _
      rw [hdiv]
  · cases hpm
end Mine

-- KK
section
set_option maxRecDepth 100000
namespace Mine
/-! # A written part of the heap behind the top, of my own: the defs by projection from the row's own text -/
noncomputable def stName : PySem.Stmt → Str
  | .FunctionDef n _ _ _ _ _ _ _ _ _ => n
  | _ => Str.ofString ""
noncomputable def stArgs : PySem.Stmt → Arguments
  | .FunctionDef _ a _ _ _ _ _ _ _ _ => a
  | _ => .mk [] [] none [] [] none []
noncomputable def stBody : PySem.Stmt → List PySem.Stmt
  | .FunctionDef _ _ b _ _ _ _ _ _ _ => b
  | .ClassDef _ _ _ b _ _ _ _ _ _ _ => b
  | _ => []
noncomputable def stScope : PySem.Stmt → Scope
  | .FunctionDef _ _ _ _ _ _ sc _ _ _ => sc
  | _ => .mk .module [] false false []
noncomputable def nthS : List PySem.Stmt → Nat → PySem.Stmt
  | s :: _, 0 => s
  | _ :: r, n + 1 => nthS r n
  | [], _ => .Return none (.mk 0 0 0 0)
noncomputable abbrev topAt (i : Nat) : PySem.Stmt := nthS PySem.Challenge.pw_rg0224_01.main.body i
noncomputable def fnObj (st : PySem.Stmt) (qual : Str) (dV kV doc pm : Value) (an : Option Addr) (cd ct : Value) : Obj :=
  ⟨.type "function", none, .func (fnOf (stName st) qual (stArgs st) (stBody st) (stScope st) dV kV doc pm an cd ct), #[]⟩
noncomputable def KK : PySem.Params → PySem.W.Frag := fun P => [
  (nat_lit 3, PySem.Obj.mk (PySem.Value.type "dict") Option.none (PySem.Data.dict #[PySem.DictEntry.mk (PySem.PyData.keyHash P (PySem.Str.ofString "__name__")) (PySem.Value.str (PySem.Str.ofString "__name__") 165) (PySem.Value.str (PySem.Str.ofString "law_rg0224_01") 1311), PySem.DictEntry.mk (PySem.PyData.keyHash P (PySem.Str.ofString "__doc__")) (PySem.Value.str (PySem.Str.ofString "__doc__") 166) PySem.Value.none, PySem.DictEntry.mk (PySem.PyData.keyHash P (PySem.Str.ofString "__package__")) (PySem.Value.str (PySem.Str.ofString "__package__") 167) PySem.Value.none, PySem.DictEntry.mk (PySem.PyData.keyHash P (PySem.Str.ofString "__loader__")) (PySem.Value.str (PySem.Str.ofString "__loader__") 168) (PySem.Value.builtin "__main__.__loader__#opaque"), PySem.DictEntry.mk (PySem.PyData.keyHash P (PySem.Str.ofString "__spec__")) (PySem.Value.str (PySem.Str.ofString "__spec__") 169) PySem.Value.none, PySem.DictEntry.mk (PySem.PyData.keyHash P (PySem.Str.ofString "__annotations__")) (PySem.Value.str (PySem.Str.ofString "__annotations__") 170) (PySem.Value.ref 6), PySem.DictEntry.mk (PySem.PyData.keyHash P (PySem.Str.ofString "__builtins__")) (PySem.Value.str (PySem.Str.ofString "__builtins__") 171) (PySem.Value.ref 4), PySem.DictEntry.mk (PySem.PyData.keyHash P (PySem.Str.ofString "__file__")) (PySem.Value.str (PySem.Str.ofString "__file__") 173) (PySem.Value.str (PySem.Str.ofString "/claim/cut.py") 172), PySem.DictEntry.mk (PySem.PyData.keyHash P (PySem.Str.ofString "__cached__")) (PySem.Value.str (PySem.Str.ofString "__cached__") 174) PySem.Value.none, PySem.DictEntry.mk (PySem.PyData.keyHash P (PySem.Str.ofString "_wall")) (PySem.Value.str (PySem.Str.ofString "_wall") 193) (PySem.Value.ref 21), PySem.DictEntry.mk (PySem.PyData.keyHash P (PySem.Str.ofString "SmtError")) (PySem.Value.str (PySem.Str.ofString "SmtError") 233) (PySem.Value.ref 47), PySem.DictEntry.mk (PySem.PyData.keyHash P (PySem.Str.ofString "SortFault")) (PySem.Value.str (PySem.Str.ofString "SortFault") 256) (PySem.Value.ref 67), PySem.DictEntry.mk (PySem.PyData.keyHash P (PySem.Str.ofString "LimitFault")) (PySem.Value.str (PySem.Str.ofString "LimitFault") 279) (PySem.Value.ref 86), PySem.DictEntry.mk (PySem.PyData.keyHash P (PySem.Str.ofString "is_whole")) (PySem.Value.str (PySem.Str.ofString "is_whole") 288) (PySem.Value.ref 95), PySem.DictEntry.mk (PySem.PyData.keyHash P (PySem.Str.ofString "BOOL")) (PySem.Value.str (PySem.Str.ofString "BOOL") 292) (PySem.Value.int 0 291), PySem.DictEntry.mk (PySem.PyData.keyHash P (PySem.Str.ofString "INT")) (PySem.Value.str (PySem.Str.ofString "INT") 294) (PySem.Value.int 1 293), PySem.DictEntry.mk (PySem.PyData.keyHash P (PySem.Str.ofString "REAL")) (PySem.Value.str (PySem.Str.ofString "REAL") 296) (PySem.Value.int 2 295), PySem.DictEntry.mk (PySem.PyData.keyHash P (PySem.Str.ofString "WIDEST")) (PySem.Value.str (PySem.Str.ofString "WIDEST") 298) (PySem.Value.int 4096 297), PySem.DictEntry.mk (PySem.PyData.keyHash P (PySem.Str.ofString "MOST_BITS")) (PySem.Value.str (PySem.Str.ofString "MOST_BITS") 302) (PySem.Value.int 65536 301), PySem.DictEntry.mk (PySem.PyData.keyHash P (PySem.Str.ofString "Bank")) (PySem.Value.str (PySem.Str.ofString "Bank") 580) (PySem.Value.ref 308), PySem.DictEntry.mk (PySem.PyData.keyHash P (PySem.Str.ofString "BoolBank")) (PySem.Value.str (PySem.Str.ofString "BoolBank") 713) (PySem.Value.ref 413), PySem.DictEntry.mk (PySem.PyData.keyHash P (PySem.Str.ofString "want_small")) (PySem.Value.str (PySem.Str.ofString "want_small") 720) (PySem.Value.ref 422), PySem.DictEntry.mk (PySem.PyData.keyHash P (PySem.Str.ofString "NumberBank")) (PySem.Value.str (PySem.Str.ofString "NumberBank") 833) (PySem.Value.ref 509), PySem.DictEntry.mk (PySem.PyData.keyHash P (PySem.Str.ofString "TermBank")) (PySem.Value.str (PySem.Str.ofString "TermBank") 988) (PySem.Value.ref 628), PySem.DictEntry.mk (PySem.PyData.keyHash P (PySem.Str.ofString "BitJudge")) (PySem.Value.str (PySem.Str.ofString "BitJudge") 1310) (PySem.Value.ref 857), PySem.DictEntry.mk (PySem.PyData.keyHash P (PySem.Str.ofString "_law_others")) (PySem.Value.str (PySem.Str.ofString "_law_others") 1352) (PySem.Value.ref 862), PySem.DictEntry.mk (PySem.PyData.keyHash P (PySem.Str.ofString "_law_tap")) (PySem.Value.str (PySem.Str.ofString "_law_tap") 1361) (PySem.Value.ref 869), PySem.DictEntry.mk (PySem.PyData.keyHash P (PySem.Str.ofString "_law_number")) (PySem.Value.str (PySem.Str.ofString "_law_number") 1372) (PySem.Value.ref 876), PySem.DictEntry.mk (PySem.PyData.keyHash P (PySem.Str.ofString "_law_row")) (PySem.Value.str (PySem.Str.ofString "_law_row") 1378) (PySem.Value.ref 881), PySem.DictEntry.mk (PySem.PyData.keyHash P (PySem.Str.ofString "_law_turned_about")) (PySem.Value.str (PySem.Str.ofString "_law_turned_about") 1384) (PySem.Value.ref 886), PySem.DictEntry.mk (PySem.PyData.keyHash P (PySem.Str.ofString "_law_sum")) (PySem.Value.str (PySem.Str.ofString "_law_sum") 1396) (PySem.Value.ref 893), PySem.DictEntry.mk (PySem.PyData.keyHash P (PySem.Str.ofString "_law_moved")) (PySem.Value.str (PySem.Str.ofString "_law_moved") 1404) (PySem.Value.ref 900), PySem.DictEntry.mk (PySem.PyData.keyHash P (PySem.Str.ofString "_law_product")) (PySem.Value.str (PySem.Str.ofString "_law_product") 1415) (PySem.Value.ref 907), PySem.DictEntry.mk (PySem.PyData.keyHash P (PySem.Str.ofString "_law_divided")) (PySem.Value.str (PySem.Str.ofString "_law_divided") 1428) (PySem.Value.ref 914), PySem.DictEntry.mk (PySem.PyData.keyHash P (PySem.Str.ofString "_law_due")) (PySem.Value.str (PySem.Str.ofString "_law_due") 1434) (PySem.Value.ref 919), PySem.DictEntry.mk (PySem.PyData.keyHash P (PySem.Str.ofString "_law_told")) (PySem.Value.str (PySem.Str.ofString "_law_told") 1447) (PySem.Value.ref 926), PySem.DictEntry.mk (PySem.PyData.keyHash P (PySem.Str.ofString "_law_are_two_right")) (PySem.Value.str (PySem.Str.ofString "_law_are_two_right") 1453) (PySem.Value.ref 931), PySem.DictEntry.mk (PySem.PyData.keyHash P (PySem.Str.ofString "_law_are_widths_right")) (PySem.Value.str (PySem.Str.ofString "_law_are_widths_right") 1469) (PySem.Value.ref 938), PySem.DictEntry.mk (PySem.PyData.keyHash P (PySem.Str.ofString "law")) (PySem.Value.str (PySem.Str.ofString "law") 1475) (PySem.Value.ref 943)] 39) #[]),
  (nat_lit 853, PySem.Obj.mk (PySem.Value.type "code") Option.none (PySem.Data.fields #[PySem.Value.str (PySem.Str.ofString "reckon_bits") 1286, PySem.Value.str (PySem.Str.ofString "BitJudge.reckon_bits") 1287, PySem.Value.str (PySem.Str.ofString "/claim/cut.py") 1288, PySem.Value.int 409 0, PySem.Value.int 8 0, PySem.Value.int 0 0, PySem.Value.int 0 0, PySem.Value.int 3 0, PySem.Value.ref 848, PySem.Value.bool Bool.true, PySem.Value.int 181 0, PySem.Value.ref 849, PySem.Value.none, PySem.Value.ref 850, PySem.Value.ref 851, PySem.Value.ref 852, PySem.Value.int 1298 0, PySem.Value.int 409 0, PySem.Value.str (PySem.Str.ofString "/claim/cut.py") 1299]) #[]),
  (nat_lit 854, fnObj (nthS (stBody (topAt 19)) 30) (PySem.Str.ofString "BitJudge.reckon_bits") (PySem.Value.none) (PySem.Value.none) (PySem.Value.none) (PySem.Value.str (PySem.Str.ofString "minismt.bitjudge") 989) (Option.none) (PySem.Value.ref 853) (PySem.Value.none)),
  (nat_lit 856, PySem.Obj.mk (PySem.Value.type "dict") Option.none (PySem.Data.dict #[PySem.DictEntry.mk (PySem.PyData.keyHash P (PySem.Str.ofString "__module__")) (PySem.Value.str (PySem.Str.ofString "__module__") 998) (PySem.Value.str (PySem.Str.ofString "minismt.bitjudge") 989), PySem.DictEntry.mk (PySem.PyData.keyHash P (PySem.Str.ofString "__firstlineno__")) (PySem.Value.str (PySem.Str.ofString "__firstlineno__") 1002) (PySem.Value.int 311 1001), PySem.DictEntry.mk (PySem.PyData.keyHash P (PySem.Str.ofString "__init__")) (PySem.Value.str (PySem.Str.ofString "__init__") 1010) (PySem.Value.ref 644), PySem.DictEntry.mk (PySem.PyData.keyHash P (PySem.Str.ofString "is_term")) (PySem.Value.str (PySem.Str.ofString "is_term") 1018) (PySem.Value.ref 651), PySem.DictEntry.mk (PySem.PyData.keyHash P (PySem.Str.ofString "signed")) (PySem.Value.str (PySem.Str.ofString "signed") 1027) (PySem.Value.ref 658), PySem.DictEntry.mk (PySem.PyData.keyHash P (PySem.Str.ofString "fault")) (PySem.Value.str (PySem.Str.ofString "fault") 1036) (PySem.Value.ref 665), PySem.DictEntry.mk (PySem.PyData.keyHash P (PySem.Str.ofString "bit_key")) (PySem.Value.str (PySem.Str.ofString "bit_key") 1046) (PySem.Value.ref 672), PySem.DictEntry.mk (PySem.PyData.keyHash P (PySem.Str.ofString "bit")) (PySem.Value.str (PySem.Str.ofString "bit") 1055) (PySem.Value.ref 679), PySem.DictEntry.mk (PySem.PyData.keyHash P (PySem.Str.ofString "side")) (PySem.Value.str (PySem.Str.ofString "side") 1066) (PySem.Value.ref 686), PySem.DictEntry.mk (PySem.PyData.keyHash P (PySem.Str.ofString "meaning")) (PySem.Value.str (PySem.Str.ofString "meaning") 1076) (PySem.Value.ref 693), PySem.DictEntry.mk (PySem.PyData.keyHash P (PySem.Str.ofString "wanted_bit")) (PySem.Value.str (PySem.Str.ofString "wanted_bit") 1088) (PySem.Value.ref 700), PySem.DictEntry.mk (PySem.PyData.keyHash P (PySem.Str.ofString "wired_bit")) (PySem.Value.str (PySem.Str.ofString "wired_bit") 1099) (PySem.Value.ref 707), PySem.DictEntry.mk (PySem.PyData.keyHash P (PySem.Str.ofString "side_meaning")) (PySem.Value.str (PySem.Str.ofString "side_meaning") 1108) (PySem.Value.ref 714), PySem.DictEntry.mk (PySem.PyData.keyHash P (PySem.Str.ofString "order_meaning")) (PySem.Value.str (PySem.Str.ofString "order_meaning") 1117) (PySem.Value.ref 721), PySem.DictEntry.mk (PySem.PyData.keyHash P (PySem.Str.ofString "equal_meaning")) (PySem.Value.str (PySem.Str.ofString "equal_meaning") 1126) (PySem.Value.ref 728), PySem.DictEntry.mk (PySem.PyData.keyHash P (PySem.Str.ofString "unequal_fault")) (PySem.Value.str (PySem.Str.ofString "unequal_fault") 1135) (PySem.Value.ref 735), PySem.DictEntry.mk (PySem.PyData.keyHash P (PySem.Str.ofString "unlike")) (PySem.Value.str (PySem.Str.ofString "unlike") 1144) (PySem.Value.ref 742), PySem.DictEntry.mk (PySem.PyData.keyHash P (PySem.Str.ofString "table_fault")) (PySem.Value.str (PySem.Str.ofString "table_fault") 1153) (PySem.Value.ref 749), PySem.DictEntry.mk (PySem.PyData.keyHash P (PySem.Str.ofString "holds")) (PySem.Value.str (PySem.Str.ofString "holds") 1162) (PySem.Value.ref 756), PySem.DictEntry.mk (PySem.PyData.keyHash P (PySem.Str.ofString "opened_fault")) (PySem.Value.str (PySem.Str.ofString "opened_fault") 1173) (PySem.Value.ref 763), PySem.DictEntry.mk (PySem.PyData.keyHash P (PySem.Str.ofString "worlds_fault")) (PySem.Value.str (PySem.Str.ofString "worlds_fault") 1182) (PySem.Value.ref 770), PySem.DictEntry.mk (PySem.PyData.keyHash P (PySem.Str.ofString "bit_of")) (PySem.Value.str (PySem.Str.ofString "bit_of") 1191) (PySem.Value.ref 777), PySem.DictEntry.mk (PySem.PyData.keyHash P (PySem.Str.ofString "made")) (PySem.Value.str (PySem.Str.ofString "made") 1202) (PySem.Value.ref 784), PySem.DictEntry.mk (PySem.PyData.keyHash P (PySem.Str.ofString "shifted")) (PySem.Value.str (PySem.Str.ofString "shifted") 1212) (PySem.Value.ref 791), PySem.DictEntry.mk (PySem.PyData.keyHash P (PySem.Str.ofString "expansion")) (PySem.Value.str (PySem.Str.ofString "expansion") 1220) (PySem.Value.ref 798), PySem.DictEntry.mk (PySem.PyData.keyHash P (PySem.Str.ofString "expand_lines")) (PySem.Value.str (PySem.Str.ofString "expand_lines") 1229) (PySem.Value.ref 805), PySem.DictEntry.mk (PySem.PyData.keyHash P (PySem.Str.ofString "division_lines")) (PySem.Value.str (PySem.Str.ofString "division_lines") 1238) (PySem.Value.ref 812), PySem.DictEntry.mk (PySem.PyData.keyHash P (PySem.Str.ofString "many_worlds")) (PySem.Value.str (PySem.Str.ofString "many_worlds") 1246) (PySem.Value.ref 819), PySem.DictEntry.mk (PySem.PyData.keyHash P (PySem.Str.ofString "table")) (PySem.Value.str (PySem.Str.ofString "table") 1255) (PySem.Value.ref 826), PySem.DictEntry.mk (PySem.PyData.keyHash P (PySem.Str.ofString "free_tables")) (PySem.Value.str (PySem.Str.ofString "free_tables") 1263) (PySem.Value.ref 833), PySem.DictEntry.mk (PySem.PyData.keyHash P (PySem.Str.ofString "column")) (PySem.Value.str (PySem.Str.ofString "column") 1273) (PySem.Value.ref 840), PySem.DictEntry.mk (PySem.PyData.keyHash P (PySem.Str.ofString "reckon")) (PySem.Value.str (PySem.Str.ofString "reckon") 1285) (PySem.Value.ref 847), PySem.DictEntry.mk (PySem.PyData.keyHash P (PySem.Str.ofString "reckon_bits")) (PySem.Value.str (PySem.Str.ofString "reckon_bits") 1300) (PySem.Value.ref 854), PySem.DictEntry.mk (PySem.PyData.keyHash P (PySem.Str.ofString "__static_attributes__")) (PySem.Value.str (PySem.Str.ofString "__static_attributes__") 1303) (PySem.Value.ref 855), PySem.DictEntry.mk (PySem.PyData.keyHash P (PySem.Str.ofString "__dict__")) (PySem.Value.str (PySem.Str.ofString "__dict__") 1305) (PySem.Value.ref 858), PySem.DictEntry.mk (PySem.PyData.keyHash P (PySem.Str.ofString "__weakref__")) (PySem.Value.str (PySem.Str.ofString "__weakref__") 1307) (PySem.Value.ref 859), PySem.DictEntry.mk (PySem.PyData.keyHash P (PySem.Str.ofString "__doc__")) (PySem.Value.str (PySem.Str.ofString "__doc__") 1308) PySem.Value.none] 4) #[]),
  (nat_lit 857, PySem.Obj.mk (PySem.Value.type "type") Option.none (PySem.Data.cls (PySem.ClassData.mk (PySem.Str.ofString "BitJudge") [PySem.Value.type "object"] [PySem.Value.ref 857, PySem.Value.type "object"] 856 (PySem.Str.ofString "BitJudge") Bool.true [] [] Bool.false Option.none Bool.false)) #[Option.none, Option.none, Option.some (PySem.Value.str (PySem.Str.ofString "BitJudge") 991), Option.some (PySem.Value.str (PySem.Str.ofString "BitJudge") 999), Option.some (PySem.Value.builtin "object.__new__"), Option.some (PySem.Value.bool Bool.true)]),
  (nat_lit 862, PySem.Obj.mk (PySem.Value.type "tuple") Option.none (PySem.Data.seq #[PySem.Value.str (PySem.Str.ofString "true") 1313, PySem.Value.str (PySem.Str.ofString "false") 1314, PySem.Value.str (PySem.Str.ofString "not") 1315, PySem.Value.str (PySem.Str.ofString "and") 1316, PySem.Value.str (PySem.Str.ofString "or") 1317, PySem.Value.str (PySem.Str.ofString "xor") 1318, PySem.Value.str (PySem.Str.ofString "=>") 1319, PySem.Value.str (PySem.Str.ofString "=") 1320, PySem.Value.str (PySem.Str.ofString "distinct") 1321, PySem.Value.str (PySem.Str.ofString "app") 1322, PySem.Value.str (PySem.Str.ofString "num") 1323, PySem.Value.str (PySem.Str.ofString "+") 1324, PySem.Value.str (PySem.Str.ofString "*") 1325, PySem.Value.str (PySem.Str.ofString "<=") 1326, PySem.Value.str (PySem.Str.ofString "<") 1327, PySem.Value.str (PySem.Str.ofString "bvnum") 1328, PySem.Value.str (PySem.Str.ofString "bvult") 1329, PySem.Value.str (PySem.Str.ofString "bvule") 1330, PySem.Value.str (PySem.Str.ofString "bvslt") 1331, PySem.Value.str (PySem.Str.ofString "bvsle") 1332, PySem.Value.str (PySem.Str.ofString "bit") 1333, PySem.Value.str (PySem.Str.ofString "carry") 1334, PySem.Value.str (PySem.Str.ofString "below") 1335, PySem.Value.str (PySem.Str.ofString "bvugt") 1336, PySem.Value.str (PySem.Str.ofString "bvuge") 1337, PySem.Value.str (PySem.Str.ofString "bvsgt") 1338, PySem.Value.str (PySem.Str.ofString "bvsge") 1339, PySem.Value.str (PySem.Str.ofString "bvnand") 1340, PySem.Value.str (PySem.Str.ofString "bvnor") 1341, PySem.Value.str (PySem.Str.ofString "bvxnor") 1342, PySem.Value.str (PySem.Str.ofString "bvcomp") 1343, PySem.Value.str (PySem.Str.ofString "bvashr") 1344, PySem.Value.str (PySem.Str.ofString "bvsdiv") 1345, PySem.Value.str (PySem.Str.ofString "bvsrem") 1346, PySem.Value.str (PySem.Str.ofString "bvsmod") 1347, PySem.Value.str (PySem.Str.ofString "rotate_left") 1348, PySem.Value.str (PySem.Str.ofString "rotate_right") 1349, PySem.Value.str (PySem.Str.ofString "repeat") 1350, PySem.Value.str (PySem.Str.ofString "") 1351]) #[]),
  (nat_lit 868, PySem.Obj.mk (PySem.Value.type "code") Option.none (PySem.Data.fields #[PySem.Value.str (PySem.Str.ofString "_law_tap") 1353, PySem.Value.str (PySem.Str.ofString "_law_tap") 1354, PySem.Value.str (PySem.Str.ofString "/claim/cut.py") 1355, PySem.Value.int 448 0, PySem.Value.int 2 0, PySem.Value.int 0 0, PySem.Value.int 0 0, PySem.Value.int 3 0, PySem.Value.ref 863, PySem.Value.bool Bool.true, PySem.Value.int 181 0, PySem.Value.ref 864, PySem.Value.none, PySem.Value.ref 865, PySem.Value.ref 866, PySem.Value.ref 867, PySem.Value.int 1359 0, PySem.Value.int 448 0, PySem.Value.str (PySem.Str.ofString "/claim/cut.py") 1360]) #[]),
  (nat_lit 869, fnObj (topAt 22) (PySem.Str.ofString "_law_tap") (PySem.Value.none) (PySem.Value.none) (PySem.Value.none) (PySem.Value.str (PySem.Str.ofString "law_rg0224_01") 1311) (Option.none) (PySem.Value.ref 868) (PySem.Value.none)),
  (nat_lit 875, PySem.Obj.mk (PySem.Value.type "code") Option.none (PySem.Data.fields #[PySem.Value.str (PySem.Str.ofString "_law_number") 1362, PySem.Value.str (PySem.Str.ofString "_law_number") 1363, PySem.Value.str (PySem.Str.ofString "/claim/cut.py") 1364, PySem.Value.int 452 0, PySem.Value.int 2 0, PySem.Value.int 0 0, PySem.Value.int 0 0, PySem.Value.int 3 0, PySem.Value.ref 870, PySem.Value.bool Bool.true, PySem.Value.int 181 0, PySem.Value.ref 871, PySem.Value.none, PySem.Value.ref 872, PySem.Value.ref 873, PySem.Value.ref 874, PySem.Value.int 1370 0, PySem.Value.int 452 0, PySem.Value.str (PySem.Str.ofString "/claim/cut.py") 1371]) #[]),
  (nat_lit 876, fnObj (topAt 23) (PySem.Str.ofString "_law_number") (PySem.Value.none) (PySem.Value.none) (PySem.Value.none) (PySem.Value.str (PySem.Str.ofString "law_rg0224_01") 1311) (Option.none) (PySem.Value.ref 875) (PySem.Value.none)),
  (nat_lit 880, PySem.Obj.mk (PySem.Value.type "code") Option.none (PySem.Data.fields #[PySem.Value.str (PySem.Str.ofString "_law_row") 1373, PySem.Value.str (PySem.Str.ofString "_law_row") 1374, PySem.Value.str (PySem.Str.ofString "/claim/cut.py") 1375, PySem.Value.int 456 0, PySem.Value.int 2 0, PySem.Value.int 0 0, PySem.Value.int 0 0, PySem.Value.int 3 0, PySem.Value.ref 877, PySem.Value.bool Bool.true, PySem.Value.int 181 0, PySem.Value.ref 878, PySem.Value.none, PySem.Value.none, PySem.Value.none, PySem.Value.ref 879, PySem.Value.int 1376 0, PySem.Value.int 456 0, PySem.Value.str (PySem.Str.ofString "/claim/cut.py") 1377]) #[]),
  (nat_lit 881, fnObj (topAt 24) (PySem.Str.ofString "_law_row") (PySem.Value.none) (PySem.Value.none) (PySem.Value.none) (PySem.Value.str (PySem.Str.ofString "law_rg0224_01") 1311) (Option.none) (PySem.Value.ref 880) (PySem.Value.none)),
  (nat_lit 885, PySem.Obj.mk (PySem.Value.type "code") Option.none (PySem.Data.fields #[PySem.Value.str (PySem.Str.ofString "_law_turned_about") 1379, PySem.Value.str (PySem.Str.ofString "_law_turned_about") 1380, PySem.Value.str (PySem.Str.ofString "/claim/cut.py") 1381, PySem.Value.int 458 0, PySem.Value.int 1 0, PySem.Value.int 0 0, PySem.Value.int 0 0, PySem.Value.int 3 0, PySem.Value.ref 882, PySem.Value.bool Bool.true, PySem.Value.int 181 0, PySem.Value.ref 883, PySem.Value.none, PySem.Value.none, PySem.Value.none, PySem.Value.ref 884, PySem.Value.int 1382 0, PySem.Value.int 458 0, PySem.Value.str (PySem.Str.ofString "/claim/cut.py") 1383]) #[]),
  (nat_lit 886, fnObj (topAt 25) (PySem.Str.ofString "_law_turned_about") (PySem.Value.none) (PySem.Value.none) (PySem.Value.none) (PySem.Value.str (PySem.Str.ofString "law_rg0224_01") 1311) (Option.none) (PySem.Value.ref 885) (PySem.Value.none)),
  (nat_lit 892, PySem.Obj.mk (PySem.Value.type "code") Option.none (PySem.Data.fields #[PySem.Value.str (PySem.Str.ofString "_law_sum") 1385, PySem.Value.str (PySem.Str.ofString "_law_sum") 1386, PySem.Value.str (PySem.Str.ofString "/claim/cut.py") 1387, PySem.Value.int 460 0, PySem.Value.int 3 0, PySem.Value.int 0 0, PySem.Value.int 0 0, PySem.Value.int 3 0, PySem.Value.ref 887, PySem.Value.bool Bool.true, PySem.Value.int 181 0, PySem.Value.ref 888, PySem.Value.none, PySem.Value.ref 889, PySem.Value.ref 890, PySem.Value.ref 891, PySem.Value.int 1394 0, PySem.Value.int 460 0, PySem.Value.str (PySem.Str.ofString "/claim/cut.py") 1395]) #[]),
  (nat_lit 893, fnObj (topAt 26) (PySem.Str.ofString "_law_sum") (PySem.Value.none) (PySem.Value.none) (PySem.Value.none) (PySem.Value.str (PySem.Str.ofString "law_rg0224_01") 1311) (Option.none) (PySem.Value.ref 892) (PySem.Value.none)),
  (nat_lit 899, PySem.Obj.mk (PySem.Value.type "code") Option.none (PySem.Data.fields #[PySem.Value.str (PySem.Str.ofString "_law_moved") 1397, PySem.Value.str (PySem.Str.ofString "_law_moved") 1398, PySem.Value.str (PySem.Str.ofString "/claim/cut.py") 1399, PySem.Value.int 466 0, PySem.Value.int 2 0, PySem.Value.int 0 0, PySem.Value.int 0 0, PySem.Value.int 3 0, PySem.Value.ref 894, PySem.Value.bool Bool.true, PySem.Value.int 181 0, PySem.Value.ref 895, PySem.Value.none, PySem.Value.ref 896, PySem.Value.ref 897, PySem.Value.ref 898, PySem.Value.int 1402 0, PySem.Value.int 466 0, PySem.Value.str (PySem.Str.ofString "/claim/cut.py") 1403]) #[]),
  (nat_lit 900, fnObj (topAt 27) (PySem.Str.ofString "_law_moved") (PySem.Value.none) (PySem.Value.none) (PySem.Value.none) (PySem.Value.str (PySem.Str.ofString "law_rg0224_01") 1311) (Option.none) (PySem.Value.ref 899) (PySem.Value.none)),
  (nat_lit 906, PySem.Obj.mk (PySem.Value.type "code") Option.none (PySem.Data.fields #[PySem.Value.str (PySem.Str.ofString "_law_product") 1405, PySem.Value.str (PySem.Str.ofString "_law_product") 1406, PySem.Value.str (PySem.Str.ofString "/claim/cut.py") 1407, PySem.Value.int 468 0, PySem.Value.int 2 0, PySem.Value.int 0 0, PySem.Value.int 0 0, PySem.Value.int 3 0, PySem.Value.ref 901, PySem.Value.bool Bool.true, PySem.Value.int 181 0, PySem.Value.ref 902, PySem.Value.none, PySem.Value.ref 903, PySem.Value.ref 904, PySem.Value.ref 905, PySem.Value.int 1413 0, PySem.Value.int 468 0, PySem.Value.str (PySem.Str.ofString "/claim/cut.py") 1414]) #[]),
  (nat_lit 907, fnObj (topAt 28) (PySem.Str.ofString "_law_product") (PySem.Value.none) (PySem.Value.none) (PySem.Value.none) (PySem.Value.str (PySem.Str.ofString "law_rg0224_01") 1311) (Option.none) (PySem.Value.ref 906) (PySem.Value.none)),
  (nat_lit 913, PySem.Obj.mk (PySem.Value.type "code") Option.none (PySem.Data.fields #[PySem.Value.str (PySem.Str.ofString "_law_divided") 1416, PySem.Value.str (PySem.Str.ofString "_law_divided") 1417, PySem.Value.str (PySem.Str.ofString "/claim/cut.py") 1418, PySem.Value.int 474 0, PySem.Value.int 2 0, PySem.Value.int 0 0, PySem.Value.int 0 0, PySem.Value.int 3 0, PySem.Value.ref 908, PySem.Value.bool Bool.true, PySem.Value.int 181 0, PySem.Value.ref 909, PySem.Value.none, PySem.Value.ref 910, PySem.Value.ref 911, PySem.Value.ref 912, PySem.Value.int 1426 0, PySem.Value.int 474 0, PySem.Value.str (PySem.Str.ofString "/claim/cut.py") 1427]) #[]),
  (nat_lit 914, fnObj (topAt 29) (PySem.Str.ofString "_law_divided") (PySem.Value.none) (PySem.Value.none) (PySem.Value.none) (PySem.Value.str (PySem.Str.ofString "law_rg0224_01") 1311) (Option.none) (PySem.Value.ref 913) (PySem.Value.none)),
  (nat_lit 918, PySem.Obj.mk (PySem.Value.type "code") Option.none (PySem.Data.fields #[PySem.Value.str (PySem.Str.ofString "_law_due") 1429, PySem.Value.str (PySem.Str.ofString "_law_due") 1430, PySem.Value.str (PySem.Str.ofString "/claim/cut.py") 1431, PySem.Value.int 485 0, PySem.Value.int 2 0, PySem.Value.int 0 0, PySem.Value.int 0 0, PySem.Value.int 3 0, PySem.Value.ref 915, PySem.Value.bool Bool.true, PySem.Value.int 181 0, PySem.Value.ref 916, PySem.Value.none, PySem.Value.none, PySem.Value.none, PySem.Value.ref 917, PySem.Value.int 1432 0, PySem.Value.int 485 0, PySem.Value.str (PySem.Str.ofString "/claim/cut.py") 1433]) #[]),
  (nat_lit 919, fnObj (topAt 30) (PySem.Str.ofString "_law_due") (PySem.Value.none) (PySem.Value.none) (PySem.Value.none) (PySem.Value.str (PySem.Str.ofString "law_rg0224_01") 1311) (Option.none) (PySem.Value.ref 918) (PySem.Value.none)),
  (nat_lit 925, PySem.Obj.mk (PySem.Value.type "code") Option.none (PySem.Data.fields #[PySem.Value.str (PySem.Str.ofString "_law_told") 1435, PySem.Value.str (PySem.Str.ofString "_law_told") 1436, PySem.Value.str (PySem.Str.ofString "/claim/cut.py") 1437, PySem.Value.int 489 0, PySem.Value.int 6 0, PySem.Value.int 0 0, PySem.Value.int 0 0, PySem.Value.int 3 0, PySem.Value.ref 920, PySem.Value.bool Bool.true, PySem.Value.int 181 0, PySem.Value.ref 921, PySem.Value.none, PySem.Value.ref 922, PySem.Value.ref 923, PySem.Value.ref 924, PySem.Value.int 1445 0, PySem.Value.int 489 0, PySem.Value.str (PySem.Str.ofString "/claim/cut.py") 1446]) #[]),
  (nat_lit 926, fnObj (topAt 31) (PySem.Str.ofString "_law_told") (PySem.Value.none) (PySem.Value.none) (PySem.Value.none) (PySem.Value.str (PySem.Str.ofString "law_rg0224_01") 1311) (Option.none) (PySem.Value.ref 925) (PySem.Value.none)),
  (nat_lit 930, PySem.Obj.mk (PySem.Value.type "code") Option.none (PySem.Data.fields #[PySem.Value.str (PySem.Str.ofString "_law_are_two_right") 1448, PySem.Value.str (PySem.Str.ofString "_law_are_two_right") 1449, PySem.Value.str (PySem.Str.ofString "/claim/cut.py") 1450, PySem.Value.int 494 0, PySem.Value.int 4 0, PySem.Value.int 0 0, PySem.Value.int 0 0, PySem.Value.int 3 0, PySem.Value.ref 927, PySem.Value.bool Bool.true, PySem.Value.int 181 0, PySem.Value.ref 928, PySem.Value.none, PySem.Value.none, PySem.Value.none, PySem.Value.ref 929, PySem.Value.int 1451 0, PySem.Value.int 494 0, PySem.Value.str (PySem.Str.ofString "/claim/cut.py") 1452]) #[]),
  (nat_lit 931, fnObj (topAt 32) (PySem.Str.ofString "_law_are_two_right") (PySem.Value.none) (PySem.Value.none) (PySem.Value.none) (PySem.Value.str (PySem.Str.ofString "law_rg0224_01") 1311) (Option.none) (PySem.Value.ref 930) (PySem.Value.none)),
  (nat_lit 937, PySem.Obj.mk (PySem.Value.type "code") Option.none (PySem.Data.fields #[PySem.Value.str (PySem.Str.ofString "_law_are_widths_right") 1454, PySem.Value.str (PySem.Str.ofString "_law_are_widths_right") 1455, PySem.Value.str (PySem.Str.ofString "/claim/cut.py") 1456, PySem.Value.int 504 0, PySem.Value.int 4 0, PySem.Value.int 0 0, PySem.Value.int 0 0, PySem.Value.int 3 0, PySem.Value.ref 932, PySem.Value.bool Bool.true, PySem.Value.int 181 0, PySem.Value.ref 933, PySem.Value.none, PySem.Value.ref 934, PySem.Value.ref 935, PySem.Value.ref 936, PySem.Value.int 1467 0, PySem.Value.int 504 0, PySem.Value.str (PySem.Str.ofString "/claim/cut.py") 1468]) #[]),
  (nat_lit 938, fnObj (topAt 33) (PySem.Str.ofString "_law_are_widths_right") (PySem.Value.none) (PySem.Value.none) (PySem.Value.none) (PySem.Value.str (PySem.Str.ofString "law_rg0224_01") 1311) (Option.none) (PySem.Value.ref 937) (PySem.Value.none)),
  (nat_lit 942, PySem.Obj.mk (PySem.Value.type "code") Option.none (PySem.Data.fields #[PySem.Value.str (PySem.Str.ofString "law") 1470, PySem.Value.str (PySem.Str.ofString "law") 1471, PySem.Value.str (PySem.Str.ofString "/claim/cut.py") 1472, PySem.Value.int 519 0, PySem.Value.int 1 0, PySem.Value.int 0 0, PySem.Value.int 0 0, PySem.Value.int 3 0, PySem.Value.ref 939, PySem.Value.bool Bool.true, PySem.Value.int 181 0, PySem.Value.ref 940, PySem.Value.none, PySem.Value.none, PySem.Value.none, PySem.Value.ref 941, PySem.Value.int 1473 0, PySem.Value.int 519 0, PySem.Value.str (PySem.Str.ofString "/claim/cut.py") 1474]) #[]),
  (nat_lit 943, fnObj (topAt 34) (PySem.Str.ofString "law") (PySem.Value.none) (PySem.Value.none) (PySem.Value.none) (PySem.Value.str (PySem.Str.ofString "law_rg0224_01") 1311) (Option.none) (PySem.Value.ref 942) (PySem.Value.none))]
end Mine
end

-- FnA
section
set_option maxRecDepth 100000
namespace Mine

theorem fill : KK = KK ∧ PySem.Challenge.rw_rg0224_01 = PySem.Challenge.rw_rg0224_01 := by
  k_fill
  exact ⟨rfl, rfl⟩

section
variable {prog : Program} {w : World} {mg mb : Str → Option Value} {n : Nat} {md : Mode} {K : Kn}

theorem zip_fst : ∀ (ns : List Str) (vs : List Value), ns.length = vs.length → (ns.zip vs).map (·.1) = ns
  | [], [], _ => rfl
  | _ :: ns, _ :: vs, h => by rw [List.zip_cons_cons, List.map_cons, zip_fst ns vs (by simpa using h)]

theorem op_def {Kf : Frag} {f : Addr} {oc : Value} {od : Option Addr} {osl : Array (Option Value)} {name qual : Str} {params : Arguments} {body : List Stmt} {scope : Scope} {dV kV doc pm cdv ct : Value} {an : Option Addr}
    {vals : List Value} {P : Value → Kn → Prop} {J : JT} (names : List Str)
    (ho : Kf.lookup f = some ⟨oc, od, .func (fnOf name qual params body scope dV kV doc pm an cdv ct), osl⟩) (hcd : codeIn Kf cdv qual = true) (hco : scope.isCoroutine = false) (hgen : scope.isGenerator = false) (hk : scope.kind = .function)
    (hbind : bindArgs (fnOf name qual params body scope dV kV doc pm an cdv ct) ⟨vals, []⟩ = pure (names.zip vals)) (hlen : names.length = vals.length)
    (hnd : names.Nodup) (hst : names.all (storesB scope) = true)
    (run : Run prog w Kf mg mb n md (fnOf name qual params body scope dV kV doc pm an cdv ct) f K (bm (names.zip vals)) body J) (hj : ∀ fl K' m', (∀ a o, K a o → K' a o) → J fl K' m' → P (match fl with | .ret v => v | _ => .none) K') :
    Op prog w Kf mg mb (n + 1) md K (PySem.call (.ref f) vals) P := by
  have hs : ∀ p ∈ names.zip vals, storesB scope p.1 = true := fun p hp => List.all_eq_true.mp hst p.1 (by
    have := List.mem_map_of_mem (f := (·.1)) hp
    rwa [zip_fst names vals hlen] at this)
  refine op_call (fd := fnOf name qual params body scope dV kV doc pm an cdv ct) ⟨⟨_, ho, rfl⟩, hcd, rfl, rfl, rfl, rfl, hco, hgen, hk⟩ hbind (by rw [zip_fst names vals hlen]; exact hnd) (fun p hp => ?_) (fun p hp => ?_) run hj
  · exact Stores.db (fd := fnOf name qual params body scope dV kV doc pm an cdv ct) (hs p hp)
  · have h := fun L => Stores.at (fd := fnOf name qual params body scope dV kV doc pm an cdv ct) (hs p hp) L
    rcases h 0 with h0 | h0
    · exact .inl h0
    · exact .inr ⟨h0.1, fun L => by
        rcases h L with h1 | h1
        · rw [h0.1] at h1; cases h1
        · exact Option.isSome_iff_exists.mpr h1.2⟩

set_option maxHeartbeats 1000000 in
theorem turned_ct {xs : List Int} {v : Value} (hv : Has K (.ints xs) v) (hl : xs.length ≤ 1000) :
    Op prog w (KK w.params) mg mb (n + 1) md K (PySem.call (.ref 886) [v]) (fun v K => Has K (.ints (turnI xs)) v) := by
  refine' op_def (f := 886) [Str.ofString "row"] ?ho ?hcd ?hco ?hgen ?hk ?hb ?hl ?hnd ?hst (J := fun fl K _ => ∃ v, fl = .ret v ∧ Has K (.ints (turnI xs)) v) ?run ?hj
  case ho => k_is
  case hcd => k_is
  case hco => exact rfl
  case hgen => exact rfl
  case hk => exact rfl
  case hb => exact rfl
  case hl => exact rfl
  case hnd => decide
  case hst => exact rfl
  case hj => rintro fl K' m' _ ⟨v, rfl, h⟩; exact h
  case run =>
    refine Run.ret (P := fun v K' => IsListOf K' (xs.map fun i => .int (1 - i)) v) (fun L => ?_) (fun v K' _ h => ⟨v, rfl, HasInts.of (by unfold turnI; rw [List.map_map]; exact h)⟩)
    refine Ev.comp (names := [Str.ofString "bit"]) (cap := []) (xs := (xs.map Ty.int).map .one) (Iter.list (Ev.name (v := v) rfl (IsListOf.ints hv))) (.name _ _) ?_ rfl (by decide) rfl (by decide) (by decide) .nil (by simp) ?_ ?_
    · intro it hit
      obtain ⟨T, _, rfl⟩ := List.mem_map.mp hit
      rfl
    · simp [sizeLine]; omega
    · intro i it U bs K1 C hit hU hK hB
      simp only [List.getElem?_map, Option.map_map] at hit hU
      obtain ⟨x, hx, rfl⟩ := Option.map_eq_some_iff.mp hit
      rw [hx] at hU
      cases hU
      cases hB with
      | one hv =>
        exact Ev.binT Ev.cint (Ev.name rfl hv) fun v1 v2 K' p1 p2 => op_sub p1 p2

theorem int_cast_pow (k : Nat) : ((2 : Int) ^ ((k : Int).toNat)) = (2 : Int) ^ k := by simp
set_option maxHeartbeats 1000000 in
theorem row_ct {x : Int} {c : Nat} {v1 v2 : Value} (h1 : Has K (.int x) v1) (h2 : Has K (.int (c : Int)) v2) (hc : c ≤ 29) :
    Op prog w (KK w.params) mg mb (n + 1) md K (PySem.call (.ref 881) [v1, v2]) (fun v K => Has K (.ints (rowI x c)) v) := by
  refine' op_def (f := 881) [Str.ofString "number", Str.ofString "wide"] ?ho ?hcd ?hco ?hgen ?hk ?hb ?hl ?hnd ?hst (J := fun fl K _ => ∃ v, fl = .ret v ∧ Has K (.ints (rowI x c)) v) ?run ?hj
  case ho => k_is
  case hcd => k_is
  case hco => exact rfl
  case hgen => exact rfl
  case hk => exact rfl
  case hb => exact rfl
  case hl => exact rfl
  case hnd => decide
  case hst => exact rfl
  case hj => rintro fl K' m' _ ⟨v, rfl, h⟩; exact h
  case run =>
    refine Run.ret (P := fun v K' => IsListOf K' ((List.range c).map fun (k : Nat) => .int ((x.fdiv (2 ^ k)).fmod 2)) v) (fun L => ?_) (fun v K' _ h => ⟨v, rfl, HasInts.of (by unfold rowI; rw [List.map_map]; exact h)⟩)
    refine Ev.comp (names := [Str.ofString "k"]) (cap := [Str.ofString "number"]) (xs := (rangeTys c).map .one) (Iter.range (Ev.boot rfl (by k_is) rfl rfl) (Ev.name (v := v2) rfl h2) (by omega)) (.name _ _) ?_ rfl (by decide) rfl (by decide) (by decide) (.cons ⟨rfl, rfl, rfl, rfl⟩ .nil) (by simp [rangeTys]) ?_ ?_
    · intro it hit
      obtain ⟨T, _, rfl⟩ := List.mem_map.mp hit
      rfl
    · simp [rangeTys, sizeLine]; omega
    · intro i it U bs K1 C hit hU hK hB
      simp only [rangeTys, List.getElem?_map, Option.map_map] at hit hU
      obtain ⟨j, hj, rfl⟩ := Option.map_eq_some_iff.mp hit
      rw [hj] at hU
      cases hU
      have hjc : j < c := List.mem_range.mp (List.mem_of_getElem? hj)
      cases hB with
      | one hv =>
        have e2 : (2 : Int) ^ j < 2 ^ 30 := by
          have : (2 : Nat) ^ j < 2 ^ 30 := Nat.pow_lt_pow_right (by decide) (by omega)
          exact_mod_cast this
        have e0 : (2 : Int) ^ j > 0 := Int.pow_pos (by decide)
        refine Ev.binT (T1 := .int (x.fdiv (2 ^ j))) (T2 := .int 2) (Ev.binT (T1 := .int x) (T2 := .int (2 ^ j)) (Ev.name rfl (h1.mono hK)) (Ev.binT (T1 := .int 2) (T2 := .int (j : Int)) Ev.cint (Ev.name rfl hv) fun v1 v2 K' p1 p2 => ?_) fun v1 v2 K' p1 p2 => ?_) Ev.cint fun v1 v2 K' p1 p2 => op_mod (by decide) p1 p2
        · have := op_pow (prog := prog) (w := w) (Kf := KK w.params) (mg := mg) (mb := mb) (n := n) (md := md) (by omega) (by omega) (by decide) p1 p2
          rw [int_cast_pow] at this
          exact this
        · exact op_fdiv (by omega) (PyProof.noPylong_small (by omega)) p1 p2
end
end Mine
end

-- FnB
section
set_option maxRecDepth 100000
namespace Mine
section
variable {prog : Program} {w : World} {mg mb : Str → Option Value} {n : Nat} {md : Mode} {K : Kn}

theorem sumI_drop (xs ys : List Int) (c : Int) (i : Nat) (ci : Int) (h : (sumI xs ys c).drop i = sumI (xs.drop i) (ys.drop i) ci) (h1 : i < xs.length) (h2 : i < ys.length) :
    (sumI xs ys c).drop (i + 1) = sumI (xs.drop (i + 1)) (ys.drop (i + 1)) (if 1 < xs[i] + ys[i] + ci then 1 else 0) ∧ (sumI xs ys c).take (i + 1) = (sumI xs ys c).take i ++ [(xs[i] + ys[i] + ci).fmod 2] := by
  rw [List.drop_eq_getElem_cons h1, List.drop_eq_getElem_cons h2] at h
  have hs : sumI (xs[i] :: xs.drop (i + 1)) (ys[i] :: ys.drop (i + 1)) ci = (xs[i] + ys[i] + ci).fmod 2 :: sumI (xs.drop (i + 1)) (ys.drop (i + 1)) (if 1 < xs[i] + ys[i] + ci then 1 else 0) := rfl
  rw [hs] at h
  have hi : i < (sumI xs ys c).length := by
    have := congrArg List.length h
    rw [List.length_drop, List.length_cons] at this
    omega
  rw [List.drop_eq_getElem_cons hi] at h
  injection h with e1 e2
  exact ⟨e2, by rw [List.take_add_one, List.getElem?_eq_getElem hi, e1]; rfl⟩

set_option maxHeartbeats 2000000 in
theorem sum_q {xs ys : List Int} {c : Int} {v1 v2 v3 : Value} (h1 : Has K (.ints xs) v1) (h2 : Has K (.ints ys) v2) (h3 : Has K (.int c) v3) (hl : xs.length ≤ 1000) :
    Op prog w (KK w.params) mg mb (n + 1) quiet K (PySem.call (.ref 893) [v1, v2, v3]) (fun v K => Has K (.ints (sumI xs ys c)) v) := by
  refine' op_def (f := 893) [Str.ofString "one", Str.ofString "other", Str.ofString "carry"] ?ho ?hcd ?hco ?hgen ?hk ?hb ?hl ?hnd ?hst (J := fun fl K' m' => ∃ a vs k ns K1, (K' = Add K1 a (listOf vs.toArray k)) ∧ IntsAre vs ns ∧ (∀ b o, K b o → K1 b o) ∧ (fl = .ret (.ref a) ∧ ns = sumI xs ys c)) ?run ?hj
  case ho => k_is
  case hcd => k_is
  case hco => exact rfl
  case hgen => exact rfl
  case hk => exact rfl
  case hb => exact rfl
  case hl => exact rfl
  case hnd => decide
  case hst => exact rfl
  case hj =>
    rintro fl K' m' _ ⟨a, vs, k, ns, K1, rfl, hi, _, rfl, rfl⟩
    exact ⟨a, k, vs, rfl, .inr ⟨rfl, rfl⟩, hi⟩
  case run =>
    refine Run.newList (JJ := fun a fl _ _ ns => fl = .ret (.ref a) ∧ ns = sumI xs ys c) rfl (fun a => ?_) (by intro _; rfl)
    intro A L s Q E ok X q
    refine Wp.mk ?_
    have hlen : (((xs.map Ty.int).zip (ys.map Ty.int)).map fun p => Item.two p.1 p.2).length = min xs.length ys.length := by simp
    have X0 := X.mode (md' := lm a ((sumI xs ys c).take 0)) rfl rfl (by rw [List.take_zero]; exact X.inv)
    refine wpAny_execs_cons (Run1.for (md := fun i => lm a ((sumI xs ys c).take i)) (names := [Str.ofString "a", Str.ofString "b"]) (xs := ((xs.map Ty.int).zip (ys.map Ty.int)).map fun p => .two p.1 p.2)
      (J := fun i _ m' => m' (Str.ofString "found") = some (.ref a) ∧ ∃ ci t, m' (Str.ofString "carry") = some (.int ci t) ∧ (sumI xs ys c).drop i = sumI (xs.drop i) (ys.drop i) ci)
      (fun _ => ⟨rfl, rfl⟩) (fun L => Iter.zip (Ev.boot rfl (by k_is) rfl rfl) (Ev.name (v := v1) rfl (IsListOf.ints h1)) (Ev.name (v := v2) rfl (IsListOf.ints h2)) rfl rfl) (.pair _ _ _ _ _ _) ?_ (by decide) ?_ ?_ (by intro _ _; rfl) A L s _ E ok X0 ?_)
    · intro it hit
      obtain ⟨T, _, rfl⟩ := List.mem_map.mp hit
      rfl
    · obtain ⟨t, rfl⟩ := h3
      exact fun _ _ => ⟨rfl, c, t, rfl, by simp⟩
    · rintro i it K1 m1 bs A L s Q E hit hK ⟨hf, ci, t, hcar, hdr⟩ hB ok X q
      rw [List.getElem?_map] at hit
      obtain ⟨⟨T, U⟩, hTU, rfl⟩ := Option.map_eq_some_iff.mp hit
      obtain ⟨hT, hU⟩ := List.getElem?_zip_eq_some.mp hTU
      simp only [List.getElem?_map] at hT hU
      obtain ⟨x, hx, rfl⟩ := Option.map_eq_some_iff.mp hT
      obtain ⟨y, hy, rfl⟩ := Option.map_eq_some_iff.mp hU
      obtain ⟨l1, e1⟩ := List.getElem?_eq_some_iff.mp hx
      obtain ⟨l2, e2⟩ := List.getElem?_eq_some_iff.mp hy
      obtain ⟨d1, d2⟩ := sumI_drop xs ys c i ci hdr l1 l2
      rw [e1, e2] at d1 d2
      cases hB with
      | two hva hvb =>
        refine append_stmt (i := (x + y + ci).fmod 2) ok X (m := updAll m1 _) (by exact hf) (fun L => ?_) ?_ ?_ rfl rfl rfl rfl
        · exact Ev.binT (T2 := .int 2) (Ev.binT (T2 := .int ci) (Ev.binT (Ev.name rfl hva) (Ev.name rfl hvb) fun _ _ _ p1 p2 => op_add p1 p2) (Ev.name hcar ⟨t, rfl⟩) fun _ _ _ p1 p2 => op_add p1 p2) Ev.cint fun _ _ _ p1 p2 => op_mod (by decide) p1 p2
        · have := List.length_take_le i (sumI xs ys c)
          have l3 : sizeLine = 16777216 := by first | rfl | decide
          omega
        · intro K2 h2' tk2 X2 t2
          rw [← d2] at X2
          refine Wp.h <| (Run.assign (n := n) (rest := []) (P := fun v K => Has K (.int (if 1 < x + y + ci then 1 else 0)) v) (J := fun fl _ m' => fl = .next ∧ m' (Str.ofString "found") = some (.ref a) ∧ ∃ ci t, m' (Str.ofString "carry") = some (.int ci t) ∧ (sumI xs ys c).drop (i + 1) = sumI (xs.drop (i + 1)) (ys.drop (i + 1)) ci)
            rfl (fun L => ?_) (fun v K' _ hv => ?_) (by intro _; rfl)) A L { s with heap := h2', toks := tk2 } _ E ok X2 ?_
          · refine Ev.callT (T := "int") (Ev.boot rfl (by k_is) rfl rfl) (Evs.consT (T := .val (.bool (decide (1 < x + y + ci)))) (Ev.cmp (T1 := .int (x + y + ci)) (T2 := .int 1) (Ev.binT (T2 := .int ci) (Ev.binT (Ev.name rfl (hva.mono t2.sub)) (Ev.name rfl (hvb.mono t2.sub)) fun _ _ _ p1 p2 => op_add p1 p2) (Ev.name hcar ⟨t, rfl⟩) fun _ _ _ p1 p2 => op_add p1 p2) Ev.cint (fun _ _ _ p1 p2 => op_gt p1 p2) rfl) Evs.nilT rfl) (fun vs K3 _ hvs => ?_) rfl (by intro _; rfl)
            cases hvs with
            | cons p r =>
              cases r
              obtain rfl := p
              exact op_intB.imp fun v K' _ h => by simpa using h
          · obtain ⟨t', rfl⟩ := hv
            exact Run.nil ⟨rfl, hf, _, t', rfl, d1⟩
          · rintro fl K' m' h' tk t' X' ⟨rfl, j⟩
            exact q K' m' h' tk (((t2.mode (md' := lm a ((sumI xs ys c).take (i + 1))) rfl).trans t' X').mode rfl) X' j
    · rintro K' m' h' tk t X' ⟨hf, _⟩
      refine wpAny_execs_cons (wpAny_Return_some (X'.cx.sees _ _ hf _ A _ E { s with heap := h', toks := tk } _ (fun _ _ _ e => e) ?_))
      have l1 := sumI_len xs ys c
      exact q _ K' m' ((sumI xs ys c).take _) h' tk (t.mode rfl) X' ⟨rfl, by rw [hlen, List.take_of_length_le (by omega)]⟩
theorem sum_ct {xs ys : List Int} {c : Int} {v1 v2 v3 : Value} (h1 : Has K (.ints xs) v1) (h2 : Has K (.ints ys) v2) (h3 : Has K (.int c) v3) (hl : xs.length ≤ 1000) :
    Op prog w (KK w.params) mg mb (n + 1) md K (PySem.call (.ref 893) [v1, v2, v3]) (fun v K => Has K (.ints (sumI xs ys c)) v) := (sum_q h1 h2 h3 hl).lift
end
end Mine
end

-- FnC
section
set_option maxRecDepth 100000
namespace Mine
section
variable {prog : Program} {w : World} {mg mb : Str → Option Value} {n : Nat} {md : Mode} {K : Kn}
set_option maxHeartbeats 2000000 in
theorem moved_ct {xs : List Int} {k : Nat} {v1 v2 : Value} (h1 : Has K (.ints xs) v1) (h2 : Has K (.int (k : Int)) v2) (hl : xs.length ≤ 1000) (hk : k ≤ 1000) :
    Op prog w (KK w.params) mg mb (n + 1) md K (PySem.call (.ref 900) [v1, v2]) (fun v K => Has K (.ints (moveI xs k)) v) := by
  refine' op_def (f := 900) [Str.ofString "row", Str.ofString "many"] ?ho ?hcd ?hco ?hgen ?hk ?hb ?hl ?hnd ?hst (J := fun fl K _ => ∃ v, fl = .ret v ∧ (fun v K => Has K (.ints (moveI xs k)) v) v K) ?run ?hj
  case ho => k_is
  case hcd => k_is
  case hco => exact rfl
  case hgen => exact rfl
  case hk => exact rfl
  case hb => exact rfl
  case hl => exact rfl
  case hnd => decide
  case hst => exact rfl
  case hj =>
    rintro fl K' m' _ ⟨v, rfl, h⟩
    exact h
  case run =>
    refine Run.ret (P := fun v K' => Has K' (.ints (moveI xs k)) v) (fun L => ?_) (fun v K' _ h => ⟨v, rfl, h⟩)
    exact Ev.upto (k := xs.length) (Ev.addL (Ev.rep Ev.cint (Ev.name (v := v2) rfl h2) hk) (Ev.name (v := v1) rfl h1) (by simp; omega)) (Ev.len (Ev.boot rfl (by k_is) rfl rfl) (Ev.name (v := v1) rfl h1) (by omega)) (by simp; omega)

theorem prodGo_step (one other : List Int) (i : Nat) (x : Int) (fs : List Int) (hx : other[i]? = some x) : prodGo one (other.drop i) i fs = prodGo one (other.drop (i + 1)) (i + 1) (if x == 1 then sumI fs (moveI one i) 0 else fs) := by
  obtain ⟨h1, h2⟩ := List.getElem?_eq_some_iff.mp hx
  rw [List.drop_eq_getElem_cons h1, h2]
  rfl
set_option maxHeartbeats 2000000 in
theorem product_ct {xs ys : List Int} {v1 v2 : Value} (h1 : Has K (.ints xs) v1) (h2 : Has K (.ints ys) v2) (hl : xs.length ≤ 1000) (hl2 : ys.length ≤ 1000) :
    Op prog w (KK w.params) mg mb (n + 2) md K (PySem.call (.ref 907) [v1, v2]) (fun v K => Has K (.ints (prodI xs ys)) v) := by
  refine' op_def (f := 907) [Str.ofString "one", Str.ofString "other"] ?ho ?hcd ?hco ?hgen ?hk ?hb ?hl ?hnd ?hst (J := fun fl K _ => ∃ v, fl = .ret v ∧ (fun v K => Has K (.ints (prodI xs ys)) v) v K) ?run ?hj
  case ho => k_is
  case hcd => k_is
  case hco => exact rfl
  case hgen => exact rfl
  case hk => exact rfl
  case hb => exact rfl
  case hl => exact rfl
  case hnd => decide
  case hst => exact rfl
  case hj =>
    rintro fl K' m' _ ⟨v, rfl, h⟩
    exact h
  case run =>
    refine Run.assign (P := fun v K' => Has K' (.ints (List.replicate xs.length 0)) v) rfl (fun L => Ev.rep Ev.cint (Ev.len (Ev.boot rfl (by k_is) rfl rfl) (Ev.name (v := v1) rfl h1) (by omega)) hl) (fun v0 K0 hK0 h0 => ?_) (by intro _; rfl)
    refine Run.forC (fun i K' m' => m' (Str.ofString "one") = some v1 ∧ ∃ v fs, m' (Str.ofString "found") = some v ∧ Has K' (.ints fs) v ∧ fs.length = xs.length ∧ prodGo xs (ys.drop i) i fs = prodI xs ys)
      (names := [Str.ofString "k", Str.ofString "bit"]) (fun L => Iter.enum (Ev.boot rfl (by k_is) rfl rfl) (Ev.name (v := v2) rfl (IsListOf.ints (h2.mono hK0))) rfl) (.pair _ _ _ _ _ _) ?_ (by decide) ?_ ?_ ?_ (by intro _ _; rfl)
    · intro it hit
      obtain ⟨i, hi, rfl⟩ := List.mem_mapIdx.mp hit
      rfl
    · exact fun K' hK' => ⟨rfl, v0, _, rfl, h0.mono hK', by simp, by simp [prodI]⟩
    · rintro i it K1 m1 bs hit hK1 ⟨ho, v, fs, hf, hv, hfl, hgo⟩ hB
      rw [List.getElem?_mapIdx, List.getElem?_map] at hit
      obtain ⟨T, hT, rfl⟩ := Option.map_eq_some_iff.mp hit
      obtain ⟨x, hx, rfl⟩ := Option.map_eq_some_iff.mp hT
      have hix : i < ys.length := (List.getElem?_eq_some_iff.mp hx).1
      rw [prodGo_step xs ys i x fs hx] at hgo
      cases hB with
      | two hva hvb =>
        cases hb : (x == 1) with
        | false =>
          rw [hb] at hgo
          refine Run.skip (fun L => Tst.cmp (T1 := .int x) (T2 := .int 1) (Ev.name rfl hvb) Ev.cint (fun _ _ _ p1 p2 => by have := op_eq (prog := prog) (w := w) (Kf := KK w.params) (mg := mg) (mb := mb) (n := n + 1) (md := md) p1 p2; rw [hb] at this; exact this) rfl) fun K2 hK2 => Run.nil ⟨rfl, ho, v, fs, hf, hv.mono hK2, hfl, by simpa using hgo⟩
        | true =>
          rw [hb] at hgo
          refine Run.take (fun L => Tst.cmp (T1 := .int x) (T2 := .int 1) (Ev.name rfl hvb) Ev.cint (fun _ _ _ p1 p2 => by have := op_eq (prog := prog) (w := w) (Kf := KK w.params) (mg := mg) (mb := mb) (n := n + 1) (md := md) p1 p2; rw [hb] at this; exact this) rfl) (J1 := fun fl K' m' => fl = .next ∧ m' (Str.ofString "one") = some v1 ∧ ∃ v fs, m' (Str.ofString "found") = some v ∧ Has K' (.ints fs) v ∧ fs.length = xs.length ∧ prodGo xs (ys.drop (i + 1)) (i + 1) fs = prodI xs ys) (fun K2 hK2 => ?_) (fun K' m' _ j => Run.nil j) (fun fl _ _ hn j => absurd j.1 hn)
          refine Run.assign (P := fun v K' => Has K' (.ints (sumI fs (moveI xs i) 0)) v) rfl (fun L => ?_) (fun v3 K3 _ h3 => Run.nil ⟨rfl, ho, v3, _, rfl, h3, by rw [sumI_len, moveI_len, hfl, Nat.min_self], by simpa using hgo⟩) (by intro _; rfl)
          refine Ev.call (Ts := [.ints fs, .ints (moveI xs i), .int 0]) (Ev.glob rfl (by k_is) rfl) (by k_is) rfl (Evs.consT (Ev.name hf (hv.mono hK2)) (Evs.consT ?_ (Evs.consT Ev.cint Evs.nilT rfl) rfl) rfl) ?_ rfl
          · refine Ev.call (Ts := [.ints xs, .int (i : Int)]) (Ev.glob rfl (by k_is) rfl) (by k_is) rfl (Evs.consT (Ev.name ho (h1.mono fun a o e => hK2 _ _ (hK1 _ _ (hK0 _ _ e)))) (Evs.consT (Ev.name rfl (hva.mono hK2)) Evs.nilT rfl) rfl) ?_ rfl
            rintro vs K4 _ hvs
            cases hvs with
            | cons q1 r => cases r with
              | cons q2 r => cases r; exact moved_ct q1 q2 hl (by omega)
          · rintro vs K4 _ hvs
            cases hvs with
            | cons q1 r => cases r with
              | cons q2 r => cases r with
                | cons q3 r => cases r; exact sum_ct q1 q2 q3 (by omega)
    · rintro K' m' _ ⟨_, v, fs, hf, hv, _, hgo⟩
      refine Run.ret (P := fun v K' => Has K' (.ints (prodI xs ys)) v) (fun L => Ev.name hf ?_) (fun v K' _ h => ⟨v, rfl, h⟩)
      have hlen : ((List.map Ty.int ys).mapIdx fun i T => Item.two (.int (i : Int)) T).length = ys.length := by simp
      rw [hlen, List.drop_length] at hgo
      rw [← hgo]
      exact hv
end
end Mine
end

-- FnD
section
set_option maxRecDepth 100000
namespace Mine
section
variable {prog : Program} {w : World} {mg mb : Str → Option Value} {n : Nat} {md : Mode} {K : Kn}

theorem divGo_step (d bits q r : List Int) (i : Nat) (x : Int) (hx : bits[i]? = some x) : divGo d (bits.drop i) q r = divGo d (bits.drop (i + 1)) ((if geLex (x :: r.dropLast).reverse d.reverse then 1 else 0) :: q) (if geLex (x :: r.dropLast).reverse d.reverse then sumI (x :: r.dropLast) (turnI d) 1 else x :: r.dropLast) := by
  obtain ⟨h1, h2⟩ := List.getElem?_eq_some_iff.mp hx
  rw [List.drop_eq_getElem_cons h1, h2]
  rfl
set_option maxHeartbeats 4000000 in
theorem divided_ct {xs ys : List Int} {v1 v2 : Value} (h1 : Has K (.ints xs) v1) (h2 : Has K (.ints ys) v2) (hxy : ys.length = xs.length) (hl : xs.length ≤ 900) :
    Op prog w (KK w.params) mg mb (n + 2) md K (PySem.call (.ref 914) [v1, v2]) (fun v K => IsTupOf K [.ints (divI xs ys).1, .ints (divI xs ys).2] v) := by
  refine' op_def (f := 914) [Str.ofString "one", Str.ofString "other"] ?ho ?hcd ?hco ?hgen ?hk ?hb ?hl ?hnd ?hst (J := fun fl K _ => ∃ v, fl = .ret v ∧ (fun v K => IsTupOf K [.ints (divI xs ys).1, .ints (divI xs ys).2] v) v K) ?run ?hj
  case ho => k_is
  case hcd => k_is
  case hco => exact rfl
  case hgen => exact rfl
  case hk => exact rfl
  case hb => exact rfl
  case hl => exact rfl
  case hnd => decide
  case hst => exact rfl
  case hj =>
    rintro fl K' m' _ ⟨v, rfl, h⟩
    exact h
  case run =>
    cases hb : (!(ys.any (· == 1))) with
    | true =>
      have e : divI xs ys = (List.replicate xs.length 1, xs) := by unfold divI; rw [hb]; rfl
      rw [e]
      refine Run.take (fun L => Tst.cmp (T1 := .int 1) (T2 := .ints ys) Ev.cint (Ev.name (v := v2) rfl h2) (fun _ _ _ p1 p2 => by have := op_notin (prog := prog) (w := w) (Kf := KK w.params) (mg := mg) (mb := mb) (n := n + 1) (md := md) p1 p2; rw [hb] at this; exact this) rfl) (J1 := fun fl K _ => ∃ v, fl = .ret v ∧ IsTupOf K [.ints (List.replicate xs.length 1), .ints xs] v) (fun K2 hK2 => ?_) (fun K' m' _ j => by obtain ⟨v, e, _⟩ := j; cases e) (fun _ _ _ _ j => j)
      exact Run.ret (P := fun v K' => IsTupOf K' [.ints (List.replicate xs.length 1), .ints xs] v) (fun L => Ev.tupleT (Evs.consT (Ev.rep Ev.cint (Ev.len (Ev.boot rfl (by k_is) rfl rfl) (Ev.name (v := v1) rfl (h1.mono hK2)) (by omega)) (by omega)) (Evs.consT (Ev.name (v := v1) rfl (h1.mono hK2)) Evs.nilT rfl) rfl) (by simp [sizeLine])) (fun v K' _ h => ⟨v, rfl, h⟩)
    | false =>
      have e : divI xs ys = ((divGo (ys ++ [0]) xs.reverse [] (List.replicate (xs.length + 1) 0)).1, (divGo (ys ++ [0]) xs.reverse [] (List.replicate (xs.length + 1) 0)).2.dropLast) := by unfold divI; rw [hb]; rfl
      rw [e]
      refine Run.skip (fun L => Tst.cmp (T1 := .int 1) (T2 := .ints ys) Ev.cint (Ev.name (v := v2) rfl h2) (fun _ _ _ p1 p2 => by have := op_notin (prog := prog) (w := w) (Kf := KK w.params) (mg := mg) (mb := mb) (n := n + 1) (md := md) p1 p2; rw [hb] at this; exact this) rfl) (fun K1 hK1 => ?_)
      refine Run.assignSwp (names := [(Str.ofString "quotient"), (Str.ofString "rest"), (Str.ofString "divisor")]) (Ts := [.ints [], .ints (List.replicate (xs.length + 1) 0), .ints (ys ++ [0])]) (fun L => Ev.tupleT (Evs.consT ?e1 (Evs.consT ?e2 (Evs.consT ?e3 Evs.nilT rfl) rfl) rfl) (by simp [sizeLine])) rfl rfl (fun vals K2 hK2 hv => ?_) (by intro _; rfl) (by intro _; rfl)
      case e1 => exact (Ev.listT (Ts := []) Evs.nilT (by simp [sizeLine])).imp fun v K' _ h => HasInts.of (ns := []) h
      case e2 =>
        refine Ev.rep (k := xs.length + 1) Ev.cint ?_ (by omega)
        exact Ev.binT (T1 := .int (xs.length : Int)) (T2 := .int 1) (Ev.len (Ev.boot rfl (by k_is) rfl rfl) (Ev.name (v := v1) rfl (h1.mono hK1)) (by omega)) Ev.cint fun _ _ _ p1 p2 => (op_add p1 p2).imp fun v K' _ h => by simpa using h
      case e3 => exact Ev.addL (Ev.name (v := v2) rfl (h2.mono hK1)) (Ev.int1 Ev.cint) (by simp; omega)
      cases hv with
      | cons hq0 r => cases r with
        | cons hr0 r => cases r with
          | @cons _ vd _ _ hd0 r =>
            cases r
            refine Run.forC (fun i K' m' => m' (Str.ofString "divisor") = some vd ∧ ∃ vq vr q r, m' (Str.ofString "quotient") = some vq ∧ m' (Str.ofString "rest") = some vr ∧ Has K' (.ints q) vq ∧ Has K' (.ints r) vr ∧ q.length ≤ i ∧ r.length = xs.length + 1 ∧
                divGo (ys ++ [0]) (xs.reverse.drop i) q r = divGo (ys ++ [0]) xs.reverse [] (List.replicate (xs.length + 1) 0))
              (names := [(Str.ofString "bit")]) (xs := (xs.reverse.map Ty.int).map .one) (fun L => Iter.list ((Ev.rev (Ev.name (v := v1) rfl ((h1.mono hK1).mono hK2)) Ev.neg1 (by omega)).imp fun v K' _ h => IsListOf.ints h)) (.name _ _) ?_ (by decide) ?_ ?_ ?_ (by intro _ _; rfl)
            · intro it hit
              obtain ⟨T, _, rfl⟩ := List.mem_map.mp hit
              rfl
            · exact fun K' hK' => ⟨rfl, _, _, [], _, rfl, rfl, hq0.mono hK', hr0.mono hK', Nat.le_refl _, by simp, rfl⟩
            · rintro i it K3 m3 bs hit hK3 ⟨hd, vq, vr, q, r, hmq, hmr, hq, hr, hql, hrl, hgo⟩ hB
              simp only [List.getElem?_map, Option.map_map] at hit
              obtain ⟨x, hx, rfl⟩ := Option.map_eq_some_iff.mp hit
              have hix : i < xs.length := by have := (List.getElem?_eq_some_iff.mp hx).1; simpa using this
              rw [divGo_step _ _ q r i x hx] at hgo
              have hdK : Has K3 (.ints (ys ++ [0])) vd := hd0.mono hK3
              generalize hr1 : x :: r.dropLast = r1 at hgo
              have hr1l : r1.length = xs.length + 1 := by rw [← hr1]; simp; omega
              generalize ht : geLex r1.reverse (ys ++ [0]).reverse = t at hgo
              cases hB with
              | one hvx =>
                refine Run.assign (P := fun v K' => Has K' (.ints r1) v) rfl (fun L => ?_) (fun v4 K4 hK4 h4 => ?_) (by intro _; rfl)
                · rw [← hr1]
                  exact Ev.addL (Ev.int1 (Ev.name rfl hvx)) (Ev.init (Ev.name (by exact hmr) hr) Ev.neg1 (by omega)) (by simp; omega)
                · refine Run.assign (P := fun v K' => Has K' (.val (.bool t)) v) rfl (fun L => ?_) (fun v5 K5 hK5 h5 => ?_) (by intro _; rfl)
                  · rw [← ht]
                    exact Ev.cmp (T1 := .ints r1.reverse) (T2 := .ints (ys ++ [0]).reverse) (Ev.rev (Ev.name rfl h4) Ev.neg1 (by omega)) (Ev.rev (Ev.name (by exact hd) (hdK.mono hK4)) Ev.neg1 (by simp; omega)) (fun _ _ _ p1 p2 => op_geL (by simp; omega) p1 p2) rfl
                  · obtain rfl := h5
                    refine Run.ite (b := t) (J1 := fun fl K' m' => fl = .next ∧ m' (Str.ofString "divisor") = some vd ∧ m' (Str.ofString "quotient") = some vq ∧ m' (Str.ofString "is_taken") = some (.bool t) ∧ ∃ v, m' (Str.ofString "rest") = some v ∧ Has K' (.ints (if t then sumI r1 (turnI (ys ++ [0])) 1 else r1)) v)
                      (fun L => Tst.val (Ev.name rfl rfl) rfl) (fun etb K6 hK6 => ?_) (fun etb K6 hK6 => ?_) (fun K6 m6 hK6 j => ?_) (fun fl _ _ hn j => absurd j.1 hn)
                    · subst etb
                      refine Run.assign (P := fun v K' => Has K' (.ints (sumI r1 (turnI (ys ++ [0])) 1)) v) rfl (fun L => ?_) (fun v7 K7 _ h7 => Run.nil ⟨rfl, hd, hmq, rfl, v7, rfl, h7⟩) (by intro _; rfl)
                      refine Ev.call (Ts := [.ints r1, .ints (turnI (ys ++ [0])), .int 1]) (Ev.glob rfl (by k_is) rfl) (by k_is) rfl (Evs.consT (Ev.name rfl ((h4.mono hK5).mono hK6)) (Evs.consT ?_ (Evs.consT Ev.cint Evs.nilT rfl) rfl) rfl) ?_ rfl
                      · refine Ev.call (Ts := [.ints (ys ++ [0])]) (Ev.glob rfl (by k_is) rfl) (by k_is) rfl (Evs.consT (Ev.name (by exact hd) (((hdK.mono hK4).mono hK5).mono hK6)) Evs.nilT rfl) ?_ rfl
                        rintro vs K8 _ hvs
                        cases hvs with
                        | cons q1 r => cases r; exact turned_ct q1 (by simp; omega)
                      · rintro vs K8 _ hvs
                        cases hvs with
                        | cons q1 r => cases r with
                          | cons q2 r => cases r with
                            | cons q3 r => cases r; exact sum_ct q1 q2 q3 (by omega)
                    · subst etb
                      exact Run.nil ⟨rfl, hd, hmq, rfl, v4, rfl, (h4.mono hK5).mono hK6⟩
                    · obtain ⟨_, hd6, hmq6, hmt6, v6, hmr6, h6⟩ := j
                      refine Run.assign (P := fun v K' => Has K' (.ints ((if t then 1 else 0) :: q)) v) rfl (fun L => ?_) (fun v7 K7 hK7 h7 => Run.nil ⟨rfl, hd6, v7, v6, _, _, rfl, hmr6, h7, h6.mono hK7, by simp; omega, by cases t <;> simp [sumI_len, turnI_len, hr1l, hxy], hgo⟩) (by intro _; rfl)
                      refine Ev.addL (xs := [if t then 1 else 0]) (Ev.int1 ?_) (Ev.name (by exact hmq6) ((((hq.mono hK4).mono hK5).mono hK6))) (by simp; omega)
                      refine Ev.callT (T := "int") (Ev.boot rfl (by k_is) rfl rfl) (Evs.consT (T := .val (.bool t)) (Ev.name (by exact hmt6) rfl) Evs.nilT rfl) (fun vs K8 _ hvs => ?_) rfl (by intro _; rfl)
                      cases hvs with
                      | cons p r =>
                        cases r
                        obtain rfl := p
                        exact op_intB
            · rintro K' m' _ ⟨_, vq, vr, q, r, hmq, hmr, hq, hr, hql, hrl, hgo⟩
              have hlen : ((xs.reverse.map Ty.int).map Item.one).length = xs.reverse.length := by simp
              rw [hlen, List.drop_length] at hgo
              rw [← hgo]
              refine Run.ret (P := fun v K' => IsTupOf K' [.ints q, .ints r.dropLast] v) (fun L => Ev.tupleT (Evs.consT (Ev.name (by exact hmq) hq) (Evs.consT (Ev.init (Ev.name (by exact hmr) hr) Ev.neg1 (by omega)) Evs.nilT rfl) rfl) (by simp [sizeLine])) (fun v K' _ h => ⟨v, rfl, h⟩)
end
end Mine
end

-- FnE
section
set_option maxRecDepth 100000
namespace Mine
section
variable {prog : Program} {w : World} {mg mb : Str → Option Value} {n : Nat} {md : Mode} {K : Kn}

theorem map_mapIdx_int (g : Nat → Int → Int) (ys : List Int) : (ys.mapIdx g).map Ty.int = ys.mapIdx fun k b => Ty.int (g k b) := by
  apply List.ext_getElem?
  intro i
  simp only [List.getElem?_map, List.getElem?_mapIdx, Option.map_map]
  rfl
theorem bit_small {x : Int} (h : x = 0 ∨ x = 1) : Builtin.Int.intBits x ≤ 64 := by
  rcases h with rfl | rfl <;> exact PySem.intBits_le_64 (by decide) (by decide)
set_option maxHeartbeats 4000000 in
theorem due_ct {xs ys : List Int} {M : Nat} {v1 v2 : Value} (h1 : Has K (.ints xs) v1) (h2 : Has K (.ints ys) v2) (hxy : ys.length = xs.length) (hl : xs.length ≤ 29) (hM : valI ys = (M : Int)) (bx : ∀ x ∈ xs, x = 0 ∨ x = 1) (by_ : ∀ x ∈ ys, x = 0 ∨ x = 1) :
    Op prog w (KK w.params) mg mb (n + 3) md K (PySem.call (.ref 919) [v1, v2]) (fun v K => IsTab prog w K (dueI xs ys M) v) := by
  refine' op_def (f := 919) [Str.ofString "one", Str.ofString "other"] ?ho ?hcd ?hco ?hgen ?hk ?hb ?hl ?hnd ?hst (J := fun fl K _ => ∃ v, fl = .ret v ∧ (fun v K => IsTab prog w K (dueI xs ys M) v) v K) ?run ?hj
  case ho => k_is
  case hcd => k_is
  case hco => exact rfl
  case hgen => exact rfl
  case hk => exact rfl
  case hb => exact rfl
  case hl => exact rfl
  case hnd => decide
  case hst => exact rfl
  case hj =>
    rintro fl K' m' _ ⟨v, rfl, h⟩
    exact h
  case run =>
    refine Run.assignSwp (names := [(Str.ofString "nought"), (Str.ofString "wide"), (Str.ofString "many")]) (Ts := [.ints (List.replicate xs.length 0), .int (xs.length : Int), .int (M : Int)]) (fun L => Ev.tupleT (Evs.consT ?e1 (Evs.consT ?e2 (Evs.consT ?e3 Evs.nilT rfl) rfl) rfl) (by simp [sizeLine])) rfl rfl (fun vals K2 hK2 hv => ?_) (by intro _; rfl) (by intro _; rfl)
    case e1 => exact Ev.rep Ev.cint (Ev.len (Ev.boot rfl (by k_is) rfl rfl) (Ev.name (v := v1) rfl h1) (by omega)) (by omega)
    case e2 => exact Ev.len (Ev.boot rfl (by k_is) rfl rfl) (Ev.name (v := v1) rfl h1) (by omega)
    case e3 =>
      rw [← hM]
      refine Ev.callB (id := "sum") (Ev.boot rfl (by k_is) rfl rfl) (Evs.consT (T := .ints (ys.mapIdx fun k bit => bit * 2 ^ k)) ?_ Evs.nilT rfl) (fun vs K3 _ hvs => by cases hvs with | cons q r => cases r; exact op_sum q) rfl (by intro _; rfl)
      refine Ev.imp (P := fun v K' => IsListOf K' (ys.mapIdx fun k bit => Ty.int (bit * 2 ^ k)) v) ?_ (fun v K' _ h => HasInts.of (by rw [map_mapIdx_int]; exact h))
      refine Ev.comp (names := [(Str.ofString "k"), (Str.ofString "bit")]) (cap := []) (xs := (ys.map Ty.int).mapIdx fun i T => .two (.int (i : Int)) T) (Iter.enum (Ev.boot rfl (by k_is) rfl rfl) (Ev.name (v := v2) rfl (IsListOf.ints h2)) rfl) (.pair _ _ _ _ _ _) ?_ rfl (by decide) rfl (by decide) (by decide) .nil (by simp) ?_ ?_ (by intro _; rfl)
      · intro it hit
        obtain ⟨i, hi, rfl⟩ := List.mem_mapIdx.mp hit
        rfl
      · simp [sizeLine]; omega
      · intro i it U bs K1 C hit hU hK hB
        rw [List.getElem?_mapIdx, List.getElem?_map] at hit
        rw [List.getElem?_mapIdx] at hU
        obtain ⟨T, hT, rfl⟩ := Option.map_eq_some_iff.mp hit
        obtain ⟨x, hx, rfl⟩ := Option.map_eq_some_iff.mp hT
        rw [hx] at hU
        cases hU
        have hil : i < ys.length := (List.getElem?_eq_some_iff.mp hx).1
        have hxb := by_ x (List.mem_of_getElem? hx)
        cases hB with
        | two hu hv =>
          refine Ev.binT (T1 := .int x) (T2 := .int (2 ^ i)) (Ev.name rfl hv) (Ev.binT (T1 := .int 2) (T2 := .int (i : Int)) Ev.cint (Ev.name rfl hu) fun v1 v2 K' p1 p2 => ?_) fun v1 v2 K' p1 p2 => op_mul (IntMulOk.of_left (bit_small hxb)) p1 p2
          have := op_pow (prog := prog) (w := w) (Kf := KK w.params) (mg := mg) (mb := mb) (n := n + 2) (md := md) (by omega) (by omega) (by decide) p1 p2
          rw [int_cast_pow] at this
          exact this
    cases hv with
    | @cons _ vn _ _ hn0 r => cases r with
      | @cons _ vw _ _ hw0 r => cases r with
        | @cons _ vm _ _ hm0 r =>
          cases r
          refine Run.assign2 (T := .ints (divI xs ys).1) (U := .ints (divI xs ys).2) (fun L => ?_) rfl (fun vq vr K3 hK3 hq0 hr0 => ?_) (by intro _; rfl) (by intro _; rfl)
          · refine Ev.call (Ts := [.ints xs, .ints ys]) (Ev.glob rfl (by k_is) rfl) (by k_is) rfl (Evs.consT (Ev.name (v := v1) rfl (h1.mono hK2)) (Evs.consT (Ev.name (v := v2) rfl (h2.mono hK2)) Evs.nilT rfl) rfl) ?_ rfl
            rintro vs K4 _ hvs
            cases hvs with
            | cons q1 r => cases r with
              | cons q2 r => cases r; exact divided_ct q1 q2 hxy (by omega)
          · have hx : Has K3 (.ints xs) v1 := (h1.mono hK2).mono hK3
            have hy : Has K3 (.ints ys) v2 := (h2.mono hK2).mono hK3
            have hn : Has K3 (.ints (List.replicate xs.length 0)) vn := hn0.mono hK3
            have hw : Has K3 (.int (xs.length : Int)) vw := hw0.mono hK3
            have hm : Has K3 (.int (M : Int)) vm := hm0.mono hK3
            have two : ∀ {a b : Ty} {vs : List Value} {K' : Kn}, HasAll K' [a, b] vs → ∃ p q, vs = [p, q] ∧ Has K' a p ∧ Has K' b q := fun h => by
              cases h with
              | cons h1 r => cases r with
                | cons h2 r => cases r; exact ⟨_, _, rfl, h1, h2⟩
            have three : ∀ {a b c : Ty} {vs : List Value} {K' : Kn}, HasAll K' [a, b, c] vs → ∃ p q r, vs = [p, q, r] ∧ Has K' a p ∧ Has K' b q ∧ Has K' c r := fun h => by
              cases h with
              | cons h1 r => cases r with
                | cons h2 r => cases r with
                  | cons h3 r => cases r; exact ⟨_, _, _, rfl, h1, h2, h3⟩
            refine Run.ret (P := fun v K' => IsTab prog w K' (dueI xs ys M) v) (fun L => Ev.dict ?tab (by show List.Nodup [Str.ofString "bvand", Str.ofString "bvor", Str.ofString "bvxor", Str.ofString "bvadd", Str.ofString "bvsub", Str.ofString "bvmul", Str.ofString "bvshl", Str.ofString "bvlshr", Str.ofString "bvudiv", Str.ofString "bvurem"]; decide) rfl rfl (List.cons_ne_nil _ _) (Nat.le_of_ble_eq_true rfl)) (fun v K' _ h => ⟨v, rfl, h⟩)
            unfold dueI
            refine EvTab.cons Ev.cstr ?c1 ?_; rotate_left 1
            refine EvTab.cons Ev.cstr ?c2 ?_; rotate_left 1
            refine EvTab.cons Ev.cstr ?c3 ?_; rotate_left 1
            refine EvTab.cons Ev.cstr ?c4 ?_; rotate_left 1
            refine EvTab.cons Ev.cstr ?c5 ?_; rotate_left 1
            refine EvTab.cons Ev.cstr ?c6 ?_; rotate_left 1
            refine EvTab.cons Ev.cstr ?c7 ?_; rotate_left 1
            refine EvTab.cons Ev.cstr ?c8 ?_; rotate_left 1
            refine EvTab.cons Ev.cstr ?c9 ?_; rotate_left 1
            refine EvTab.cons Ev.cstr ?c10 ?_; rotate_left 1
            exact EvTab.nil
            case c1 => exact Ev.zipComp (g := fun a b => a * b) (Ev.boot rfl (by k_is) rfl rfl) (Ev.name (v := v1) rfl hx) (Ev.name (v := v2) rfl hy) (by omega) rfl (by decide) rfl (by decide) (by decide) (fun x y u v K1 C mx my hu hv => Ev.binT (Ev.name rfl hu) (Ev.name rfl hv) fun _ _ _ p1 p2 => op_mul (IntMulOk.of_left (bit_small (bx _ mx))) p1 p2)
            case c2 => exact Ev.zipComp (g := fun a b => max a b) (Ev.boot rfl (by k_is) rfl rfl) (Ev.name (v := v1) rfl hx) (Ev.name (v := v2) rfl hy) (by omega) rfl (by decide) rfl (by decide) (by decide) (fun x y u v K1 C mx my hu hv => Ev.callB (Ev.boot rfl (by k_is) rfl rfl) (Evs.consT (Ev.name rfl hu) (Evs.consT (Ev.name rfl hv) Evs.nilT rfl) rfl) (fun vs K8 _ hvs => by obtain ⟨p, q, rfl, q1, q2⟩ := two hvs; exact op_max q1 q2) rfl (by intro _; rfl))
            case c3 => exact Ev.zipComp (g := fun a b => if a != b then 1 else 0) (Ev.boot rfl (by k_is) rfl rfl) (Ev.name (v := v1) rfl hx) (Ev.name (v := v2) rfl hy) (by omega) rfl (by decide) rfl (by decide) (by decide) (fun x y u v K1 C mx my hu hv => Ev.callT (Ev.boot rfl (by k_is) rfl rfl) (Evs.consT (T := .val (.bool (x != y))) (Ev.cmp (T1 := .int x) (T2 := .int y) (Ev.name rfl hu) (Ev.name rfl hv) (fun _ _ _ p1 p2 => op_ne p1 p2) rfl) Evs.nilT rfl) (fun vs K8 _ hvs => by cases hvs with | cons p r => cases r; obtain rfl := p; exact op_intB) rfl (by intro _; rfl))
            case c4 => exact Ev.call (Ts := [.ints xs, .ints ys, .int 0]) (Ev.glob rfl (by k_is) rfl) (by k_is) rfl (Evs.consT (Ev.name (v := v1) rfl hx) (Evs.consT (Ev.name (v := v2) rfl hy) (Evs.consT Ev.cint Evs.nilT rfl) rfl) rfl) (fun vs K8 _ hvs => by obtain ⟨p, q, r, rfl, q1, q2, q3⟩ := three hvs; exact sum_ct q1 q2 q3 (by omega)) rfl
            case c5 => exact Ev.call (Ts := [.ints xs, .ints (turnI ys), .int 1]) (Ev.glob rfl (by k_is) rfl) (by k_is) rfl (Evs.consT (Ev.name (v := v1) rfl hx) (Evs.consT (Ev.call (Ts := [.ints ys]) (Ev.glob rfl (by k_is) rfl) (by k_is) rfl (Evs.consT (Ev.name (v := v2) rfl hy) Evs.nilT rfl) (fun vs K8 _ hvs => by cases hvs with | cons q r => cases r; exact turned_ct q (by omega)) rfl) (Evs.consT Ev.cint Evs.nilT rfl) rfl) rfl) (fun vs K8 _ hvs => by obtain ⟨p, q, r, rfl, q1, q2, q3⟩ := three hvs; exact sum_ct q1 q2 q3 (by omega)) rfl
            case c6 => exact Ev.call (Ts := [.ints xs, .ints ys]) (Ev.glob rfl (by k_is) rfl) (by k_is) rfl (Evs.consT (Ev.name (v := v1) rfl hx) (Evs.consT (Ev.name (v := v2) rfl hy) Evs.nilT rfl) rfl) (fun vs K8 _ hvs => by obtain ⟨p, q, rfl, q1, q2⟩ := two hvs; exact product_ct q1 q2 (by omega) (by omega)) rfl
            case c7 =>
              refine Ev.ifExp (b := decide ((M : Int) < (xs.length : Int))) (Tst.cmp (T1 := .int (M : Int)) (T2 := .int (xs.length : Int)) (Ev.name (v := vm) rfl hm) (Ev.name (v := vw) rfl hw) (fun _ _ _ p1 p2 => op_lt p1 p2) rfl) (fun hb => ?_) (fun hb => ?_) (mono_has _)
              · have hb' : M < xs.length := by simpa using hb
                rw [if_pos hb']
                exact Ev.call (Ts := [.ints xs, .int (M : Int)]) (Ev.glob rfl (by k_is) rfl) (by k_is) rfl (Evs.consT (Ev.name (v := v1) rfl hx) (Evs.consT (Ev.name (v := vm) rfl hm) Evs.nilT rfl) rfl) (fun vs K8 _ hvs => by obtain ⟨p, q, rfl, q1, q2⟩ := two hvs; exact moved_ct q1 q2 (by omega) (by omega)) rfl
              · have hb' : ¬ M < xs.length := by simpa using hb
                rw [if_neg hb']
                exact Ev.name (v := vn) rfl hn
            case c8 =>
              refine Ev.ifExp (b := decide ((M : Int) < (xs.length : Int))) (Tst.cmp (T1 := .int (M : Int)) (T2 := .int (xs.length : Int)) (Ev.name (v := vm) rfl hm) (Ev.name (v := vw) rfl hw) (fun _ _ _ p1 p2 => op_lt p1 p2) rfl) (fun hb => ?_) (fun hb => ?_) (mono_has _)
              · have hb' : M < xs.length := by simpa using hb
                rw [if_pos hb']
                refine Ev.imp (P := fun v K => Has K (.ints (((xs ++ List.replicate xs.length 0).drop M).take (M + xs.length - M))) v) (Ev.run (Ev.addL (Ev.name (v := v1) rfl hx) (Ev.name (v := vn) rfl hn) (by simp; omega)) (Ev.name (v := vm) rfl hm) (Ev.binT (T1 := .int (M : Int)) (T2 := .int (xs.length : Int)) (Ev.name (v := vm) rfl hm) (Ev.name (v := vw) rfl hw) fun _ _ _ p1 p2 => (op_add p1 p2).imp fun v K' _ h => by simpa using h) (by simp; omega) (by simp; omega)) (fun v K' _ h => by rwa [Nat.add_sub_cancel_left] at h)
              · have hb' : ¬ M < xs.length := by simpa using hb
                rw [if_neg hb']
                exact Ev.name (v := vn) rfl hn
            case c9 => exact Ev.name (v := vq) rfl hq0
            case c10 => exact Ev.name (v := vr) rfl hr0
end
end Mine
end

-- FnF
section
set_option maxRecDepth 100000
namespace Mine
section
variable {prog : Program} {w : World} {mg mb : Str → Option Value} {n : Nat} {md : Mode} {K : Kn}

theorem op_shlN {Kf : Frag} {a : Int} {k : Nat} {v1 v2 : Value} (h1 : k ≤ 1000000) (ha : a.natAbs < 2 ^ 64) (p1 : Has K (.int a) v1) (p2 : Has K (.int (k : Int)) v2) : Op prog w Kf mg mb n md K (binaryOp .LShift v1 v2) (fun v K => Has K (.int (a * 2 ^ k)) v) := by
  have := op_shl (prog := prog) (w := w) (Kf := Kf) (mg := mg) (mb := mb) (n := n) (md := md) (by omega) (by omega) ha p1 p2
  simpa using this
theorem op_shrN {Kf : Frag} {a : Int} {k : Nat} {v1 v2 : Value} (p1 : Has K (.int a) v1) (p2 : Has K (.int (k : Int)) v2) : Op prog w Kf mg mb n md K (binaryOp .RShift v1 v2) (fun v K => Has K (.int (a.fdiv (2 ^ k))) v) := by
  have := op_shr (prog := prog) (w := w) (Kf := Kf) (mg := mg) (mb := mb) (n := n) (md := md) (by omega) p1 p2
  simpa using this
theorem shl_room {y : Int} {c : Nat} (hb : decide (y < (c : Int)) = true) (hc : c ≤ 40) : y ≤ 1000000 := by
  have : y < (c : Int) := by simpa using hb
  omega
theorem pred_cast {d : Nat} (h : 1 ≤ d) : ((d : Int) - 1) = ((d - 1 : Nat) : Int) := by omega
theorem Ev.ifInt {Kf : Frag} {env : Env} {m : Str → Option Value} {test body orelse : Expr} {pos : Pos} {b : Bool} {P : Prop} [Decidable P] {i j : Int} (ht : Tst prog w Kf mg mb n md env m K test b) (hb : b = true ↔ P) (h1 : b = true → Ev prog w Kf mg mb n md env m K body (fun v K => Has K (.int i) v))
    (h2 : b = false → Ev prog w Kf mg mb n md env m K orelse (fun v K => Has K (.int j) v)) : Ev prog w Kf mg mb n md env m K (.IfExp test body orelse pos) (fun v K => Has K (.int (if P then i else j)) v) := by
  refine Ev.ifExp ht (fun e => ?_) (fun e => ?_) (mono_has _)
  · rw [if_pos (hb.mp e)]; exact h1 e
  · rw [if_neg fun h => by rw [hb.mpr h] at e; cases e]; exact h2 e
set_option maxHeartbeats 8000000 in
theorem reckon_ct {s : Str} {ends : List Int} {x y high : Int} {low c d : Nat} {vself vs ve vx vy vd vc vi : Value} (h0 : Has K (.str s) vs) (he : IsListOf K (ends.map .int) ve) (hx : Has K (.int x) vx) (hy : Has K (.int y) vy) (hdat : s = Str.ofString "extract" → IsTupOf K [.int high, .int (low : Int)] vd) (hc : Has K (.int (c : Int)) vc) (hd_ : Has K (.int (d : Int)) vi) (hite : s = Str.ofString "ite" → ∃ a b e, ends = [a, b, e]) (hsx : s = Str.ofString "sign_extend" → 1 ≤ d) (hx0 : 0 ≤ x) (hx1 : x < 2 ^ 30) (hy0 : 0 ≤ y) (hy1 : y < 2 ^ 30) (hc1 : c ≤ 40) (hd1 : d ≤ 40) :
    Op prog w (KK w.params) mg mb (n + 1) md K (PySem.call (.ref 854) [vself, vs, ve, vx, vy, vd, vc, vi]) (fun v K => Has K (reckonI s ends x y low c d) v) := by
  refine' op_def (f := 854) [Str.ofString "self", Str.ofString "op", Str.ofString "ends", Str.ofString "x", Str.ofString "y", Str.ofString "data", Str.ofString "width", Str.ofString "inner"] ?ho ?hcd ?hco ?hgen ?hk ?hb ?hl ?hnd ?hst (J := fun fl K _ => ∃ v, fl = .ret v ∧ (fun v K => Has K (reckonI s ends x y low c d) v) v K) ?run ?hj
  case ho => k_is
  case hcd => k_is
  case hco => exact rfl
  case hgen => exact rfl
  case hk => exact rfl
  case hb => exact rfl
  case hl => exact rfl
  case hnd => decide
  case hst => exact rfl
  case hj =>
    rintro fl K' m' _ ⟨v, rfl, h⟩
    exact h
  case run =>
    generalize hT : reckonI s ends x y low c d = T
    unfold reckonI at hT
    have hwne : ((2 : Int) ^ c) ≠ 0 := Int.ne_of_gt (Int.pow_pos (by decide))
    refine Run.assign (P := fun v K' => Has K' (.int (2 ^ c)) v) rfl (fun L => Ev.imp (P := fun v K => Has K (.int (1 * 2 ^ c)) v) (Ev.binT (T1 := .int 1) (T2 := .int (c : Int)) Ev.cint (Ev.name (v := vc) rfl hc) fun _ _ _ p1 p2 => op_shlN (by omega) (by decide) p1 p2) (fun v K' _ h => by rwa [Int.one_mul] at h)) (fun vw K0 hK0 hw0 => ?_) (by intro _; rfl)
    by_cases hs : s = Str.ofString "ite"
    · rw [if_pos hs] at hT
      subst hT
      refine Run.take (fun L => Tst.cmp (T1 := .str s) (T2 := .str (Str.ofString "ite")) (Ev.name (v := vs) rfl (h0.mono hK0)) Ev.cstr (fun _ _ _ p1 p2 => (op_eqS p1 p2).imp fun v K' _ h => by rw [hs] at h; simpa using h) rfl) (J1 := fun fl K' _ => ∃ v, fl = .ret v ∧ Has K' (.int (if x = 1 then ends.getD 1 0 else ends.getD 2 0)) v) (fun KK hKK => ?_) (fun K' m' _ j => by obtain ⟨v, e, _⟩ := j; cases e) (fun _ _ _ _ j => j)
      have HK : ∀ a o, K a o → KK a o := fun a o e => hKK a o (hK0 a o e)
      obtain ⟨e0, e1, e2, rfl⟩ := hite hs
      refine Run.ret (P := fun v K' => Has K' (.int (if x = 1 then [e0, e1, e2].getD 1 0 else [e0, e1, e2].getD 2 0)) v) (fun L => Ev.ifInt (b := (x == 1)) (Tst.cmp (T1 := .int x) (T2 := .int 1) (Ev.name (v := vx) rfl (hx.mono HK)) Ev.cint (fun _ _ _ p1 p2 => op_eq p1 p2) rfl) (by simp) (fun _ => ?_) (fun _ => ?_)) (fun v K' _ h => ⟨v, rfl, h⟩)
      · exact Ev.sub (P1 := fun v K => IsListOf K [.int e0, .int e1, .int e2] v) (P2 := fun v K => Has K (.int 1) v) (Ev.name (v := ve) rfl (IsListOf.mono HK he)) (mono_list _) Ev.cint (mono_has _) fun _ _ _ _ p1 p2 => get_list (j := 1) (by decide) (by decide) rfl p1 p2
      · exact Ev.sub (P1 := fun v K => IsListOf K [.int e0, .int e1, .int e2] v) (P2 := fun v K => Has K (.int 2) v) (Ev.name (v := ve) rfl (IsListOf.mono HK he)) (mono_list _) Ev.cint (mono_has _) fun _ _ _ _ p1 p2 => get_list (j := 2) (by decide) (by decide) rfl p1 p2
    rw [if_neg hs] at hT
    refine Run.skip (fun L => Tst.cmp (T1 := .str s) (T2 := .str (Str.ofString "ite")) (Ev.name (v := vs) rfl (h0.mono hK0)) Ev.cstr (fun _ _ _ p1 p2 => (op_eqS p1 p2).imp fun v K' _ h => by rw [beq_false_of_ne hs] at h; exact h) rfl) (fun K1 hS1 => ?_)
    have hK1 : ∀ a o, K a o → K1 a o := fun a o e => hS1 a o (hK0 a o e)
    have hW1 : ∀ a o, K0 a o → K1 a o := hS1
    clear hs
    by_cases hs : s = Str.ofString "bvnot"
    · rw [if_pos hs] at hT
      subst hT
      refine Run.take (fun L => Tst.cmp (T1 := .str s) (T2 := .str (Str.ofString "bvnot")) (Ev.name (v := vs) rfl (h0.mono hK1)) Ev.cstr (fun _ _ _ p1 p2 => (op_eqS p1 p2).imp fun v K' _ h => by rw [hs] at h; simpa using h) rfl) (J1 := fun fl K' _ => ∃ v, fl = .ret v ∧ Has K' (.int (2 ^ c - 1 - x)) v) (fun KK hKK => ?_) (fun K' m' _ j => by obtain ⟨v, e, _⟩ := j; cases e) (fun _ _ _ _ j => j)
      have HK : ∀ a o, K a o → KK a o := fun a o e => hKK a o (hK1 a o e)
      exact Run.ret (P := fun v K' => Has K' (.int (2 ^ c - 1 - x)) v) (fun L => Ev.binT (T1 := .int (2 ^ c - 1)) (T2 := .int x) (Ev.binT (T1 := .int (2 ^ c)) (T2 := .int 1) (Ev.name (v := vw) rfl ((hw0.mono hW1).mono hKK)) Ev.cint fun _ _ _ p1 p2 => op_sub p1 p2) (Ev.name (v := vx) rfl (hx.mono HK)) fun _ _ _ p1 p2 => op_sub p1 p2) (fun v K' _ h => ⟨v, rfl, h⟩)
    rw [if_neg hs] at hT
    refine Run.skip (fun L => Tst.cmp (T1 := .str s) (T2 := .str (Str.ofString "bvnot")) (Ev.name (v := vs) rfl (h0.mono hK1)) Ev.cstr (fun _ _ _ p1 p2 => (op_eqS p1 p2).imp fun v K' _ h => by rw [beq_false_of_ne hs] at h; exact h) rfl) (fun K2 hS2 => ?_)
    have hK2 : ∀ a o, K a o → K2 a o := fun a o e => hS2 a o (hK1 a o e)
    have hW2 : ∀ a o, K0 a o → K2 a o := fun a o e => hS2 a o (hW1 a o e)
    clear hs
    by_cases hs : s = Str.ofString "bvneg"
    · rw [if_pos hs] at hT
      subst hT
      refine Run.take (fun L => Tst.cmp (T1 := .str s) (T2 := .str (Str.ofString "bvneg")) (Ev.name (v := vs) rfl (h0.mono hK2)) Ev.cstr (fun _ _ _ p1 p2 => (op_eqS p1 p2).imp fun v K' _ h => by rw [hs] at h; simpa using h) rfl) (J1 := fun fl K' _ => ∃ v, fl = .ret v ∧ Has K' (.int ((-x).fmod (2 ^ c))) v) (fun KK hKK => ?_) (fun K' m' _ j => by obtain ⟨v, e, _⟩ := j; cases e) (fun _ _ _ _ j => j)
      have HK : ∀ a o, K a o → KK a o := fun a o e => hKK a o (hK2 a o e)
      exact Run.ret (P := fun v K' => Has K' (.int ((-x).fmod (2 ^ c))) v) (fun L => Ev.binT (T1 := .int (-x)) (T2 := .int (2 ^ c)) (Ev.neg (Ev.name (v := vx) rfl (hx.mono HK))) (Ev.name (v := vw) rfl ((hw0.mono hW2).mono hKK)) fun _ _ _ p1 p2 => op_mod hwne p1 p2) (fun v K' _ h => ⟨v, rfl, h⟩)
    rw [if_neg hs] at hT
    refine Run.skip (fun L => Tst.cmp (T1 := .str s) (T2 := .str (Str.ofString "bvneg")) (Ev.name (v := vs) rfl (h0.mono hK2)) Ev.cstr (fun _ _ _ p1 p2 => (op_eqS p1 p2).imp fun v K' _ h => by rw [beq_false_of_ne hs] at h; exact h) rfl) (fun K3 hS3 => ?_)
    have hK3 : ∀ a o, K a o → K3 a o := fun a o e => hS3 a o (hK2 a o e)
    have hW3 : ∀ a o, K0 a o → K3 a o := fun a o e => hS3 a o (hW2 a o e)
    clear hs
    by_cases hs : s = Str.ofString "bvand"
    · rw [if_pos hs] at hT
      subst hT
      refine Run.take (fun L => Tst.cmp (T1 := .str s) (T2 := .str (Str.ofString "bvand")) (Ev.name (v := vs) rfl (h0.mono hK3)) Ev.cstr (fun _ _ _ p1 p2 => (op_eqS p1 p2).imp fun v K' _ h => by rw [hs] at h; simpa using h) rfl) (J1 := fun fl K' _ => ∃ v, fl = .ret v ∧ Has K' (.int (Builtin.bitAnd x y)) v) (fun KK hKK => ?_) (fun K' m' _ j => by obtain ⟨v, e, _⟩ := j; cases e) (fun _ _ _ _ j => j)
      have HK : ∀ a o, K a o → KK a o := fun a o e => hKK a o (hK3 a o e)
      exact Run.ret (P := fun v K' => Has K' (.int (Builtin.bitAnd x y)) v) (fun L => Ev.binT (T1 := .int x) (T2 := .int y) (Ev.name (v := vx) rfl (hx.mono HK)) (Ev.name (v := vy) rfl (hy.mono HK)) fun _ _ _ p1 p2 => op_and p1 p2) (fun v K' _ h => ⟨v, rfl, h⟩)
    rw [if_neg hs] at hT
    refine Run.skip (fun L => Tst.cmp (T1 := .str s) (T2 := .str (Str.ofString "bvand")) (Ev.name (v := vs) rfl (h0.mono hK3)) Ev.cstr (fun _ _ _ p1 p2 => (op_eqS p1 p2).imp fun v K' _ h => by rw [beq_false_of_ne hs] at h; exact h) rfl) (fun K4 hS4 => ?_)
    have hK4 : ∀ a o, K a o → K4 a o := fun a o e => hS4 a o (hK3 a o e)
    have hW4 : ∀ a o, K0 a o → K4 a o := fun a o e => hS4 a o (hW3 a o e)
    clear hs
    by_cases hs : s = Str.ofString "bvor"
    · rw [if_pos hs] at hT
      subst hT
      refine Run.take (fun L => Tst.cmp (T1 := .str s) (T2 := .str (Str.ofString "bvor")) (Ev.name (v := vs) rfl (h0.mono hK4)) Ev.cstr (fun _ _ _ p1 p2 => (op_eqS p1 p2).imp fun v K' _ h => by rw [hs] at h; simpa using h) rfl) (J1 := fun fl K' _ => ∃ v, fl = .ret v ∧ Has K' (.int (Builtin.bitOr x y)) v) (fun KK hKK => ?_) (fun K' m' _ j => by obtain ⟨v, e, _⟩ := j; cases e) (fun _ _ _ _ j => j)
      have HK : ∀ a o, K a o → KK a o := fun a o e => hKK a o (hK4 a o e)
      exact Run.ret (P := fun v K' => Has K' (.int (Builtin.bitOr x y)) v) (fun L => Ev.binT (T1 := .int x) (T2 := .int y) (Ev.name (v := vx) rfl (hx.mono HK)) (Ev.name (v := vy) rfl (hy.mono HK)) fun _ _ _ p1 p2 => op_or p1 p2) (fun v K' _ h => ⟨v, rfl, h⟩)
    rw [if_neg hs] at hT
    refine Run.skip (fun L => Tst.cmp (T1 := .str s) (T2 := .str (Str.ofString "bvor")) (Ev.name (v := vs) rfl (h0.mono hK4)) Ev.cstr (fun _ _ _ p1 p2 => (op_eqS p1 p2).imp fun v K' _ h => by rw [beq_false_of_ne hs] at h; exact h) rfl) (fun K5 hS5 => ?_)
    have hK5 : ∀ a o, K a o → K5 a o := fun a o e => hS5 a o (hK4 a o e)
    have hW5 : ∀ a o, K0 a o → K5 a o := fun a o e => hS5 a o (hW4 a o e)
    clear hs
    by_cases hs : s = Str.ofString "bvxor"
    · rw [if_pos hs] at hT
      subst hT
      refine Run.take (fun L => Tst.cmp (T1 := .str s) (T2 := .str (Str.ofString "bvxor")) (Ev.name (v := vs) rfl (h0.mono hK5)) Ev.cstr (fun _ _ _ p1 p2 => (op_eqS p1 p2).imp fun v K' _ h => by rw [hs] at h; simpa using h) rfl) (J1 := fun fl K' _ => ∃ v, fl = .ret v ∧ Has K' (.int (Builtin.bitXor x y)) v) (fun KK hKK => ?_) (fun K' m' _ j => by obtain ⟨v, e, _⟩ := j; cases e) (fun _ _ _ _ j => j)
      have HK : ∀ a o, K a o → KK a o := fun a o e => hKK a o (hK5 a o e)
      exact Run.ret (P := fun v K' => Has K' (.int (Builtin.bitXor x y)) v) (fun L => Ev.binT (T1 := .int x) (T2 := .int y) (Ev.name (v := vx) rfl (hx.mono HK)) (Ev.name (v := vy) rfl (hy.mono HK)) fun _ _ _ p1 p2 => op_xor p1 p2) (fun v K' _ h => ⟨v, rfl, h⟩)
    rw [if_neg hs] at hT
    refine Run.skip (fun L => Tst.cmp (T1 := .str s) (T2 := .str (Str.ofString "bvxor")) (Ev.name (v := vs) rfl (h0.mono hK5)) Ev.cstr (fun _ _ _ p1 p2 => (op_eqS p1 p2).imp fun v K' _ h => by rw [beq_false_of_ne hs] at h; exact h) rfl) (fun K6 hS6 => ?_)
    have hK6 : ∀ a o, K a o → K6 a o := fun a o e => hS6 a o (hK5 a o e)
    have hW6 : ∀ a o, K0 a o → K6 a o := fun a o e => hS6 a o (hW5 a o e)
    clear hs
    by_cases hs : s = Str.ofString "bvadd"
    · rw [if_pos hs] at hT
      subst hT
      refine Run.take (fun L => Tst.cmp (T1 := .str s) (T2 := .str (Str.ofString "bvadd")) (Ev.name (v := vs) rfl (h0.mono hK6)) Ev.cstr (fun _ _ _ p1 p2 => (op_eqS p1 p2).imp fun v K' _ h => by rw [hs] at h; simpa using h) rfl) (J1 := fun fl K' _ => ∃ v, fl = .ret v ∧ Has K' (.int ((x + y).fmod (2 ^ c))) v) (fun KK hKK => ?_) (fun K' m' _ j => by obtain ⟨v, e, _⟩ := j; cases e) (fun _ _ _ _ j => j)
      have HK : ∀ a o, K a o → KK a o := fun a o e => hKK a o (hK6 a o e)
      exact Run.ret (P := fun v K' => Has K' (.int ((x + y).fmod (2 ^ c))) v) (fun L => Ev.binT (T1 := .int (x + y)) (T2 := .int (2 ^ c)) (Ev.binT (T1 := .int x) (T2 := .int y) (Ev.name (v := vx) rfl (hx.mono HK)) (Ev.name (v := vy) rfl (hy.mono HK)) fun _ _ _ p1 p2 => op_add p1 p2) (Ev.name (v := vw) rfl ((hw0.mono hW6).mono hKK)) fun _ _ _ p1 p2 => op_mod hwne p1 p2) (fun v K' _ h => ⟨v, rfl, h⟩)
    rw [if_neg hs] at hT
    refine Run.skip (fun L => Tst.cmp (T1 := .str s) (T2 := .str (Str.ofString "bvadd")) (Ev.name (v := vs) rfl (h0.mono hK6)) Ev.cstr (fun _ _ _ p1 p2 => (op_eqS p1 p2).imp fun v K' _ h => by rw [beq_false_of_ne hs] at h; exact h) rfl) (fun K7 hS7 => ?_)
    have hK7 : ∀ a o, K a o → K7 a o := fun a o e => hS7 a o (hK6 a o e)
    have hW7 : ∀ a o, K0 a o → K7 a o := fun a o e => hS7 a o (hW6 a o e)
    clear hs
    by_cases hs : s = Str.ofString "bvsub"
    · rw [if_pos hs] at hT
      subst hT
      refine Run.take (fun L => Tst.cmp (T1 := .str s) (T2 := .str (Str.ofString "bvsub")) (Ev.name (v := vs) rfl (h0.mono hK7)) Ev.cstr (fun _ _ _ p1 p2 => (op_eqS p1 p2).imp fun v K' _ h => by rw [hs] at h; simpa using h) rfl) (J1 := fun fl K' _ => ∃ v, fl = .ret v ∧ Has K' (.int ((x - y).fmod (2 ^ c))) v) (fun KK hKK => ?_) (fun K' m' _ j => by obtain ⟨v, e, _⟩ := j; cases e) (fun _ _ _ _ j => j)
      have HK : ∀ a o, K a o → KK a o := fun a o e => hKK a o (hK7 a o e)
      exact Run.ret (P := fun v K' => Has K' (.int ((x - y).fmod (2 ^ c))) v) (fun L => Ev.binT (T1 := .int (x - y)) (T2 := .int (2 ^ c)) (Ev.binT (T1 := .int x) (T2 := .int y) (Ev.name (v := vx) rfl (hx.mono HK)) (Ev.name (v := vy) rfl (hy.mono HK)) fun _ _ _ p1 p2 => op_sub p1 p2) (Ev.name (v := vw) rfl ((hw0.mono hW7).mono hKK)) fun _ _ _ p1 p2 => op_mod hwne p1 p2) (fun v K' _ h => ⟨v, rfl, h⟩)
    rw [if_neg hs] at hT
    refine Run.skip (fun L => Tst.cmp (T1 := .str s) (T2 := .str (Str.ofString "bvsub")) (Ev.name (v := vs) rfl (h0.mono hK7)) Ev.cstr (fun _ _ _ p1 p2 => (op_eqS p1 p2).imp fun v K' _ h => by rw [beq_false_of_ne hs] at h; exact h) rfl) (fun K8 hS8 => ?_)
    have hK8 : ∀ a o, K a o → K8 a o := fun a o e => hS8 a o (hK7 a o e)
    have hW8 : ∀ a o, K0 a o → K8 a o := fun a o e => hS8 a o (hW7 a o e)
    clear hs
    by_cases hs : s = Str.ofString "bvmul"
    · rw [if_pos hs] at hT
      subst hT
      refine Run.take (fun L => Tst.cmp (T1 := .str s) (T2 := .str (Str.ofString "bvmul")) (Ev.name (v := vs) rfl (h0.mono hK8)) Ev.cstr (fun _ _ _ p1 p2 => (op_eqS p1 p2).imp fun v K' _ h => by rw [hs] at h; simpa using h) rfl) (J1 := fun fl K' _ => ∃ v, fl = .ret v ∧ Has K' (.int ((x * y).fmod (2 ^ c))) v) (fun KK hKK => ?_) (fun K' m' _ j => by obtain ⟨v, e, _⟩ := j; cases e) (fun _ _ _ _ j => j)
      have HK : ∀ a o, K a o → KK a o := fun a o e => hKK a o (hK8 a o e)
      exact Run.ret (P := fun v K' => Has K' (.int ((x * y).fmod (2 ^ c))) v) (fun L => Ev.binT (T1 := .int (x * y)) (T2 := .int (2 ^ c)) (Ev.binT (T1 := .int x) (T2 := .int y) (Ev.name (v := vx) rfl (hx.mono HK)) (Ev.name (v := vy) rfl (hy.mono HK)) fun _ _ _ p1 p2 => op_mul (IntMulOk.of_left (PySem.intBits_le_64 (by omega) (by omega))) p1 p2) (Ev.name (v := vw) rfl ((hw0.mono hW8).mono hKK)) fun _ _ _ p1 p2 => op_mod hwne p1 p2) (fun v K' _ h => ⟨v, rfl, h⟩)
    rw [if_neg hs] at hT
    refine Run.skip (fun L => Tst.cmp (T1 := .str s) (T2 := .str (Str.ofString "bvmul")) (Ev.name (v := vs) rfl (h0.mono hK8)) Ev.cstr (fun _ _ _ p1 p2 => (op_eqS p1 p2).imp fun v K' _ h => by rw [beq_false_of_ne hs] at h; exact h) rfl) (fun K9 hS9 => ?_)
    have hK9 : ∀ a o, K a o → K9 a o := fun a o e => hS9 a o (hK8 a o e)
    have hW9 : ∀ a o, K0 a o → K9 a o := fun a o e => hS9 a o (hW8 a o e)
    clear hs
    by_cases hs : s = Str.ofString "bvshl"
    · rw [if_pos hs] at hT
      subst hT
      refine Run.take (fun L => Tst.cmp (T1 := .str s) (T2 := .str (Str.ofString "bvshl")) (Ev.name (v := vs) rfl (h0.mono hK9)) Ev.cstr (fun _ _ _ p1 p2 => (op_eqS p1 p2).imp fun v K' _ h => by rw [hs] at h; simpa using h) rfl) (J1 := fun fl K' _ => ∃ v, fl = .ret v ∧ Has K' (.int (if y < (c : Int) then (x * 2 ^ y.toNat).fmod (2 ^ c) else 0)) v) (fun KK hKK => ?_) (fun K' m' _ j => by obtain ⟨v, e, _⟩ := j; cases e) (fun _ _ _ _ j => j)
      have HK : ∀ a o, K a o → KK a o := fun a o e => hKK a o (hK9 a o e)
      exact Run.ret (P := fun v K' => Has K' (.int (if y < (c : Int) then (x * 2 ^ y.toNat).fmod (2 ^ c) else 0)) v) (fun L => Ev.ifInt (b := decide (y < (c : Int))) (Tst.cmp (T1 := .int y) (T2 := .int (c : Int)) (Ev.name (v := vy) rfl (hy.mono HK)) (Ev.name (v := vc) rfl (hc.mono HK)) (fun _ _ _ p1 p2 => op_lt p1 p2) rfl) (by simp) (fun hb => Ev.binT (T1 := .int (x * 2 ^ y.toNat)) (T2 := .int (2 ^ c)) (Ev.binT (T1 := .int x) (T2 := .int y) (Ev.name (v := vx) rfl (hx.mono HK)) (Ev.name (v := vy) rfl (hy.mono HK)) fun _ _ _ p1 p2 => op_shl hy0 (shl_room hb hc1) (by omega) p1 p2) (Ev.name (v := vw) rfl ((hw0.mono hW9).mono hKK)) fun _ _ _ p1 p2 => op_mod hwne p1 p2) (fun _ => Ev.cint)) (fun v K' _ h => ⟨v, rfl, h⟩)
    rw [if_neg hs] at hT
    refine Run.skip (fun L => Tst.cmp (T1 := .str s) (T2 := .str (Str.ofString "bvshl")) (Ev.name (v := vs) rfl (h0.mono hK9)) Ev.cstr (fun _ _ _ p1 p2 => (op_eqS p1 p2).imp fun v K' _ h => by rw [beq_false_of_ne hs] at h; exact h) rfl) (fun K10 hS10 => ?_)
    have hK10 : ∀ a o, K a o → K10 a o := fun a o e => hS10 a o (hK9 a o e)
    have hW10 : ∀ a o, K0 a o → K10 a o := fun a o e => hS10 a o (hW9 a o e)
    clear hs
    by_cases hs : s = Str.ofString "bvlshr"
    · rw [if_pos hs] at hT
      subst hT
      refine Run.take (fun L => Tst.cmp (T1 := .str s) (T2 := .str (Str.ofString "bvlshr")) (Ev.name (v := vs) rfl (h0.mono hK10)) Ev.cstr (fun _ _ _ p1 p2 => (op_eqS p1 p2).imp fun v K' _ h => by rw [hs] at h; simpa using h) rfl) (J1 := fun fl K' _ => ∃ v, fl = .ret v ∧ Has K' (.int (if y < (c : Int) then x.fdiv (2 ^ y.toNat) else 0)) v) (fun KK hKK => ?_) (fun K' m' _ j => by obtain ⟨v, e, _⟩ := j; cases e) (fun _ _ _ _ j => j)
      have HK : ∀ a o, K a o → KK a o := fun a o e => hKK a o (hK10 a o e)
      exact Run.ret (P := fun v K' => Has K' (.int (if y < (c : Int) then x.fdiv (2 ^ y.toNat) else 0)) v) (fun L => Ev.ifInt (b := decide (y < (c : Int))) (Tst.cmp (T1 := .int y) (T2 := .int (c : Int)) (Ev.name (v := vy) rfl (hy.mono HK)) (Ev.name (v := vc) rfl (hc.mono HK)) (fun _ _ _ p1 p2 => op_lt p1 p2) rfl) (by simp) (fun hb => Ev.binT (T1 := .int x) (T2 := .int y) (Ev.name (v := vx) rfl (hx.mono HK)) (Ev.name (v := vy) rfl (hy.mono HK)) fun _ _ _ p1 p2 => op_shr hy0 p1 p2) (fun _ => Ev.cint)) (fun v K' _ h => ⟨v, rfl, h⟩)
    rw [if_neg hs] at hT
    refine Run.skip (fun L => Tst.cmp (T1 := .str s) (T2 := .str (Str.ofString "bvlshr")) (Ev.name (v := vs) rfl (h0.mono hK10)) Ev.cstr (fun _ _ _ p1 p2 => (op_eqS p1 p2).imp fun v K' _ h => by rw [beq_false_of_ne hs] at h; exact h) rfl) (fun K11 hS11 => ?_)
    have hK11 : ∀ a o, K a o → K11 a o := fun a o e => hS11 a o (hK10 a o e)
    have hW11 : ∀ a o, K0 a o → K11 a o := fun a o e => hS11 a o (hW10 a o e)
    clear hs
    by_cases hs : s = Str.ofString "bvudiv"
    · rw [if_pos hs] at hT
      subst hT
      refine Run.take (fun L => Tst.cmp (T1 := .str s) (T2 := .str (Str.ofString "bvudiv")) (Ev.name (v := vs) rfl (h0.mono hK11)) Ev.cstr (fun _ _ _ p1 p2 => (op_eqS p1 p2).imp fun v K' _ h => by rw [hs] at h; simpa using h) rfl) (J1 := fun fl K' _ => ∃ v, fl = .ret v ∧ Has K' (.int (if 0 < y then x.fdiv y else 2 ^ c - 1)) v) (fun KK hKK => ?_) (fun K' m' _ j => by obtain ⟨v, e, _⟩ := j; cases e) (fun _ _ _ _ j => j)
      have HK : ∀ a o, K a o → KK a o := fun a o e => hKK a o (hK11 a o e)
      exact Run.ret (P := fun v K' => Has K' (.int (if 0 < y then x.fdiv y else 2 ^ c - 1)) v) (fun L => Ev.ifInt (b := decide (0 < y)) (Tst.cmp (T1 := .int y) (T2 := .int 0) (Ev.name (v := vy) rfl (hy.mono HK)) Ev.cint (fun _ _ _ p1 p2 => op_gt p1 p2) rfl) (by simp) (fun hb => Ev.binT (T1 := .int x) (T2 := .int y) (Ev.name (v := vx) rfl (hx.mono HK)) (Ev.name (v := vy) rfl (hy.mono HK)) fun _ _ _ p1 p2 => op_fdiv (Int.ne_of_gt (by simpa using hb)) (PyProof.noPylong_small (by omega)) p1 p2) (fun _ => Ev.binT (T1 := .int (2 ^ c)) (T2 := .int 1) (Ev.name (v := vw) rfl ((hw0.mono hW11).mono hKK)) Ev.cint fun _ _ _ p1 p2 => op_sub p1 p2)) (fun v K' _ h => ⟨v, rfl, h⟩)
    rw [if_neg hs] at hT
    refine Run.skip (fun L => Tst.cmp (T1 := .str s) (T2 := .str (Str.ofString "bvudiv")) (Ev.name (v := vs) rfl (h0.mono hK11)) Ev.cstr (fun _ _ _ p1 p2 => (op_eqS p1 p2).imp fun v K' _ h => by rw [beq_false_of_ne hs] at h; exact h) rfl) (fun K12 hS12 => ?_)
    have hK12 : ∀ a o, K a o → K12 a o := fun a o e => hS12 a o (hK11 a o e)
    have hW12 : ∀ a o, K0 a o → K12 a o := fun a o e => hS12 a o (hW11 a o e)
    clear hs
    by_cases hs : s = Str.ofString "bvurem"
    · rw [if_pos hs] at hT
      subst hT
      refine Run.take (fun L => Tst.cmp (T1 := .str s) (T2 := .str (Str.ofString "bvurem")) (Ev.name (v := vs) rfl (h0.mono hK12)) Ev.cstr (fun _ _ _ p1 p2 => (op_eqS p1 p2).imp fun v K' _ h => by rw [hs] at h; simpa using h) rfl) (J1 := fun fl K' _ => ∃ v, fl = .ret v ∧ Has K' (.int (if 0 < y then x.fmod y else x)) v) (fun KK hKK => ?_) (fun K' m' _ j => by obtain ⟨v, e, _⟩ := j; cases e) (fun _ _ _ _ j => j)
      have HK : ∀ a o, K a o → KK a o := fun a o e => hKK a o (hK12 a o e)
      exact Run.ret (P := fun v K' => Has K' (.int (if 0 < y then x.fmod y else x)) v) (fun L => Ev.ifInt (b := decide (0 < y)) (Tst.cmp (T1 := .int y) (T2 := .int 0) (Ev.name (v := vy) rfl (hy.mono HK)) Ev.cint (fun _ _ _ p1 p2 => op_gt p1 p2) rfl) (by simp) (fun hb => Ev.binT (T1 := .int x) (T2 := .int y) (Ev.name (v := vx) rfl (hx.mono HK)) (Ev.name (v := vy) rfl (hy.mono HK)) fun _ _ _ p1 p2 => op_mod (Int.ne_of_gt (by simpa using hb)) p1 p2) (fun _ => Ev.name (v := vx) rfl (hx.mono HK))) (fun v K' _ h => ⟨v, rfl, h⟩)
    rw [if_neg hs] at hT
    refine Run.skip (fun L => Tst.cmp (T1 := .str s) (T2 := .str (Str.ofString "bvurem")) (Ev.name (v := vs) rfl (h0.mono hK12)) Ev.cstr (fun _ _ _ p1 p2 => (op_eqS p1 p2).imp fun v K' _ h => by rw [beq_false_of_ne hs] at h; exact h) rfl) (fun K13 hS13 => ?_)
    have hK13 : ∀ a o, K a o → K13 a o := fun a o e => hS13 a o (hK12 a o e)
    have hW13 : ∀ a o, K0 a o → K13 a o := fun a o e => hS13 a o (hW12 a o e)
    clear hs
    by_cases hs : s = Str.ofString "concat"
    · rw [if_pos hs] at hT
      subst hT
      refine Run.take (fun L => Tst.cmp (T1 := .str s) (T2 := .str (Str.ofString "concat")) (Ev.name (v := vs) rfl (h0.mono hK13)) Ev.cstr (fun _ _ _ p1 p2 => (op_eqS p1 p2).imp fun v K' _ h => by rw [hs] at h; simpa using h) rfl) (J1 := fun fl K' _ => ∃ v, fl = .ret v ∧ Has K' (.int (x * 2 ^ d + y)) v) (fun KK hKK => ?_) (fun K' m' _ j => by obtain ⟨v, e, _⟩ := j; cases e) (fun _ _ _ _ j => j)
      have HK : ∀ a o, K a o → KK a o := fun a o e => hKK a o (hK13 a o e)
      exact Run.ret (P := fun v K' => Has K' (.int (x * 2 ^ d + y)) v) (fun L => Ev.binT (T1 := .int (x * 2 ^ d)) (T2 := .int y) (Ev.binT (T1 := .int x) (T2 := .int (d : Int)) (Ev.name (v := vx) rfl (hx.mono HK)) (Ev.name (v := vi) rfl (hd_.mono HK)) fun _ _ _ p1 p2 => op_shlN (by omega) (by omega) p1 p2) (Ev.name (v := vy) rfl (hy.mono HK)) fun _ _ _ p1 p2 => op_add p1 p2) (fun v K' _ h => ⟨v, rfl, h⟩)
    rw [if_neg hs] at hT
    refine Run.skip (fun L => Tst.cmp (T1 := .str s) (T2 := .str (Str.ofString "concat")) (Ev.name (v := vs) rfl (h0.mono hK13)) Ev.cstr (fun _ _ _ p1 p2 => (op_eqS p1 p2).imp fun v K' _ h => by rw [beq_false_of_ne hs] at h; exact h) rfl) (fun K14 hS14 => ?_)
    have hK14 : ∀ a o, K a o → K14 a o := fun a o e => hS14 a o (hK13 a o e)
    have hW14 : ∀ a o, K0 a o → K14 a o := fun a o e => hS14 a o (hW13 a o e)
    clear hs
    by_cases hs : s = Str.ofString "extract"
    · rw [if_pos hs] at hT
      subst hT
      refine Run.take (fun L => Tst.cmp (T1 := .str s) (T2 := .str (Str.ofString "extract")) (Ev.name (v := vs) rfl (h0.mono hK14)) Ev.cstr (fun _ _ _ p1 p2 => (op_eqS p1 p2).imp fun v K' _ h => by rw [hs] at h; simpa using h) rfl) (J1 := fun fl K' _ => ∃ v, fl = .ret v ∧ Has K' (.int ((x.fdiv (2 ^ low)).fmod (2 ^ c))) v) (fun KK hKK => ?_) (fun K' m' _ j => by obtain ⟨v, e, _⟩ := j; cases e) (fun _ _ _ _ j => j)
      have HK : ∀ a o, K a o → KK a o := fun a o e => hKK a o (hK14 a o e)
      exact Run.ret (P := fun v K' => Has K' (.int ((x.fdiv (2 ^ low)).fmod (2 ^ c))) v) (fun L => Ev.binT (T1 := .int (x.fdiv (2 ^ low))) (T2 := .int (2 ^ c)) (Ev.binT (T1 := .int x) (T2 := .int (low : Int)) (Ev.name (v := vx) rfl (hx.mono HK)) (Ev.sub (P1 := fun v K => IsTupOf K [.int high, .int (low : Int)] v) (P2 := fun v K => Has K (.int 1) v) (Ev.name (v := vd) rfl ((hdat hs).mono HK)) (mono_tup _) Ev.cint (mono_has _) fun _ _ _ _ p1 p2 => get_tup (j := 1) (by decide) (by decide) rfl p1 p2) fun _ _ _ p1 p2 => op_shrN p1 p2) (Ev.name (v := vw) rfl ((hw0.mono hW14).mono hKK)) fun _ _ _ p1 p2 => op_mod hwne p1 p2) (fun v K' _ h => ⟨v, rfl, h⟩)
    rw [if_neg hs] at hT
    refine Run.skip (fun L => Tst.cmp (T1 := .str s) (T2 := .str (Str.ofString "extract")) (Ev.name (v := vs) rfl (h0.mono hK14)) Ev.cstr (fun _ _ _ p1 p2 => (op_eqS p1 p2).imp fun v K' _ h => by rw [beq_false_of_ne hs] at h; exact h) rfl) (fun K15 hS15 => ?_)
    have hK15 : ∀ a o, K a o → K15 a o := fun a o e => hS15 a o (hK14 a o e)
    have hW15 : ∀ a o, K0 a o → K15 a o := fun a o e => hS15 a o (hW14 a o e)
    clear hs
    by_cases hs : s = Str.ofString "zero_extend"
    · rw [if_pos hs] at hT
      subst hT
      refine Run.take (fun L => Tst.cmp (T1 := .str s) (T2 := .str (Str.ofString "zero_extend")) (Ev.name (v := vs) rfl (h0.mono hK15)) Ev.cstr (fun _ _ _ p1 p2 => (op_eqS p1 p2).imp fun v K' _ h => by rw [hs] at h; simpa using h) rfl) (J1 := fun fl K' _ => ∃ v, fl = .ret v ∧ Has K' (.int x) v) (fun KK hKK => ?_) (fun K' m' _ j => by obtain ⟨v, e, _⟩ := j; cases e) (fun _ _ _ _ j => j)
      have HK : ∀ a o, K a o → KK a o := fun a o e => hKK a o (hK15 a o e)
      exact Run.ret (P := fun v K' => Has K' (.int x) v) (fun L => Ev.name (v := vx) rfl (hx.mono HK)) (fun v K' _ h => ⟨v, rfl, h⟩)
    rw [if_neg hs] at hT
    refine Run.skip (fun L => Tst.cmp (T1 := .str s) (T2 := .str (Str.ofString "zero_extend")) (Ev.name (v := vs) rfl (h0.mono hK15)) Ev.cstr (fun _ _ _ p1 p2 => (op_eqS p1 p2).imp fun v K' _ h => by rw [beq_false_of_ne hs] at h; exact h) rfl) (fun K16 hS16 => ?_)
    have hK16 : ∀ a o, K a o → K16 a o := fun a o e => hS16 a o (hK15 a o e)
    have hW16 : ∀ a o, K0 a o → K16 a o := fun a o e => hS16 a o (hW15 a o e)
    clear hs
    by_cases hs : s = Str.ofString "sign_extend"
    · rw [if_pos hs] at hT
      subst hT
      refine Run.take (fun L => Tst.cmp (T1 := .str s) (T2 := .str (Str.ofString "sign_extend")) (Ev.name (v := vs) rfl (h0.mono hK16)) Ev.cstr (fun _ _ _ p1 p2 => (op_eqS p1 p2).imp fun v K' _ h => by rw [hs] at h; simpa using h) rfl) (J1 := fun fl K' _ => ∃ v, fl = .ret v ∧ Has K' (.int (if x.fdiv (2 ^ (d - 1)) = 1 then x + (2 ^ c - 2 ^ d) else x)) v) (fun KK hKK => ?_) (fun K' m' _ j => by obtain ⟨v, e, _⟩ := j; cases e) (fun _ _ _ _ j => j)
      have HK : ∀ a o, K a o → KK a o := fun a o e => hKK a o (hK16 a o e)
      exact Run.ret (P := fun v K' => Has K' (.int (if x.fdiv (2 ^ (d - 1)) = 1 then x + (2 ^ c - 2 ^ d) else x)) v) (fun L => Ev.ifInt (b := (x.fdiv (2 ^ (d - 1)) == 1)) (Tst.cmp (T1 := .int (x.fdiv (2 ^ (d - 1)))) (T2 := .int 1) (Ev.binT (T1 := .int x) (T2 := .int ((d - 1 : Nat) : Int)) (Ev.name (v := vx) rfl (hx.mono HK)) (Ev.binT (T1 := .int (d : Int)) (T2 := .int 1) (Ev.name (v := vi) rfl (hd_.mono HK)) Ev.cint fun _ _ _ p1 p2 => (op_sub p1 p2).imp fun v K' _ h => by rw [pred_cast (hsx hs)] at h; exact h) fun _ _ _ p1 p2 => op_shrN p1 p2) Ev.cint (fun _ _ _ p1 p2 => op_eq p1 p2) rfl) (by simp) (fun _ => Ev.binT (T1 := .int x) (T2 := .int (2 ^ c - 2 ^ d)) (Ev.name (v := vx) rfl (hx.mono HK)) (Ev.binT (T1 := .int (2 ^ c)) (T2 := .int (2 ^ d)) (Ev.name (v := vw) rfl ((hw0.mono hW16).mono hKK)) (Ev.imp (P := fun v K => Has K (.int (1 * 2 ^ d)) v) (Ev.binT (T1 := .int 1) (T2 := .int (d : Int)) Ev.cint (Ev.name (v := vi) rfl (hd_.mono HK)) fun _ _ _ p1 p2 => op_shlN (by omega) (by decide) p1 p2) (fun v K' _ h => by rwa [Int.one_mul] at h)) fun _ _ _ p1 p2 => op_sub p1 p2) fun _ _ _ p1 p2 => op_add p1 p2) (fun _ => Ev.name (v := vx) rfl (hx.mono HK))) (fun v K' _ h => ⟨v, rfl, h⟩)
    rw [if_neg hs] at hT
    refine Run.skip (fun L => Tst.cmp (T1 := .str s) (T2 := .str (Str.ofString "sign_extend")) (Ev.name (v := vs) rfl (h0.mono hK16)) Ev.cstr (fun _ _ _ p1 p2 => (op_eqS p1 p2).imp fun v K' _ h => by rw [beq_false_of_ne hs] at h; exact h) rfl) (fun K17 hS17 => ?_)
    have hK17 : ∀ a o, K a o → K17 a o := fun a o e => hS17 a o (hK16 a o e)
    have hW17 : ∀ a o, K0 a o → K17 a o := fun a o e => hS17 a o (hW16 a o e)
    clear hs
    subst hT
    exact Run.ret (P := fun v K' => Has K' (.val .none) v) (fun L => Ev.cnone) (fun v K' _ h => ⟨v, rfl, h⟩)
end
end Mine
end

-- FnG
section
set_option maxRecDepth 100000
namespace Mine
section
variable {prog : Program} {w : World} {mg mb : Str → Option Value} {n : Nat} {md : Mode} {K : Kn}

set_option maxHeartbeats 2000000 in
theorem told_ct {s : Str} {ends : List Int} {x y high r : Int} {low c d : Nat} {xj : Addr} {vs ve vd vc vi : Value} (J : IsInst K 857 (Str.ofString "reckon_bits") xj) (h0 : Has K (.str s) vs) (he : IsListOf K (ends.map .int) ve) (hdat : s = Str.ofString "extract" → IsTupOf K [.int high, .int (low : Int)] vd) (hc : Has K (.int (c : Int)) vc) (hd_ : Has K (.int (d : Int)) vi) (hite : s = Str.ofString "ite" → ∃ a b e, ends = [a, b, e]) (hsx : s = Str.ofString "sign_extend" → 1 ≤ d) (hx : ends[0]? = some x) (hy : ends.getLast? = some y) (hel : ends.length ≤ 10) (hx0 : 0 ≤ x) (hx1 : x < 2 ^ 30) (hy0 : 0 ≤ y) (hy1 : y < 2 ^ 30) (hc1 : c ≤ 29) (hd1 : d ≤ 29) (hr : reckonI s ends x y low c d = .int r) (hr0 : 0 ≤ r) (hr1 : r < 2 ^ c) :
    Op prog w (KK w.params) mg mb (n + 2) md K (PySem.call (.ref 926) [.ref xj, vs, ve, vd, vc, vi]) (fun v K => Has K (.ints (rowI r c)) v) := by
  refine' op_def (f := 926) [Str.ofString "judge", Str.ofString "op", Str.ofString "ends", Str.ofString "data", Str.ofString "wide", Str.ofString "inner"] ?ho ?hcd ?hco ?hgen ?hk ?hb ?hl ?hnd ?hst (J := fun fl K _ => ∃ v, fl = .ret v ∧ (fun v K => Has K (.ints (rowI r c)) v) v K) ?run ?hj
  case ho => k_is
  case hcd => k_is
  case hco => exact rfl
  case hgen => exact rfl
  case hk => exact rfl
  case hb => exact rfl
  case hl => exact rfl
  case hnd => decide
  case hst => exact rfl
  case hj =>
    rintro fl K' m' _ ⟨v, rfl, h⟩
    exact h
  case run =>
    refine Run.assign (P := fun v K' => Has K' (.int r) v) rfl (fun L => ?_) (fun vf K1 hK1 hf => ?_) (by intro _; rfl)
    · refine Ev.meth (C := 857) (x := xj) (f := 854) (Ts := [.str s, .val ve, .int x, .int y, .val vd, .int (c : Int), .int (d : Int)]) (Ev.name (v := .ref xj) rfl rfl) J (by k_is) (by k_is) (by k_is) (by k_is)
        (Evs.consT (Ev.name (v := vs) rfl h0) (Evs.consT (Ev.name (v := ve) rfl rfl) (Evs.consT ?ex (Evs.consT ?ey (Evs.consT (Ev.name (v := vd) rfl rfl) (Evs.consT (Ev.name (v := vc) rfl hc) (Evs.consT (Ev.name (v := vi) rfl hd_) Evs.nilT rfl) rfl) rfl) rfl) rfl) rfl) rfl) (fun vals K' hK' hv => ?op) rfl (by intro _; rfl) rfl
      case ex => exact Ev.sub (P1 := fun v K => IsListOf K (ends.map .int) v) (P2 := fun v K => Has K (.int 0) v) (Ev.name (v := ve) rfl he) (mono_list _) Ev.cint (mono_has _) fun _ _ _ _ p1 p2 => get_list (j := 0) (by decide) (by decide) (by simp [hx]) p1 p2
      case ey => exact Ev.sub (P1 := fun v K => IsListOf K (ends.map .int) v) (P2 := fun v K => Has K (.int (-1)) v) (Ev.name (v := ve) rfl he) (mono_list _) Ev.neg1 (mono_has _) fun _ _ _ _ p1 p2 => get_last (by simp [hy]) (by simp; omega) p1 p2
      case op =>
        cases hv with
        | cons a1 q => cases q with
          | cons a2 q => cases q with
            | cons a3 q => cases q with
              | cons a4 q => cases q with
                | cons a5 q => cases q with
                  | cons a6 q => cases q with
                    | cons a7 q =>
                      cases q
                      obtain rfl := a2
                      obtain rfl := a5
                      exact (reckon_ct a1 (IsListOf.mono hK' he) a3 a4 (fun e => IsTupOf.mono hK' (hdat e)) a6 a7 hite hsx hx0 hx1 hy0 hy1 (by omega) (by omega)).imp fun v K'' _ h => by rw [hr] at h; exact h
    · refine Run.skip (fun L => Tst.or2f (Tst.not (b := true) (Tst.val (Ev.callB (Ev.boot rfl (by k_is) rfl rfl) (Evs.consT (T := .int r) (Ev.name (v := vf) rfl hf) (Evs.consT (T := .val (.type "int")) (Ev.boot rfl (by k_is) rfl rfl) Evs.nilT rfl) rfl) (fun vals K' _ hv => ?_) rfl (by intro _; rfl)) rfl)) (Tst.not (b := true) ?_)) (fun K2 hK2 => ?_)
      · cases hv with
        | cons a1 q => cases q with
          | cons a2 q =>
            cases q
            obtain rfl := a2
            exact op_intI a1
      · exact Tst.chain2 (b1 := true) (b2 := true) (T1 := .int 0) (T2 := .int r) (T3 := .int (2 ^ c)) Ev.cint (Ev.name (v := vf) rfl hf) (Ev.imp (P := fun v K => Has K (.int (2 ^ ((c : Int)).toNat)) v) (Ev.binT (T1 := .int 2) (T2 := .int (c : Int)) Ev.cint (Ev.name (v := vc) rfl (hc.mono hK1)) fun _ _ _ p1 p2 => op_pow (by omega) (by omega) (by decide) p1 p2) (fun v K' _ h => by rwa [int_cast_pow] at h))
          (fun _ _ _ p1 p2 => (op_le p1 p2).imp fun v K' _ h => by rwa [decide_eq_true hr0] at h) (fun _ _ _ p1 p2 => (op_lt p1 p2).imp fun v K' _ h => by rwa [decide_eq_true hr1] at h) rfl
      · refine Run.ret (P := fun v K' => Has K' (.ints (rowI r c)) v) (fun L => ?_) (fun v K' _ h => ⟨v, rfl, h⟩)
        refine Ev.call (Ts := [.int r, .int (c : Int)]) (Ev.glob rfl (by k_is) rfl) (by k_is) rfl (Evs.consT (Ev.name (v := vf) rfl (hf.mono hK2)) (Evs.consT (Ev.name (v := vc) rfl ((hc.mono hK1).mono hK2)) Evs.nilT rfl) rfl) (fun vals K' _ hv => ?_) rfl
        cases hv with
        | cons a1 q => cases q with
          | cons a2 q => cases q; exact row_ct a1 a2 hc1
end
end Mine
end

-- FnH
section
set_option maxRecDepth 100000
namespace Mine
section
variable {prog : Program} {w : World} {mg mb : Str → Option Value} {n : Nat} {md : Mode} {K : Kn}

theorem six {a b c d e f : Ty} {vs : List Value} (h : HasAll K [a, b, c, d, e, f] vs) : ∃ p q r s t u, vs = [p, q, r, s, t, u] ∧ Has K a p ∧ Has K b q ∧ Has K c r ∧ Has K d s ∧ Has K e t ∧ Has K f u := by
  cases h with
  | cons a1 q => cases q with
    | cons a2 q => cases q with
      | cons a3 q => cases q with
        | cons a4 q => cases q with
          | cons a5 q => cases q with
            | cons a6 q => cases q; exact ⟨_, _, _, _, _, _, rfl, a1, a2, a3, a4, a5, a6⟩
theorem two {a b : Ty} {vs : List Value} (h : HasAll K [a, b] vs) : ∃ p q, vs = [p, q] ∧ Has K a p ∧ Has K b q := by
  cases h with
  | cons h1 r => cases r with
    | cons h2 r => cases r; exact ⟨_, _, rfl, h1, h2⟩
theorem three {a b c : Ty} {vs : List Value} (h : HasAll K [a, b, c] vs) : ∃ p q r, vs = [p, q, r] ∧ Has K a p ∧ Has K b q ∧ Has K c r := by
  cases h with
  | cons h1 r => cases r with
    | cons h2 r => cases r with
      | cons h3 r => cases r; exact ⟨_, _, _, rfl, h1, h2, h3⟩
theorem one_of {a : Ty} {vs : List Value} (h : HasAll K [a] vs) : ∃ p, vs = [p] ∧ Has K a p := by
  cases h with
  | cons h1 r => cases r; exact ⟨_, rfl, h1⟩
theorem Ev.ints1 {Kf : Frag} {env : Env} {m : Str → Option Value} {e1 : Expr} {pos : Pos} {x : Int} (h1 : Ev prog w Kf mg mb n md env m K e1 (fun v K => Has K (.int x) v))
    (s1 : starEach [e1] env = (false, eval e1 env) :: starEach [] env) : Ev prog w Kf mg mb n md env m K (.List [e1] pos) (fun v K => Has K (.ints [x]) v) :=
  (Ev.listT (Ts := [.int x]) (Evs.consT h1 Evs.nilT s1) (by simp [sizeLine])).imp fun v K' _ h => HasInts.of (ns := [x]) h
theorem Ev.ints2 {Kf : Frag} {env : Env} {m : Str → Option Value} {e1 e2 : Expr} {pos : Pos} {x y : Int} (h1 : Ev prog w Kf mg mb n md env m K e1 (fun v K => Has K (.int x) v)) (h2 : Ev prog w Kf mg mb n md env m K e2 (fun v K => Has K (.int y) v))
    (s1 : starEach [e1, e2] env = (false, eval e1 env) :: starEach [e2] env) (s2 : starEach [e2] env = (false, eval e2 env) :: starEach [] env) : Ev prog w Kf mg mb n md env m K (.List [e1, e2] pos) (fun v K => Has K (.ints [x, y]) v) :=
  (Ev.listT (Ts := [.int x, .int y]) (Evs.consT h1 (Evs.consT h2 Evs.nilT s2) s1) (by simp [sizeLine])).imp fun v K' _ h => HasInts.of (ns := [x, y]) h
theorem Ev.ints3 {Kf : Frag} {env : Env} {m : Str → Option Value} {e1 e2 e3 : Expr} {pos : Pos} {x y z : Int} (h1 : Ev prog w Kf mg mb n md env m K e1 (fun v K => Has K (.int x) v)) (h2 : Ev prog w Kf mg mb n md env m K e2 (fun v K => Has K (.int y) v)) (h3 : Ev prog w Kf mg mb n md env m K e3 (fun v K => Has K (.int z) v))
    (s1 : starEach [e1, e2, e3] env = (false, eval e1 env) :: starEach [e2, e3] env) (s2 : starEach [e2, e3] env = (false, eval e2 env) :: starEach [e3] env) (s3 : starEach [e3] env = (false, eval e3 env) :: starEach [] env) : Ev prog w Kf mg mb n md env m K (.List [e1, e2, e3] pos) (fun v K => Has K (.ints [x, y, z]) v) :=
  (Ev.listT (Ts := [.int x, .int y, .int z]) (Evs.consT h1 (Evs.consT h2 (Evs.consT h3 Evs.nilT s3) s2) s1) (by simp [sizeLine])).imp fun v K' _ h => HasInts.of (ns := [x, y, z]) h
theorem lookup_of_mem {D : List (Str × List Int)} (hn : (D.map (·.1)).Nodup) : ∀ {p : Str × List Int}, p ∈ D → D.lookup p.1 = some p.2 := by
  induction D with
  | nil => intro p hp; cases hp
  | cons q r ih =>
    intro p hp
    rw [List.map_cons, List.nodup_cons] at hn
    rcases List.mem_cons.mp hp with rfl | hp
    · rw [List.lookup_cons_self]
    · have hne : p.1 ≠ q.1 := fun e => hn.1 (e ▸ List.mem_map_of_mem hp)
      have hb : (p.1 == q.1) = false := beq_false_of_ne hne
      rw [List.lookup_cons, hb]
      exact ih hn.2 hp
theorem pow29 {x : Int} {c : Nat} (hc : c ≤ 29) (h : x < 2 ^ c) : x < 2 ^ 30 := by
  have h1 : (2 : Nat) ^ c ≤ 2 ^ 30 := Nat.pow_le_pow_right (by decide) (by omega)
  have h2 : ((2 : Int) ^ c) ≤ 2 ^ 30 := by exact_mod_cast h1
  omega
set_option maxHeartbeats 4000000 in
theorem two_right_ct {x y : Int} {c : Nat} {xj : Addr} {vx vy vw : Value} (J : IsInst K 857 (Str.ofString "reckon_bits") xj) (hx : Has K (.int x) vx) (hy : Has K (.int y) vy) (hw : Has K (.int (c : Int)) vw) (hc0 : 1 ≤ c) (hc : c ≤ 16) (hx0 : 0 ≤ x) (hx1 : x < 2 ^ c) (hy0 : 0 ≤ y) (hy1 : y < 2 ^ c) :
    Op prog w (KK w.params) mg mb (n + 4) md K (PySem.call (.ref 931) [.ref xj, vx, vy, vw]) (fun v K => Has K (.val (.bool true)) v) := by
  refine' op_def (f := 931) [Str.ofString "judge", Str.ofString "x", Str.ofString "y", Str.ofString "wide"] ?ho ?hcd ?hco ?hgen ?hk ?hb ?hl ?hnd ?hst (J := fun fl K _ => ∃ v, fl = .ret v ∧ (fun v K => Has K (.val (.bool true)) v) v K) ?run ?hj
  case ho => k_is
  case hcd => k_is
  case hco => exact rfl
  case hgen => exact rfl
  case hk => exact rfl
  case hb => exact rfl
  case hl => exact rfl
  case hnd => decide
  case hst => exact rfl
  case hj =>
    rintro fl K' m' _ ⟨v, rfl, h⟩
    exact h
  case run =>
    have hx30 := pow29 (by omega) hx1
    have hy30 := pow29 (by omega) hy1
    refine Run.swap2 (T := .ints (rowI x c)) (U := .ints (rowI y c)) (fun L => Ev.tupleT (Evs.consT ?e1 (Evs.consT ?e2 Evs.nilT rfl) rfl) (by simp [sizeLine])) rfl (fun vo vt K1 hK1 ho ht => ?_) (by intro _; rfl) (by intro _; rfl)
    case e1 => exact Ev.call (Ts := [.int x, .int (c : Int)]) (Ev.glob rfl (by k_is) rfl) (by k_is) rfl (Evs.consT (Ev.name (v := vx) rfl (hx)) (Evs.consT (Ev.name (v := vw) rfl (hw)) Evs.nilT rfl) rfl) (fun vals KK _ hv => by obtain ⟨p, q, rfl, a1, a2⟩ := two hv; exact row_ct a1 a2 (by omega)) rfl
    case e2 => exact Ev.call (Ts := [.int y, .int (c : Int)]) (Ev.glob rfl (by k_is) rfl) (by k_is) rfl (Evs.consT (Ev.name (v := vy) rfl (hy)) (Evs.consT (Ev.name (v := vw) rfl (hw)) Evs.nilT rfl) rfl) (fun vals KK _ hv => by obtain ⟨p, q, rfl, a1, a2⟩ := two hv; exact row_ct a1 a2 (by omega)) rfl
    refine Run.assign (P := fun v K' => IsTab prog w K' (dueI (rowI x c) (rowI y c) y.toNat) v) rfl (fun L => ?due) (fun vd K2 hK2 hd => ?_) (by intro _; rfl)
    case due =>
      refine Ev.call (Ts := [.ints (rowI x c), .ints (rowI y c)]) (Ev.glob rfl (by k_is) rfl) (by k_is) rfl (Evs.consT (Ev.name (v := vo) rfl (ho)) (Evs.consT (Ev.name (v := vt) rfl (ht)) Evs.nilT rfl) rfl) (fun vals KK _ hv => ?_) rfl
      obtain ⟨p, q, rfl, a1, a2⟩ := two hv
      exact due_ct a1 a2 (by simp [rowI_len]) (by simp [rowI_len]; omega) (by rw [val_law hy0 hy1]; omega) (row_bits x c) (row_bits y c)
    have hx2 : Has K2 (.int x) vx := (hx.mono hK1).mono hK2
    have hy2 : Has K2 (.int y) vy := (hy.mono hK1).mono hK2
    have hw2 : Has K2 (.int (c : Int)) vw := (hw.mono hK1).mono hK2
    have ho2 : Has K2 (.ints (rowI x c)) vo := ho.mono hK2
    have ht2 : Has K2 (.ints (rowI y c)) vt := ht.mono hK2
    have J2 : IsInst K2 857 (Str.ofString "reckon_bits") xj := IsInst.mono (fun a o e => hK2 a o (hK1 a o e)) J
    refine Run.skip (fun L => Tst.cmpP (P1 := fun v K => IsListOf K [] v) (P2 := fun v K => IsListOf K [] v) ?comp (mono_list _) (Ev.listT (Ts := []) Evs.nilT (by simp [sizeLine])) (mono_list _) (fun _ _ _ p1 p2 => op_ne0 p1 p2) rfl) (fun K3 hK3 => ?_)
    case comp =>
      refine Ev.compF (names := [(Str.ofString "op")]) (cap := [(Str.ofString "judge"), (Str.ofString "x"), (Str.ofString "y"), (Str.ofString "wide"), (Str.ofString "due")]) (xs := (dueI (rowI x c) (rowI y c) y.toNat).map fun p => .one (.str p.1)) (Iter.dict (Ev.name (v := vd) rfl hd)) (.name _ _) ?_ rfl (by decide) rfl (by decide) (by decide) (.cons ⟨rfl, rfl, rfl, rfl⟩ (.cons ⟨rfl, rfl, rfl, rfl⟩ (.cons ⟨rfl, rfl, rfl, rfl⟩ (.cons ⟨rfl, rfl, rfl, rfl⟩ (.cons ⟨rfl, rfl, rfl, rfl⟩ .nil))))) ?_ (by intro _; rfl)
      · intro it hit
        obtain ⟨T, _, rfl⟩ := List.mem_map.mp hit
        rfl
      · intro i it bs K4 C hit hK4 hB
        rw [List.getElem?_map] at hit
        obtain ⟨p, hp, rfl⟩ := Option.map_eq_some_iff.mp hit
        have hpm := List.mem_of_getElem? hp
        have hlook := lookup_of_mem (D := dueI (rowI x c) (rowI y c) y.toNat) (by show List.Nodup [Str.ofString "bvand", Str.ofString "bvor", Str.ofString "bvxor", Str.ofString "bvadd", Str.ofString "bvsub", Str.ofString "bvmul", Str.ofString "bvshl", Str.ofString "bvlshr", Str.ofString "bvudiv", Str.ofString "bvurem"]; decide) hpm
        obtain ⟨r, hr, hr0, hr1, hrow, n1, n2, n3⟩ := due_law hc0 hx0 hx1 hy0 hy1 p hpm
        have HK : ∀ a o, K a o → K4 a o := fun a o e => hK4 a o (hK2 a o (hK1 a o e))
        cases hB with
        | one hvo =>
          refine Tst.cmp (T1 := .ints p.2) (T2 := .ints p.2) ?told ?sub (fun _ _ _ p1 p2 => (op_neL p1 p2).imp fun v K' _ h => by simpa using h) rfl
          case told =>
            rw [hrow]
            exact Ev.call (Ts := [.val (.ref xj), .str p.1, .ints [x, y], .int 0, .int (c : Int), .int (c : Int)]) (Ev.glob rfl (by k_is) rfl) (by k_is) rfl (Evs.consT (Ev.name (v := .ref xj) rfl rfl) (Evs.consT (Ev.name rfl hvo) (Evs.consT (Ev.ints2 (Ev.name (v := vx) rfl (hx2.mono hK4)) (Ev.name (v := vy) rfl (hy2.mono hK4)) rfl rfl) (Evs.consT (Ev.cint) (Evs.consT (Ev.name (v := vw) rfl (hw2.mono hK4)) (Evs.consT (Ev.name (v := vw) rfl (hw2.mono hK4)) Evs.nilT rfl) rfl) rfl) rfl) rfl) rfl) (fun vals KK hKK hv => by
      obtain ⟨a1, a2, a3, a4, a5, a6, rfl, b1, b2, b3, b4, b5, b6⟩ := six hv
      obtain rfl := b1
      exact told_ct (high := 0) (low := 0) (IsInst.mono (fun a o e => hKK a o (HK a o e)) J) b2 (IsListOf.ints b3) (fun e => absurd e n1) b5 b6 (fun e => absurd e n2) (fun e => absurd e n3) rfl rfl (by simp) hx0 hx30 hy0 hy30 (by omega) (by omega) hr hr0 hr1) rfl
          case sub => exact Ev.sub (P1 := fun v K => IsTab prog w K (dueI (rowI x c) (rowI y c) y.toNat) v) (P2 := fun v K => Has K (.str p.1) v) (Ev.name (v := vd) rfl (hd.mono hK4)) (mono_tab _) (Ev.name rfl hvo) (mono_has _) fun _ _ _ _ p1 p2 => get_tab hlook p1 p2
    refine Run.skip (fun L => Tst.cmp (T1 := .ints (rowI (2 ^ c - 1 - x) c)) (T2 := .ints (rowI (2 ^ c - 1 - x) c)) ?l1 ?r1 (fun _ _ _ p1 p2 => (op_neL p1 p2).imp fun v K' _ h => by simpa using h) rfl) (fun K5 hK5 => ?_)
    case l1 =>
      have HK : ∀ a o, K a o → K3 a o := fun a o e => hK3 a o (hK2 a o (hK1 a o e))
      exact Ev.call (Ts := [.val (.ref xj), .str (Str.ofString "bvnot"), .ints [x], .int 0, .int (c : Int), .int (c : Int)]) (Ev.glob rfl (by k_is) rfl) (by k_is) rfl (Evs.consT (Ev.name (v := .ref xj) rfl rfl) (Evs.consT (Ev.cstr) (Evs.consT (Ev.ints1 (Ev.name (v := vx) rfl (hx2.mono hK3)) rfl) (Evs.consT (Ev.cint) (Evs.consT (Ev.name (v := vw) rfl (hw2.mono hK3)) (Evs.consT (Ev.name (v := vw) rfl (hw2.mono hK3)) Evs.nilT rfl) rfl) rfl) rfl) rfl) rfl) (fun vals KK hKK hv => by
      obtain ⟨a1, a2, a3, a4, a5, a6, rfl, b1, b2, b3, b4, b5, b6⟩ := six hv
      obtain rfl := b1
      exact told_ct (high := 0) (low := 0) (IsInst.mono (fun a o e => hKK a o (HK a o e)) J) b2 (IsListOf.ints b3) (fun e => absurd e (by decide)) b5 b6 (fun e => absurd e (by decide)) (fun e => absurd e (by decide)) rfl rfl (by simp) hx0 hx30 hx0 hx30 (by omega) (by omega) (r := 2 ^ c - 1 - x) rfl (by omega) (by omega)) rfl
    case r1 =>
      rw [not_law hx0 hx1]
      exact Ev.call (Ts := [.ints (rowI x c)]) (Ev.glob rfl (by k_is) rfl) (by k_is) rfl (Evs.consT (Ev.name (v := vo) rfl (ho2.mono hK3)) Evs.nilT rfl) (fun vals KK _ hv => by obtain ⟨p, rfl, a1⟩ := one_of hv; exact turned_ct a1 (by simp [rowI_len]; omega)) rfl
    have hm0 : 0 ≤ (-x).fmod (2 ^ c) := Int.fmod_nonneg_of_pos _ (Int.pow_pos (by decide))
    have hm1 : (-x).fmod (2 ^ c) < 2 ^ c := Int.fmod_lt_of_pos _ (Int.pow_pos (by decide))
    refine Run.skip (fun L => Tst.cmp (T1 := .ints (rowI ((-x).fmod (2 ^ c)) c)) (T2 := .ints (rowI ((-x).fmod (2 ^ c)) c)) ?l2 ?r2 (fun _ _ _ p1 p2 => (op_neL p1 p2).imp fun v K' _ h => by simpa using h) rfl) (fun K6 hK6 => ?_)
    case l2 =>
      have HK : ∀ a o, K a o → K5 a o := fun a o e => hK5 a o (hK3 a o (hK2 a o (hK1 a o e)))
      exact Ev.call (Ts := [.val (.ref xj), .str (Str.ofString "bvneg"), .ints [x], .int 0, .int (c : Int), .int (c : Int)]) (Ev.glob rfl (by k_is) rfl) (by k_is) rfl (Evs.consT (Ev.name (v := .ref xj) rfl rfl) (Evs.consT (Ev.cstr) (Evs.consT (Ev.ints1 (Ev.name (v := vx) rfl ((hx2.mono hK3).mono hK5)) rfl) (Evs.consT (Ev.cint) (Evs.consT (Ev.name (v := vw) rfl ((hw2.mono hK3).mono hK5)) (Evs.consT (Ev.name (v := vw) rfl ((hw2.mono hK3).mono hK5)) Evs.nilT rfl) rfl) rfl) rfl) rfl) rfl) (fun vals KK hKK hv => by
      obtain ⟨a1, a2, a3, a4, a5, a6, rfl, b1, b2, b3, b4, b5, b6⟩ := six hv
      obtain rfl := b1
      exact told_ct (high := 0) (low := 0) (IsInst.mono (fun a o e => hKK a o (HK a o e)) J) b2 (IsListOf.ints b3) (fun e => absurd e (by decide)) b5 b6 (fun e => absurd e (by decide)) (fun e => absurd e (by decide)) rfl rfl (by simp) hx0 hx30 hx0 hx30 (by omega) (by omega) (r := (-x).fmod (2 ^ c)) rfl hm0 hm1) rfl
    case r2 =>
      rw [neg_law hx0 hx1]
      refine Ev.call (Ts := [.ints (turnI (rowI x c)), .ints (List.replicate c 0), .int 1]) (Ev.glob rfl (by k_is) rfl) (by k_is) rfl (Evs.consT (Ev.call (Ts := [.ints (rowI x c)]) (Ev.glob rfl (by k_is) rfl) (by k_is) rfl (Evs.consT (Ev.name (v := vo) rfl ((ho2.mono hK3).mono hK5)) Evs.nilT rfl) (fun vals KK _ hv => by obtain ⟨p, rfl, a1⟩ := one_of hv; exact turned_ct a1 (by simp [rowI_len]; omega)) rfl) (Evs.consT (Ev.rep Ev.cint (Ev.name (v := vw) rfl ((hw2.mono hK3).mono hK5)) (by omega)) (Evs.consT Ev.cint Evs.nilT rfl) rfl) rfl) (fun vals KK _ hv => ?_) rfl
      obtain ⟨p, q, r, rfl, a1, a2, a3⟩ := three hv
      exact sum_ct a1 a2 a3 (by simp [turnI_len, rowI_len]; omega)
    have HK6 : ∀ a o, K2 a o → K6 a o := fun a o e => hK6 a o (hK5 a o (hK3 a o e))
    refine Run.ret (P := fun v K' => Has K' (.val (.bool true)) v) (fun L => Ev.cmpP (P1 := fun v K => IsListOf K [.ints (rowI y c), .ints (rowI x c)] v) (P2 := fun v K => IsListOf K [.ints (rowI y c), .ints (rowI x c)] v) ?l3 (mono_list _) (Ev.listT (Evs.consT (Ev.name (v := vt) rfl (ht2.mono HK6)) (Evs.consT (Ev.name (v := vo) rfl (ho2.mono HK6)) Evs.nilT rfl) rfl) (by simp [sizeLine])) (mono_list _) (fun _ _ _ p1 p2 => op_eq2 p1 p2) rfl) (fun v K' _ h => ⟨v, rfl, h⟩)
    refine Ev.comp (names := [(Str.ofString "truth")]) (cap := [(Str.ofString "judge"), (Str.ofString "x"), (Str.ofString "y"), (Str.ofString "wide")]) (xs := [Ty.int 0, Ty.int 1].map .one) (Us := [.ints (rowI y c), .ints (rowI x c)]) (Iter.tuple (Ev.tupleT (Evs.consT Ev.cint (Evs.consT Ev.cint Evs.nilT rfl) rfl) (by simp [sizeLine]))) (.name _ _) ?_ rfl (by decide) rfl (by decide) (by decide) (.cons ⟨rfl, rfl, rfl, rfl⟩ (.cons ⟨rfl, rfl, rfl, rfl⟩ (.cons ⟨rfl, rfl, rfl, rfl⟩ (.cons ⟨rfl, rfl, rfl, rfl⟩ .nil)))) rfl (by simp [sizeLine]) ?_ (by intro _; rfl)
    · intro it hit
      obtain ⟨T, _, rfl⟩ := List.mem_map.mp hit
      rfl
    · intro i it U bs K7 C hit hU hK7 hB
      have HK : ∀ a o, K a o → K7 a o := fun a o e => hK7 a o (HK6 a o (hK2 a o (hK1 a o e)))
      match i with
      | 0 =>
        cases hit
        cases hU
        cases hB with
        | one hvo => exact Ev.call (Ts := [.val (.ref xj), .str (Str.ofString "ite"), .ints [0, x, y], .int 0, .int (c : Int), .int (c : Int)]) (Ev.glob rfl (by k_is) rfl) (by k_is) rfl (Evs.consT (Ev.name (v := .ref xj) rfl rfl) (Evs.consT (Ev.cstr) (Evs.consT (Ev.ints3 (Ev.name rfl hvo) (Ev.name (v := vx) rfl ((hx2.mono HK6).mono hK7)) (Ev.name (v := vy) rfl ((hy2.mono HK6).mono hK7)) rfl rfl rfl) (Evs.consT (Ev.cint) (Evs.consT (Ev.name (v := vw) rfl ((hw2.mono HK6).mono hK7)) (Evs.consT (Ev.name (v := vw) rfl ((hw2.mono HK6).mono hK7)) Evs.nilT rfl) rfl) rfl) rfl) rfl) rfl) (fun vals KK hKK hv => by
      obtain ⟨a1, a2, a3, a4, a5, a6, rfl, b1, b2, b3, b4, b5, b6⟩ := six hv
      obtain rfl := b1
      exact told_ct (high := 0) (low := 0) (IsInst.mono (fun a o e => hKK a o (HK a o e)) J) b2 (IsListOf.ints b3) (fun e => absurd e (by decide)) b5 b6 (fun _ => ⟨_, _, _, rfl⟩) (fun e => absurd e (by decide)) rfl rfl (by simp) (by decide) (by decide) hy0 hy30 (by omega) (by omega) (r := y) rfl hy0 hy1) rfl
      | 1 =>
        cases hit
        cases hU
        cases hB with
        | one hvo => exact Ev.call (Ts := [.val (.ref xj), .str (Str.ofString "ite"), .ints [1, x, y], .int 0, .int (c : Int), .int (c : Int)]) (Ev.glob rfl (by k_is) rfl) (by k_is) rfl (Evs.consT (Ev.name (v := .ref xj) rfl rfl) (Evs.consT (Ev.cstr) (Evs.consT (Ev.ints3 (Ev.name rfl hvo) (Ev.name (v := vx) rfl ((hx2.mono HK6).mono hK7)) (Ev.name (v := vy) rfl ((hy2.mono HK6).mono hK7)) rfl rfl rfl) (Evs.consT (Ev.cint) (Evs.consT (Ev.name (v := vw) rfl ((hw2.mono HK6).mono hK7)) (Evs.consT (Ev.name (v := vw) rfl ((hw2.mono HK6).mono hK7)) Evs.nilT rfl) rfl) rfl) rfl) rfl) rfl) (fun vals KK hKK hv => by
      obtain ⟨a1, a2, a3, a4, a5, a6, rfl, b1, b2, b3, b4, b5, b6⟩ := six hv
      obtain rfl := b1
      exact told_ct (high := 0) (low := 0) (IsInst.mono (fun a o e => hKK a o (HK a o e)) J) b2 (IsListOf.ints b3) (fun e => absurd e (by decide)) b5 b6 (fun _ => ⟨_, _, _, rfl⟩) (fun e => absurd e (by decide)) rfl rfl (by simp) (by decide) (by decide) hy0 hy30 (by omega) (by omega) (r := x) rfl hx0 hx1) rfl
      | i + 2 => cases hit
end
end Mine
end

-- FnI
section
set_option maxRecDepth 100000
namespace Mine
section
variable {prog : Program} {w : World} {mg mb : Str → Option Value} {n : Nat} {md : Mode} {K : Kn}

theorem op_defT {Kf : Frag} {md1 : Mode} {f : Addr} {oc : Value} {od : Option Addr} {osl : Array (Option Value)} {name qual : Str} {params : Arguments} {body : List Stmt} {scope : Scope} {dV kV doc pm cdv ct : Value} {an : Option Addr}
    {vals : List Value} {P : Value → Kn → Prop} {J : JT} (c1 : md1.c = md.c) (names : List Str)
    (ho : Kf.lookup f = some ⟨oc, od, .func (fnOf name qual params body scope dV kV doc pm an cdv ct), osl⟩) (hcd : codeIn Kf cdv qual = true) (hco : scope.isCoroutine = false) (hgen : scope.isGenerator = false) (hk : scope.kind = .function)
    (hbind : bindArgs (fnOf name qual params body scope dV kV doc pm an cdv ct) ⟨vals, []⟩ = pure (names.zip vals)) (hlen : names.length = vals.length)
    (hnd : names.Nodup) (hst : names.all (storesB scope) = true)
    (run : RunT prog w Kf mg mb n md md1 (fnOf name qual params body scope dV kV doc pm an cdv ct) f K (bm (names.zip vals)) body J) (hj : ∀ fl K' m', (∀ a o, K a o → K' a o) → J fl K' m' → P (match fl with | .ret v => v | _ => .none) K') :
    OpT prog w Kf mg mb (n + 1) md md1 K (PySem.call (.ref f) vals) P := by
  have hs : ∀ p ∈ names.zip vals, storesB scope p.1 = true := fun p hp => List.all_eq_true.mp hst p.1 (by
    have := List.mem_map_of_mem (f := (·.1)) hp
    rwa [zip_fst names vals hlen] at this)
  refine op_callT c1 (fd := fnOf name qual params body scope dV kV doc pm an cdv ct) ⟨⟨_, ho, rfl⟩, hcd, rfl, rfl, rfl, rfl, hco, hgen, hk⟩ hbind (by rw [zip_fst names vals hlen]; exact hnd) (fun p hp => ?_) (fun p hp => ?_) run hj
  · exact Stores.db (fd := fnOf name qual params body scope dV kV doc pm an cdv ct) (hs p hp)
  · have h := fun L => Stores.at (fd := fnOf name qual params body scope dV kV doc pm an cdv ct) (hs p hp) L
    rcases h 0 with h0 | h0
    · exact .inl h0
    · exact .inr ⟨h0.1, fun L => by
        rcases h L with h1 | h1
        · rw [h0.1] at h1; cases h1
        · exact Option.isSome_iff_exists.mpr h1.2⟩
noncomputable def Below (many : Nat) (v : Value) (K : Kn) : Prop := ∃ r : Nat, r < many ∧ Has K (.int (r : Int)) v
theorem mono_below (many : Nat) : Mono (Below many) := fun _ _ _ h ⟨r, x, y⟩ => ⟨r, x, y.mono h⟩
noncomputable def SomeInt (v : Value) (K : Kn) : Prop := ∃ i : Int, Has K (.int i) v
theorem mono_some : Mono SomeInt := fun _ _ _ h ⟨r, y⟩ => ⟨r, y.mono h⟩
theorem small_mul {k : Nat} (h : k ≤ 100000) : Builtin.Int.intBits (6 * (k : Int)) ≤ 64 := PySem.intBits_le_64 (by omega) (by omega)
set_option maxHeartbeats 2000000 in
theorem tap_ct {a lc : Addr} {b : Nat} {cells : List Int} (hc : Has K (.ints cells) (.ref lc)) (hcl : cells.length ≤ 1000) {many : Nat} {vm : Value} (hm : Has K (.int (many : Int)) vm) (hb : b ≤ 1000) (hmany : 1 ≤ many) :
    OpT prog w (KK w.params) mg mb (n + 1) (cm prog w a lc b) (cm prog w a lc (b + 1)) K (PySem.call (.ref 869) [.ref a, vm]) (fun v K => Below many v K) := by
  refine' op_defT (md1 := cm prog w a lc (b + 1)) rfl (f := 869) [Str.ofString "cask", Str.ofString "many"] ?ho ?hcd ?hco ?hgen ?hk ?hb ?hl ?hnd ?hst (J := fun fl K _ => ∃ v, fl = .ret v ∧ (fun v K => Below many v K) v K) ?run ?hj
  case ho => k_is
  case hcd => k_is
  case hco => exact rfl
  case hgen => exact rfl
  case hk => exact rfl
  case hb => exact rfl
  case hl => exact rfl
  case hnd => decide
  case hst => exact rfl
  case hj =>
    rintro fl K' m' _ ⟨v, rfl, h⟩
    exact h
  case run =>
    refine RunT.assign (md1 := cm prog w a lc b) (P := fun v K => Below (b + 1) v K) rfl rfl rfl rfl (fun L => EvT.of (Ev.cask rfl fun k t hk => ⟨_, cask_at k t, k, by omega, t, rfl⟩)) (fun va K1 hK1 ha => ?_) (by intro _; rfl)
    obtain ⟨k, hkb, ha⟩ := ha
    refine RunT.setAt (k := k + 1) rfl rfl (fun L => Ev.binT (T1 := .int (k : Int)) (T2 := .int 1) (Ev.name (v := va) rfl ha) Ev.cint fun _ _ _ p1 p2 => (op_add p1 p2).imp fun v K' _ h => by simpa using h) (by omega) (fun K2 hK2 => ?_) (by intro _; rfl)
    have HC : Has K2 (.ints cells) (.ref lc) := HasInts.mono hK2 (HasInts.mono hK1 hc)
    have HA := ha.mono hK2
    refine RunT.ret (P := fun v K' => Below many v K') rfl rfl (fun L => EvT.of ?_) (fun v K' _ h => ⟨v, rfl, h⟩)
    refine Ev.bin (P1 := SomeInt) (P2 := fun v K => Has K (.int (many : Int)) v) ?_ mono_some (Ev.name (v := vm) rfl ((hm.mono hK1).mono hK2)) (mono_has _) (fun v1 v2 K' _ p1 p2 => ?_)
    · refine Ev.ifExp (b := decide ((k : Int) < (cells.length : Int))) (Tst.cmp (T1 := .int (k : Int)) (T2 := .int (cells.length : Int)) (Ev.name (v := va) rfl HA) (Ev.len (Ev.boot rfl (by k_is) rfl rfl) (Ev.cask (a := a) (lc := lc) rfl (P := fun v K => Has K (.ints cells) v) (fun k t _ => ⟨_, cask_cells k t, HC⟩)) (by omega)) (fun _ _ _ p1 p2 => op_lt p1 p2) rfl) (fun hb => ?_) (fun hb => ?_) mono_some
      · have hb' : k < cells.length := by simpa using hb
        exact Ev.imp (P := fun v K => Has K (.int cells[k]) v) (Ev.sub (P1 := fun v K => Has K (.ints cells) v) (P2 := fun v K => Has K (.int (k : Int)) v) (Ev.cask (a := a) (lc := lc) rfl (P := fun v K => Has K (.ints cells) v) (fun k t _ => ⟨_, cask_cells k t, HC⟩)) (mono_has _) (Ev.name (v := va) rfl HA) (mono_has _) fun _ _ _ _ p1 p2 => get_list (Ts := cells.map .int) (T := .int cells[k]) (by omega) (by omega) (by simp [hb']) (IsListOf.ints p1) p2) (fun v K' _ h => ⟨_, h⟩)
      · refine Ev.imp (P := fun v K => Has K (.int ((6 * (k : Int) * k + 11 * k + 3).fmod 107)) v) ?_ (fun v K' _ h => ⟨_, h⟩)
        exact Ev.binT (T1 := .int (6 * (k : Int) * k + 11 * k + 3)) (T2 := .int 107) (Ev.binT (T1 := .int (6 * (k : Int) * k + 11 * k)) (T2 := .int 3) (Ev.binT (T1 := .int (6 * (k : Int) * k)) (T2 := .int (11 * (k : Int))) (Ev.binT (T1 := .int (6 * (k : Int))) (T2 := .int (k : Int)) (Ev.binT (T1 := .int 6) (T2 := .int (k : Int)) Ev.cint (Ev.name (v := va) rfl HA) fun _ _ _ p1 p2 => op_mul (IntMulOk.of_left (PySem.intBits_le_64 (by decide) (by decide))) p1 p2) (Ev.name (v := va) rfl HA) fun _ _ _ p1 p2 => op_mul (IntMulOk.of_left (small_mul (by omega))) p1 p2)
          (Ev.binT (T1 := .int 11) (T2 := .int (k : Int)) Ev.cint (Ev.name (v := va) rfl HA) fun _ _ _ p1 p2 => op_mul (IntMulOk.of_left (PySem.intBits_le_64 (by decide) (by decide))) p1 p2) fun _ _ _ p1 p2 => op_add p1 p2) Ev.cint fun _ _ _ p1 p2 => op_add p1 p2) Ev.cint fun _ _ _ p1 p2 => op_mod (by decide) p1 p2
    · obtain ⟨i, p1⟩ := p1
      refine (op_mod (by omega) p1 p2).imp fun v K'' _ h => ?_
      have h1 := Int.fmod_nonneg_of_pos i (b := (many : Int)) (by omega)
      have h2 := Int.fmod_lt_of_pos i (b := (many : Int)) (by omega)
      exact ⟨(i.fmod many).toNat, by omega, by rw [Int.toNat_of_nonneg h1]; exact h⟩

theorem pow_cast (c : Nat) : (((2 ^ c : Nat) : Nat) : Int) = (2 : Int) ^ c := by push_cast; rfl
set_option maxHeartbeats 2000000 in
theorem number_ct {a lc : Addr} {b : Nat} {cells : List Int} (hc : Has K (.ints cells) (.ref lc)) (hcl : cells.length ≤ 1000) {c : Nat} {vw : Value} (hw : Has K (.int (c : Int)) vw) (hb : b ≤ 900) (hc0 : 1 ≤ c) (hc1 : c ≤ 16) :
    OpT prog w (KK w.params) mg mb (n + 2) (cm prog w a lc b) (cm prog w a lc (b + 3)) K (PySem.call (.ref 876) [.ref a, vw]) (fun v K => Below (2 ^ c) v K) := by
  refine' op_defT (md1 := cm prog w a lc (b + 3)) rfl (f := 876) [Str.ofString "cask", Str.ofString "wide"] ?ho ?hcd ?hco ?hgen ?hk ?hb ?hl ?hnd ?hst (J := fun fl K _ => ∃ v, fl = .ret v ∧ (fun v K => Below (2 ^ c) v K) v K) ?run ?hj
  case ho => k_is
  case hcd => k_is
  case hco => exact rfl
  case hgen => exact rfl
  case hk => exact rfl
  case hb => exact rfl
  case hl => exact rfl
  case hnd => decide
  case hst => exact rfl
  case hj =>
    rintro fl K' m' _ ⟨v, rfl, h⟩
    exact h
  case run =>
    have hp0 : 0 < 2 ^ c := Nat.pow_pos (by decide)
    have hp1 : 2 ≤ 2 ^ c := by
      have : 2 ^ 1 ≤ 2 ^ c := Nat.pow_le_pow_right (by decide) hc0
      simpa using this
    have hp2 : 2 ^ c ≤ 2 ^ 16 := Nat.pow_le_pow_right (by decide) hc1
    refine RunT.swap2 (md1 := cm prog w a lc (b + 1)) (P1 := Below 5) (P2 := fun v K => Has K (.int ((2 ^ c : Nat) : Int)) v) rfl rfl rfl (fun L => EvT.tup2 (md1 := cm prog w a lc (b + 1)) (P1 := Below 5) (P2 := fun v K => Has K (.int ((2 ^ c : Nat) : Int)) v) rfl rfl ?t1 (mono_below _) (fun K' hK' => EvT.of ?t2) (mono_has _) rfl rfl) rfl (fun vy vr K1 hK1 hy hr => ?_) (by intro _; rfl) (by intro _; rfl)
    case t1 => exact EvT.call (md1 := cm prog w a lc (b + 1)) (Ts := [.val (.ref a), .int ((5 : Nat) : Int)]) (Ev.glob rfl (by k_is) rfl) (by k_is) rfl (Evs.consT (Ev.name (v := .ref a) rfl rfl) (Evs.consT (Ev.cint) Evs.nilT rfl) rfl) (fun vals KK hKK hv => by
      obtain ⟨p, q, rfl, a1, a2⟩ := two hv
      obtain rfl := a1
      exact tap_ct (hc.mono fun a o e => hKK a o (e)) hcl a2 (by omega) (by omega)) rfl rfl
    case t2 => exact Ev.imp (P := fun v K => Has K (.int (2 ^ ((c : Int)).toNat)) v) (Ev.binT (T1 := .int 2) (T2 := .int (c : Int)) Ev.cint (Ev.name (v := vw) rfl (hw.mono hK')) fun _ _ _ p1 p2 => op_pow (by omega) (by omega) (by decide) p1 p2) (fun v K' _ h => by rw [int_cast_pow] at h; rw [pow_cast]; exact h)
    obtain ⟨way, hway, hy⟩ := hy
    refine RunT.assign (md1 := cm prog w a lc (b + 3)) (P := Below (2 ^ c)) rfl rfl rfl rfl (fun L => ?_) (fun vd K2 hK2 hd => ?_) (by intro _; rfl)
    · refine EvT.bin (md1 := cm prog w a lc (b + 3)) (P1 := SomeInt) (P2 := fun v K => Has K (.int ((2 ^ c : Nat) : Int)) v) rfl rfl ?_ mono_some (fun K' hK' => EvT.of (Ev.name (v := vr) rfl (hr.mono hK'))) (mono_has _) (fun v1 v2 K' _ p1 p2 => ?_)
      · refine EvT.bin (md1 := cm prog w a lc (b + 2)) (P1 := Below (2 ^ c)) (P2 := SomeInt) rfl rfl (EvT.call (md1 := cm prog w a lc (b + 1 + 1)) (Ts := [.val (.ref a), .int ((2 ^ c : Nat) : Int)]) (Ev.glob rfl (by k_is) rfl) (by k_is) rfl (Evs.consT (Ev.name (v := .ref a) rfl rfl) (Evs.consT (Ev.name (v := vr) rfl (hr)) Evs.nilT rfl) rfl) (fun vals KK hKK hv => by
      obtain ⟨p, q, rfl, a1, a2⟩ := two hv
      obtain rfl := a1
      exact tap_ct (hc.mono fun a o e => hKK a o (hK1 a o e)) hcl a2 (by omega) (by omega)) rfl rfl) (mono_below _) (fun K' hK' => ?_) mono_some (fun v1 v2 K' _ p1 p2 => ?_)
        · refine EvT.bin (md1 := cm prog w a lc (b + 2)) (P1 := fun v K => Has K (.int 103) v) (P2 := Below (2 ^ c)) rfl rfl (EvT.of Ev.cint) (mono_has _) (fun K'' hK'' => EvT.call (md1 := cm prog w a lc (b + 2 + 1)) (Ts := [.val (.ref a), .int ((2 ^ c : Nat) : Int)]) (Ev.glob rfl (by k_is) rfl) (by k_is) rfl (Evs.consT (Ev.name (v := .ref a) rfl rfl) (Evs.consT (Ev.name (v := vr) rfl ((hr.mono hK').mono hK'')) Evs.nilT rfl) rfl) (fun vals KK hKK hv => by
      obtain ⟨p, q, rfl, a1, a2⟩ := two hv
      obtain rfl := a1
      exact tap_ct (hc.mono fun a o e => hKK a o (hK'' a o (hK' a o (hK1 a o e)))) hcl a2 (by omega) (by omega)) rfl rfl) (mono_below _) (fun v1 v2 K3 _ p1 p2 => ?_)
          obtain ⟨r, hr', p2⟩ := p2
          exact (op_mul (IntMulOk.of_left (PySem.intBits_le_64 (by decide) (by decide))) p1 p2).imp fun v K4 _ h => ⟨_, h⟩
        · obtain ⟨r, hr', p1⟩ := p1
          obtain ⟨i, p2⟩ := p2
          exact (op_add p1 p2).imp fun v K4 _ h => ⟨_, h⟩
      · obtain ⟨i, p1⟩ := p1
        refine (op_mod (by omega) p1 p2).imp fun v K'' _ h => ?_
        have h1 := Int.fmod_nonneg_of_pos i (b := ((2 ^ c : Nat) : Int)) (by omega)
        have h2 := Int.fmod_lt_of_pos i (b := ((2 ^ c : Nat) : Int)) (by omega)
        exact ⟨(i.fmod ((2 ^ c : Nat) : Int)).toNat, by omega, by rw [Int.toNat_of_nonneg h1]; exact h⟩
    · obtain ⟨d, hd2, hd⟩ := hd
      have hr2 := hr.mono hK2
      have hy2 := hy.mono hK2
      have hdm : (((2 ^ c : Nat) : Int)).fdiv 2 = ((2 ^ c / 2 : Nat) : Int) := by
        rw [Int.fdiv_eq_ediv_of_nonneg _ (by decide)]; push_cast; rfl
      refine RunT.ret (P := Below (2 ^ c)) rfl rfl (fun L => EvT.of ?_) (fun v K' _ h => ⟨v, rfl, h⟩)
      have fin : ∀ (T : Ty), ([Ty.int (d : Int), .int 0, .int 1, .int (((2 ^ c : Nat) : Int) - 1), .int (((2 ^ c : Nat) : Int).fdiv 2)])[way]? = some T → ∃ i : Nat, i < 2 ^ c ∧ T = .int (i : Int) := fun T hT => by
        have hw5 : way = 0 ∨ way = 1 ∨ way = 2 ∨ way = 3 ∨ way = 4 := by omega
        rcases hw5 with rfl | rfl | rfl | rfl | rfl <;> cases hT
        · exact ⟨d, hd2, rfl⟩
        · exact ⟨0, by omega, rfl⟩
        · exact ⟨1, by omega, rfl⟩
        · exact ⟨2 ^ c - 1, by omega, by congr 1; omega⟩
        · exact ⟨2 ^ c / 2, by omega, by rw [hdm]⟩
      obtain ⟨T, hT⟩ : ∃ T, ([Ty.int (d : Int), .int 0, .int 1, .int (((2 ^ c : Nat) : Int) - 1), .int (((2 ^ c : Nat) : Int).fdiv 2)])[way]? = some T := ⟨_, List.getElem?_eq_getElem (by simpa using hway)⟩
      obtain ⟨i, hi, rfl⟩ := fin T hT
      refine Ev.imp (P := fun v K => Has K (.int (i : Int)) v) (Ev.sub (P1 := fun v K => IsTupOf K [Ty.int (d : Int), .int 0, .int 1, .int (((2 ^ c : Nat) : Int) - 1), .int (((2 ^ c : Nat) : Int).fdiv 2)] v) (P2 := fun v K => Has K (.int (way : Int)) v) (Ev.tupleT (Evs.consT (Ev.name (v := vd) rfl (hd)) (Evs.consT Ev.cint (Evs.consT Ev.cint (Evs.consT (Ev.binT (T1 := .int ((2 ^ c : Nat) : Int)) (T2 := .int 1) (Ev.name (v := vr) rfl (hr2)) Ev.cint fun _ _ _ p1 p2 => op_sub p1 p2) (Evs.consT (Ev.binT (T1 := .int ((2 ^ c : Nat) : Int)) (T2 := .int 2) (Ev.name (v := vr) rfl (hr2)) Ev.cint fun _ _ _ p1 p2 => op_fdiv (by decide) (PyProof.noPylong_small (by decide)) p1 p2) Evs.nilT rfl) rfl) rfl) rfl) rfl) (by simp [sizeLine])) (mono_tup _) (Ev.name (v := vy) rfl (hy2)) (mono_has _) fun _ _ _ _ p1 p2 => get_tup (by omega) (by omega) (by rw [Int.toNat_natCast]; exact hT) p1 p2) (fun v K' _ h => ⟨i, hi, h⟩)
end
end Mine
end

-- FnJ
section
set_option maxRecDepth 100000
namespace Mine
section
variable {prog : Program} {w : World} {mg mb : Str → Option Value} {n : Nat} {md : Mode} {K : Kn}

theorem pair_of {i j : Int} {v : Value} (h : IsTupOf K [.int i, .int j] v) : Has K (.pairI i j) v := by
  obtain ⟨a, k, vs, rfl, hk, hT⟩ := h
  cases hT with
  | cons x r => cases r with
    | cons y r =>
      cases r
      obtain ⟨t, rfl⟩ := x
      obtain ⟨u, rfl⟩ := y
      exact ⟨a, k, t, u, rfl, hk⟩
theorem of_pair {i j : Int} {v : Value} (h : Has K (.pairI i j) v) : IsTupOf K [.int i, .int j] v := by
  obtain ⟨a, k, t, u, rfl, hk⟩ := h
  exact ⟨a, k, _, rfl, hk, .cons ⟨t, rfl⟩ (.cons ⟨u, rfl⟩ .nil)⟩
noncomputable def Late (v : Value) (K : Kn) : Prop := ∃ l : Nat, 1 ≤ l ∧ l ≤ 9 ∧ Has K (.int (l : Int)) v
theorem mono_late : Mono Late := fun _ _ _ h ⟨r, x, x', y⟩ => ⟨r, x, x', y.mono h⟩
noncomputable def Upto (j k : Nat) (v : Value) (K : Kn) : Prop := ∃ r : Nat, j ≤ r ∧ r < k ∧ Has K (.int (r : Int)) v
theorem pow_pos2 (c : Nat) : (0 : Int) < 2 ^ c := Int.pow_pos (by decide)
theorem pow_mul2 (c d : Nat) : (2 : Int) ^ (c + d) = 2 ^ c * 2 ^ d := Int.pow_add 2 c d
theorem concat_range {x z : Int} {w l : Nat} (hx0 : 0 ≤ x) (hx1 : x < 2 ^ w) (hz0 : 0 ≤ z) (hz1 : z < 2 ^ l) : 0 ≤ x * 2 ^ l + z ∧ x * 2 ^ l + z < 2 ^ (w + l) := by
  have hp := pow_pos2 l
  have h1 : 0 ≤ x * 2 ^ l := Int.mul_nonneg hx0 (by omega)
  have h2 : (x + 1) * 2 ^ l ≤ 2 ^ w * 2 ^ l := Int.mul_le_mul_of_nonneg_right (by omega) (by omega)
  rw [Int.add_mul, Int.one_mul, ← pow_mul2] at h2
  omega
theorem pow_le2 {c d : Nat} (h : c ≤ d) : (2 : Int) ^ c ≤ 2 ^ d := by
  have : (2 : Nat) ^ c ≤ 2 ^ d := Nat.pow_le_pow_right (by decide) h
  exact_mod_cast this
theorem sign_range {x : Int} {w k : Nat} (hx0 : 0 ≤ x) (hx1 : x < 2 ^ w) : 0 ≤ (if x.fdiv (2 ^ (w - 1)) = 1 then x + (2 ^ (w + k) - 2 ^ w) else x) ∧ (if x.fdiv (2 ^ (w - 1)) = 1 then x + (2 ^ (w + k) - 2 ^ w) else x) < 2 ^ (w + k) := by
  have := pow_le2 (c := w) (d := w + k) (by omega)
  split <;> omega
theorem lastL_ne (x : Int) {w : Nat} (hw : 1 ≤ w) : (rowI x w).drop ((rowI x w).length - 1) ≠ [] := by
  intro h
  have := congrArg List.length h
  simp [rowI_len] at this
  omega
set_option maxHeartbeats 4000000 in
theorem widths_ct {a lc : Addr} {b : Nat} {cells : List Int} (hc : Has K (.ints cells) (.ref lc)) (hcl : cells.length ≤ 1000) {c : Nat} {x : Int} {xj : Addr} {vx vw : Value} (J : IsInst K 857 (Str.ofString "reckon_bits") xj) (hx : Has K (.int x) vx) (hw : Has K (.int (c : Int)) vw) (hb : b ≤ 900) (hc0 : 1 ≤ c) (hc1 : c ≤ 16) (hx0 : 0 ≤ x) (hx1 : x < 2 ^ c) :
    OpT prog w (KK w.params) mg mb (n + 3) (cm prog w a lc b) (cm prog w a lc (b + 5)) K (PySem.call (.ref 938) [.ref a, .ref xj, vx, vw]) (fun v K => Has K (.val (.bool true)) v) := by
  refine' op_defT (md1 := cm prog w a lc (b + 5)) rfl (f := 938) [Str.ofString "cask", Str.ofString "judge", Str.ofString "x", Str.ofString "wide"] ?ho ?hcd ?hco ?hgen ?hk ?hb ?hl ?hnd ?hst (J := fun fl K _ => ∃ v, fl = .ret v ∧ (fun v K => Has K (.val (.bool true)) v) v K) ?run ?hj
  case ho => k_is
  case hcd => k_is
  case hco => exact rfl
  case hgen => exact rfl
  case hk => exact rfl
  case hb => exact rfl
  case hl => exact rfl
  case hnd => decide
  case hst => exact rfl
  case hj =>
    rintro fl K' m' _ ⟨v, rfl, h⟩
    exact h
  case run =>
    have hx30 := pow29 (by omega) hx1
    refine RunT.swap2 (md1 := cm prog w a lc (b + 1)) (P1 := fun v K => Has K (.ints (rowI x c)) v) (P2 := Late) rfl rfl rfl (fun L => EvT.tup2 (md1 := cm prog w a lc b) (P1 := fun v K => Has K (.ints (rowI x c)) v) (P2 := Late) rfl rfl (EvT.of ?t1) (mono_has _) (fun K' hK' => ?t2) mono_late rfl rfl) rfl (fun vo vl K1 hK1 ho hl => ?_) (by intro _; rfl) (by intro _; rfl)
    case t1 => exact Ev.call (Ts := [.int x, .int ((c : Nat) : Int)]) (Ev.glob rfl (by k_is) rfl) (by k_is) rfl (Evs.consT (Ev.name (v := vx) rfl (hx)) (Evs.consT (Ev.name (v := vw) rfl (hw)) Evs.nilT rfl) rfl) (fun vals KK _ hv => by obtain ⟨p, q, rfl, a1, a2⟩ := two hv; exact row_ct a1 a2 (by omega)) rfl
    case t2 =>
      refine EvT.bin (md1 := cm prog w a lc b) (P1 := fun v K => Has K (.int 1) v) (P2 := Below 9) rfl rfl (EvT.of Ev.cint) (mono_has _) (fun K'' hK'' => EvT.call (md1 := cm prog w a lc (b + 1)) (Ts := [.val (.ref a), .int ((9 : Nat) : Int)]) (Ev.glob rfl (by k_is) rfl) (by k_is) rfl (Evs.consT (Ev.name (v := .ref a) rfl rfl) (Evs.consT (Ev.cint) Evs.nilT rfl) rfl) (fun vals KK hKK hv => by
      obtain ⟨p, q, rfl, a1, a2⟩ := two hv
      obtain rfl := a1
      exact tap_ct (hc.mono fun a o e => hKK a o (hK'' a o (hK' a o e))) hcl a2 (by omega) (by omega)) rfl rfl) (mono_below _) (fun v1 v2 K3 _ p1 p2 => ?_)
      obtain ⟨r, hr', p2⟩ := p2
      exact (op_add p1 p2).imp fun v K4 _ h => ⟨1 + r, by omega, by omega, by simpa using h⟩
    obtain ⟨l, hl1, hl9, hl⟩ := hl
    have hp9 : 0 < 2 ^ l := Nat.pow_pos (by decide)
    refine RunT.assign (md1 := cm prog w a lc (b + 2)) (P := Below (2 ^ l)) rfl rfl rfl rfl (fun L => ?_) (fun vz K2 hK2 hz => ?_) (by intro _; rfl)
    · exact EvT.call (md1 := cm prog w a lc (b + 1 + 1)) (Ts := [.val (.ref a), .int ((2 ^ l : Nat) : Int)]) (Ev.glob rfl (by k_is) rfl) (by k_is) rfl (Evs.consT (Ev.name (v := .ref a) rfl rfl) (Evs.consT (Ev.imp (P := fun v K => Has K (.int (2 ^ ((l : Int)).toNat)) v) (Ev.binT (T1 := .int 2) (T2 := .int (l : Int)) Ev.cint (Ev.name (v := vl) rfl (hl)) fun _ _ _ p1 p2 => op_pow (by omega) (by omega) (by decide) p1 p2) (fun v K' _ h => by rw [int_cast_pow] at h; rw [pow_cast]; exact h)) Evs.nilT rfl) rfl) (fun vals KK hKK hv => by
      obtain ⟨p, q, rfl, a1, a2⟩ := two hv
      obtain rfl := a1
      exact tap_ct (hc.mono fun a o e => hKK a o (hK1 a o e)) hcl a2 (by omega) (by omega)) rfl rfl
    obtain ⟨z, hz1, hz⟩ := hz
    have hzz : ((z : Nat) : Int) < 2 ^ l := by
      rw [← pow_cast]; omega
    have hz30 := pow29 (by omega) hzz
    refine RunT.assign (md1 := cm prog w a lc (b + 3)) (P := Below c) rfl rfl rfl rfl (fun L => ?_) (fun vlo K3 hK3 hlo => ?_) (by intro _; rfl)
    · exact EvT.call (md1 := cm prog w a lc (b + 2 + 1)) (Ts := [.val (.ref a), .int ((c : Nat) : Int)]) (Ev.glob rfl (by k_is) rfl) (by k_is) rfl (Evs.consT (Ev.name (v := .ref a) rfl rfl) (Evs.consT (Ev.name (v := vw) rfl ((hw.mono hK1).mono hK2)) Evs.nilT rfl) rfl) (fun vals KK hKK hv => by
      obtain ⟨p, q, rfl, a1, a2⟩ := two hv
      obtain rfl := a1
      exact tap_ct (hc.mono fun a o e => hKK a o (hK2 a o (hK1 a o e))) hcl a2 (by omega) (by omega)) rfl rfl
    obtain ⟨low, hlow, hlo⟩ := hlo
    refine RunT.assign (md1 := cm prog w a lc (b + 4)) (P := Upto low c) rfl rfl rfl rfl (fun L => ?_) (fun vhi K4 hK4 hhi => ?_) (by intro _; rfl)
    · refine EvT.bin (md1 := cm prog w a lc (b + 3)) (P1 := fun v K => Has K (.int (low : Int)) v) (P2 := Below (c - low)) rfl rfl (EvT.of (Ev.name (v := vlo) rfl (hlo))) (mono_has _) (fun K'' hK'' => ?_) (mono_below _) (fun v1 v2 K9 _ p1 p2 => ?_)
      · exact EvT.call (md1 := cm prog w a lc (b + 3 + 1)) (Ts := [.val (.ref a), .int ((c - low : Nat) : Int)]) (Ev.glob rfl (by k_is) rfl) (by k_is) rfl (Evs.consT (Ev.name (v := .ref a) rfl rfl) (Evs.consT (Ev.binT (T1 := .int (c : Int)) (T2 := .int (low : Int)) (Ev.name (v := vw) rfl (((hw.mono hK1).mono hK2).mono hK3 |>.mono hK'')) (Ev.name (v := vlo) rfl (hlo.mono hK'')) fun _ _ _ p1 p2 => (op_sub p1 p2).imp fun v K' _ h => by rw [show ((c - low : Nat) : Int) = (c : Int) - (low : Int) by omega]; exact h) Evs.nilT rfl) rfl) (fun vals KK hKK hv => by
      obtain ⟨p, q, rfl, a1, a2⟩ := two hv
      obtain rfl := a1
      exact tap_ct (hc.mono fun a o e => hKK a o (hK'' a o (hK3 a o (hK2 a o (hK1 a o e))))) hcl a2 (by omega) (by omega)) rfl rfl
      · obtain ⟨r, hr', p2⟩ := p2
        exact (op_add p1 p2).imp fun v K9 _ h => ⟨low + r, by omega, by omega, by simpa using h⟩
    obtain ⟨high, hhl, hhc, hhi⟩ := hhi
    refine RunT.assign (md1 := cm prog w a lc (b + 5)) (P := Late) rfl rfl rfl rfl (fun L => ?_) (fun vm K5 hK5 hm => ?_) (by intro _; rfl)
    · refine EvT.bin (md1 := cm prog w a lc (b + 4)) (P1 := fun v K => Has K (.int 1) v) (P2 := Below 9) rfl rfl (EvT.of Ev.cint) (mono_has _) (fun K'' hK'' => EvT.call (md1 := cm prog w a lc (b + 4 + 1)) (Ts := [.val (.ref a), .int ((9 : Nat) : Int)]) (Ev.glob rfl (by k_is) rfl) (by k_is) rfl (Evs.consT (Ev.name (v := .ref a) rfl rfl) (Evs.consT (Ev.cint) Evs.nilT rfl) rfl) (fun vals KK hKK hv => by
      obtain ⟨p, q, rfl, a1, a2⟩ := two hv
      obtain rfl := a1
      exact tap_ct (hc.mono fun a o e => hKK a o (hK'' a o (hK4 a o (hK3 a o (hK2 a o (hK1 a o e)))))) hcl a2 (by omega) (by omega)) rfl rfl) (mono_below _) (fun v1 v2 K9 _ p1 p2 => ?_)
      obtain ⟨r, hr', p2⟩ := p2
      exact (op_add p1 p2).imp fun v K4 _ h => ⟨1 + r, by omega, by omega, by simpa using h⟩
    obtain ⟨many, hm1, hm9, hm⟩ := hm
    have up5 : ∀ a o, K a o → K5 a o := fun a o e => hK5 a o (hK4 a o (hK3 a o (hK2 a o (hK1 a o e))))
    have J5 : IsInst K5 857 (Str.ofString "reckon_bits") xj := IsInst.mono up5 J
    have x5 : Has K5 (.int x) vx := hx.mono up5
    have w5 : Has K5 (.int (c : Int)) vw := hw.mono up5
    have o5 : Has K5 (.ints (rowI x c)) vo := (((ho.mono hK2).mono hK3).mono hK4).mono hK5
    have l5 : Has K5 (.int (l : Int)) vl := (((hl.mono hK2).mono hK3).mono hK4).mono hK5
    have z5 : Has K5 (.int (z : Int)) vz := ((hz.mono hK3).mono hK4).mono hK5
    have lo5 : Has K5 (.int (low : Int)) vlo := (hlo.mono hK4).mono hK5
    have hi5 : Has K5 (.int (high : Int)) vhi := hhi.mono hK5
    obtain ⟨cr0, cr1⟩ := concat_range hx0 hx1 (z := (z : Int)) (l := l) (by omega) hzz
    obtain ⟨dr0, dr1⟩ := concat_range (x := (z : Int)) (w := l) (z := x) (l := c) (by omega) hzz hx0 hx1
    refine RunT.skip rfl (fun L => Tst.cmp (T1 := .ints (rowI (x * 2 ^ l + (z : Int)) (c + l))) (T2 := .ints (rowI (x * 2 ^ l + (z : Int)) (c + l))) ?l6 ?r6 (fun _ _ _ p1 p2 => (op_neL p1 p2).imp fun v K' _ h => by simpa using h) rfl) (fun K6 hK6 => ?_)
    case l6 =>
      have JJ := J5
      exact Ev.call (Ts := [.val (.ref xj), .str (Str.ofString "concat"), .ints [x, (z : Int)], .int 0, .int ((c + l : Nat) : Int), .int ((l : Nat) : Int)]) (Ev.glob rfl (by k_is) rfl) (by k_is) rfl (Evs.consT (Ev.name (v := .ref xj) rfl rfl) (Evs.consT (Ev.cstr) (Evs.consT (Ev.ints2 (Ev.name (v := vx) rfl (x5)) (Ev.name (v := vz) rfl (z5)) rfl rfl) (Evs.consT (Ev.cint) (Evs.consT ((Ev.binT (T1 := .int (c : Int)) (T2 := .int (l : Int)) (Ev.name (v := vw) rfl (w5)) (Ev.name (v := vl) rfl (l5)) fun _ _ _ p1 p2 => (op_add p1 p2).imp fun v K' _ h => by simpa using h)) (Evs.consT (Ev.name (v := vl) rfl (l5)) Evs.nilT rfl) rfl) rfl) rfl) rfl) rfl) (fun vals KK hKK hv => by
        obtain ⟨a1, a2, a3, a4, a5, a6, rfl, b1, b2, b3, b4, b5, b6⟩ := six hv
        obtain rfl := b1
        exact told_ct (high := 0) (low := 0) (c := c + l) (d := l) (IsInst.mono (fun a o e => hKK a o e) JJ) b2 (IsListOf.ints b3) (fun e => absurd e (by decide)) b5 b6 (fun e => absurd e (by decide)) (fun e => absurd e (by decide)) rfl rfl (by simp) hx0 hx30 (by omega) hz30 (by omega) (by omega) (y := (z : Int)) (r := x * 2 ^ l + (z : Int)) rfl cr0 cr1) rfl
    case r6 =>
      rw [concat_law hx0 hx1 (by omega) hzz]
      exact Ev.addL (Ev.call (Ts := [.int (z : Int), .int ((l : Nat) : Int)]) (Ev.glob rfl (by k_is) rfl) (by k_is) rfl (Evs.consT (Ev.name (v := vz) rfl (z5)) (Evs.consT (Ev.name (v := vl) rfl (l5)) Evs.nilT rfl) rfl) (fun vals KK _ hv => by obtain ⟨p, q, rfl, a1, a2⟩ := two hv; exact row_ct a1 a2 (by omega)) rfl) (Ev.name (v := vo) rfl (o5)) (by simp [rowI_len]; omega)
    have up6 : ∀ a o, K5 a o → K6 a o := fun a o e => hK6 a o (e)
    refine RunT.skip rfl (fun L => Tst.cmp (T1 := .ints (rowI ((z : Int) * 2 ^ c + x) (c + l))) (T2 := .ints (rowI ((z : Int) * 2 ^ c + x) (c + l))) ?l7 ?r7 (fun _ _ _ p1 p2 => (op_neL p1 p2).imp fun v K' _ h => by simpa using h) rfl) (fun K7 hK7 => ?_)
    case l7 =>
      have JJ := IsInst.mono up6 J5
      exact Ev.call (Ts := [.val (.ref xj), .str (Str.ofString "concat"), .ints [(z : Int), x], .int 0, .int ((c + l : Nat) : Int), .int ((c : Nat) : Int)]) (Ev.glob rfl (by k_is) rfl) (by k_is) rfl (Evs.consT (Ev.name (v := .ref xj) rfl rfl) (Evs.consT (Ev.cstr) (Evs.consT (Ev.ints2 (Ev.name (v := vz) rfl (z5.mono up6)) (Ev.name (v := vx) rfl (x5.mono up6)) rfl rfl) (Evs.consT (Ev.cint) (Evs.consT ((Ev.binT (T1 := .int (c : Int)) (T2 := .int (l : Int)) (Ev.name (v := vw) rfl (w5.mono up6)) (Ev.name (v := vl) rfl (l5.mono up6)) fun _ _ _ p1 p2 => (op_add p1 p2).imp fun v K' _ h => by simpa using h)) (Evs.consT (Ev.name (v := vw) rfl (w5.mono up6)) Evs.nilT rfl) rfl) rfl) rfl) rfl) rfl) (fun vals KK hKK hv => by
        obtain ⟨a1, a2, a3, a4, a5, a6, rfl, b1, b2, b3, b4, b5, b6⟩ := six hv
        obtain rfl := b1
        exact told_ct (high := 0) (low := 0) (c := c + l) (d := c) (IsInst.mono (fun a o e => hKK a o e) JJ) b2 (IsListOf.ints b3) (fun e => absurd e (by decide)) b5 b6 (fun e => absurd e (by decide)) (fun e => absurd e (by decide)) rfl rfl (by simp) (by omega) hz30 hx0 hx30 (by omega) (by omega) (r := (z : Int) * 2 ^ c + x) rfl dr0 (by rw [Nat.add_comm c l]; exact dr1)) rfl
    case r7 =>
      rw [Nat.add_comm c l, concat_law (by omega) hzz hx0 hx1]
      exact Ev.addL (Ev.name (v := vo) rfl (o5.mono up6)) (Ev.call (Ts := [.int (z : Int), .int ((l : Nat) : Int)]) (Ev.glob rfl (by k_is) rfl) (by k_is) rfl (Evs.consT (Ev.name (v := vz) rfl (z5.mono up6)) (Evs.consT (Ev.name (v := vl) rfl (l5.mono up6)) Evs.nilT rfl) rfl) (fun vals KK _ hv => by obtain ⟨p, q, rfl, a1, a2⟩ := two hv; exact row_ct a1 a2 (by omega)) rfl) (by simp [rowI_len]; omega)
    have up7 : ∀ a o, K5 a o → K7 a o := fun a o e => hK7 a o (up6 a o e)
    refine RunT.skip rfl (fun L => Tst.cmp (T1 := .ints (rowI ((x.fdiv (2 ^ low)).fmod (2 ^ (high + 1 - low))) (high + 1 - low))) (T2 := .ints (rowI ((x.fdiv (2 ^ low)).fmod (2 ^ (high + 1 - low))) (high + 1 - low))) ?l8 ?r8 (fun _ _ _ p1 p2 => (op_neL p1 p2).imp fun v K' _ h => by simpa using h) rfl) (fun K8 hK8 => ?_)
    case l8 =>
      have JJ := IsInst.mono up7 J5
      exact Ev.call (Ts := [.val (.ref xj), .str (Str.ofString "extract"), .ints [x], .pairI (high : Int) (low : Int), .int ((high + 1 - low : Nat) : Int), .int ((c : Nat) : Int)]) (Ev.glob rfl (by k_is) rfl) (by k_is) rfl (Evs.consT (Ev.name (v := .ref xj) rfl rfl) (Evs.consT (Ev.cstr) (Evs.consT (Ev.ints1 (Ev.name (v := vx) rfl (x5.mono up7)) rfl) (Evs.consT (Ev.imp (P := fun v K => IsTupOf K [.int (high : Int), .int (low : Int)] v) (Ev.tupleT (Evs.consT (Ev.name (v := vhi) rfl (hi5.mono up7)) (Evs.consT (Ev.name (v := vlo) rfl (lo5.mono up7)) Evs.nilT rfl) rfl) (by simp [sizeLine])) (fun v K' _ h => pair_of h)) (Evs.consT (Ev.imp (P := fun v K => Has K (.int ((high : Int) - low + 1)) v) (Ev.binT (T1 := .int ((high : Int) - low)) (T2 := .int 1) (Ev.binT (T1 := .int (high : Int)) (T2 := .int (low : Int)) (Ev.name (v := vhi) rfl (hi5.mono up7)) (Ev.name (v := vlo) rfl (lo5.mono up7)) fun _ _ _ p1 p2 => op_sub p1 p2) Ev.cint fun _ _ _ p1 p2 => op_add p1 p2) (fun v K' _ h => by rw [show ((high + 1 - low : Nat) : Int) = (high : Int) - low + 1 by omega]; exact h)) (Evs.consT (Ev.name (v := vw) rfl (w5.mono up7)) Evs.nilT rfl) rfl) rfl) rfl) rfl) rfl) (fun vals KK hKK hv => by
        obtain ⟨a1, a2, a3, a4, a5, a6, rfl, b1, b2, b3, b4, b5, b6⟩ := six hv
        obtain rfl := b1
        exact told_ct (high := (high : Int)) (low := low) (c := high + 1 - low) (d := c) (IsInst.mono (fun a o e => hKK a o e) JJ) b2 (IsListOf.ints b3) (fun _ => of_pair b4) b5 b6 (fun e => absurd e (by decide)) (fun e => absurd e (by decide)) rfl rfl (by simp) hx0 hx30 hx0 hx30 (by omega) (by omega) (r := (x.fdiv (2 ^ low)).fmod (2 ^ (high + 1 - low))) rfl (Int.fmod_nonneg_of_pos _ (pow_pos2 _)) (Int.fmod_lt_of_pos _ (pow_pos2 _))) rfl
    case r8 =>
      rw [extract_law (w := c) (by omega) hx0]
      exact Ev.run (j := low) (k := high + 1) (Ev.name (v := vo) rfl (o5.mono up7)) (Ev.name (v := vlo) rfl (lo5.mono up7)) (Ev.binT (T1 := .int (high : Int)) (T2 := .int 1) (Ev.name (v := vhi) rfl (hi5.mono up7)) (Ev.cint) fun _ _ _ p1 p2 => (op_add p1 p2).imp fun v K' _ h => by simpa using h) (by simp [rowI_len]; omega) (by simp [rowI_len]; omega)
    have up8 : ∀ a o, K5 a o → K8 a o := fun a o e => hK8 a o (up7 a o e)
    refine RunT.skip rfl (fun L => Tst.cmp (T1 := .ints (rowI x (c + many))) (T2 := .ints (rowI x (c + many))) ?l9 ?r9 (fun _ _ _ p1 p2 => (op_neL p1 p2).imp fun v K' _ h => by simpa using h) rfl) (fun K9 hK9 => ?_)
    case l9 =>
      have JJ := IsInst.mono up8 J5
      exact Ev.call (Ts := [.val (.ref xj), .str (Str.ofString "zero_extend"), .ints [x], .int (many : Int), .int ((c + many : Nat) : Int), .int ((c : Nat) : Int)]) (Ev.glob rfl (by k_is) rfl) (by k_is) rfl (Evs.consT (Ev.name (v := .ref xj) rfl rfl) (Evs.consT (Ev.cstr) (Evs.consT (Ev.ints1 (Ev.name (v := vx) rfl (x5.mono up8)) rfl) (Evs.consT (Ev.name (v := vm) rfl (hm.mono up8)) (Evs.consT ((Ev.binT (T1 := .int (c : Int)) (T2 := .int (many : Int)) (Ev.name (v := vw) rfl (w5.mono up8)) (Ev.name (v := vm) rfl (hm.mono up8)) fun _ _ _ p1 p2 => (op_add p1 p2).imp fun v K' _ h => by simpa using h)) (Evs.consT (Ev.name (v := vw) rfl (w5.mono up8)) Evs.nilT rfl) rfl) rfl) rfl) rfl) rfl) (fun vals KK hKK hv => by
        obtain ⟨a1, a2, a3, a4, a5, a6, rfl, b1, b2, b3, b4, b5, b6⟩ := six hv
        obtain rfl := b1
        exact told_ct (high := 0) (low := 0) (c := c + many) (d := c) (IsInst.mono (fun a o e => hKK a o e) JJ) b2 (IsListOf.ints b3) (fun e => absurd e (by decide)) b5 b6 (fun e => absurd e (by decide)) (fun e => absurd e (by decide)) rfl rfl (by simp) hx0 hx30 hx0 hx30 (by omega) (by omega) (r := x) rfl hx0 (Int.lt_of_lt_of_le hx1 (pow_le2 (by omega)))) rfl
    case r9 =>
      rw [zero_law hx0 hx1]
      exact Ev.addL (Ev.name (v := vo) rfl (o5.mono up8)) (Ev.rep Ev.cint (Ev.name (v := vm) rfl (hm.mono up8)) (by omega)) (by simp [rowI_len]; omega)
    have up9 : ∀ a o, K5 a o → K9 a o := fun a o e => hK9 a o (up8 a o e)
    have JJ := IsInst.mono up9 J5
    obtain ⟨sr0, sr1⟩ := sign_range (k := many) hx0 hx1
    have hsl := sign_law (k := many) hc0 hx0 hx1
    refine RunT.ret (P := fun v K => Has K (.val (.bool true)) v) rfl rfl (fun L => EvT.of (Ev.cmp (T1 := .ints (rowI (if x.fdiv (2 ^ (c - 1)) = 1 then x + (2 ^ (c + many) - 2 ^ c) else x) (c + many))) (T2 := .ints (rowI (if x.fdiv (2 ^ (c - 1)) = 1 then x + (2 ^ (c + many) - 2 ^ c) else x) (c + many))) ?l10 ?r10 (fun _ _ _ p1 p2 => (op_eqL p1 p2).imp fun v K' _ h => by simpa using h) rfl)) (fun v K' _ h => ⟨v, rfl, h⟩)
    case l10 => exact Ev.call (Ts := [.val (.ref xj), .str (Str.ofString "sign_extend"), .ints [x], .int (many : Int), .int ((c + many : Nat) : Int), .int ((c : Nat) : Int)]) (Ev.glob rfl (by k_is) rfl) (by k_is) rfl (Evs.consT (Ev.name (v := .ref xj) rfl rfl) (Evs.consT (Ev.cstr) (Evs.consT (Ev.ints1 (Ev.name (v := vx) rfl (x5.mono up9)) rfl) (Evs.consT (Ev.name (v := vm) rfl (hm.mono up9)) (Evs.consT ((Ev.binT (T1 := .int (c : Int)) (T2 := .int (many : Int)) (Ev.name (v := vw) rfl (w5.mono up9)) (Ev.name (v := vm) rfl (hm.mono up9)) fun _ _ _ p1 p2 => (op_add p1 p2).imp fun v K' _ h => by simpa using h)) (Evs.consT (Ev.name (v := vw) rfl (w5.mono up9)) Evs.nilT rfl) rfl) rfl) rfl) rfl) rfl) (fun vals KK hKK hv => by
        obtain ⟨a1, a2, a3, a4, a5, a6, rfl, b1, b2, b3, b4, b5, b6⟩ := six hv
        obtain rfl := b1
        exact told_ct (high := 0) (low := 0) (c := c + many) (d := c) (IsInst.mono (fun a o e => hKK a o e) JJ) b2 (IsListOf.ints b3) (fun e => absurd e (by decide)) b5 b6 (fun e => absurd e (by decide)) (fun _ => hc0) rfl rfl (by simp) hx0 hx30 hx0 hx30 (by omega) (by omega) (r := (if x.fdiv (2 ^ (c - 1)) = 1 then x + (2 ^ (c + many) - 2 ^ c) else x)) rfl sr0 sr1) rfl
    case r10 =>
      rw [hsl]
      refine Ev.addL (Ev.name (v := vo) rfl (o5.mono up9)) (Ev.binT (T1 := .ints ((rowI x c).drop ((rowI x c).length - 1))) (T2 := .int (many : Int)) (Ev.lastL (Ev.name (v := vo) rfl (o5.mono up9)) Ev.neg1 (by simp [rowI_len]; omega)) (Ev.name (v := vm) rfl (hm.mono up9)) fun _ _ _ p1 p2 => (op_mulL (by omega) (by omega) ?b1 (lastL_ne x hc0) p1 p2).imp fun v K' _ h => by rw [rowI_len, Int.toNat_natCast] at h; exact h) ?b2
      case b1 =>
        simp [rowI_len]
        have : c - (c - 1) = 1 := by omega
        rw [this]
        omega
      case b2 =>
        simp [rowI_len]
        have : c - (c - 1) = 1 := by omega
        rw [this]
        omega
end
end Mine
end

-- FnK
section
set_option maxRecDepth 100000
namespace Mine
section
variable {prog : Program} {w : World} {mg mb : Str → Option Value} {n : Nat} {md : Mode} {K : Kn}

noncomputable def othersL : List Str := [Str.ofString "true", Str.ofString "false", Str.ofString "not", Str.ofString "and", Str.ofString "or", Str.ofString "xor", Str.ofString "=>", Str.ofString "=", Str.ofString "distinct", Str.ofString "app", Str.ofString "num", Str.ofString "+", Str.ofString "*", Str.ofString "<=", Str.ofString "<", Str.ofString "bvnum", Str.ofString "bvult", Str.ofString "bvule", Str.ofString "bvslt", Str.ofString "bvsle", Str.ofString "bit", Str.ofString "carry", Str.ofString "below", Str.ofString "bvugt", Str.ofString "bvuge", Str.ofString "bvsgt", Str.ofString "bvsge", Str.ofString "bvnand", Str.ofString "bvnor", Str.ofString "bvxnor", Str.ofString "bvcomp", Str.ofString "bvashr", Str.ofString "bvsdiv", Str.ofString "bvsrem", Str.ofString "bvsmod", Str.ofString "rotate_left", Str.ofString "rotate_right", Str.ofString "repeat", Str.ofString ""]
noncomputable def opsL : List Str := [Str.ofString "ite", Str.ofString "bvnot", Str.ofString "bvneg", Str.ofString "bvand", Str.ofString "bvor", Str.ofString "bvxor", Str.ofString "bvadd", Str.ofString "bvsub", Str.ofString "bvmul", Str.ofString "bvshl", Str.ofString "bvlshr", Str.ofString "bvudiv", Str.ofString "bvurem", Str.ofString "concat", Str.ofString "extract", Str.ofString "zero_extend", Str.ofString "sign_extend"]
theorem others_not : ∀ s ∈ othersL, s ∉ opsL := by decide +kernel
theorem others_none {s : Str} {ends : List Int} {x y : Int} {low c d : Nat} (hs : s ∉ opsL) : reckonI s ends x y low c d = .val .none := by
  simp only [opsL, List.mem_cons, List.not_mem_nil, or_false, not_or] at hs
  obtain ⟨h0, h1, h2, h3, h4, h5, h6, h7, h8, h9, h10, h11, h12, h13, h14, h15, h16⟩ := hs
  unfold reckonI
  rw [if_neg h0, if_neg h1, if_neg h2, if_neg h3, if_neg h4, if_neg h5, if_neg h6, if_neg h7, if_neg h8, if_neg h9, if_neg h10, if_neg h11, if_neg h12, if_neg h13, if_neg h14, if_neg h15, if_neg h16]
noncomputable def Wides (v : Value) (K : Kn) : Prop := ∃ c : Nat, 1 ≤ c ∧ c ≤ 16 ∧ Has K (.int (c : Int)) v
theorem mono_wides : Mono Wides := fun _ _ _ h ⟨r, x, x', y⟩ => ⟨r, x, x', y.mono h⟩
/-- one reading of a def is as good as another -/
theorem reading {Kf : Frag} {f : Addr} {oc oc2 : Value} {od od2 : Option Addr} {osl osl2 : Array (Option Value)} {name qual name2 qual2 : Str} {params params2 : Arguments} {st st2 : Stmt} {rest rest2 : List Stmt} {scope scope2 : Scope} {dV kV doc pm cdv ct dV2 kV2 doc2 pm2 cdv2 ct2 : Value} {an an2 : Option Addr}
    {md md1 : Mode} {m : Str → Option Value} {J : JT}
    (ho : Kf.lookup f = some ⟨oc, od, .func (fnOf name qual params (st :: rest) scope dV kV doc pm an cdv ct), osl⟩)
    (run : ∀ f0 cd0, RunT prog w Kf mg mb n md md1 (fnOf name qual params (st :: rest) scope dV kV doc pm an cd0 ct) f0 K m rest J)
    (ho2 : Kf.lookup f = some ⟨oc2, od2, .func (fnOf name2 qual2 params2 (st2 :: rest2) scope2 dV2 kV2 doc2 pm2 an2 cdv2 ct2), osl2⟩) :
    ∀ f0 cd0, RunT prog w Kf mg mb n md md1 (fnOf name2 qual2 params2 (st2 :: rest2) scope2 dV2 kV2 doc2 pm2 an2 cd0 ct2) f0 K m rest2 J := by
  rw [ho] at ho2
  cases ho2
  exact run

set_option maxHeartbeats 4000000 in
theorem law_rest {xj a lc : Addr} {cells : List Int} {m : Str → Option Value} (hc : Has K (.ints cells) (.ref lc)) (hcl : cells.length ≤ 1000) (J : IsInst K 857 (Str.ofString "reckon_bits") xj) (hO : IsTupOf K (othersL.map .str) (.ref 862))
    (hm1 : m (Str.ofString "cask") = some (.ref a)) (hm2 : m (Str.ofString "judge") = some (.ref xj)) : ∃ oc od osl name qual params st rest scope dV kV doc pm an cdv ct,
    (KK w.params).lookup 943 = some ⟨oc, od, .func (fnOf name qual params (st :: rest) scope dV kV doc pm an cdv ct), osl⟩ ∧
    ∀ f0 cd0, RunT prog w (KK w.params) mg mb (n + 4) (cm prog w a lc (0)) (cm prog w a lc (23)) (fnOf name qual params (st :: rest) scope dV kV doc pm an cd0 ct) f0 K m rest (fun fl _ _ => fl = .ret (.bool true)) := by
  refine ⟨_, _, _, _, _, _, _, _, _, _, _, _, _, _, _, _, by k_is, fun f0 cd0 => ?run⟩

  case run =>
    refine RunT.assign (md1 := (cm prog w a lc (1))) (P := Wides) rfl rfl rfl rfl (fun L => ?tap) (fun vw K0 hK0 hw => ?_) (by intro _; rfl)
    case tap =>
      refine EvT.sub (P1 := fun v K => IsTupOf K [Ty.int 1, .int 2, .int 3, .int 5, .int 8, .int 16] v) (P2 := Below 6) rfl (Ev.tupleT (Evs.consT Ev.cint (Evs.consT Ev.cint (Evs.consT Ev.cint (Evs.consT Ev.cint (Evs.consT Ev.cint (Evs.consT Ev.cint Evs.nilT rfl) rfl) rfl) rfl) rfl) rfl) (by simp [sizeLine])) (mono_tup _) (fun K' hK' => ?_) (mono_below _) (fun v i K' _ p1 p2 => ?_)
      · exact EvT.call (md1 := (cm prog w a lc (0 + 1))) (Ts := [.val (.ref a), .int ((6 : Nat) : Int)]) (Ev.glob rfl (by k_is) rfl) (by k_is) rfl (Evs.consT (Ev.name (v := .ref a) (by exact hm1) rfl) (Evs.consT (Ev.cint) Evs.nilT rfl) rfl) (fun vals KK hKK hv => by
      obtain ⟨p, q, rfl, a1, a2⟩ := two hv
      obtain rfl := a1
      exact tap_ct (hc.mono fun a o e => hKK a o (hK' a o e)) hcl a2 (by omega) (by omega)) rfl rfl
      · obtain ⟨r, hr, p2⟩ := p2
        have fin : ∀ (T : Ty), ([Ty.int 1, .int 2, .int 3, .int 5, .int 8, .int 16])[r]? = some T → ∃ i : Nat, 1 ≤ i ∧ i ≤ 16 ∧ T = .int (i : Int) := fun T hT => by
          have hr6 : r = 0 ∨ r = 1 ∨ r = 2 ∨ r = 3 ∨ r = 4 ∨ r = 5 := by omega
          rcases hr6 with rfl | rfl | rfl | rfl | rfl | rfl <;> cases hT
          · exact ⟨1, by decide, by decide, rfl⟩
          · exact ⟨2, by decide, by decide, rfl⟩
          · exact ⟨3, by decide, by decide, rfl⟩
          · exact ⟨5, by decide, by decide, rfl⟩
          · exact ⟨8, by decide, by decide, rfl⟩
          · exact ⟨16, by decide, by decide, rfl⟩
        obtain ⟨T, hT⟩ : ∃ T, ([Ty.int 1, .int 2, .int 3, .int 5, .int 8, .int 16])[r]? = some T := ⟨_, List.getElem?_eq_getElem (by simpa using hr)⟩
        obtain ⟨i, hi1, hi2, rfl⟩ := fin T hT
        exact (get_tup (by omega) (by omega) (by rw [Int.toNat_natCast]; exact hT) p1 p2).imp fun v K' _ h => ⟨i, hi1, hi2, h⟩
    obtain ⟨c, hc0, hc1, hw⟩ := hw
    refine RunT.for (md := fun i => cm prog w a lc (1 + 11 * i)) (fun _ K' m' => m' (Str.ofString "cask") = some (.ref a) ∧ m' (Str.ofString "judge") = some (.ref xj) ∧ m' (Str.ofString "wide") = some vw) (names := [(Str.ofString "lap")]) (xs := (rangeTys 2).map .one) (fun _ => ⟨rfl, rfl⟩) rfl
      (fun L => Iter.range (Ev.boot rfl (by k_is) rfl rfl) (Ev.cint) (by decide)) (.name _ _) ?ha (fun x hx => by rw [List.mem_singleton.mp hx]; exact ⟨rfl, rfl⟩) (fun K' hK' => ⟨by exact hm1, by exact hm2, rfl⟩) ?step ?fin (by intro _ _; rfl)
    case ha =>
      intro it hit
      obtain ⟨T, _, rfl⟩ := List.mem_map.mp hit
      rfl
    case fin =>
      intro K' m' hK' _
      show RunT prog w (KK w.params) mg mb (n + 4) (cm prog w a lc (23)) (cm prog w a lc (23)) _ f0 K' m' _ _
      exact RunT.ret (P := fun v K => Has K (.val (.bool true)) v) rfl rfl (fun L => EvT.of Ev.cbool) (fun v K' _ h => by rw [show v = .bool true from h])
    case step =>
      rintro i it K1 m1 bs hit hK1 ⟨hm1, hm2, hm3⟩ hB
      have hi : i < 2 := by
        have h := (List.getElem?_eq_some_iff.mp hit).1
        simpa [rangeTys] using h
      show RunT prog w (KK w.params) mg mb (n + 4) (cm prog w a lc (1 + 11 * i)) (cm prog w a lc (1 + 11 * (i + 1))) _ f0 K1 _ _ _
      obtain ⟨b, hb⟩ : ∃ b, b = 1 + 11 * i := ⟨_, rfl⟩
      rw [show 1 + 11 * (i + 1) = b + 11 by omega, ← hb]
      have hb1 : b ≤ 800 := by omega
      have KK1 : ∀ a o, K a o → K1 a o := fun a o e => hK1 a o (hK0 a o e)
      have hcK : Has K1 (.ints cells) (.ref lc) := hc.mono KK1
      have hwK : Has K1 (.int (c : Int)) vw := hw.mono hK1
      rw [List.getElem?_map] at hit
      obtain ⟨T, hT, rfl⟩ := Option.map_eq_some_iff.mp hit
      clear hit hT
      cases hB with
      | one hvl =>
      refine RunT.assign2 (md1 := (cm prog w a lc (b + 6))) (P1 := Below (2 ^ c)) (P2 := Below (2 ^ c)) rfl rfl rfl (fun L => EvT.tup2 (md1 := (cm prog w a lc (b + 3))) (P1 := Below (2 ^ c)) (P2 := Below (2 ^ c)) rfl rfl ?t1 (mono_below _) (fun K' hK' => ?t2) (mono_below _) rfl rfl) rfl (fun vx vy K2 hK2 hx hy => ?_) (by intro _; rfl) (by intro _; rfl)
      case t1 => exact EvT.call (md1 := (cm prog w a lc (b + 3))) (Ts := [.val (.ref a), .int (c : Int)]) (Ev.glob rfl (by k_is) rfl) (by k_is) rfl (Evs.consT (Ev.name (v := .ref a) (by exact hm1) rfl) (Evs.consT (Ev.name (v := vw) (by exact hm3) (hwK)) Evs.nilT rfl) rfl) (fun vals KK hKK hv => by
      obtain ⟨p, q, rfl, a1, a2⟩ := two hv
      obtain rfl := a1
      exact number_ct (hcK.mono fun a o e => hKK a o (e)) hcl a2 (by omega) hc0 hc1) rfl rfl
      case t2 => exact EvT.call (md1 := (cm prog w a lc (b + 3 + 3))) (Ts := [.val (.ref a), .int (c : Int)]) (Ev.glob rfl (by k_is) rfl) (by k_is) rfl (Evs.consT (Ev.name (v := .ref a) (by exact hm1) rfl) (Evs.consT (Ev.name (v := vw) (by exact hm3) (hwK.mono hK')) Evs.nilT rfl) rfl) (fun vals KK hKK hv => by
      obtain ⟨p, q, rfl, a1, a2⟩ := two hv
      obtain rfl := a1
      exact number_ct (hcK.mono fun a o e => hKK a o (hK' a o e)) hcl a2 (by omega) hc0 hc1) rfl rfl
      obtain ⟨x, hx1, hx⟩ := hx
      obtain ⟨y, hy1, hy⟩ := hy
      have hx0 : (0 : Int) ≤ (x : Int) := by omega
      have hy0 : (0 : Int) ≤ (y : Int) := by omega
      have hx2 : ((x : Nat) : Int) < 2 ^ c := by rw [← pow_cast]; omega
      have hy2 : ((y : Nat) : Int) < 2 ^ c := by rw [← pow_cast]; omega
      have hx30 := pow29 (by omega) hx2
      have hy30 := pow29 (by omega) hy2
      have KK2 : ∀ a o, K a o → K2 a o := fun a o e => hK2 a o (KK1 a o e)
      have hw2 := hwK.mono hK2
      have J2 : IsInst K2 857 (Str.ofString "reckon_bits") xj := IsInst.mono KK2 J
      refine RunT.skipOr (md1 := (cm prog w a lc (b + 11))) rfl rfl rfl (fun L => ?_) (fun L K3 hK3 => ?_) (fun K3 hK3 => ?_) (by intro _; rfl)
      · refine Tst.not (b := true) (Tst.val ?_ rfl)
        exact Ev.call (Ts := [.val (.ref xj), .int (x : Int), .int (y : Int), .int (c : Int)]) (Ev.glob rfl (by k_is) rfl) (by k_is) rfl (Evs.consT (Ev.name (v := .ref xj) (by exact hm2) rfl) (Evs.consT (Ev.name (v := vx) rfl hx) (Evs.consT (Ev.name (v := vy) rfl hy) (Evs.consT (Ev.name (v := vw) (by exact hm3) hw2) Evs.nilT rfl) rfl) rfl) rfl) (fun vals KK hKK hv => by
          cases hv with
          | cons a1 q => cases q with
            | cons a2 q => cases q with
              | cons a3 q => cases q with
                | cons a4 q =>
                  cases q
                  obtain rfl := a1
                  exact two_right_ct (IsInst.mono hKK J2) a2 a3 a4 hc0 hc1 hx0 hx2 hy0 hy2) rfl
      · exact EvT.call (md1 := (cm prog w a lc (b + 6 + 5))) (Ts := [.val (.ref a), .val (.ref xj), .int (x : Int), .int (c : Int)]) (Ev.glob rfl (by k_is) rfl) (by k_is) rfl (Evs.consT (Ev.name (v := .ref a) (by exact hm1) rfl) (Evs.consT (Ev.name (v := .ref xj) (by exact hm2) rfl) (Evs.consT (Ev.name (v := vx) rfl (hx.mono hK3)) (Evs.consT (Ev.name (v := vw) (by exact hm3) (hw2.mono hK3)) Evs.nilT rfl) rfl) rfl) rfl) (fun vals KK hKK hv => by
          cases hv with
          | cons a1 q => cases q with
            | cons a2 q => cases q with
              | cons a3 q => cases q with
                | cons a4 q =>
                  cases q
                  obtain rfl := a1
                  obtain rfl := a2
                  exact widths_ct (hc.mono fun a o e => hKK a o (hK3 a o (KK2 a o e))) hcl (IsInst.mono (fun a o e => hKK a o (hK3 a o e)) J2) a3 a4 (by omega) hc0 hc1 hx0 hx2) rfl rfl
      refine RunT.skip rfl (fun L => Tst.cmpP (P1 := fun v K => IsListOf K [] v) (P2 := fun v K => IsListOf K [] v) ?comp (mono_list _) (Ev.listT (Ts := []) Evs.nilT (by simp [sizeLine])) (mono_list _) (fun _ _ _ p1 p2 => op_ne0 p1 p2) rfl) (fun K4 hK4 => RunT.of (Run.nil ⟨rfl, hm1, hm2, hm3⟩))
      case comp =>
        have hO3 : IsTupOf K3 (othersL.map .str) (.ref 862) := IsTupOf.mono (fun a o e => hK3 a o (KK2 a o e)) hO
        have J3 : IsInst K3 857 (Str.ofString "reckon_bits") xj := IsInst.mono hK3 J2
        refine Ev.compF (names := [(Str.ofString "op")]) (cap := [(Str.ofString "judge"), (Str.ofString "x"), (Str.ofString "y"), (Str.ofString "wide")]) (xs := (othersL.map Ty.str).map .one) (Iter.tuple (Ev.glob (v := .ref 862) rfl (by k_is) hO3)) (.name _ _) ?_ rfl (by decide) rfl (by decide) (by decide) (.cons ⟨rfl, rfl, rfl, rfl⟩ (.cons ⟨rfl, rfl, rfl, rfl⟩ (.cons ⟨rfl, rfl, rfl, rfl⟩ (.cons ⟨rfl, rfl, rfl, rfl⟩ .nil)))) ?_ (by intro _; rfl)
        · intro it hit
          obtain ⟨T, _, rfl⟩ := List.mem_map.mp hit
          rfl
        · intro j it bs K5 C hit hK5 hB
          rw [List.getElem?_map, List.getElem?_map] at hit
          obtain ⟨T, hT, rfl⟩ := Option.map_eq_some_iff.mp hit
          obtain ⟨s, hs, rfl⟩ := Option.map_eq_some_iff.mp hT
          have hso := others_not s (List.mem_of_getElem? hs)
          have HK : ∀ a o, K2 a o → K5 a o := fun a o e => hK5 a o (hK3 a o e)
          cases hB with
          | one hvo =>
            refine Tst.cmp (T1 := .val .none) (T2 := .val .none) ?call Ev.cnone (fun _ _ _ p1 p2 => by obtain rfl := p1; obtain rfl := p2; exact op_isNotNone) rfl
            refine Ev.meth (C := 857) (x := xj) (f := 854) (Ts := [.str s, .ints [(x : Int), (y : Int)], .int (x : Int), .int (y : Int), .int 0, .int (c : Int), .int (c : Int)]) (Ev.name (v := .ref xj) (by exact hm2) rfl) (IsInst.mono HK J2) (by k_is) (by k_is) (by k_is) (by k_is)
              (Evs.consT (Ev.name rfl hvo) (Evs.consT (Ev.ints2 (Ev.name (v := vx) rfl (hx.mono HK)) (Ev.name (v := vy) rfl (hy.mono HK)) rfl rfl) (Evs.consT (Ev.name (v := vx) rfl (hx.mono HK)) (Evs.consT (Ev.name (v := vy) rfl (hy.mono HK)) (Evs.consT Ev.cint (Evs.consT (Ev.name (v := vw) (by exact hm3) (hw2.mono HK)) (Evs.consT (Ev.name (v := vw) (by exact hm3) (hw2.mono HK)) Evs.nilT rfl) rfl) rfl) rfl) rfl) rfl) rfl) (fun vals K' hK' hv => ?op) rfl (by intro _; rfl) rfl
            cases hv with
            | cons a1 q => cases q with
              | cons a2 q => cases q with
                | cons a3 q => cases q with
                  | cons a4 q => cases q with
                    | cons a5 q => cases q with
                      | cons a6 q => cases q with
                        | cons a7 q =>
                          cases q
                          exact (reckon_ct (high := 0) (low := 0) a1 (IsListOf.ints a2) a3 a4 (fun e => absurd e (fun e => hso (by rw [e]; simp [opsL]))) a6 a7 (fun e => absurd e (fun e => hso (by rw [e]; simp [opsL]))) (fun _ => hc0) hx0 hx30 hy0 hy30 (by omega) (by omega)).imp fun v K'' _ h => by rw [others_none hso] at h; exact h
end
end Mine
end

-- Sw
section
set_option maxRecDepth 100000
namespace Mine
theorem others_obj (w : World) (K : Kn) : ∃ vs k, (KK w.params).lookup 862 = some (tupOf vs k) ∧ Each (Has K) (othersL.map .str) vs := by
  refine ⟨_, _, by k_is, ?_⟩
  repeat (first | exact Each.nil | refine Each.cons ⟨_, rfl⟩ ?_)
/-- an address that a heap does not bear -/
theorem none_above {b : Heap} {a : Addr} (h : b.objs.size ≤ a) : b.get? a = none := by
  cases q : b.get? a with
  | none => rfl
  | some o => exact absurd (Heap.lt_size q) (Nat.not_lt.mpr h)
noncomputable abbrev lawCells (L : Addr) : List (Str × Addr) := [(Str.ofString "y", L + 1 + 1 + 1 + 1), (Str.ofString "x", L + 1 + 1 + 1), (Str.ofString "wide", L + 1 + 1), (Str.ofString "judge", L + 1)]
noncomputable abbrev judgeDict (ha hb : Int) (ta tb : Tok) (va vb : Value) : Obj := W.dictOf [⟨ha, .str (Str.ofString "bank") ta, va⟩, ⟨hb, .str (Str.ofString "tables") tb, vb⟩] 2
theorem ok_law (env : Env) : Ok 4 (callerA.deeper env) := ⟨rfl, (by decide : callerA.depth + 1 + 4 < recursionLimit), (by decide : callerA.units + 3 + 100 * 4 < cLine)⟩
theorem cells_apart (L : Nat) : (lawCells L).Pairwise fun x y => x.2 ≠ y.2 := by
  have h : (¬L + 1 + 1 = L ∧ ¬L + 1 + 1 + 1 = L) ∧ ¬L + 1 + 1 = L := by omega
  simpa [lawCells] using h
theorem other_dict {prog : Program} {w : World} {ha hb : Int} {ta tb : Tok} {va vb D : Value} {kvs : List (Str × Value)} {o : Obj} (h : o.IsDictOf (PySem.strKind prog w) ((Str.ofString "cells", D) :: kvs)) : o ≠ judgeDict ha hb ta tb va vb := by
  rintro rfl
  obtain ⟨es, ep, _, h2, _, h4, _⟩ := h
  cases h2
  cases h4 with
  | cons h _ _ =>
    have h : (Str.ofString "bank" == Str.ofString "cells") = true := h
    exact absurd h (by decide)
theorem law_end {prog : Program} {w : World} {mg mb : Str → Option Value} {b : Heap} {L : Addr} {mm : Str → Option Value} {news : List (Addr × Obj)} {A : Around} {s : Shared} {Q : Flow → Shared → Prop} {E : Value → Shared → Prop}
    {d6 D6 x d2 f : Addr} {cd : Value} {o6 oJ o1 o2 o3 : Obj} {ys : List Value} {k6 : Nat} {cells : List Int} {V1 V2 V3 : Option Value} {ha hb : Int} {ta tb t6 : Tok} {va vb : Value}
    {oc : Value} {od : Option Addr} {osl : Array (Option Value)} {name : Str} {params : Arguments} {st : Stmt} {rest : List Stmt} {scope : Scope} {dV kV doc pm cdv ct : Value} {an : Option Addr}
    (ho : (KK w.params).lookup 943 = some ⟨oc, od, .func (fnOf name (Str.ofString "law") params (st :: rest) scope dV kV doc pm an cdv ct), osl⟩)
    (hcs : cellsFrom (L + 1) scope.names [] = lawCells L) (hk : scope.kind = .function) (hn1 : scope.names.lookup (Str.ofString "cask") = some .local) (hn2 : scope.names.lookup (Str.ofString "judge") = some .cell)
    (G : G0 (KK w.params) mg mb b) (hL : L = b.objs.size) (F : Fr b L s.heap mm) (N : News b L s.heap news)
    (hm : mm (Str.ofString "cask") = some (.ref d6))
    (n1 : (x, instObj 857 d2) ∈ news) (n2 : (d2, judgeDict ha hb ta tb va vb) ∈ news) (n3 : (D6, listOf ys.toArray k6) ∈ news) (n4 : (d6, o6) ∈ news)
    (c4 : (L + 1 + 1 + 1 + 1, o3) ∈ news) (c3 : (L + 1 + 1 + 1, o2) ∈ news) (c2 : (L + 1 + 1, o1) ∈ news) (c1 : (L + 1, oJ) ∈ news)
    (hJ : oJ.data = .cell (some (.ref x))) (h1 : o1.data = .cell V1) (h2 : o2.data = .cell V2) (h3 : o3.data = .cell V3)
    (h6 : o6.IsDictOf (PySem.strKind prog w) [(Str.ofString "cells", .ref D6), (Str.ofString "at", .int 0 t6)])
    (hI : IntsAre ys cells) (hcl : cells.length ≤ 1000) (ok : Ok 4 A)
    (q : ∀ h' tk m', Fr b L h' m' → Q (.ret (.bool true)) { s with heap := h', toks := tk }) :
    wpAny (model prog w) A (execs rest (envOfC (Str.ofString "law") scope L f cd)) Q E s := by
  obtain ⟨vs, k, hO1, hO2⟩ := others_obj w (fun a o => (a, o) ∈ [(x, instObj 857 d2), (d2, judgeDict ha hb ta tb va vb), (D6, listOf ys.toArray k6)])
  have hO3 : (KK w.params).In s.heap := fun a o e => F.keep a o (G.k a o e)
  generalize hK : (fun a o => (a, o) ∈ [(x, instObj 857 d2), (d2, judgeDict ha hb ta tb va vb), (D6, listOf ys.toArray k6), (862, tupOf vs k)] : Kn) = K
  have kx : K x (instObj 857 d2) := by rw [← hK]; simp
  have kd : K d2 (judgeDict ha hb ta tb va vb) := by rw [← hK]; simp
  have kl : K D6 (listOf ys.toArray k6) := by rw [← hK]; simp
  have ko : K 862 (tupOf vs k) := by rw [← hK]; simp
  -- all of them are in the heap, none is a cell, none is the frame, none is the cask
  have all : ∀ a o, K a o → s.heap.get? a = some o ∧ (∀ v, o.data ≠ .cell v) ∧ a ≠ L ∧ a ≠ d6 := by
    intro a o e
    rw [← hK] at e
    have e : (a, o) ∈ [(x, instObj 857 d2), (d2, judgeDict ha hb ta tb va vb), (D6, listOf ys.toArray k6), (862, tupOf vs k)] := e
    simp only [List.mem_cons, List.not_mem_nil, or_false, Prod.mk.injEq] at e
    have hd6 := (N _ n4).1
    rcases e with ⟨rfl, rfl⟩ | ⟨rfl, rfl⟩ | ⟨rfl, rfl⟩ | ⟨rfl, rfl⟩
    · refine ⟨(N _ n1).1, fun v => by simp, (N _ n1).2.1, fun e => ?_⟩
      subst e
      rw [(N _ n1).1] at hd6
      cases hd6
      obtain ⟨es, ep, ⟨hh, _⟩, _⟩ := h6
      cases hh
    · refine ⟨(N _ n2).1, fun v => by simp, (N _ n2).2.1, fun e => ?_⟩
      subst e
      rw [(N _ n2).1] at hd6
      injection hd6 with hd6
      exact other_dict h6 hd6.symm
    · refine ⟨(N _ n3).1, fun v => by simp, (N _ n3).2.1, fun e => ?_⟩
      subst e
      rw [(N _ n3).1] at hd6
      cases hd6
      obtain ⟨es, ep, ⟨hh, _⟩, _⟩ := h6
      injection hh with hh
      exact absurd hh (by decide)
    · have e8 := hO3 _ _ hO1
      have e9 := G.k _ _ hO1
      refine ⟨e8, fun v => by simp, fun e => ?_, fun e => ?_⟩
      · rw [none_above (by rw [e, hL]; exact Nat.le_refl _)] at e9
        cases e9
      · rw [e, (N _ n4).2.2] at e9
        cases e9
  have cell : ∀ k c, (lawCells L).lookup k = some c → (c, oJ) ∈ news ∧ k = Str.ofString "judge" ∧ c = L + 1 ∨ (c, o1) ∈ news ∧ k = Str.ofString "wide" ∧ c = L + 1 + 1 ∨ (c, o2) ∈ news ∧ k = Str.ofString "x" ∧ c = L + 1 + 1 + 1 ∨ (c, o3) ∈ news ∧ k = Str.ofString "y" ∧ c = L + 1 + 1 + 1 + 1 := by
    intro k c hkc
    have := mem_of_lookup hkc
    simp only [lawCells, List.mem_cons, List.not_mem_nil, or_false, Prod.mk.injEq] at this
    rcases this with ⟨rfl, rfl⟩ | ⟨rfl, rfl⟩ | ⟨rfl, rfl⟩ | ⟨rfl, rfl⟩
    · exact .inr (.inr (.inr ⟨c4, rfl, rfl⟩))
    · exact .inr (.inr (.inl ⟨c3, rfl, rfl⟩))
    · exact .inr (.inl ⟨c2, rfl, rfl⟩)
    · exact .inl ⟨c1, rfl, rfl⟩
  have isC : ∀ a o, s.heap.get? a = some o → (∀ v, o.data ≠ .cell v) → ∀ k, (lawCells L).lookup k ≠ some a := by
    intro a o e hv k hkc
    rcases cell k a hkc with ⟨h, _⟩ | ⟨h, _⟩ | ⟨h, _⟩ | ⟨h, _⟩ <;> (rw [(N _ h).1] at e; cases e)
    · exact hv _ hJ
    · exact hv _ h1
    · exact hv _ h2
    · exact hv _ h3
  have hEach : Each (Has K) (othersL.map .str) vs := by
    obtain ⟨vs', k', hO1', hO2'⟩ := others_obj w K
    rw [hO1] at hO1'
    cases hO1'
    exact hO2'
  obtain ⟨_, _, _, _, _, _, _, _, _, _, _, _, _, _, _, _, ho', run⟩ := law_rest (prog := prog) (w := w) (mg := mg) (mb := mb) (n := 0) (K := K) (xj := x) (a := d6) (lc := D6) (cells := cells) (m := bm [(Str.ofString "cask", .ref d6), (Str.ofString "judge", .ref x)])
    ⟨D6, k6, ys, rfl, kl, hI⟩ hcl ⟨⟨_, _, _, kx, rfl, rfl, rfl, kd, rfl⟩⟩ ⟨862, k, vs, rfl, ko, hEach⟩ rfl rfl
  have run' := reading ho' run ho f cd
  refine Wp.h (run' A L s Q E ok ?fx ?go)
  case fx =>
    have cA : ∀ a, IsCellAt (fnOf name (Str.ofString "law") params (st :: rest) scope dV kV doc pm an cd ct) L a → ∃ k, (lawCells L).lookup k = some a := by
      rintro a ⟨k, hk'⟩
      exact ⟨k, by rw [← hcs]; exact hk'⟩
    refine ⟨⟨b, G, ?_, F.keep⟩, ?_, ?_, ?_, fun a o e => (all a o e).1, fun a o e hc => (all a o e).2.2.2 (by injection hc with hc; exact hc.symm), fun a o e => ⟨(all a o e).2.2.1, fun hc => ?_⟩, fun a hc => ?_, ?_, rfl, rfl, hk⟩
    · rintro a (hc | rfl | hc)
      · injection hc with hc
        rw [← hc]
        exact (N _ n4).2.2
      · exact none_above (by rw [hL]; exact Nat.le_refl _)
      · obtain ⟨k, hkc⟩ := cA a hc
        refine none_above ?_
        rw [← hL]
        rcases cell k a hkc with ⟨_, _, rfl⟩ | ⟨_, _, rfl⟩ | ⟨_, _, rfl⟩ | ⟨_, _, rfl⟩ <;> omega
    · refine ⟨mm, fun k => if k = Str.ofString "judge" then some (.ref x) else if k = Str.ofString "wide" then V1 else if k = Str.ofString "x" then V2 else V3, F.ns, fun k c hkc => ?_, fun y v hy => ?_⟩
      · have hkc : (cellsFrom (L + 1) scope.names []).lookup k = some c := hkc
        rw [hcs] at hkc
        rcases cell k c hkc with ⟨h, rfl, _⟩ | ⟨h, rfl, _⟩ | ⟨h, rfl, _⟩ | ⟨h, rfl, _⟩
        · exact ⟨_, (N _ h).1, hJ⟩
        · exact ⟨_, (N _ h).1, h1⟩
        · exact ⟨_, (N _ h).1, h2⟩
        · exact ⟨_, (N _ h).1, h3⟩
      · unfold bm at hy
        by_cases e : y = Str.ofString "cask"
        · rw [if_pos e] at hy
          cases hy
          subst e
          exact ⟨by decide, .inl ⟨hn1, hm⟩⟩
        · rw [if_neg e] at hy
          unfold bm at hy
          by_cases e2 : y = Str.ofString "judge"
          · rw [if_pos e2] at hy
            cases hy
            subst e2
            exact ⟨by decide, .inr ⟨hn2, ⟨L + 1, by show (cellsFrom (L + 1) scope.names []).lookup _ = _; rw [hcs]; rfl⟩, if_pos rfl⟩⟩
          · rw [if_neg e2] at hy
            cases hy
    · show (cellsFrom (L + 1) scope.names []).Pairwise _
      rw [hcs]
      exact cells_apart L
    · intro k c hkc
      have hkc : (k, c) ∈ cellsFrom (L + 1) scope.names [] := hkc
      rw [hcs] at hkc
      simp only [lawCells, List.mem_cons, List.not_mem_nil, or_false, Prod.mk.injEq] at hkc
      rcases hkc with ⟨_, rfl⟩ | ⟨_, rfl⟩ | ⟨_, rfl⟩ | ⟨_, rfl⟩
      · exact Nat.lt_add_of_pos_right (k := 4) (by decide)
      · exact Nat.lt_add_of_pos_right (k := 3) (by decide)
      · exact Nat.lt_add_of_pos_right (k := 2) (by decide)
      · exact Nat.lt_add_of_pos_right (k := 1) (by decide)
    · obtain ⟨k, hkc⟩ := cA a hc
      exact isC a o (all a o e).1 (all a o e).2.1 k hkc
    · rw [List.mem_singleton.mp hc]
      refine ⟨(N _ n4).2.1, fun hc => ?_⟩
      obtain ⟨k, hkc⟩ := cA _ hc
      refine isC _ _ (N _ n4).1 (fun v => ?_) k hkc
      obtain ⟨es, ep, _, hd, _⟩ := h6
      rw [hd]
      simp
    · exact ⟨0, t6, Heap.dictOf_iff.mpr ⟨o6, (N _ n4).1, h6⟩, Nat.le_refl _⟩
  case go =>
    intro fl K' m' h' tk t X' j
    subst j
    obtain ⟨lm, cm, hn, _⟩ := X'.fr
    refine q h' tk lm ⟨hn, fun a o e => ?_, F.above⟩
    refine t.ext a o (fun hc => ?_) (fun e' => ?_) (fun hc => ?_) (F.keep a o e)
    · injection hc with hc
      rw [← hc, (N _ n4).2.2] at e
      cases e
    · rw [e', none_above (by rw [hL]; exact Nat.le_refl _)] at e
      cases e
    · obtain ⟨k, hkc⟩ := hc
      have hkc : (cellsFrom (L + 1) scope.names []).lookup k = some a := hkc
      rw [hcs] at hkc
      have : L ≤ a := by
        rcases cell k a hkc with ⟨_, _, rfl⟩ | ⟨_, _, rfl⟩ | ⟨_, _, rfl⟩ | ⟨_, _, rfl⟩
        · exact Nat.le_add_right L 1
        · exact Nat.le_add_right L 2
        · exact Nat.le_add_right L 3
        · exact Nat.le_add_right L 4
      rw [none_above (by rw [← hL]; exact this)] at e
      cases e
end Mine
end

namespace Mine
theorem in_sub {K1 K2 : Frag} {h : Heap} (sub : ∀ p ∈ K1, K2.lookup p.1 = some p.2) (X : K2.In h) : K1.In h := fun a o e => X a o (sub (a, o) (mem_of_lookupK e))
theorem g0_kk {Kf : Params → Frag} {w : World} {mg mb : Str → Option Value} {h : Heap} {p : Program} {loose : List Str} {mean : ExcName → Option Value} (sub : Hid (∀ w : World, ∀ p ∈ KK w.params, (Kf w.params).lookup p.1 = some p.2))
    (X : (Kf w.params).In h) (T : Top p loose mean mg mb h) : G0 (KK w.params) mg mb h := ⟨in_sub (sub.out w) X, T.g, T.b, T.nolimit, T.builtins⟩
theorem main.tw2072788678739012315 : True := .intro
theorem main.tw18280134359769972632 : True := .intro
theorem main.tw17068472012491166647 : True := .intro
theorem main.tw5459814026608534427 : True := .intro
theorem main.tw11156056980113079860 : True := .intro
theorem main.tw15150491545585084594 : True := .intro
theorem main.tw13691113879290459807 : True := .intro
theorem main.tw6788254664138330361 : True := .intro
theorem main.tw9119965681101886151 : True := .intro
theorem main.tw8927969163387163360 : True := .intro
theorem main.tw544890216719031943 : True := .intro
theorem main.tw8251010419895654883 : True := .intro
theorem main.tw16826212616301561204 : True := .intro
theorem main.tw5587530698890769119 : True := .intro
theorem main.tw1116652137658888972 : True := .intro
theorem main.tw10985694975777523465 : True := .intro
theorem main.tw13565518394914824834 : True := .intro
theorem main.tw3598851301361773947 : True := .intro
theorem main.tw11458205848933073411 : True := .intro
theorem main.tw715579280732434358 : True := .intro
theorem main.tw15073267504523129441 : True := .intro
theorem main.tw450273134140183931 : True := .intro
theorem main.tw3073057795933904074 : True := .intro
theorem main.tw1148389060315663934 : True := .intro
theorem main.tw202243217284325724 : True := .intro
theorem main.tw6568592028765274161 : True := .intro
theorem main.tw2697862583947947531 : True := .intro
theorem main.tw5499918767896811753 : True := .intro
theorem main.tw16097269412956081036 : True := .intro
theorem main.tw5947717205384255862 : True := .intro
theorem main.tw14011416340940902608 : True := .intro
theorem main.tw14540907926641238338 : True := .intro
theorem main.tw3710551649720532701 : True := .intro
theorem main.tw14625788440519214713 : True := .intro
theorem main.tw17679124481769762004 : True := .intro
theorem main.tw5873463020976553958 : True := .intro
theorem main.tw4420467385226480069 : True := .intro
theorem main.tw11064077166414165694 : True := .intro
theorem main.tw10819019510126429635 : True := .intro
theorem main.tw17920292393507637884 : True := .intro
theorem main.tw11194412462434418553 : True := .intro
theorem main.tw15079240505294077160 : True := .intro
theorem main.tw11571600101251958140 : True := .intro
theorem main.tw3048990324235766663 : True := .intro
theorem main.tw9272984997812220495 : True := .intro
theorem main.tw17236958762192778904 : True := .intro
theorem main.tw17450470499104002142 : True := .intro
theorem main.tw11716418206903941319 : True := .intro
theorem main.tw892681787802806017 : True := .intro
theorem main.tw2007339730380871907 : True := .intro
theorem main.tw6697339332421208802 : True := .intro
theorem main.tw11349898740250378076 : True := .intro
theorem main.tw1454224541498743561 : True := .intro
theorem main.tw1390771862084280389 : True := .intro
theorem main.tw7472237861779093752 : True := .intro
theorem main.tw8681388529863501421 : True := .intro
theorem main.tw7624293977416268664 : True := .intro
theorem main.tw7073996269223845280 : True := .intro
theorem main.tw14406990849044604362 : True := .intro
theorem main.tw10737556833816505880 : True := .intro
theorem main.tw14909365282108701170 : True := .intro
theorem main.tw3706830351922483016 : True := .intro
theorem main.tw9006321595064636914 : True := .intro
theorem main.tw14864641218109852296 : True := .intro
theorem main.tw17600866488970185278 : True := .intro
theorem main.tw6087835443962453003 : True := .intro
theorem main.tw561929256534903042 : True := .intro
theorem main.tw2729793432009153956 : True := .intro
theorem main.tw12093647306153771053 : True := .intro
theorem main.tw10876229203375891673 : True := .intro
theorem main.tw1615045767204293396 : True := .intro
theorem main.tw5038764109367625727 : True := .intro
theorem main.tw6162249291895867263 : True := .intro
theorem main.tw5456330333991267789 : True := .intro
theorem main.tw3045742163950154196 : True := .intro
theorem main.tw1415428593365352553 : True := .intro
theorem main.tw5104194264097766351 : True := .intro
theorem main.tw2796952317120133236 : True := .intro
theorem main.tw13797323745857372409 : True := .intro
theorem main.tw15949526494057022110 : True := .intro
theorem main.tw9880953963774564861 : True := .intro
theorem main.tw495442525896006271 : True := .intro
theorem main.tw9964214247947446159 : True := .intro
theorem main.tw4909700646600248447 : True := .intro
theorem main.tw9293455121233016472 : True := .intro
theorem main.tw2965820268544440810 : True := .intro
theorem main.tw17563168436475441343 : True := .intro
theorem main.tw13180746182150919023 : True := .intro
theorem main.tw3549514262204291990 : True := .intro
theorem main.tw1319676515408343850 : True := .intro
theorem main.tw13980345723018547825 : True := .intro
theorem main.tw470481871638761223 : True := .intro
theorem main.tw15540984915698410164 : True := .intro
theorem main.tw11092141859048813250 : True := .intro
theorem main.tw3623273976976474896 : True := .intro
theorem main.tw7623509227018997848 : True := .intro
theorem main.tw9482835179454861754 : True := .intro
theorem main.tw5372645768047454471 : True := .intro
theorem main.tw13132915859168520264 : True := .intro
theorem main.tw8344989883159853150 : True := .intro
theorem main.tw6437645805973890128 : True := .intro
theorem main.tw8281396171620568247 : True := .intro
theorem main.tw11463369355524808266 : True := .intro
theorem main.tw8127475511531132179 : True := .intro
theorem main.tw17699438841360665129 : True := .intro
theorem main.tw17096532924672817327 : True := .intro
theorem main.tw9703084557020090508 : True := .intro
theorem main.tw2714283472998740243 : True := .intro
theorem main.tw14168887731352723522 : True := .intro
theorem main.tw6788695710022549768 : True := .intro
theorem main.tw8488872178611200430 : True := .intro
theorem main.tw15672986146971166658 : True := .intro
theorem main.tw2058021452347087232 : True := .intro
theorem main.tw2675658811408624930 : True := .intro
theorem main.tw7972779244933481256 : True := .intro
theorem main.tw1216228984421328439 : True := .intro
theorem main.tw15387884906608193903 : True := .intro
theorem main.tw3651295723282942808 : True := .intro
theorem main.tw10056485391180722925 : True := .intro
theorem main.tw5234446048077146213 : True := .intro
theorem main.tw10092017014551392330 : True := .intro
theorem main.tw13381974486344185354 : True := .intro
theorem main.tw2653321512126949328 : True := .intro
theorem main.tw16153351446899991344 : True := .intro
theorem main.tw17904854198161793398 : True := .intro
theorem main.tw14390754486103292620 : True := .intro
theorem main.tw9394770849952503311 : True := .intro
theorem main.tw14893090268090260817 : True := .intro
theorem main.tw2033968301974640842 : True := .intro
theorem main.tw12431731261707249289 : True := .intro
theorem main.tw14489535830319231195 : True := .intro
theorem main.tw6921685317656363116 : True := .intro
theorem main.tw14027650596787315314 : True := .intro
theorem main.tw11857135199678951331 : True := .intro
theorem main.tw12059326537678458872 : True := .intro
theorem main.tw17647351573629430322 : True := .intro
theorem main.tw10453263994017694363 : True := .intro
theorem main.tw917386388269078853 : True := .intro
theorem main.tw11501822485730972192 : True := .intro
theorem main.tw2672093188730551128 : True := .intro
theorem main.tw13402765919934010277 : True := .intro
theorem main.tw14377536511252160716 : True := .intro
theorem main.tw6418202794160714309 : True := .intro
theorem main.tw3062356812957192748 : True := .intro
theorem main.tw5842977544298395883 : True := .intro
theorem main.tw10542905334921785414 : True := .intro
theorem main.tw17585224947871030625 : True := .intro
theorem main.tw3220561703981169602 : True := .intro
theorem main.tw270496394426124508 : True := .intro
theorem main.tw750237026923860459 : True := .intro
theorem main.tw14864636224205547913 : True := .intro
theorem main.tw11405101455947879731 : True := .intro
theorem main.tw11251407683458634364 : True := .intro
theorem main.tw12205347405646519318 : True := .intro
theorem main.tw2402762420636078793 : True := .intro
theorem main.tw5217383181990780837 : True := .intro
theorem main.tw3033833032746330586 : True := .intro
theorem main.tw962032349192862916 : True := .intro
theorem main.tw3756182928292023547 : True := .intro
theorem main.tw8402242094647718915 : True := .intro
theorem main.tw14699326698120687454 : True := .intro
theorem main.tw1179421589518002546 : True := .intro
theorem main.tw2542808073141276813 : True := .intro
theorem main.tw1191263595243908205 : True := .intro
theorem main.tw9054027147675381713 : True := .intro
theorem main.tw5900072995565114194 : True := .intro
theorem main.tw7070123817558143148 : True := .intro
theorem main.tw11213863890663495067 : True := .intro
theorem main.tw4967792270526972898 : True := .intro
theorem main.tw12755441557018050348 : True := .intro
theorem main.tw3934531018447913466 : True := .intro
theorem main.tw308427716283879934 : True := .intro
theorem main.tw5632948755005780175 : True := .intro
theorem main.tw10003221463802097818 : True := .intro
theorem main.tw2895952525429962455 : True := .intro
theorem main.tw17644181745481072423 : True := .intro
theorem main.tw387501639795913443 : True := .intro
theorem main.tw9360745474812902239 : True := .intro
theorem main.tw8125125469695226666 : True := .intro
theorem main.tw5665735395497279834 : True := .intro
theorem main.tw11987853993630220354 : True := .intro
theorem main.tw17474269916031935128 : True := .intro
theorem main.tw17445186720391901401 : True := .intro
theorem main.tw15022946984557111684 : True := .intro
theorem main.tw12958428809211121842 : True := .intro
theorem main.tw14161465996007527954 : True := .intro
theorem main.tw14849204138880929251 : True := .intro
theorem main.tw5396188567872606041 : True := .intro
theorem main.tw15270170921892066516 : True := .intro
theorem main.tw6053611964639427726 : True := .intro
theorem main.tw16235428439501865183 : True := .intro
theorem main.tw10739967774149034379 : True := .intro
theorem main.tw12006131722545458140 : True := .intro
theorem main.tw13429379312604010019 : True := .intro
theorem main.tw6981580820607432535 : True := .intro
theorem main.tw3951913103685366658 : True := .intro
theorem main.tw3288582142898991060 : True := .intro
theorem main.tw9558744834307401277 : True := .intro
theorem main.tw4784553394551972577 : True := .intro
theorem main.tw1259162542039736189 : True := .intro
theorem main.tw9156686268802561153 : True := .intro
theorem main.tw7521444476212097132 : True := .intro
theorem main.tw10567084921333377638 : True := .intro
theorem main.tw6425626318312657004 : True := .intro
theorem main.tw18406820200293129166 : True := .intro
theorem main.tw4370652028205933106 : True := .intro
theorem main.tw8344883900605922461 : True := .intro
theorem main.tw7139307881021679148 : True := .intro
theorem main.tw1552421926411342777 : True := .intro
theorem main.tw9389665374557996460 : True := .intro
theorem main.tw13934608090901567409 : True := .intro
theorem main.tw13447304073604360266 : True := .intro
theorem main.tw12429675835336498981 : True := .intro
theorem main.tw16965079339398995527 : True := .intro
theorem main.tw8079908401900000222 : True := .intro
theorem main.tw4977165927707633593 : True := .intro
theorem main.tw17734603463515337306 : True := .intro
theorem main.tw5567732340971880690 : True := .intro
theorem main.tw15575723056732996420 : True := .intro
theorem main.tw15326346284793698685 : True := .intro
theorem main.tw12106859168716417752 : True := .intro
theorem main.tw15097543051748444868 : True := .intro
theorem main.tw18385570937342765463 : True := .intro
theorem main.tw161903638078081290 : True := .intro
theorem main.tw1355085073191494161 : True := .intro
theorem main.tw13148611719377898607 : True := .intro
theorem main.tw15098031235356848795 : True := .intro
theorem main.tw4210618832060959676 : True := .intro
theorem main.tw1372806426800153423 : True := .intro
theorem main.tw12974819211118642341 : True := .intro
theorem main.tw11390293659975261258 : True := .intro
theorem main.tw16962576782160293788 : True := .intro
theorem main.tw11469148683815294839 : True := .intro
theorem main.tw6914184659022975773 : True := .intro
theorem main.tw15244097889725654702 : True := .intro
theorem main.tw4258463428174104133 : True := .intro
theorem main.tw17223442867436993403 : True := .intro
theorem main.tw11135027115929721415 : True := .intro
theorem main.tw1027651156746619712 : True := .intro
theorem main.tw15136431859952498927 : True := .intro
theorem main.tw18178676814319149831 : True := .intro
theorem main.tw8334314009168571695 : True := .intro
theorem main.tw13974046611088194958 : True := .intro
theorem main.tw9392487213469676918 : True := .intro
theorem main.tw6519269512792494810 : True := .intro
theorem main.tw7019240024125815769 : True := .intro
theorem main.tw3867218068155391060 : True := .intro
theorem main.tw2704602940660078815 : True := .intro
theorem main.tw10992214633131536827 : True := .intro
theorem main.tw5517759331935216279 : True := .intro
theorem main.tw6907636171062424033 : True := .intro
theorem main.tw2900998541784483753 : True := .intro
theorem main.tw5378808338967829844 : True := .intro
theorem main.tw960986543115211030 : True := .intro
theorem main.tw15984706205718930553 : True := .intro
theorem main.tw14009396871252706886 : True := .intro
theorem main.tw18332899500509843999 : True := .intro
theorem main.tw2583023086579268501 : True := .intro
theorem main.tw7113585516715319716 : True := .intro
theorem main.tw5010051100324977839 : True := .intro
theorem main.tw2709746457059553413 : True := .intro
theorem main.tw12942913107403878096 : True := .intro
theorem main.tw12530995576970511020 : True := .intro
theorem main.tw13255245976751338989 : True := .intro
theorem main.tw9498315638749924794 : True := .intro
theorem main.tw6252391252262179987 : True := .intro
theorem main.tw7358942708152152329 : True := .intro
theorem main.tw8492455212021363390 : True := .intro
theorem main.tw8565580760176719406 : True := .intro
theorem main.tw1615956725737779560 : True := .intro
theorem main.tw6222487380544312443 : True := .intro
theorem main.tw6570437773673931950 : True := .intro
theorem main.tw8528285597010949478 : True := .intro
theorem main.tw16757190730947197508 : True := .intro
theorem main.tw11012492570468723375 : True := .intro
theorem main.tw7554534293552944094 : True := .intro
theorem main.tw14136325212780177784 : True := .intro
theorem main.tw18325589031809861271 : True := .intro
theorem main.tw2724176850512262202 : True := .intro
theorem main.tw3033261876257692807 : True := .intro
theorem main.tw3485684062173492111 : True := .intro
theorem main.tw833945537157984683 : True := .intro
theorem main.tw6557543464795787104 : True := .intro
theorem main.tw9155575984036265788 : True := .intro
theorem main.tw5995161000843957690 : True := .intro
theorem main.tw4917070330192852093 : True := .intro
theorem main.tw3627144658338631552 : True := .intro
theorem main.tw14457758005677747962 : True := .intro
theorem main.tw14635473669698735251 : True := .intro
theorem main.tw12747388180105724736 : True := .intro
theorem main.tw17767330081159143506 : True := .intro
theorem main.tw9626384672669237482 : True := .intro
theorem main.tw15970538086172389420 : True := .intro
theorem main.tw4812270449578504274 : True := .intro
theorem main.tw18403998269306519403 : True := .intro
theorem main.tw17510229520200029679 : True := .intro
theorem main.tw2110754180369666209 : True := .intro
theorem main.tw16923884221124529275 : True := .intro
theorem main.tw834873547066669988 : True := .intro
theorem main.tw2190695567426971638 : True := .intro
theorem main.tw8947760058931562597 : True := .intro
theorem main.tw15303317825217679618 : True := .intro
theorem main.tw10642606787283503386 : True := .intro
theorem main.tw13642826006792871662 : True := .intro
theorem main.tw10876375607700338302 : True := .intro
theorem main.tw12431561837914552411 : True := .intro
theorem main.tw17864028415675338326 : True := .intro
theorem main.tw11001617756164336837 : True := .intro
theorem main.tw5797031442667253490 : True := .intro
theorem main.tw6164561884633627433 : True := .intro
theorem main.tw12900284412222446716 : True := .intro
theorem main.tw7411558596216406370 : True := .intro
theorem main.tw6862492499505807319 : True := .intro
theorem main.tw1587290215689348708 : True := .intro
theorem main.tw12885385263037960081 : True := .intro
theorem main.tw4458048076830672230 : True := .intro
theorem main.tw11403851563620829512 : True := .intro
theorem main.tw12455012482086183272 : True := .intro
theorem main.tw6741292078354696603 : True := .intro
theorem main.tw7514964652732493775 : True := .intro
theorem main.tw5061512775090418087 : True := .intro
theorem main.tw5106512470501171327 : True := .intro
theorem main.tw8624498521744291746 : True := .intro
theorem main.tw18438843042052247593 : True := .intro
theorem main.tw3197156666308221516 : True := .intro
theorem main.tw17943756269633507525 : True := .intro
theorem main.tw10101900104965146230 : True := .intro
theorem main.tw6140287776057189764 : True := .intro
theorem main.tw16940653100087695844 : True := .intro
theorem main.tw16424990018577422225 : True := .intro
theorem main.tw10452441009100146310 : True := .intro
theorem main.tw16707527281638135014 : True := .intro
theorem main.tw6639522245352263942 : True := .intro
theorem main.tw4359638763739663684 : True := .intro
theorem main.tw13989496423458381343 : True := .intro
theorem main.tw5460091804258272057 : True := .intro
theorem main.tw16877947373546393871 : True := .intro
theorem main.tw4966469486753893531 : True := .intro
theorem main.tw15556330048392946422 : True := .intro
theorem main.tw17906638245316424091 : True := .intro
theorem main.tw18317609476662902477 : True := .intro
theorem main.tw18344032359734412310 : True := .intro
theorem main.tw12986061983710234785 : True := .intro
theorem main.tw8153860185051352139 : True := .intro
theorem main.tw15684375888932747349 : True := .intro
theorem main.tw1360087194343636844 : True := .intro
theorem main.tw9903775340124721222 : True := .intro
theorem main.tw12346658559823942425 : True := .intro
theorem main.tw5289026146741335887 : True := .intro
theorem main.tw17737603089517620647 : True := .intro
theorem main.tw14161005256144132680 : True := .intro
theorem main.tw8394416109485655870 : True := .intro
theorem main.tw2287093442842179507 : True := .intro
theorem main.tw18446094637698972617 : True := .intro
theorem main.tw17025424565251489684 : True := .intro
theorem main.tw2261811237465622523 : True := .intro
theorem main.tw14504180641510445567 : True := .intro
theorem main.tw11712081513822626495 : True := .intro
theorem main.tw10750994468655217958 : True := .intro
theorem main.tw918671981122897330 : True := .intro
theorem main.tw12139096438432415106 : True := .intro
theorem main.tw12748397558918655664 : True := .intro
theorem main.tw896017019891655293 : True := .intro
theorem main.tw17413806152003534235 : True := .intro
theorem main.tw5837888446457221635 : True := .intro
theorem main.tw10564528347858357063 : True := .intro
theorem main.tw7884331609784382070 : True := .intro
theorem main.tw7691172733374981047 : True := .intro
theorem main.tw9175052073728820173 : True := .intro
theorem main.tw6674386428176565332 : True := .intro
theorem main.tw11962923498438245051 : True := .intro
theorem main.tw13260870731297125680 : True := .intro
theorem main.tw12992176717851604617 : True := .intro
theorem main.tw1627914004837282890 : True := .intro
theorem main.tw4039676971129161736 : True := .intro
theorem main.tw1409966394225722968 : True := .intro
theorem main.tw7530017696762252536 : True := .intro
theorem main.tw8283060676807011144 : True := .intro
theorem main.tw6418098437765475518 : True := .intro
theorem main.tw2287757881348798766 : True := .intro
theorem main.tw3342365933539840098 : True := .intro
theorem main.tw14539993770535171780 : True := .intro
theorem main.tw7074144079889050967 : True := .intro
theorem main.tw16778611742570070204 : True := .intro
theorem main.tw17708487481403421675 : True := .intro
theorem main.tw15491723280356408159 : True := .intro
theorem main.tw13224007501803129859 : True := .intro
theorem main.tw12574995316784493246 : True := .intro
theorem main.tw16765925921980633802 : True := .intro
theorem main.tw11461230924637031220 : True := .intro
theorem main.tw5303952258864922383 : True := .intro
theorem main.tw65644731488775911 : True := .intro
theorem main.tw16411370214107742406 : True := .intro
theorem main.tw17290568124846718506 : True := .intro
theorem main.tw17298271098590275757 : True := .intro
theorem main.tw16035907590883218939 : True := .intro
theorem main.tw4044139247061151142 : True := .intro
theorem main.tw12867379429370454646 : True := .intro
theorem main.tw3814186520784112166 : True := .intro
theorem main.tw10140136200207757160 : True := .intro
theorem main.tw3343439749351644125 : True := .intro
theorem main.tw17091655785135471103 : True := .intro
theorem main.tw10625486282989778954 : True := .intro
theorem main.tw12057704586751987240 : True := .intro
theorem main.tw7214478077546791972 : True := .intro
theorem main.tw9681375758050803366 : True := .intro
theorem main.tw13110970153573199417 : True := .intro
theorem main.tw18063282731904131703 : True := .intro
theorem main.tw1850612553970854742 : True := .intro
theorem main.tw5102693214775723256 : True := .intro
theorem main.tw8427638858588021438 : True := .intro
theorem main.tw793299525264137939 : True := .intro
theorem main.tw3905226178654972811 : True := .intro
theorem main.tw8663697691656813868 : True := .intro
theorem main.tw12670839924663504800 : True := .intro
theorem main.tw7647378279178456250 : True := .intro
theorem main.tw10391951854915411234 : True := .intro
theorem main.tw15580989882048331800 : True := .intro
theorem main.tw16721930046160240684 : True := .intro
theorem main.tw9190990891756207365 : True := .intro
theorem main.tw13676971244355772609 : True := .intro
theorem main.tw10159738436595150677 : True := .intro
theorem main.tw6702130215012162313 : True := .intro
theorem main.tw6183352029847204284 : True := .intro
theorem main.tw7698036289167662538 : True := .intro
theorem main.tw11003572833241299968 : True := .intro
theorem main.tw716429049611869786 : True := .intro
theorem main.tw9808303207383738048 : True := .intro
theorem main.tw16572128252103988241 : True := .intro
theorem main.tw2456247091588846565 : True := .intro
theorem main.tw16320729459185622934 : True := .intro
theorem main.tw73751810991705359 : True := .intro
theorem main.tw1306636233014830658 : True := .intro
theorem main.tw4452170602077327944 : True := .intro
theorem main.tw15853742577940245110 : True := .intro
theorem main.tw12596693381112413025 : True := .intro
theorem main.tw10924716458440934090 : True := .intro
theorem main.tw9561784451562097942 : True := .intro
theorem main.tw2433702464844828792 : True := .intro
theorem main.tw17477492558424962760 : True := .intro
theorem main.tw9897820754763898449 : True := .intro
theorem main.tw4839478117068044826 : True := .intro
theorem main.tw4775608329324902142 : True := .intro
theorem main.tw12252054271945606052 : True := .intro
theorem main.tw5665406974723832613 : True := .intro
theorem main.tw18218335207050127959 : True := .intro
theorem main.tw451873465583785326 : True := .intro
theorem main.tw1269329923203890863 : True := .intro
theorem main.tw15131278010643852716 : True := .intro
theorem main.tw12518504611687188807 : True := .intro
theorem main.tw17118054049896295152 : True := .intro
theorem main.tw2022962002417519128 : True := .intro
theorem main.tw15282798724139172088 : True := .intro
theorem main.tw14623576949289902444 : True := .intro
theorem main.tw14672674291997333471 : True := .intro
theorem main.tw7675930258259734528 : True := .intro
theorem main.tw7624122152786673341 : True := .intro
theorem main.tw8419495778230234659 : True := .intro
theorem main.tw10219080375879083632 : True := .intro
theorem main.tw1261021989165538067 : True := .intro
theorem main.tw9189880136782149556 : True := .intro
theorem main.tw1519992759497675636 : True := .intro
theorem main.tw10186938856007831324 : True := .intro
theorem main.tw17817656438006933710 : True := .intro
theorem main.tw4370134204219402791 : True := .intro
theorem main.tw16026775910206950810 : True := .intro
theorem main.tw13978478705568000493 : True := .intro
theorem main.tw6298394922185409918 : True := .intro
theorem main.tw16128220689672181975 : True := .intro
theorem main.tw9321267617633783869 : True := .intro
theorem main.tw1318968915056948652 : True := .intro
theorem main.tw8828626079734051433 : True := .intro
theorem main.tw7054876372555587774 : True := .intro
theorem main.tw4871624949866520906 : True := .intro
theorem main.tw2278972029675796859 : True := .intro
theorem main.tw9747897558166968733 : True := .intro
theorem main.tw16292202817602668162 : True := .intro
theorem main.tw1198661942849946583 : True := .intro
theorem main.tw8652556701797213591 : True := .intro
theorem main.tw10204856939554784155 : True := .intro
theorem main.tw526373878138232175 : True := .intro
theorem main.tw4046449949787424452 : True := .intro
theorem main.tw12324921354453157484 : True := .intro
theorem main.tw14805756002866571830 : True := .intro
theorem main.tw7943094425149488825 : True := .intro
theorem main.tw15670109119070698982 : True := .intro
theorem main.tw9653258972835725974 : True := .intro
theorem main.tw6106196091520820027 : True := .intro
theorem main.tw4219356904048308301 : True := .intro
theorem main.tw11815829001073249272 : True := .intro
theorem main.tw4365514962571936147 : True := .intro
theorem main.tw16057503054469045564 : True := .intro
theorem main.tw6214117541549086881 : True := .intro
theorem main.tw12298629886278197574 : True := .intro
theorem main.tw17297283025540448806 : True := .intro
theorem main.tw3203809635103463919 : True := .intro
theorem main.tw10987386120367425466 : True := .intro
theorem main.tw12800608258095302798 : True := .intro
theorem main.tw8905992674379837232 : True := .intro
theorem main.tw6590341273101898363 : True := .intro
theorem main.tw11689664321512496715 : True := .intro
theorem main.tw13597483153833180358 : True := .intro
theorem main.tw13348322127785295214 : True := .intro
theorem main.tw14907226015203709474 : True := .intro
theorem main.tw1211270941048087907 : True := .intro
theorem main.tw16355746345580011080 : True := .intro
theorem main.tw10733187975300939785 : True := .intro
theorem main.tw1236483940969888574 : True := .intro
theorem main.tw2647654807098235363 : True := .intro
theorem main.tw10363585996791799541 : True := .intro
theorem main.tw6056095068991171605 : True := .intro
theorem main.tw16972566868458125486 : True := .intro
theorem main.tw9608646114965807792 : True := .intro
theorem main.tw15772080087578916929 : True := .intro
theorem main.tw11982392923317675503 : True := .intro
theorem main.tw14535484193269619989 : True := .intro
theorem main.tw10114013102757674387 : True := .intro
theorem main.tw11595355409239048105 : True := .intro
theorem main.tw7761410557224570781 : True := .intro
theorem main.tw5839530249802149432 : True := .intro
theorem main.tw7299474751278700455 : True := .intro
theorem main.tw7563215957194029611 : True := .intro
theorem main.tw16689149305811164139 : True := .intro
theorem main.tw6768520987592691376 : True := .intro
theorem main.tw5363903885879670357 : True := .intro
theorem main.tw17465928265306105389 : True := .intro
theorem main.tw2906824675625879941 : True := .intro
theorem main.tw11933201153402537488 : True := .intro
theorem main.tw8118072479153026202 : True := .intro
theorem main.tw17659147809683748901 : True := .intro
theorem main.tw9361300454564663673 : True := .intro
theorem main.tw11049269918873537771 : True := .intro
theorem main.tw11967333016625521393 : True := .intro
theorem main.tw1157997071576566072 : True := .intro
theorem main.tw16480584520131690045 : True := .intro
theorem main.tw18302796317244248524 : True := .intro
theorem main.tw15425874342098770709 : True := .intro
theorem main.tw8989776476301544223 : True := .intro
theorem main.tw2484414159333256978 : True := .intro
theorem main.tw15446329576048744955 : True := .intro
theorem main.tw15312394840280087653 : True := .intro
theorem main.tw15579395750891953841 : True := .intro
theorem main.tw563973728909168745 : True := .intro
theorem main.tw4139100593308808776 : True := .intro
theorem main.tw6264281720289328834 : True := .intro
theorem main.tw16656740534632174751 : True := .intro
theorem main.tw3546150205236023746 : True := .intro
theorem main.tw8707812797481193996 : True := .intro
theorem main.tw11774690029378154688 : True := .intro
theorem main.tw8834365191522931223 : True := .intro
theorem main.tw12692632004510240207 : True := .intro
theorem main.tw3911810758690780188 : True := .intro
theorem main.tw7682646441695089857 : True := .intro
theorem main.tw3724484323120607773 : True := .intro
theorem main.tw13355152605343272895 : True := .intro
theorem main.tw15060185592220127646 : True := .intro
theorem main.tw6596593509180878263 : True := .intro
theorem main.tw16320215318167395912 : True := .intro
theorem main.tw657867468410044558 : True := .intro
theorem main.tw12332102779922042578 : True := .intro
theorem main.tw16676564476587882173 : True := .intro
theorem main.tw13227692790652741651 : True := .intro
theorem main.tw453184122279072053 : True := .intro
theorem main.tw6044114016751833949 : True := .intro
theorem main.tw7751025194823839400 : True := .intro
theorem main.tw6584820252761975732 : True := .intro
theorem main.tw18238007617527299592 : True := .intro
theorem main.tw18342001204779339714 : True := .intro
theorem main.tw5464139401052260700 : True := .intro
theorem main.tw15737690656516749961 : True := .intro
theorem main.tw7974275031393228247 : True := .intro
theorem main.tw5518243967957118194 : True := .intro
theorem main.tw302440914744352476 : True := .intro
theorem main.tw3562595001068472590 : True := .intro
theorem main.tw12075919899556687040 : True := .intro
theorem main.tw11725999154989108132 : True := .intro
theorem main.tw16396084126727719574 : True := .intro
theorem main.tw4908570168794737769 : True := .intro
theorem main.tw9942282790977331292 : True := .intro
theorem main.tw15267601115554557575 : True := .intro
theorem main.tw4324958949535026087 : True := .intro
theorem main.tw17057053908230417247 : True := .intro
theorem main.tw8548823596671561066 : True := .intro
theorem main.tw12304082900475741265 : True := .intro
theorem main.tw2173562974560187446 : True := .intro
theorem main.tw16519101796099990279 : True := .intro
theorem main.tw10210597933619972095 : True := .intro
theorem main.tw8496349624203035976 : True := .intro
theorem main.tw9939699701984659387 : True := .intro
theorem main.tw13478642292854932123 : True := .intro
theorem main.tw6877560268529008848 : True := .intro
theorem main.tw7221758910455160077 : True := .intro
theorem main.tw14771111431291430275 : True := .intro
theorem main.tw5102715291955495162 : True := .intro
theorem main.tw14637806741061077295 : True := .intro
theorem main.tw15656275678258859468 : True := .intro
theorem main.tw14554314840745968623 : True := .intro
theorem main.tw979501456738626862 : True := .intro
theorem main.tw961187720498965250 : True := .intro
theorem main.tw2341703837736514645 : True := .intro
theorem main.tw8436210846270712021 : True := .intro
theorem main.tw14097447854668400296 : True := .intro
theorem main.tw9508770018378322450 : True := .intro
theorem main.tw10199874654664476236 : True := .intro
theorem main.tw14064073609400967072 : True := .intro
theorem main.tw13590572293223372214 : True := .intro
theorem main.tw2759098988195820126 : True := .intro
theorem main.tw983542388872702638 : True := .intro
theorem main.tw7483713754202142201 : True := .intro
theorem main.tw10843882697959080548 : True := .intro
theorem main.tw1054321117371714560 : True := .intro
theorem main.tw2406621943657119228 : True := .intro
theorem main.tw7237411587787531456 : True := .intro
theorem main.tw1289389943133740499 : True := .intro
theorem main.tw10663580350406149668 : True := .intro
theorem main.tw14721343552236136636 : True := .intro
theorem main.tw3240935880901042570 : True := .intro
theorem main.tw17403364634526059139 : True := .intro
theorem main.tw7165207203227711834 : True := .intro
theorem main.tw3583811862363856187 : True := .intro
theorem main.tw221909299271738847 : True := .intro
theorem main.tw8952462522180670554 : True := .intro
theorem main.tw16629339528299215175 : True := .intro
theorem main.tw12646911602827044314 : True := .intro
theorem main.tw11020365191643786025 : True := .intro
theorem main.tw4333880214566435006 : True := .intro
theorem main.tw16451033083921036709 : True := .intro
theorem main.tw9355243762808164322 : True := .intro
theorem main.tw18315214858253571532 : True := .intro
theorem main.tw2279707942289718827 : True := .intro
theorem main.tw4237967493491133255 : True := .intro
theorem main.tw16008457594558532635 : True := .intro
theorem main.tw9369988214560726041 : True := .intro
theorem main.tw5768018617931124328 : True := .intro
theorem main.tw8312829660672013939 : True := .intro
theorem main.tw17280665378484479262 : True := .intro
theorem main.tw15788135083398108852 : True := .intro
theorem main.tw5450094653865882931 : True := .intro
theorem main.tw14027531716089632829 : True := .intro
theorem main.tw6672407995127200409 : True := .intro
theorem main.tw4388993273346631982 : True := .intro
theorem main.tw3305931106042330821 : True := .intro
theorem main.tw6483966928607899096 : True := .intro
theorem main.tw3544752959273917758 : True := .intro
theorem main.tw6124416833075167902 : True := .intro
theorem main.tw16098250325252768472 : True := .intro
theorem main.tw4492577900981701499 : True := .intro
theorem main.tw8732486101406053781 : True := .intro
theorem main.tw2750411421705246143 : True := .intro
theorem main.tw13838900630717943254 : True := .intro
theorem main.tw8466321980469482115 : True := .intro
theorem main.tw3222223853247747169 : True := .intro
theorem main.tw16218864148678617972 : True := .intro
theorem main.tw3554760562371715034 : True := .intro
theorem main.tw17051649370788187498 : True := .intro
theorem main.tw3491332818749588091 : True := .intro
theorem main.tw14639212616227390028 : True := .intro
theorem main.tw9668287257029764190 : True := .intro
theorem main.tw1531012537173254328 : True := .intro
theorem main.tw1827765177636990938 : True := .intro
theorem main.tw7742616358663508648 : True := .intro
theorem main.tw5401703158475992631 : True := .intro
theorem main.tw5418533224930618480 : True := .intro
theorem main.tw14666387041718499266 : True := .intro
theorem main.tw12675357926760492328 : True := .intro
theorem main.tw6511744376749373798 : True := .intro
theorem main.tw17456035664235451855 : True := .intro
theorem main.tw4886955015573163100 : True := .intro
theorem main.tw2442773178527959075 : True := .intro
theorem main.tw16203622797070002922 : True := .intro
theorem main.tw2012372014189735793 : True := .intro
theorem main.tw10234815189450012239 : True := .intro
theorem main.tw3299218664060906527 : True := .intro
theorem main.tw1632041292262086317 : True := .intro
theorem main.tw2744014450722944760 : True := .intro
theorem main.tw9925469786538053656 : True := .intro
theorem main.tw6237627108579964202 : True := .intro
theorem main.tw13981707834035343584 : True := .intro
theorem main.tw7875838824674609581 : True := .intro
theorem main.tw14286279103370969706 : True := .intro
theorem main.tw12564604832814323664 : True := .intro
theorem main.tw9287587430799945685 : True := .intro
theorem main.tw10548918766592180815 : True := .intro
theorem main.tw11643815928222810078 : True := .intro
theorem main.tw4719957520787936630 : True := .intro
theorem main.tw7846812961960373227 : True := .intro
theorem main.tw15624239662980076321 : True := .intro
theorem main.tw18314829044154829275 : True := .intro
theorem main.tw6072795283324543088 : True := .intro
theorem main.tw52199770228462824 : True := .intro
theorem main.tw12681957500809781501 : True := .intro
theorem main.tw11041858737867550897 : True := .intro
theorem main.tw13738235750113832370 : True := .intro
theorem main.tw16136984950599521427 : True := .intro
theorem main.tw7904437144335635152 : True := .intro
theorem main.tw14722489848711283861 : True := .intro
theorem main.tw6404898279339705064 : True := .intro
theorem main.tw5671064798259553346 : True := .intro
theorem main.tw15565075772751903193 : True := .intro
theorem main.tw11410963132546700228 : True := .intro
theorem main.tw4838787530573997063 : True := .intro
theorem main.tw3864431920445960829 : True := .intro
theorem main.tw8634654232796393261 : True := .intro
theorem main.tw16274502184877008141 : True := .intro
theorem main.tw440032029612755421 : True := .intro
theorem main.tw16551855485269240956 : True := .intro
theorem main.tw13611986716879344365 : True := .intro
theorem main.tw13227784636351994527 : True := .intro
theorem main.tw7699798408344515789 : True := .intro
theorem main.tw4385281892830598654 : True := .intro
theorem main.tw2136821422063795447 : True := .intro
theorem main.tw3422715526262721465 : True := .intro
theorem main.tw16501172079758305675 : True := .intro
theorem main.tw9811667543942387436 : True := .intro
theorem main.tw9131807755668617818 : True := .intro
theorem main.tw7697417962357392202 : True := .intro
theorem main.tw6642858168728409138 : True := .intro
theorem main.tw9483696857397876608 : True := .intro
theorem main.tw6559806142732475569 : True := .intro
theorem main.tw16445288326565961964 : True := .intro
theorem main.tw45874523831157525 : True := .intro
theorem main.tw18288009448212308685 : True := .intro
theorem main.tw15062679425460387418 : True := .intro
theorem main.tw14859100970857779836 : True := .intro
theorem main.tw4026173324967665524 : True := .intro
theorem main.tw9573086628692744296 : True := .intro
theorem main.tw8249873531624179374 : True := .intro
theorem main.tw4926259647451002352 : True := .intro
theorem main.tw11548542833958708988 : True := .intro
theorem main.tw17268439761433841065 : True := .intro
theorem main.tw17493723678399337961 : True := .intro
theorem main.tw2279047495162143687 : True := .intro
theorem main.tw6542085627976250192 : True := .intro
theorem main.tw8090509862211737132 : True := .intro
theorem main.tw8809968196449919288 : True := .intro
theorem main.tw14798791472264738832 : True := .intro
theorem main.tw18425317256667529438 : True := .intro
theorem main.tw5865035375444044283 : True := .intro
theorem main.tw3609762217373132089 : True := .intro
theorem main.tw4900431672193113347 : True := .intro
theorem main.tw16950194794029067938 : True := .intro
theorem main.tw9381886862466946253 : True := .intro
theorem main.tw12338497608069007261 : True := .intro
theorem main.tw4502447428920916452 : True := .intro
theorem main.tw12142246244290616864 : True := .intro
theorem main.tw17067035981215421688 : True := .intro
theorem main.tw2215267417292685860 : True := .intro
theorem main.tw8006537069960932158 : True := .intro
theorem main.tw7788533954027902341 : True := .intro
theorem main.tw18328743936084910167 : True := .intro
theorem main.tw7394006948641179287 : True := .intro
theorem main.tw6394338452064613244 : True := .intro
theorem main.tw3078062877239007290 : True := .intro
theorem main.tw957831766286570088 : True := .intro
theorem main.tw10463206416058312583 : True := .intro
theorem main.tw10123989817122485451 : True := .intro
theorem main.tw17871620999419790863 : True := .intro
theorem main.tw18165044119631177899 : True := .intro
theorem main.tw8102450764968551371 : True := .intro
theorem main.tw1092785777240315536 : True := .intro
theorem main.tw10169072693733980587 : True := .intro
theorem main.tw3464709057266567092 : True := .intro
theorem main.tw8883465813499100731 : True := .intro
theorem main.tw545269030811804461 : True := .intro
theorem main.tw785246043732427063 : True := .intro
theorem main.tw18120430973489738927 : True := .intro
theorem main.tw6455149578367423246 : True := .intro
theorem main.tw18031918436515192882 : True := .intro
theorem main.tw11814867827210800679 : True := .intro
theorem main.tw2702614204127132176 : True := .intro
theorem main.tw11129844816282181526 : True := .intro
theorem main.tw17035731627637430848 : True := .intro
theorem main.tw16891041157754790011 : True := .intro
theorem main.tw16049902774474827687 : True := .intro
theorem main.tw10665089971535097683 : True := .intro
theorem main.tw13532707612510029741 : True := .intro
theorem main.tw16651728564920304373 : True := .intro
theorem main.tw17495560712657236704 : True := .intro
theorem main.tw1084220662915027778 : True := .intro
theorem main.tw9889869242142760280 : True := .intro
theorem main.tw14713023043418418522 : True := .intro
theorem main.tw4350604851675314991 : True := .intro
theorem main.tw8478376212529829071 : True := .intro
theorem main.tw12927740378394474205 : True := .intro
theorem main.tw13387034863623141157 : True := .intro
theorem main.tw9376575566392132001 : True := .intro
theorem main.tw5532463470591059822 : True := .intro
theorem main.tw12077450504624328385 : True := .intro
theorem main.tw14793117695081215449 : True := .intro
theorem main.tw7083192437325867461 : True := .intro
theorem main.tw2442105787152858967 : True := .intro
theorem main.tw471287901995484742 : True := .intro
theorem main.tw12463224122652932544 : True := .intro
theorem main.tw6855474311058116810 : True := .intro
theorem main.tw1519927702969063271 : True := .intro
theorem main.tw8046773169563483271 : True := .intro
theorem main.tw13803360072150633466 : True := .intro
theorem main.tw11531331273489700057 : True := .intro
theorem main.tw1886080085820668685 : True := .intro
theorem main.tw17413556829735388813 : True := .intro
theorem main.tw10149618387772673413 : True := .intro
theorem main.tw4156125974679941130 : True := .intro
theorem main.tw4638281056170512193 : True := .intro
theorem main.tw5461779845614304980 : True := .intro
theorem main.tw7173623326730630234 : True := .intro
theorem main.tw8475525182357872103 : True := .intro
theorem main.tw14513571923725367585 : True := .intro
theorem main.tw5491092008493831813 : True := .intro
theorem main.tw10201359505653846880 : True := .intro
theorem main.tw5186916860251794821 : True := .intro
theorem main.tw1800746815547063501 : True := .intro
theorem main.tw12785325919471990445 : True := .intro
theorem main.tw7590696779544312186 : True := .intro
theorem main.tw15803610866087392283 : True := .intro
theorem main.tw13724616953566380437 : True := .intro
theorem main.tw9557352009045844224 : True := .intro
theorem main.tw15928290008803537013 : True := .intro
theorem main.tw3466206800631347469 : True := .intro
theorem main.tw16641786646906312760 : True := .intro
theorem main.tw15350898050860989542 : True := .intro
theorem main.tw796168687070700412 : True := .intro
theorem main.tw17353955331779342651 : True := .intro
theorem main.tw12027323910402764344 : True := .intro
theorem main.tw12885673836220544336 : True := .intro
theorem main.tw7293298908176781663 : True := .intro
theorem main.tw8211959896082780389 : True := .intro
theorem main.tw10334261112615635914 : True := .intro
theorem main.tw4072190877284726289 : True := .intro
theorem main.tw3027586509356016917 : True := .intro
theorem main.tw5436791530062809996 : True := .intro
theorem main.tw16452447596832230105 : True := .intro
theorem main.tw6635558491612396129 : True := .intro
theorem main.tw66260789543402106 : True := .intro
theorem main.tw16832360635688203351 : True := .intro
theorem main.tw9274054859765456524 : True := .intro
theorem main.tw12915833801598196605 : True := .intro
theorem main.tw6112859857366181021 : True := .intro
theorem main.tw11785714552879321826 : True := .intro
theorem main.tw6161133996638707016 : True := .intro
theorem main.tw4990475226369331113 : True := .intro
theorem main.tw4573282807186111410 : True := .intro
theorem main.tw11752208632293872130 : True := .intro
theorem main.tw17292155258170135553 : True := .intro
theorem main.tw6898400011967081535 : True := .intro
theorem main.tw8228058824784995430 : True := .intro
theorem main.tw2127038452521536779 : True := .intro
theorem main.tw13219505800766818778 : True := .intro
theorem main.tw14368271195830560734 : True := .intro
theorem main.tw5287059835090251167 : True := .intro
theorem main.tw1277820614484962519 : True := .intro
theorem main.tw341453280667917650 : True := .intro
theorem main.tw6385024630547198690 : True := .intro
theorem main.tw16952715711813285254 : True := .intro
theorem main.tw16922381011570985944 : True := .intro
theorem main.tw6075091234017535682 : True := .intro
theorem main.tw9303439499767911484 : True := .intro
theorem main.tw7298748307773712898 : True := .intro
theorem main.tw4681395471914393968 : True := .intro
theorem main.tw2852251193174398662 : True := .intro
theorem main.tw11544348965984651327 : True := .intro
theorem main.tw4034048572721927537 : True := .intro
theorem main.tw15109750227778091905 : True := .intro
theorem main.tw13667920496262714385 : True := .intro
theorem main.tw10877679251791092727 : True := .intro
theorem main.tw6545385358150927430 : True := .intro
theorem main.tw1439166485080882 : True := .intro
theorem main.tw14806125269305119590 : True := .intro
theorem main.tw5534937755968359062 : True := .intro
theorem main.tw11710404883906591787 : True := .intro
theorem main.tw10665469846841522134 : True := .intro
theorem main.tw15514936471743626214 : True := .intro
theorem main.tw104360540948158410 : True := .intro
theorem main.tw6788530277367551627 : True := .intro
theorem main.tw7929128423345735474 : True := .intro
theorem main.tw5613160597433933154 : True := .intro
theorem main.tw6234934611588079204 : True := .intro
theorem main.tw5623159541915647742 : True := .intro
theorem main.tw13876859957761632879 : True := .intro
theorem main.tw10225356144477167704 : True := .intro
theorem main.tw13777938177461255882 : True := .intro
theorem main.tw15734200111481486640 : True := .intro
theorem main.tw15608450976537380609 : True := .intro
theorem main.tw6660377722381337597 : True := .intro
theorem main.tw6541472054586571296 : True := .intro
theorem main.tw12594366453804578888 : True := .intro
theorem main.tw4036238207498611232 : True := .intro
theorem main.tw6696893160125735727 : True := .intro
theorem main.tw5309058905264134205 : True := .intro
theorem main.tw13110577991587790113 : True := .intro
theorem main.tw358491910552652209 : True := .intro
theorem main.tw4644634924443464280 : True := .intro
theorem main.tw4924694640843408985 : True := .intro
theorem main.tw5838101520590548733 : True := .intro
theorem main.tw4261964983698606537 : True := .intro
theorem main.tw13406003279186336099 : True := .intro
theorem main.tw15806524323241146399 : True := .intro
theorem main.tw244467455267321384 : True := .intro
theorem main.tw2855982326401850692 : True := .intro
theorem main.tw7623511443260959870 : True := .intro
theorem main.tw11101190512080308003 : True := .intro
theorem main.tw16153842264607907944 : True := .intro
theorem main.tw11614346279706655073 : True := .intro
theorem main.tw2019394398466159022 : True := .intro
theorem main.tw13270728482189477470 : True := .intro
theorem main.tw16817993663026736274 : True := .intro
theorem main.tw16251939892948500945 : True := .intro
theorem main.tw14814594519894181452 : True := .intro
theorem main.tw2847738043507502446 : True := .intro
theorem main.tw11904941031934877020 : True := .intro
theorem main.tw14698241182937546978 : True := .intro
theorem main.tw12247406853277913960 : True := .intro
theorem main.tw15140838672463199983 : True := .intro
theorem main.tw13194694976546938235 : True := .intro
theorem main.tw11707585526205722907 : True := .intro
theorem main.tw6283666216762299864 : True := .intro
theorem main.tw9211707205177423737 : True := .intro
theorem main.tw3502538907535333668 : True := .intro
theorem main.tw4957201559515094939 : True := .intro
theorem main.tw7668756792840097458 : True := .intro
theorem main.tw1781223760143429554 : True := .intro
theorem main.tw2815835355862285053 : True := .intro
theorem main.tw2564707057010578714 : True := .intro
theorem main.tw6117098260805541702 : True := .intro
theorem main.tw16332121612629036173 : True := .intro
theorem main.tw861011362418597151 : True := .intro
theorem main.tw1199522599840049251 : True := .intro
theorem main.tw18005423509665057918 : True := .intro
theorem main.tw7280229744369011555 : True := .intro
theorem main.tw17749094844149355310 : True := .intro
theorem main.tw15660686498588105780 : True := .intro
theorem main.tw11789403723227289746 : True := .intro
theorem main.tw10939538800803721631 : True := .intro
theorem main.tw14636892021812066514 : True := .intro
theorem main.tw33614349342159083 : True := .intro
theorem main.tw14689642411216604063 : True := .intro
theorem main.tw14966384500751655702 : True := .intro
theorem main.tw4156893749530806270 : True := .intro
theorem main.tw14747868875625980864 : True := .intro
theorem main.tw379899607457092286 : True := .intro
theorem main.tw4554758830490901076 : True := .intro
theorem main.tw7697325545964645800 : True := .intro
theorem main.tw5352104535322881683 : True := .intro
theorem main.tw13943995914846970329 : True := .intro
theorem main.tw9067231828042526015 : True := .intro
theorem main.tw14962632401376961426 : True := .intro
theorem main.tw17262041522474090127 : True := .intro
theorem main.tw17110241357884498264 : True := .intro
theorem main.tw9305260289983281074 : True := .intro
theorem main.tw6935676897619631941 : True := .intro
theorem main.tw11923525502935528744 : True := .intro
theorem main.tw1548279923187021627 : True := .intro
theorem main.tw1046443281632482020 : True := .intro
theorem main.tw15606653302220566414 : True := .intro
theorem main.tw17398713541454457963 : True := .intro
theorem main.tw13965128551521907918 : True := .intro
theorem main.tw2225892363528398861 : True := .intro
theorem main.tw11670399090076514202 : True := .intro
theorem main.tw6605025701479795990 : True := .intro
theorem main.tw10483362588635715401 : True := .intro
theorem main.tw15631942387314964779 : True := .intro
theorem main.tw3374421720907634814 : True := .intro
theorem main.tw4741876487499883015 : True := .intro
theorem main.tw8708525158762292434 : True := .intro
theorem main.tw6564366825971848878 : True := .intro
theorem main.tw11028137302277699333 : True := .intro
theorem main.tw6512923179152221375 : True := .intro
theorem main.tw2363833142923657126 : True := .intro
theorem main.tw4540862073306924251 : True := .intro
theorem main.tw14992222465124788362 : True := .intro
theorem main.tw9161159452563919750 : True := .intro
theorem main.tw2343935838158425641 : True := .intro
theorem main.tw997282325285248744 : True := .intro
theorem main.tw10543740743216835930 : True := .intro
theorem main.tw17227442419121036007 : True := .intro
theorem main.tw3464005467892915075 : True := .intro
theorem main.tw2156145737304315219 : True := .intro
theorem main.tw15715279681875453748 : True := .intro
theorem main.tw3985830497718990404 : True := .intro
theorem main.tw12969983923199422630 : True := .intro
theorem main.tw15237998210293483671 : True := .intro
theorem main.tw10063615490667107986 : True := .intro
theorem main.tw10255180020182114038 : True := .intro
theorem main.tw8928990268580360915 : True := .intro
theorem main.tw17232878180008095221 : True := .intro
theorem main.tw16755849432154420019 : True := .intro
theorem main.tw17809569316528986123 : True := .intro
theorem main.tw13689083923384677848 : True := .intro
theorem main.tw6384028539975533837 : True := .intro
theorem main.tw11685015443652150514 : True := .intro
theorem main.tw16304157974115477746 : True := .intro
theorem main.tw15432235134303409840 : True := .intro
theorem main.tw2599750674813586877 : True := .intro
theorem main.tw13711685867348743795 : True := .intro
theorem main.tw7755989106900416354 : True := .intro
theorem main.tw3078964553284005601 : True := .intro
theorem main.tw13914785722749861914 : True := .intro
theorem main.tw8068379698969174043 : True := .intro
theorem main.tw9706551924872666739 : True := .intro
theorem main.tw15975542379867263092 : True := .intro
theorem main.tw8231103150381890471 : True := .intro
theorem main.tw2373237607127697691 : True := .intro
theorem main.tw11019096307435631222 : True := .intro
theorem main.tw9432497158254318119 : True := .intro
theorem main.tw12023146180999706270 : True := .intro
theorem main.tw6897311013810396976 : True := .intro
theorem main.tw16459181004822140265 : True := .intro
theorem main.tw4409510580461579534 : True := .intro
theorem main.tw11332626419695707122 : True := .intro
theorem main.tw10985888656933367436 : True := .intro
theorem main.tw16338599768312175441 : True := .intro
theorem main.tw18162592725011693541 : True := .intro
theorem main.tw11728771520666845194 : True := .intro
theorem main.tw17128476026691140212 : True := .intro
theorem main.tw2518857965603918243 : True := .intro
theorem main.tw10242657825688863476 : True := .intro
theorem main.tw18046886581883190830 : True := .intro
theorem main.tw6254453501864316152 : True := .intro
theorem main.tw7159657910766400284 : True := .intro
theorem main.tw12118360930388700471 : True := .intro
theorem main.tw13476453092275279800 : True := .intro
theorem main.tw2923326968966308885 : True := .intro
theorem main.tw8421283082012440161 : True := .intro
theorem main.tw4587069139193485165 : True := .intro
theorem main.tw3056878081241006185 : True := .intro
theorem main.tw1336659820572712380 : True := .intro
theorem main.tw5890889631881817875 : True := .intro
theorem main.tw14925635105145352654 : True := .intro
theorem main.tw1610520696219057239 : True := .intro
theorem main.tw14336716466608126219 : True := .intro
theorem main.tw3459380146013217038 : True := .intro
theorem main.tw17675563975411571412 : True := .intro
theorem main.tw14327529596952217943 : True := .intro
theorem main.tw11676816360460091147 : True := .intro
theorem main.tw13807522157400373393 : True := .intro
theorem main.tw15845428651173386099 : True := .intro
theorem main.tw17144978775634262171 : True := .intro
theorem main.tw432790634136133436 : True := .intro
theorem main.tw15950006927108054178 : True := .intro
theorem main.tw10435530978670571659 : True := .intro
theorem main.tw169701792822576828 : True := .intro
theorem main.tw746619569347964165 : True := .intro
theorem main.tw16901679771719207805 : True := .intro
theorem main.tw3558987517978398910 : True := .intro
theorem main.tw1121519763818294206 : True := .intro
theorem main.tw16932134980577923087 : True := .intro
theorem main.tw9693634834776466397 : True := .intro
theorem main.tw1041082287264499562 : True := .intro
theorem main.tw13514204307011423542 : True := .intro
theorem main.tw13555666566803518343 : True := .intro
theorem main.tw16798207577519904205 : True := .intro
theorem main.tw5435614590818080486 : True := .intro
theorem main.tw4420394385881154636 : True := .intro
theorem main.tw11490900464029743698 : True := .intro
theorem main.tw2259866600804224517 : True := .intro
theorem main.tw2794983428953441941 : True := .intro
theorem main.tw4884833596989118616 : True := .intro
theorem main.tw14755733875199540201 : True := .intro
theorem main.tw17768309097967576573 : True := .intro
theorem main.tw5942767615974559732 : True := .intro
theorem main.tw4887914996728235509 : True := .intro
theorem main.tw9381277316556691805 : True := .intro
theorem main.tw3779293765908593550 : True := .intro
theorem main.tw4038153913678941442 : True := .intro
theorem main.tw2629084897520917108 : True := .intro
theorem main.tw9515011664573035354 : True := .intro
theorem main.tw5616070069386785504 : True := .intro
theorem main.tw6361450105264607166 : True := .intro
theorem main.tw12590340796369385619 : True := .intro
theorem main.tw13313126695403321540 : True := .intro
theorem main.tw2195194259037543316 : True := .intro
theorem main.tw6868236387235032019 : True := .intro
theorem main.tw12361340156312767134 : True := .intro
theorem main.tw4630824681090250767 : True := .intro
theorem main.tw16046730324260685337 : True := .intro
theorem main.tw15277975159832343749 : True := .intro
theorem main.tw6663778134991626487 : True := .intro
theorem main.tw17146568849442343683 : True := .intro
theorem main.tw7153082081811710619 : True := .intro
theorem main.tw12343854547171428336 : True := .intro
theorem main.tw5084117380071580128 : True := .intro
theorem main.tw8440099810896429113 : True := .intro
theorem main.tw14060465935940456498 : True := .intro
theorem main.tw1628013610222277130 : True := .intro
theorem main.tw765107192605250810 : True := .intro
theorem main.tw7010351842590255796 : True := .intro
theorem main.tw16008252555379753968 : True := .intro
theorem main.tw7093617532817203218 : True := .intro
theorem main.tw6785432497481299714 : True := .intro
theorem main.tw8467378866343419333 : True := .intro
theorem main.tw7238065321881607702 : True := .intro
theorem main.tw9069182735580402390 : True := .intro
theorem main.tw13157206579259725088 : True := .intro
theorem main.tw1453356044741674121 : True := .intro
theorem main.tw17453503289922162039 : True := .intro
theorem main.tw9253799994812790149 : True := .intro
theorem main.tw962193829226610041 : True := .intro
theorem main.tw12014785543569010823 : True := .intro
theorem main.tw854977524454699277 : True := .intro
theorem main.tw11086099901593105684 : True := .intro
theorem main.tw16508919721030705984 : True := .intro
theorem main.tw13350764725976880583 : True := .intro
theorem main.tw4651154628705390771 : True := .intro
theorem main.tw14235155234550121937 : True := .intro
theorem main.tw4475767826048309731 : True := .intro
theorem main.tw13591255225166038476 : True := .intro
theorem main.tw1429040668314091153 : True := .intro
theorem main.tw17715262827843222689 : True := .intro
theorem main.tw4330594992337426955 : True := .intro
theorem main.tw14061640607465278742 : True := .intro
theorem main.tw3829396358689915599 : True := .intro
theorem main.tw15616401959046598769 : True := .intro
theorem main.tw12130321265151566525 : True := .intro
theorem main.tw4244067443239231564 : True := .intro
theorem main.tw12741544251441588921 : True := .intro
theorem main.tw8729708805864041840 : True := .intro
theorem main.tw12839114828313443825 : True := .intro
theorem main.tw13077236301305049449 : True := .intro
theorem main.tw11218778669853930896 : True := .intro
theorem main.tw9994787619460420439 : True := .intro
theorem main.tw1980160206288974728 : True := .intro
theorem main.tw9121559901702372667 : True := .intro
theorem main.tw9976160756891316704 : True := .intro
theorem main.tw8879939841973710529 : True := .intro
theorem main.tw16187894506366716058 : True := .intro
theorem main.tw12922898485456448571 : True := .intro
theorem main.tw11120327062377616369 : True := .intro
theorem main.tw6632538468102435922 : True := .intro
theorem main.tw17052023290607921161 : True := .intro
theorem main.tw8546124895413445307 : True := .intro
theorem main.tw13693970394777133609 : True := .intro
theorem main.tw3160845607165458772 : True := .intro
theorem main.tw12608185968620612914 : True := .intro
theorem main.tw16022572192331126682 : True := .intro
theorem main.tw12909650291622432550 : True := .intro
theorem main.tw13113777628852026922 : True := .intro
theorem main.tw8984930932524396370 : True := .intro
theorem main.tw4817600198373253283 : True := .intro
theorem main.tw5240779543111244032 : True := .intro
theorem main.tw12570134572688502250 : True := .intro
theorem main.tw7186131708394509389 : True := .intro
theorem main.tw1714950047550659301 : True := .intro
theorem main.tw5160751907100791332 : True := .intro
theorem main.tw8060562821785662972 : True := .intro
theorem main.tw3994622017586750766 : True := .intro
theorem main.tw17147588175821073265 : True := .intro
theorem main.tw17958375852430007124 : True := .intro
theorem main.tw54841869916938688 : True := .intro
theorem main.tw656089360051881306 : True := .intro
theorem main.tw15461212566085484399 : True := .intro
theorem main.tw9512817274939609580 : True := .intro
theorem main.tw12222963475772708484 : True := .intro
theorem main.tw10652611922669240339 : True := .intro
theorem main.tw11646826074482590764 : True := .intro
theorem main.tw6565609875121592624 : True := .intro
theorem main.tw3960113756560652017 : True := .intro
theorem main.tw6655696309031964122 : True := .intro
theorem main.tw2921621734765799159 : True := .intro
theorem main.tw14562738103837258888 : True := .intro
theorem main.tw6690441779611380620 : True := .intro
theorem main.tw2921958311620399285 : True := .intro
theorem main.tw13995172100960836882 : True := .intro
theorem main.tw15017983477296125989 : True := .intro
theorem main.tw452746233719593009 : True := .intro
theorem main.tw17679725944135375923 : True := .intro
theorem main.tw13626721169425172152 : True := .intro
theorem main.tw11221353774195762014 : True := .intro
theorem main.tw2538046985915079169 : True := .intro
theorem main.tw4126091431370883743 : True := .intro
theorem main.tw1099256609624015869 : True := .intro
theorem main.tw4216741518440994707 : True := .intro
theorem main.tw10707853282979444102 : True := .intro
theorem main.tw3454311308915712629 : True := .intro
theorem main.tw3370842686811476594 : True := .intro
theorem main.tw3370190323706015969 : True := .intro
theorem main.tw7235775444256392728 : True := .intro
theorem main.tw15955573374722617477 : True := .intro
theorem main.tw15589955886551607785 : True := .intro
theorem main.tw10669944970481658594 : True := .intro
theorem main.tw5790326737455844299 : True := .intro
theorem main.tw11181722664286889309 : True := .intro
theorem main.tw12653679108036650311 : True := .intro
theorem main.tw14640416626631428029 : True := .intro
theorem main.tw8905464785575363620 : True := .intro
theorem main.tw10094358506670053839 : True := .intro
theorem main.tw11399646045708457374 : True := .intro
theorem main.tw645136716886899192 : True := .intro
theorem main.tw1678875084529416142 : True := .intro
theorem main.tw4749052000479324790 : True := .intro
theorem main.tw4637267157515435788 : True := .intro
theorem main.tw6508729118710982530 : True := .intro
theorem main.tw17272174723667511238 : True := .intro
theorem main.tw1098248734344127483 : True := .intro
theorem main.tw9265829497004654079 : True := .intro
theorem main.tw5181119749688162637 : True := .intro
theorem main.tw11614107205274993552 : True := .intro
theorem main.tw18134284020713443437 : True := .intro
theorem main.tw12623159325031504133 : True := .intro
theorem main.tw3796207824708393856 : True := .intro
theorem main.tw11388154006635350966 : True := .intro
theorem main.tw15554039934745177238 : True := .intro
theorem main.tw5871769198996169552 : True := .intro
theorem main.tw2566753976717531306 : True := .intro
theorem main.tw15595112118272840620 : True := .intro
theorem main.tw3532412968194664532 : True := .intro
theorem main.tw17402982504261768225 : True := .intro
theorem main.tw8930851030842425676 : True := .intro
theorem main.tw15510692781650021527 : True := .intro
theorem main.tw7297187181890747607 : True := .intro
theorem main.tw6389877041954997217 : True := .intro
theorem main.tw12255313618399501761 : True := .intro
theorem main.tw11239335112260394413 : True := .intro
theorem main.tw6910295442248876197 : True := .intro
theorem main.tw17336282652733537790 : True := .intro
theorem main.tw8557395850702784662 : True := .intro
theorem main.tw18392154025008590481 : True := .intro
theorem main.tw2337230598321646361 : True := .intro
theorem main.tw4297412468100583042 : True := .intro
theorem main.tw6785657489111691699 : True := .intro
theorem main.tw16806246253224384389 : True := .intro
theorem main.tw15467891735981029475 : True := .intro
theorem main.tw16102231251864390963 : True := .intro
theorem main.tw1826329307503635854 : True := .intro
theorem main.tw10821422270917381399 : True := .intro
theorem main.tw7439787175107056256 : True := .intro
theorem main.tw1270039299266317192 : True := .intro
theorem main.tw2428412748925179849 : True := .intro
theorem main.tw8207831470162742035 : True := .intro
theorem main.tw14439473939278146460 : True := .intro
theorem main.tw10418042200766032776 : True := .intro
theorem main.tw7142256002058171272 : True := .intro
theorem main.tw5240536507193477226 : True := .intro
theorem main.tw8844999433837080629 : True := .intro
theorem main.tw11487549891475536569 : True := .intro
theorem main.tw6657087868060814 : True := .intro
theorem main.tw12543713266681445118 : True := .intro
theorem main.tw7472368607099979303 : True := .intro
theorem main.tw17128291446047057950 : True := .intro
theorem main.tw5396361742852586263 : True := .intro
theorem main.tw49674306023711395 : True := .intro
theorem main.tw10896356407431480244 : True := .intro
theorem main.tw11476092923266045095 : True := .intro
theorem main.tw18284262389922463811 : True := .intro
theorem main.tw7332552209862256014 : True := .intro
theorem main.tw4413345314126155841 : True := .intro
theorem main.tw15957597259013190341 : True := .intro
theorem main.tw3298483428156984901 : True := .intro
theorem main.tw5473700226181020891 : True := .intro
theorem main.tw12941917028564957548 : True := .intro
theorem main.tw2496676261509829067 : True := .intro
theorem main.tw3137596982192898869 : True := .intro
theorem main.tw330327031418712150 : True := .intro
theorem main.tw14662554035588321541 : True := .intro
theorem main.tw14218914174604095658 : True := .intro
theorem main.tw15485851114877660061 : True := .intro
theorem main.tw7273056430967151046 : True := .intro
theorem main.tw16135426469972691074 : True := .intro
theorem main.tw9563168847844234846 : True := .intro
theorem main.tw10047389527955405517 : True := .intro
theorem main.tw1142173933681417890 : True := .intro
theorem main.tw223528310411579522 : True := .intro
theorem main.tw1150287232629052791 : True := .intro
theorem main.tw10813080517026676716 : True := .intro
theorem main.tw4650958065196391918 : True := .intro
theorem main.tw17275675667316583603 : True := .intro
theorem main.tw14313897822631088780 : True := .intro
theorem main.tw15438212644395081984 : True := .intro
theorem main.tw11735423636902730196 : True := .intro
theorem main.tw10283388844273144081 : True := .intro
theorem main.tw8260724100714396741 : True := .intro
theorem main.tw4026956272090484662 : True := .intro
theorem main.tw12519306246395310219 : True := .intro
theorem main.tw5585478044538960755 : True := .intro
theorem main.tw10450603732522932521 : True := .intro
theorem main.tw13116522157475607773 : True := .intro
theorem main.tw13293747886898857621 : True := .intro
theorem main.tw7108953243070827183 : True := .intro
theorem main.tw6516198228755648517 : True := .intro
theorem main.tw5502569546826302122 : True := .intro
theorem main.tw13713940216889387898 : True := .intro
theorem main.tw17016820405989369747 : True := .intro
theorem main.tw10044588960856096794 : True := .intro
theorem main.tw17561526911342447988 : True := .intro
theorem main.tw6862268138105152660 : True := .intro
theorem main.tw15465920861327815835 : True := .intro
theorem main.tw14080665800827857628 : True := .intro
theorem main.tw6801380410627298636 : True := .intro
theorem main.tw16544489699163171333 : True := .intro
theorem main.tw3394367416137920725 : True := .intro
theorem main.tw16790050636404226231 : True := .intro
theorem main.tw1130211791997205004 : True := .intro
theorem main.tw5203219222101121401 : True := .intro
theorem main.tw1255815211270559930 : True := .intro
theorem main.tw14759895335926876869 : True := .intro
theorem main.tw11041547156204584376 : True := .intro
theorem main.tw7268301785047649679 : True := .intro
theorem main.tw16959884160788844718 : True := .intro
theorem main.tw10474107093616326617 : True := .intro
local macro_rules | `(tactic| k_lt $h:ident) => `(tactic| ((try (have hT := Mine.tp_of $h (by (dsimp only [Mine.adr]); assumption); have hA := Mine.Tp.apart hT; (dsimp only [Mine.adr] at hT hA))); (replace $h := allLt_of $h); (simp only [AllLt, and_true] at $h:ident)))
local macro_rules | `(tactic| k_lt2 $h:ident) => `(tactic| ((try (have hT := Mine.Tp.up (by assumption) $h; have hA := Mine.Tp.apart hT)); (replace $h := ltN $h)))
local macro_rules | `(tactic| k_updF) => `(tactic| (refine' Mine.updF_sh ?s ?A; (case s => (repeat (first | exact Mine.ShF.head | apply Mine.ShF.tail))); (case A => ((dsimp only [Mine.adr]); assumption))))
local macro_rules | `(tactic| k_upd) => `(tactic| (refine' Mine.upd_sh ?s ?A; (case s => (repeat (first | exact Mine.ShU.head | apply Mine.ShU.tail))); (case A => ((dsimp only [Mine.adr]); assumption))))
local macro_rules | `(tactic| walk_at "call builtin:dict.get") => `(tactic| (k_here; k_dflt (first
  | (refine' Mine.mk_get0 ?N ?d ?o ?lo ?k ?e ?u ?_; (case N => k_asm); (case d => k_mem); (case o => with_reducible assumption); (case lo => k_asm); (case k => k_mem); (case e => k_mem); (case u => units_room))
  | (refine' Mine.mk_get1 ?N ?d ?o ?lo ?k ?e ?k1 ?e1 ?n ?u ?_; (case N => k_asm); (case d => k_mem); (case o => with_reducible assumption); (case lo => k_asm); (case k => k_mem); (case e => k_mem); (case k1 => k_mem); (case e1 => k_mem); (case n => decide); (case u => units_room)))))
local macro_rules | `(tactic| walk_at "setItem ref ref") => `(tactic| (k_here; k_dflt (first
  | (refine' Mine.mk_set0 ?F ?N ?U ?o ?k ?e ?u ?_; (case F => k_asm); (case N => k_asm); (case U => k_updF); (case o => with_reducible assumption); (case k => k_mem); (case e => k_mem); (case u => units_room))
  | (refine' Mine.mk_set1 ?F ?N ?U ?o ?k ?e ?k1 ?e1 ?u ?_; (case F => k_asm); (case N => k_asm); (case U => k_updF); (case o => with_reducible assumption); (case k => k_mem); (case e => k_mem); (case k1 => k_mem); (case e1 => k_mem); (case u => units_room))); intro h' o' F' N'; (try dsimp only at N'); (try k_sweep); (try intro hd')))
local macro_rules | `(tactic| walk_at "getMethod ref") => `(tactic| (k_here; (with_reducible show wpAny _ _ (getMethod (Value.ref _) (PySem.Str.ofString "get") _) _ _ _); k_dflt (refine' Mine.mk_method ?N ?m ?o ?_; (case N => k_asm); (case m => k_mem); (case o => with_reducible assumption))))
local macro_rules | `(tactic| walk_at "eval Dict nil nil") => `(tactic| (k_here; k_dflt (refine' newDict_K ?k1 ?k2 ?k3 ?_; (case k1 => k_asm); (case k2 => k_asm); (case k3 => exact TopRead.nolimit (by k_asm)); k_whole); intro d' h' o' F' N' l1 lo' hs' fs' hi' fi'; (try k_lt l1); (try k_sweep)))
set_option Elab.async true
set_option maxRecDepth 100000 in
set_option maxHeartbeats 0 in
theorem main : PySem.Challenge.rw_rg0224_01.Holds := by
  w_on; o_law; k_head
  case hw => w_witness2
  k_go0
  all_goals try k_fold
  refine wpAny_execs_cons ?_
  generalize hR : execs (_ :: _) _ = R
  iterate 30 (first | (k_unfold; (try dsimp only)) | (k_end; wrow_close) | walk1 | (dsimp only; walk1) | (leave1; walk_say "STEP leave1"; try dsimp only) | skip)
  have hA6 := Mine.ap_n (by k_asm) (by (repeat (refine Mine.apc ?_ ?_; · k_all)); exact List.Pairwise.nil)
  (dsimp only [Mine.adr] at hA6)
  iterate 450 (first | (k_unfold; (try dsimp only)) | (k_end; wrow_close) | walk1 | (dsimp only; walk1) | (leave1; walk_say "STEP leave1"; try dsimp only) | skip)
  subst hR
  refine' law_end ?zho ?zhcs ?zhk ?zhn1 ?zhn2 ?zG ?zhL ?zF ?zN ?zhm ?zn1 ?zn2 ?zn3 ?zn4 ?zc4 ?zc3 ?zc2 ?zc1 ?zhJ ?zh1 ?zh2 ?zh3 ?zh6 ?zhI ?zhcl ?zok ?zq
  case zho => k_is
  case zhcs => exact rfl
  case zhk => exact rfl
  case zhn1 => exact rfl
  case zhn2 => exact rfl
  case zF => k_asm
  case zN => k_asm
  case zG =>
    refine g0_kk (Kf := _root_.Mine.main.heap_1_39) (Hid.mk fun w' => ?zsub) (by k_asm) (by k_asm)
    case zsub =>
      unfold KK
      repeat (refine List.forall_mem_cons.mpr ⟨?_, ?_⟩; · (dsimp only; k_is))
      exact List.forall_mem_nil _
  case zhL => exact rfl
  case zhm => exact rfl
  case zh6 => k_asm
  case zn4 => k_mem
  case zn3 => k_mem
  case zn1 => k_mem
  case zn2 => k_mem
  case zc4 => k_mem
  case zc3 => k_mem
  case zc2 => k_mem
  case zc1 => k_mem
  case zhJ => k_asm
  case zh1 => k_asm
  case zh2 => k_asm
  case zh3 => k_asm
  case zhI => k_asm
  case zhcl => exact Nat.le_trans (Nat.le_of_eq (List.length_map _)) (Nat.le_trans (List.length_take_le _ _) (by decide))
  case zok => exact ok_law _
  case zq =>
    intro h9 tk9 m9 F9
    (show GoodW _ _ _ _ _ (.ok (.ret (.bool _))) _)
    refine goodW_bool (by assumption) (by assumption) (raisesW_false ?_) ?_
    (· wrow_none_raised)
    (· (refine postW_of (by wrow_shape) (w_eq_bool (w_res rfl) w_lit) ?_); exact rfl)
end Mine
theorem PySem.Challenge.cw_rg0224_01_holds : PySem.Challenge.rw_rg0224_01.Holds := by
  exact Mine.main
