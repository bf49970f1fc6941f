import PyProof.Rows.All
import Wide.All
import OpenK.AllK
import Wide.FinOn
import PySem.Challenge.RW_xm0072_01
set_option Elab.async false
set_option maxRecDepth 100000
set_option linter.unusedVariables false

/- part M1 -/
section
open PySem PySem.Calls PyProof.Rows
namespace Mine

/-- plain data: what a Python value says -/
inductive V where
  | none
  | bool (b : Bool)
  | int (n : Int)
  | list (xs : List V)
  | tup (xs : List V)

abbrev Ext (h h' : Heap) : Prop := ∀ b o, h.get? b = some o → h'.get? b = some o
noncomputable def PTup (h : Heap) (a : Addr) (items : Array Value) : Prop := ∃ n, h.get? a = some { cls := .type "tuple", data := .seq items n }
theorem PTup.isTup {h : Heap} {a : Addr} {items : Array Value} (x : PTup h a items) : IsTup h a items := let ⟨n, e⟩ := x; ⟨_, e, rfl, n, rfl⟩

mutual
/-- the Python value X says v in the heap h; every list and tuple within lies at an address of P -/
noncomputable def VR (P : Addr → Prop) (h : Heap) : V → Value → Prop
  | .none, X => X = .none
  | .bool b, X => X = .bool b
  | .int n, X => ∃ t, X = .int n t
  | .list xs, X => ∃ a l, X = .ref a ∧ P a ∧ h.PlainList a (List.toArray l) ∧ VRs P h xs l
  | .tup xs, X => ∃ a l, X = .ref a ∧ P a ∧ PTup h a (List.toArray l) ∧ VRs P h xs l
noncomputable def VRs (P : Addr → Prop) (h : Heap) : List V → List Value → Prop
  | [], l => l = []
  | v :: vs, l => ∃ x r, l = x :: r ∧ VR P h v x ∧ VRs P h vs r
end

noncomputable def SeqObj (o : Obj) : Prop := ∃ xs n, o.data = .seq xs n

mutual
theorem VR.mono {P P' : Addr → Prop} {h h' : Heap} (H : ∀ a o, P a → h.get? a = some o → SeqObj o → P' a ∧ h'.get? a = some o) : ∀ (v : V) (X : Value), VR P h v X → VR P' h' v X
  | .none, X, e => by simpa only [VR] using e
  | .bool b, X, e => by simpa only [VR] using e
  | .int n, X, e => by simpa only [VR] using e
  | .list xs, X, e => by
    simp only [VR] at e ⊢
    obtain ⟨a, l, rfl, hp, ⟨n, hl⟩, hs⟩ := e
    have k := H a _ hp hl ⟨_, _, rfl⟩
    exact ⟨a, l, rfl, k.1, ⟨n, k.2⟩, VRs.mono H xs l hs⟩
  | .tup xs, X, e => by
    simp only [VR] at e ⊢
    obtain ⟨a, l, rfl, hp, ⟨n, hl⟩, hs⟩ := e
    have k := H a _ hp hl ⟨_, _, rfl⟩
    exact ⟨a, l, rfl, k.1, ⟨n, k.2⟩, VRs.mono H xs l hs⟩
theorem VRs.mono {P P' : Addr → Prop} {h h' : Heap} (H : ∀ a o, P a → h.get? a = some o → SeqObj o → P' a ∧ h'.get? a = some o) : ∀ (vs : List V) (l : List Value), VRs P h vs l → VRs P' h' vs l
  | [], l, e => by simpa only [VRs] using e
  | v :: vs, l, e => by
    simp only [VRs] at e ⊢
    obtain ⟨x, r, rfl, h1, h2⟩ := e
    exact ⟨x, r, rfl, VR.mono H v x h1, VRs.mono H vs r h2⟩
end
theorem VR.ext {P : Addr → Prop} {h h' : Heap} (k : Ext h h') {v : V} {X : Value} (e : VR P h v X) : VR P h' v X := VR.mono (fun a o hp hg _ => ⟨hp, k a o hg⟩) v X e
theorem VRs.ext {P : Addr → Prop} {h h' : Heap} (k : Ext h h') {v : List V} {X : List Value} (e : VRs P h v X) : VRs P h' v X := VRs.mono (fun a o hp hg _ => ⟨hp, k a o hg⟩) v X e
theorem VR.sub {P P' : Addr → Prop} {h : Heap} (k : ∀ a, P a → P' a) {v : V} {X : Value} (e : VR P h v X) : VR P' h v X := VR.mono (fun a o hp hg _ => ⟨k a hp, hg⟩) v X e
theorem VRs.sub {P P' : Addr → Prop} {h : Heap} (k : ∀ a, P a → P' a) {v : List V} {X : List Value} (e : VRs P h v X) : VRs P' h v X := VRs.mono (fun a o hp hg _ => ⟨k a hp, hg⟩) v X e
theorem VRs.length {P : Addr → Prop} {h : Heap} : ∀ {vs : List V} {l : List Value}, VRs P h vs l → l.length = vs.length
  | [], l, e => by simp only [VRs] at e; subst e; rfl
  | v :: vs, l, e => by
    simp only [VRs] at e
    obtain ⟨x, r, rfl, _, h2⟩ := e
    simp [VRs.length h2]
theorem VRs.get {P : Addr → Prop} {h : Heap} : ∀ {vs : List V} {l : List Value} {i : Nat} {v : V}, VRs P h vs l → vs[i]? = some v → ∃ x, l[i]? = some x ∧ VR P h v x
  | [], l, i, v, e, hi => by simp at hi
  | w :: vs, l, i, v, e, hi => by
    simp only [VRs] at e
    obtain ⟨x, r, rfl, h1, h2⟩ := e
    cases i with
    | zero => simp at hi; subst hi; exact ⟨x, by simp, h1⟩
    | succ i => simp at hi ⊢; exact VRs.get h2 hi
theorem VRs.append {P : Addr → Prop} {h : Heap} : ∀ {vs ws : List V} {l r : List Value}, VRs P h vs l → VRs P h ws r → VRs P h (vs ++ ws) (l ++ r)
  | [], ws, l, r, e, e' => by simp only [VRs] at e; subst e; simpa using e'
  | v :: vs, ws, l, r, e, e' => by
    simp only [VRs] at e
    obtain ⟨x, t, rfl, h1, h2⟩ := e
    simp only [List.cons_append, VRs]
    exact ⟨x, t ++ r, rfl, h1, VRs.append h2 e'⟩
theorem VRs.take {P : Addr → Prop} {h : Heap} : ∀ {vs : List V} {l : List Value} (k : Nat), VRs P h vs l → VRs P h (vs.take k) (l.take k)
  | _, _, 0, _ => by simp [VRs]
  | [], l, k + 1, e => by simp only [VRs] at e; subst e; simp [VRs]
  | v :: vs, l, k + 1, e => by
    simp only [VRs] at e
    obtain ⟨x, t, rfl, h1, h2⟩ := e
    simp only [List.take_succ_cons, VRs]
    exact ⟨x, t.take k, rfl, h1, VRs.take k h2⟩
theorem VRs.set {P : Addr → Prop} {h : Heap} {w : V} {y : Value} (hy : VR P h w y) : ∀ {vs : List V} {l : List Value} (k : Nat), VRs P h vs l → VRs P h (vs.set k w) (l.set k y)
  | [], l, k, e => by simp only [VRs] at e; subst e; simp [VRs]
  | v :: vs, l, 0, e => by
    simp only [VRs] at e
    obtain ⟨x, t, rfl, h1, h2⟩ := e
    simp only [List.set_cons_zero, VRs]
    exact ⟨y, t, rfl, hy, h2⟩
  | v :: vs, l, k + 1, e => by
    simp only [VRs] at e
    obtain ⟨x, t, rfl, h1, h2⟩ := e
    simp only [List.set_cons_succ, VRs]
    exact ⟨x, t.set k y, rfl, h1, VRs.set hy k h2⟩


/-- a name's place holds X -/
noncomputable def Bd (env : Env) (h : Heap) (x : Str) (X : Value) : Prop :=
  (env.kindOf x = some .local ∧ ∃ m, h.Ns env.locals m ∧ m x = some X) ∨ ((env.kindOf x = some .cell ∨ env.kindOf x = some .free) ∧ ∃ c, env.cells.lookup x = some c ∧ h.IsCell c (some X))

abbrev Mu := Option (Nat × Addr)
noncomputable def Av (P : Addr → Prop) (μ : Mu) : Addr → Prop := fun b => P b ∧ ∀ i a, μ = some (i, a) → b ≠ a
theorem Av.none {P : Addr → Prop} {b : Addr} (h : P b) : Av P none b := ⟨h, fun _ _ e => by cases e⟩
theorem Av.out {P : Addr → Prop} {μ : Mu} {b : Addr} (h : Av P μ b) : P b := h.1

noncomputable def ValAt (P : Addr → Prop) (μ : Mu) (h : Heap) (i : Nat) (v : V) (X : Value) : Prop :=
  ((∀ a, μ ≠ some (i, a)) ∧ VR (Av P μ) h v X) ∨ ∃ a xs l, μ = some (i, a) ∧ X = .ref a ∧ v = .list xs ∧ h.PlainList a (List.toArray l) ∧ VRs (Av P μ) h xs l

abbrev St := List (Option V)
structure Sig where
  sc : Scope
  σ : List (Str × Nat)
  asg : List Str

/-- the frame: what the slots ρ say, the names' places hold; μ: the one slot that holds a list that may turn, and its address -/
structure Frm (hb : Heap) (G : Sig) (h0 : Heap) (P : Addr → Prop) (μ : Mu) (env : Env) (ρ : St) (h : Heap) : Prop where
  scope : env.scope = G.sc
  kind : G.sc.kind = .function
  glob : env.globals = mainGlobals
  blt : env.builtins = builtinsNs
  base : Ext hb h0
  keep : Ext h0 h
  free : ∀ b, h.get? b = none → P b
  ns : ∃ m, h.Ns env.locals m
  lnew : h0.get? env.locals = none
  cel : ∀ x ∈ G.asg, ∃ c w, env.cells.lookup x = some c ∧ h0.get? c = none ∧ h.IsCell c w
  apart : env.cells.Pairwise fun x y => x.2 ≠ y.2
  inj : ∀ x y i, G.σ.lookup x = some i → G.σ.lookup y = some i → x = y
  bnd : ∀ x i v, G.σ.lookup x = some i → ρ.getD i none = some v → ∃ X, Bd env h x X ∧ ValAt P μ h i v X
  mu : ∀ i a, μ = some (i, a) → P a ∧ h0.get? a = none ∧ ∃ items, h.PlainList a items

theorem Ext.refl (h : Heap) : Ext h h := fun _ _ e => e
theorem Ext.trans {a b c : Heap} (x : Ext a b) (y : Ext b c) : Ext a c := fun k o e => y k o (x k o e)
theorem Ext.push (h : Heap) (o : Obj) : Ext h (h.push o) := fun _ _ e => Heap.get?_push_of_some _ e
theorem Ext.none {h h' : Heap} (k : Ext h h') {b : Addr} (e : h'.get? b = none) : h.get? b = none := by
  cases q : h.get? b with
  | none => rfl
  | some o => rw [k b o q] at e; cases e

theorem Bd.ext {env : Env} {h h' : Heap} {x : Str} {X : Value} (k : Ext h h') (b : Bd env h x X) : Bd env h' x X := by
  rcases b with ⟨hk, m, hn, hm⟩ | ⟨hk, c, hc, hx⟩
  · exact .inl ⟨hk, m, hn.keeps k, hm⟩
  · exact .inr ⟨hk, c, hc, hx.keeps k⟩
theorem ValAt.ext {P : Addr → Prop} {μ : Mu} {h h' : Heap} {i : Nat} {v : V} {X : Value} (k : Ext h h') (b : ValAt P μ h i v X) : ValAt P μ h' i v X := by
  rcases b with ⟨hk, hv⟩ | ⟨a, xs, l, e1, e2, e3, e4, e5⟩
  · exact .inl ⟨hk, hv.ext k⟩
  · exact .inr ⟨a, xs, l, e1, e2, e3, e4.at (k a), e5.ext k⟩
theorem Frm.ext {hb : Heap} {G : Sig} {h0 : Heap} {P : Addr → Prop} {μ : Mu} {env : Env} {ρ : St} {h h' : Heap} (k : Ext h h') (F : Frm hb G h0 P μ env ρ h) : Frm hb G h0 P μ env ρ h' :=
  ⟨F.scope, F.kind, F.glob, F.blt, F.base, F.keep.trans k, fun b e => F.free b (k.none e), let ⟨m, hn⟩ := F.ns; ⟨m, hn.keeps k⟩, F.lnew,
    fun x hx => let ⟨c, w, h1, h2, h3⟩ := F.cel x hx; ⟨c, w, h1, h2, h3.keeps k⟩, F.apart, F.inj,
    fun x i v e1 e2 => let ⟨X, hB, hV⟩ := F.bnd x i v e1 e2; ⟨X, hB.ext k, hV.ext k⟩, fun i a e => let ⟨h1, h2, items, h3⟩ := F.mu i a e; ⟨h1, h2, items, h3.at (k a)⟩⟩

abbrev Free (P : Addr → Prop) (h : Heap) : Prop := ∀ b, h.get? b = none → P b
theorem Frm.av {hb : Heap} {G : Sig} {h0 : Heap} {P : Addr → Prop} {μ : Mu} {env : Env} {ρ : St} {h : Heap} (F : Frm hb G h0 P μ env ρ h) : Free (Av P μ) h := fun b e => ⟨F.free b e, fun i a q z => by
  obtain ⟨_, _, items, n, hn⟩ := F.mu i a q
  subst z
  rw [hn] at e; cases e⟩
theorem Frm.hb {hb : Heap} {G : Sig} {h0 : Heap} {P : Addr → Prop} {μ : Mu} {env : Env} {ρ : St} {h : Heap} (F : Frm hb G h0 P μ env ρ h) : Ext hb h := F.base.trans F.keep
theorem Frm.fk {hb : Heap} {G : Sig} {h0 : Heap} {P : Addr → Prop} {μ : Mu} {env : Env} {ρ : St} {h : Heap} (F : Frm hb G h0 P μ env ρ h) : env.scope.kind = .function := by rw [F.scope]; exact F.kind

/-- what is no list and no tuple may be narrowed out of P -/
theorem VR.narrow {P P' : Addr → Prop} {h : Heap} {v : V} {X : Value} (k : ∀ a o, P a → h.get? a = some o → SeqObj o → P' a) (e : VR P h v X) : VR P' h v X := VR.mono (fun a o hp hg hs => ⟨k a o hp hg hs, hg⟩) v X e
theorem VRs.narrow {P P' : Addr → Prop} {h : Heap} {v : List V} {X : List Value} (k : ∀ a o, P a → h.get? a = some o → SeqObj o → P' a) (e : VRs P h v X) : VRs P' h v X := VRs.mono (fun a o hp hg hs => ⟨k a o hp hg hs, hg⟩) v X e

noncomputable def AOK (n : Nat) (A : Around) : Prop := A.handled = none ∧ A.depth + n < recursionLimit ∧ A.units + 8 * n + 200 < cLine
theorem AOK.le {n m : Nat} {A : Around} (h : AOK n A) (hm : m ≤ n) : AOK m A := ⟨h.1, by have := h.2.1; omega, by have := h.2.2; omega⟩
theorem AOK.deeper {n : Nat} {A : Around} {env : Env} (h : AOK (n + 1) A) : AOK n (A.deeper env) := ⟨h.1, by have := h.2.1; show A.depth + 1 + n < _; omega, by have := h.2.2; show A.units + 3 + 8 * n + 200 < _; omega⟩

section
variable (prog : Program) (w : World) (hb : Heap)

/-- e ends with what d says, nothing that stood is turned -/
noncomputable def SndE (n : Nat) (G : Sig) (ph : Option Nat) (e : Expr) (d : St → Option V) : Prop :=
  ∀ (A : Around) (env : Env) (h0 : Heap) (P : Addr → Prop) (μ : Mu) (ρ : St) (s : Shared) (v : V) (Q : Value → Shared → Prop) (E : Value → Shared → Prop),
    μ.map (·.1) = ph → AOK n A → Frm hb G h0 P μ env ρ s.heap → d ρ = some v →
    (∀ h' tk X, Ext s.heap h' → VR (Av P μ) h' v X → Q X { s with heap := h', toks := tk }) → wpAny (model prog w) A (eval e env) Q E s
/-- e makes a list of its own -/
noncomputable def SndN (n : Nat) (G : Sig) (ph : Option Nat) (e : Expr) (d : St → Option (List V)) : Prop :=
  ∀ (A : Around) (env : Env) (h0 : Heap) (P : Addr → Prop) (μ : Mu) (ρ : St) (s : Shared) (vs : List V) (Q : Value → Shared → Prop) (E : Value → Shared → Prop),
    μ.map (·.1) = ph → AOK n A → Frm hb G h0 P μ env ρ s.heap → d ρ = some vs →
    (∀ h' tk a l, Ext s.heap h' → s.heap.get? a = none → h'.PlainList a (List.toArray l) → VRs (fun b => Av P μ b ∧ b ≠ a) h' vs l → Q (.ref a) { s with heap := h', toks := tk }) → wpAny (model prog w) A (eval e env) Q E s
noncomputable def SndT (n : Nat) (G : Sig) (ph : Option Nat) (e : Expr) (d : St → Option Bool) : Prop :=
  ∀ (A : Around) (env : Env) (h0 : Heap) (P : Addr → Prop) (μ : Mu) (ρ : St) (s : Shared) (v : Bool) (Q : Bool → Shared → Prop) (E : Value → Shared → Prop),
    μ.map (·.1) = ph → AOK n A → Frm hb G h0 P μ env ρ s.heap → d ρ = some v →
    (∀ h' tk, Ext s.heap h' → Q v { s with heap := h', toks := tk }) → wpAny (model prog w) A (isTrue e env (eval e env)) Q E s
noncomputable def SndL (n : Nat) (G : Sig) (ph : Option Nat) (es : List Expr) (d : St → Option (List V)) : Prop :=
  ∀ (A : Around) (env : Env) (h0 : Heap) (P : Addr → Prop) (μ : Mu) (ρ : St) (s : Shared) (vs : List V) (pos : Pos) (Q : List Value → Shared → Prop) (E : Value → Shared → Prop),
    μ.map (·.1) = ph → AOK n A → Frm hb G h0 P μ env ρ s.heap → d ρ = some vs →
    (∀ h' tk Xs, Ext s.heap h' → VRs (Av P μ) h' vs Xs → Q Xs { s with heap := h', toks := tk }) → wpAny (model prog w) A (spliced (backTo pos (starEach es env))) Q E s
end

section
variable {prog : Program} {w : World} {hb : Heap} {n : Nat} {G : Sig} {ph : Option Nat}

theorem wp2 {l r : Expr} {dl dr : St → Option V} (hl : SndE prog w hb n G ph l dl) (hr : SndE prog w hb n G ph r dr)
    {A : Around} {env : Env} {h0 : Heap} {P : Addr → Prop} {μ : Mu} {ρ : St} {s : Shared} {a b : V} {K : Value → Value → Shared → Prop} {E : Value → Shared → Prop}
    (hμ : μ.map (·.1) = ph) (hA : AOK n A) (F : Frm hb G h0 P μ env ρ s.heap) (ea : dl ρ = some a) (eb : dr ρ = some b)
    (h : ∀ h' tk X Y, Ext s.heap h' → VR (Av P μ) h' a X → VR (Av P μ) h' b Y → K X Y { s with heap := h', toks := tk }) :
    wpAny (model prog w) A (eval l env) (fun X s₁ => wpAny (model prog w) A (eval r env) (fun Y s₂ => K X Y s₂) E s₁) E s := by
  refine hl A env h0 P μ ρ s a _ E hμ hA F ea fun h₁ tk₁ X k₁ hX => ?_
  refine hr A env h0 P μ ρ _ b _ E hμ hA (F.ext k₁) eb fun h₂ tk₂ Y k₂ hY => ?_
  exact h h₂ tk₂ X Y (k₁.trans k₂) (hX.ext k₂) hY

theorem sE_name {x : Str} {pos : Pos} {i : Nat} (hi : G.σ.lookup x = some i) (hp : ph ≠ some i) (hd : (x == ("__debug__" : Str)) = false) (hc : (x == ("__classdict__" : Str)) = false) :
    SndE prog w hb n G ph (.Name x pos) (fun ρ => ρ.getD i none) := by
  intro A env h0 P μ ρ s v Q E hμ hA F ev hQ
  obtain ⟨X, hB, hV⟩ := F.bnd x i v hi ev
  have hk : env.scope.kind = .function := F.fk
  have q : Q X s := by
    rcases hV with ⟨_, hV⟩ | ⟨a, xs, l, e1, _⟩
    · exact hQ s.heap s.toks X (Ext.refl _) hV
    · subst hμ; rw [e1] at hp; exact absurd rfl hp
  rcases hB with ⟨hl, m, hn, hm⟩ | ⟨hl, c, hc', hx⟩
  · exact wpAny_Name (wpAny_loadName_local hk hl hn hm q) hd
  · rcases hl with hl | hl
    · exact wpAny_Name (wpAny_loadName_cell hk hl hc' hx q) hd
    · exact wpAny_Name (wpAny_loadName_free hk hl hc' hx q hc) hd
/-- the list that may turn, read where it stands -/
theorem muName {x : Str} {pos : Pos} {i : Nat} (hi : G.σ.lookup x = some i) (hd : (x == ("__debug__" : Str)) = false) (hc : (x == ("__classdict__" : Str)) = false)
    {A : Around} {env : Env} {h0 : Heap} {P : Addr → Prop} {a : Addr} {ρ : St} {s : Shared} {v : V} {Q : Value → Shared → Prop} {E : Value → Shared → Prop}
    (F : Frm hb G h0 P (some (i, a)) env ρ s.heap) (ev : ρ.getD i none = some v)
    (hQ : ∀ xs l, v = .list xs → s.heap.PlainList a (List.toArray l) → VRs (Av P (some (i, a))) s.heap xs l → Q (.ref a) s) : wpAny (model prog w) A (eval (.Name x pos) env) Q E s := by
  obtain ⟨X, hB, hV⟩ := F.bnd x i v hi ev
  have hk : env.scope.kind = .function := F.fk
  have q : Q X s := by
    rcases hV with ⟨h1, _⟩ | ⟨b, xs, l, e1, e2, e3, e4, e5⟩
    · exact absurd rfl (h1 a)
    · cases e1; subst e2; exact hQ xs l e3 e4 e5
  rcases hB with ⟨hl, m, hn, hm⟩ | ⟨hl, c, hc', hx⟩
  · exact wpAny_Name (wpAny_loadName_local hk hl hn hm q) hd
  · rcases hl with hl | hl
    · exact wpAny_Name (wpAny_loadName_cell hk hl hc' hx q) hd
    · exact wpAny_Name (wpAny_loadName_free hk hl hc' hx q hc) hd

theorem sE_int {i : Int} {k : Nat} {pos : Pos} : SndE prog w hb n G ph (.Constant (.int i) k pos) (fun _ => some (.int i)) := by
  intro A env h0 P μ ρ s v Q E hμ hA F ev hQ
  cases ev
  exact wpAny_Constant_int (hQ _ _ _ (Ext.refl _) ⟨_, rfl⟩)
theorem sE_bool {b : Bool} {k : Nat} {pos : Pos} : SndE prog w hb n G ph (.Constant (.bool b) k pos) (fun _ => some (.bool b)) := by
  intro A env h0 P μ ρ s v Q E hμ hA F ev hQ
  cases ev
  exact wpAny_pure (hQ s.heap s.toks _ (Ext.refl _) rfl)
theorem sE_none {k : Nat} {pos : Pos} : SndE prog w hb n G ph (.Constant .none k pos) (fun _ => some .none) := by
  intro A env h0 P μ ρ s v Q E hμ hA F ev hQ
  cases ev
  exact wpAny_pure (hQ s.heap s.toks _ (Ext.refl _) rfl)
theorem sE_absurd {e : Expr} : SndE prog w hb n G ph e (fun _ => none) := by
  intro A env h0 P μ ρ s v Q E hμ hA F ev hQ
  cases ev
end
end Mine
end

/- part M2 -/
section
open PySem PySem.Calls PyProof.Rows
namespace Mine

noncomputable def small (x : Int) : Bool := Nat.ble x.natAbs 1000000000
theorem small_bits {x : Int} (h : small x = true) : Builtin.Int.intBits x ≤ 64 := PySem.intBits_le_64 (by have := Nat.le_of_ble_eq_true h; omega) (by have := Nat.le_of_ble_eq_true h; omega)

noncomputable def rep {α : Type} : Nat → List α → List α
  | 0, _ => []
  | k + 1, l => l ++ rep k l

noncomputable def binV (op : Operator) (a b : V) : Option V :=
  match op with
  | .Add => (match a, b with
    | .int x, .int y => some (.int (x + y))
    | .list x, .list y => if Nat.ble (x.length + y.length) 10000 then some (.list (x ++ y)) else none
    | _, _ => none)
  | .Sub => (match a, b with
    | .int x, .int y => some (.int (x - y))
    | _, _ => none)
  | .Mult => (match a, b with
    | .int x, .int y => if small x then some (.int (x * y)) else none
    | .list (x :: xs), .int (.ofNat k) => if Nat.ble k 1000 && Nat.ble (x :: xs).length 1000 then some (.list (rep k (x :: xs))) else none
    | _, _ => none)
  | .FloorDiv => (match a, b with
    | .int x, .int y => if small y && !(y == 0) then some (.int (x.fdiv y)) else none
    | _, _ => none)
  | .Mod => (match a, b with
    | .int x, .int y => if y == 0 then none else some (.int (x.fmod y))
    | _, _ => none)
  | .Pow => (match a, b with
    | .int x, .int (.ofNat k) => if small x && Nat.ble k 1000 then some (.int (x ^ k)) else none
    | _, _ => none)
  | _ => none

theorem VRs.rep {P : Addr → Prop} {h : Heap} {vs : List V} {l : List Value} (e : VRs P h vs l) : ∀ k, VRs P h (Mine.rep k vs) (Mine.rep k l)
  | 0 => by simp [Mine.rep, VRs]
  | k + 1 => e.append (VRs.rep e k)
theorem foldl_rep (l : List Value) : ∀ (k : Nat) (acc : Array Value), List.foldl (fun x1 x2 => x1 ++ x2) acc (List.replicate k (List.toArray l)) = acc ++ (Mine.rep k l).toArray
  | 0, acc => by simp [Mine.rep]
  | k + 1, acc => by rw [List.replicate_succ, List.foldl_cons, foldl_rep l k, Mine.rep]; apply Array.ext'; simp
theorem rep_length {α : Type} (l : List α) : ∀ k, (Mine.rep k l).length = k * l.length
  | 0 => by simp [Mine.rep]
  | k + 1 => by rw [Mine.rep, List.length_append, rep_length l k, Nat.succ_mul, Nat.add_comm]

theorem get?_fresh (h : Heap) : h.get? h.objs.size = none := Heap.get?_none_of_le (Nat.le_refl _)
theorem VR.newList {P : Addr → Prop} {h : Heap} {xs : List V} {l : List Value} (f : Free P h) (hl : VRs P h xs l) :
    VR P (h.push { cls := .type "list", data := .seq l.toArray }) (.list xs) (.ref h.objs.size) := by
  simp only [VR]
  exact ⟨_, l, rfl, f _ (get?_fresh h), ⟨_, Heap.get?_push_size _ rfl⟩, hl.ext (Ext.push _ _)⟩
theorem VR.newTup {P : Addr → Prop} {h : Heap} {xs : List V} {l : List Value} (f : Free P h) (hl : VRs P h xs l) :
    VR P (h.push { cls := .type "tuple", data := .seq l.toArray }) (.tup xs) (.ref h.objs.size) := by
  simp only [VR]
  exact ⟨_, l, rfl, f _ (get?_fresh h), ⟨_, Heap.get?_push_size _ rfl⟩, hl.ext (Ext.push _ _)⟩

section
variable {prog : Program} {w : World} {hb : Heap} {n : Nat} {G : Sig} {ph : Option Nat}

theorem mulBase {A : Around} {s : Shared} {l : Addr} {items : Array Value} {k : Nat} {x : Int} {u : Tok} {Q : Value → Shared → Prop} {E : Value → Shared → Prop}
    (hl : s.heap.get? l = some { cls := .type "list", dict := none, data := .seq items k, slots := #[] })
    (hlo : -(2 ^ 63 : Int) ≤ x) (hhi : x < 2 ^ 63) (hsz : items.size * x.toNat ≤ 2 ^ 24)
    (h : Q (.ref s.heap.objs.size) { s with heap := s.heap.push { cls := .type "list", data := .seq (List.foldl (fun x1 x2 => x1 ++ x2) #[] (List.replicate (if items.isEmpty = true then 0 else x.toNat) items)) } }) :
    wpAny (model prog w) A (binaryOp .Mult (.ref l) (.int x u)) Q E s :=
  wpAny_binaryOp_repeat_ref (T := "list") (U := "int") (by decide) ⟨_, hl, rfl⟩ (fun s' => typeIs_int s' x u) noFill_list_mul F.fills_int_mul F.slot_int_rmul repeat_list F.slot_int_index.lookup
    (call_meets F.slot_int_rmul (typeIs_int s x u) F.entry_int_rmul (F.args_int_rmul_2 _ _) (int___rmul___int_list x u l items k)
      ⟨hl, rfl, ⟨_, hl, rfl⟩, call_meets F.slot_list_mul ⟨_, hl, rfl⟩ F.entry_list_mul (F.args_list_mul_2 _ _)
        (AutoListH.list___mul___list_int_3 l items k x u (by simp [Builtin.List.listFitsIndex]; omega) (by omega) (by simp [Builtin.List.listTooLong, sizeLine]; omega))
        ⟨hl, h⟩⟩)

theorem wp_bin {op : Operator} {a b v : V} {A : Around} {s : Shared} {P : Addr → Prop} {X Y : Value} {Q : Value → Shared → Prop} {E : Value → Shared → Prop}
    (e : binV op a b = some v) (f : Free P s.heap) (hX : VR P s.heap a X) (hY : VR P s.heap b Y)
    (hQ : ∀ h' tk Z, Ext s.heap h' → VR P h' v Z → Q Z { s with heap := h', toks := tk }) : wpAny (model prog w) A (binaryOp op X Y) Q E s := by
  unfold binV at e
  split at e
  · split at e
    · rename_i x y
      cases e
      simp only [VR] at hX hY
      obtain ⟨t, rfl⟩ := hX; obtain ⟨u, rfl⟩ := hY
      exact PyProof.Rows.add_int (hQ s.heap _ _ (Ext.refl _) (by simp only [VR]; exact ⟨_, rfl⟩))
    · rename_i xs ys
      split at e
      · rename_i hsz
        cases e
        simp only [VR] at hX hY
        obtain ⟨p, l, rfl, hp, ⟨k1, hl⟩, hs⟩ := hX
        obtain ⟨q, r, rfl, hq, ⟨k2, hr⟩, ht⟩ := hY
        have hsz' := Nat.le_of_ble_eq_true hsz
        have e1 := hs.length
        have e2 := ht.length
        have e3 : l.toArray ++ r.toArray = (l ++ r).toArray := by simp
        refine concat_meets ⟨_, hl, rfl⟩ ⟨_, hr, rfl⟩ noFill_list_add seq_list_add PySem.F.slot_list_add PySem.F.entry_list_add (PySem.F.args_list_add_2 _ _)
          (list_addW p q l.toArray r.toArray k1 k2 none none #[] #[] (by rw [sizeLine_eq, List.size_toArray, List.size_toArray]; omega)) ⟨hl, hr, ?_⟩
        rw [e3]
        exact hQ _ _ _ (Ext.push _ _) (VR.newList f (hs.append ht))
      · cases e
    · cases e
  · split at e
    · rename_i x y
      cases e
      simp only [VR] at hX hY
      obtain ⟨t, rfl⟩ := hX; obtain ⟨u, rfl⟩ := hY
      exact PyProof.Rows.sub_int' (hQ s.heap _ _ (Ext.refl _) (by simp only [VR]; exact ⟨_, rfl⟩))
    · cases e
  · split at e
    · rename_i x y
      split at e
      · rename_i hsm
        cases e
        simp only [VR] at hX hY
        obtain ⟨t, rfl⟩ := hX; obtain ⟨u, rfl⟩ := hY
        exact PyProof.Rows.mul_int (hQ s.heap _ _ (Ext.refl _) (by simp only [VR]; exact ⟨_, rfl⟩)) (hm := PySem.IntMulOk.of_left (small_bits hsm))
      · cases e
    · rename_i x xs k
      split at e
      · rename_i hc
        cases e
        rw [Bool.and_eq_true] at hc
        have hk := Nat.le_of_ble_eq_true hc.1
        have hn := Nat.le_of_ble_eq_true hc.2
        simp only [VR] at hX hY
        obtain ⟨p, l, rfl, hp, ⟨k1, hl⟩, hs⟩ := hX
        obtain ⟨u, rfl⟩ := hY
        have e1 := hs.length
        have hne : l.toArray.isEmpty = false := by
          cases l with
          | nil => simp at e1
          | cons _ _ => rfl
        have hmul : l.length * k ≤ 1000 * 1000 := Nat.mul_le_mul (by omega) hk
        refine mulBase (x := Int.ofNat k) hl (by first | omega | simp) (by first | (simp; omega) | omega) (by rw [List.size_toArray]; exact Nat.le_trans hmul (by decide)) ?_
        have e4 : List.foldl (fun x1 x2 => x1 ++ x2) #[] (List.replicate (if l.toArray.isEmpty = true then 0 else (Int.ofNat k).toNat) l.toArray) = (Mine.rep k l).toArray := by
          rw [hne, if_neg (by decide)]
          rw [show (Int.ofNat k).toNat = k from rfl, foldl_rep]; simp
        rw [e4]
        exact hQ _ _ _ (Ext.push _ _) (VR.newList f (VRs.rep hs k))
      · cases e
    · cases e
  · split at e
    · rename_i x y
      split at e
      · rename_i hc
        cases e
        rw [Bool.and_eq_true] at hc
        have hsm := Nat.le_of_ble_eq_true hc.1
        simp only [VR] at hX hY
        obtain ⟨t, rfl⟩ := hX; obtain ⟨u, rfl⟩ := hY
        exact PyProof.Rows.floordiv_int (by simpa using hc.2) (hQ s.heap _ _ (Ext.refl _) (by simp only [VR]; exact ⟨_, rfl⟩)) (hp := Or.inl (PyProof.noPylong_small (by omega)))
      · cases e
    · cases e
  · split at e
    · rename_i x y
      split at e
      · cases e
      · rename_i hc
        cases e
        simp only [VR] at hX hY
        obtain ⟨t, rfl⟩ := hX; obtain ⟨u, rfl⟩ := hY
        exact PyProof.Rows.mod_int' (by simpa using hc) (hQ s.heap _ _ (Ext.refl _) (by simp only [VR]; exact ⟨_, rfl⟩))
    · cases e
  · split at e
    · rename_i x k
      split at e
      · rename_i hc
        cases e
        rw [Bool.and_eq_true] at hc
        have hsm := Nat.le_of_ble_eq_true hc.1
        have hk := Nat.le_of_ble_eq_true hc.2
        simp only [VR] at hX hY
        obtain ⟨t, rfl⟩ := hX; obtain ⟨u, rfl⟩ := hY
        exact PyProof.Rows.pow_int_small (by simp) (by simp; omega) (by omega) (hQ s.heap _ _ (Ext.refl _) (by simp only [VR]; exact ⟨_, rfl⟩))
      · cases e
    · cases e
  · cases e

noncomputable def eBin (op : Operator) (l r : St → Option V) : St → Option V := fun ρ => (l ρ).bind fun a => (r ρ).bind fun b => binV op a b
theorem sE_bin {op : Operator} {l r : Expr} {pos : Pos} {dl dr : St → Option V} (hl : SndE prog w hb n G ph l dl) (hr : SndE prog w hb n G ph r dr) :
    SndE prog w hb n G ph (.BinOp l op r pos) (eBin op dl dr) := by
  intro A env h0 P μ ρ s v Q E hμ hA F ev hQ
  obtain ⟨a, ea, ev⟩ := Option.bind_eq_some_iff.mp ev
  obtain ⟨b, eb, ev⟩ := Option.bind_eq_some_iff.mp ev
  refine wpAny_BinOp (wp2 hl hr hμ hA F ea eb fun h' tk X Y k hX hY => ?_)
  exact wp_bin ev (F.ext k).av hX hY fun h₂ tk₂ Z k₂ hZ => hQ h₂ tk₂ Z (k.trans k₂) hZ

noncomputable def negV : V → Option V
  | .int x => some (.int (-x))
  | _ => none
noncomputable def eNeg (d : St → Option V) : St → Option V := fun ρ => (d ρ).bind negV
theorem sE_neg {x : Expr} {pos : Pos} {d : St → Option V} (hd : SndE prog w hb n G ph x d) : SndE prog w hb n G ph (.UnaryOp .USub x pos) (eNeg d) := by
  intro A env h0 P μ ρ s v Q E hμ hA F ev hQ
  obtain ⟨a, ea, ev⟩ := Option.bind_eq_some_iff.mp ev
  refine wpAny_UnaryOp (hd A env h0 P μ ρ s a _ E hμ hA F ea fun h' tk X k hX => ?_)
  cases a <;> simp only [negV] at ev <;> cases ev
  simp only [VR] at hX
  obtain ⟨t, rfl⟩ := hX
  exact PyProof.Rows.neg_int (hQ h' _ _ k (by simp only [VR]; exact ⟨_, rfl⟩))

noncomputable def intsOf : List V → Option (List Int)
  | [] => some []
  | .int x :: r => (intsOf r).bind fun l => some (x :: l)
  | _ => none
theorem VRs.ints {P : Addr → Prop} {h : Heap} : ∀ {vs : List V} {l : List Value} {ns : List Int}, VRs P h vs l → intsOf vs = some ns → IntsAre l ns
  | [], l, ns, e, hi => by simp only [VRs] at e; simp only [intsOf] at hi; cases hi; subst e; exact .nil
  | .int x :: r, l, ns, e, hi => by
    simp only [VRs, VR] at e
    obtain ⟨y, t, rfl, ⟨k, rfl⟩, h2⟩ := e
    simp only [intsOf] at hi
    obtain ⟨ms, h3, h4⟩ := Option.bind_eq_some_iff.mp hi
    cases h4
    exact .cons x k (VRs.ints h2 h3)
  | .none :: r, l, ns, e, hi => by simp only [intsOf] at hi; cases hi
  | .bool _ :: r, l, ns, e, hi => by simp only [intsOf] at hi; cases hi
  | .list _ :: r, l, ns, e, hi => by simp only [intsOf] at hi; cases hi
  | .tup _ :: r, l, ns, e, hi => by simp only [intsOf] at hi; cases hi

noncomputable def cmpV (op : CmpOp) (a b : V) : Option Bool :=
  match a, b with
  | .int x, .int y => (match op with
    | .Lt => some (decide (x < y))
    | .LtE => some (decide (x ≤ y))
    | .Gt => some (decide (y < x))
    | .GtE => some (decide (y ≤ x))
    | .Eq => some (x == y)
    | .NotEq => some (x != y)
    | _ => none)
  | .list xs, .list ys => (match op with
    | .NotEq => (intsOf xs).bind fun ns => (intsOf ys).bind fun ms => some (!decide (ns = ms))
    | _ => none)
  | _, _ => none
theorem wp_cmp {op : CmpOp} {a b : V} {v : Bool} {A : Around} {s : Shared} {P : Addr → Prop} {X Y : Value} {Q : Value → Shared → Prop} {E : Value → Shared → Prop}
    (hA : AOK n A) (e : cmpV op a b = some v) (hX : VR P s.heap a X) (hY : VR P s.heap b Y) (hQ : Q (.bool v) s) : wpAny (model prog w) A (compareOp op X Y) Q E s := by
  unfold cmpV at e
  split at e
  · simp only [VR] at hX hY
    obtain ⟨t, rfl⟩ := hX; obtain ⟨u, rfl⟩ := hY
    split at e <;> cases e
    · exact PyProof.Rows.lt_int hQ
    · exact PyProof.Rows.le_int hQ
    · exact PyProof.Rows.gt_int hQ
    · exact PyProof.Rows.ge_int hQ
    · exact PyProof.Rows.eq_int hQ
    · exact PyProof.Rows.ne_int hQ
  · split at e
    · obtain ⟨ns, e1, e⟩ := Option.bind_eq_some_iff.mp e
      obtain ⟨ms, e2, e⟩ := Option.bind_eq_some_iff.mp e
      cases e
      simp only [VR] at hX hY
      obtain ⟨p, l, rfl, hp, hl, hs⟩ := hX
      obtain ⟨q, r, rfl, hq, hr, ht⟩ := hY
      exact PySem.W.ne_intsK hl.isList (hs.ints e1) hr.isList (ht.ints e2) (by have := hA.2.2; omega) hQ
    · cases e
  · cases e

noncomputable def tCmp (op : CmpOp) (l r : St → Option V) : St → Option Bool := fun ρ => (l ρ).bind fun a => (r ρ).bind fun b => cmpV op a b
theorem sT_cmp {op : CmpOp} {l r : Expr} {pos : Pos} {dl dr : St → Option V} (hl : SndE prog w hb n G ph l dl) (hr : SndE prog w hb n G ph r dr) (hm : behindInMarks op r = false) :
    SndT prog w hb n G ph (.Compare l [op] [r] pos) (tCmp op dl dr) := by
  intro A env h0 P μ ρ s v Q E hμ hA F ev hQ
  obtain ⟨a, ea, ev⟩ := Option.bind_eq_some_iff.mp ev
  obtain ⟨b, eb, ev⟩ := Option.bind_eq_some_iff.mp ev
  refine wpAny_isTrue_Compare1 (wp2 hl hr hμ hA F ea eb fun h' tk X Y k hX hY => ?_) hm
  exact wp_cmp hA ev hX hY (wpAny_truthy_bool (hQ h' tk k))
noncomputable def eOfT (d : St → Option Bool) : St → Option V := fun ρ => (d ρ).bind fun b => some (.bool b)
theorem sE_cmp {op : CmpOp} {l r : Expr} {pos : Pos} {dl dr : St → Option V} (hl : SndE prog w hb n G ph l dl) (hr : SndE prog w hb n G ph r dr) (hm : behindInMarks op r = false) :
    SndE prog w hb n G ph (.Compare l [op] [r] pos) (eOfT (tCmp op dl dr)) := by
  intro A env h0 P μ ρ s v Q E hμ hA F ev hQ
  obtain ⟨c, ev1, ec⟩ := Option.bind_eq_some_iff.mp ev
  cases ec
  obtain ⟨a, ea, ev2⟩ := Option.bind_eq_some_iff.mp ev1
  obtain ⟨b, eb, ev3⟩ := Option.bind_eq_some_iff.mp ev2
  refine wpAny_Compare1 (wp2 hl hr hμ hA F ea eb fun h' tk X Y k hX hY => ?_) hm
  exact wp_cmp hA ev3 hX hY (hQ h' tk _ k (by simp only [VR]))

noncomputable def tAnd (a b : St → Option Bool) : St → Option Bool := fun ρ => (a ρ).bind fun x => match x with | true => b ρ | false => some false
theorem sT_and {a b : Expr} {pos : Pos} {da db : St → Option Bool} (ha : SndT prog w hb n G ph a da) (hb' : SndT prog w hb n G ph b db) :
    SndT prog w hb n G ph (.BoolOp .And [a, b] pos) (tAnd da db) := by
  intro A env h0 P μ ρ s v Q E hμ hA F ev hQ
  obtain ⟨x, ea, ev⟩ := Option.bind_eq_some_iff.mp ev
  refine wpAny_isTrue_BoolOp (wpAny_allTrue_And_cons (ha A env h0 P μ ρ s x _ E hμ hA F ea fun h' tk k => ?_))
  cases x with
  | false => cases ev; exact hQ h' tk k
  | true =>
    refine wpAny_allTrue_And_cons (hb' A env h0 P μ ρ _ v _ E hμ hA (F.ext k) ev fun h₂ tk₂ k₂ => ?_)
    cases v with
    | false => exact hQ h₂ tk₂ (k.trans k₂)
    | true => exact wpAny_pure (hQ h₂ tk₂ (k.trans k₂))

noncomputable def eIf (t : St → Option Bool) (a b : St → Option V) : St → Option V := fun ρ => (t ρ).bind fun x => match x with | true => a ρ | false => b ρ
theorem sE_if {t a b : Expr} {pos : Pos} {dt : St → Option Bool} {da db : St → Option V} (ht : SndT prog w hb n G ph t dt) (ha : SndE prog w hb n G ph a da) (hb' : SndE prog w hb n G ph b db) :
    SndE prog w hb n G ph (.IfExp t a b pos) (eIf dt da db) := by
  intro A env h0 P μ ρ s v Q E hμ hA F ev hQ
  obtain ⟨x, ex, ev⟩ := Option.bind_eq_some_iff.mp ev
  refine wpAny_IfExp (ht A env h0 P μ ρ s x _ E hμ hA F ex fun h' tk k => ?_)
  cases x with
  | true => exact ha A env h0 P μ ρ _ v _ E hμ hA (F.ext k) ev fun h₂ tk₂ X k₂ hX => hQ h₂ tk₂ X (k.trans k₂) hX
  | false => exact hb' A env h0 P μ ρ _ v _ E hμ hA (F.ext k) ev fun h₂ tk₂ X k₂ hX => hQ h₂ tk₂ X (k.trans k₂) hX

noncomputable def lNil : St → Option (List V) := fun _ => some []
noncomputable def lCons (d : St → Option V) (r : St → Option (List V)) : St → Option (List V) := fun ρ => (d ρ).bind fun a => (r ρ).bind fun l => some (a :: l)
theorem sL_nil : SndL prog w hb n G ph [] lNil := by
  intro A env h0 P μ ρ s v pos Q E hμ hA F ev hQ
  cases ev
  exact args_nil (hQ s.heap s.toks _ (Ext.refl _) (by simp only [VRs]))
theorem sL_cons {e : Expr} {es : List Expr} {d : St → Option V} {r : St → Option (List V)} (hd : SndE prog w hb n G ph e d) (hr : SndL prog w hb n G ph es r)
    (he : ∀ env, starEach (e :: es) env = (false, eval e env) :: starEach es env) : SndL prog w hb n G ph (e :: es) (lCons d r) := by
  intro A env h0 P μ ρ s v pos Q E hμ hA F ev hQ
  obtain ⟨a, ea, ev⟩ := Option.bind_eq_some_iff.mp ev
  obtain ⟨l, el, ev⟩ := Option.bind_eq_some_iff.mp ev
  cases ev
  refine args_cons (hd A env h0 P μ ρ s a _ E hμ hA F ea fun h' tk X k hX => ?_) (he env)
  refine hr A env h0 P μ ρ _ l pos _ E hμ hA (F.ext k) el fun h₂ tk₂ Xs k₂ hXs => hQ h₂ tk₂ (X :: Xs) (k.trans k₂) ?_
  simp only [VRs]
  exact ⟨X, Xs, rfl, hX.ext k₂, hXs⟩

noncomputable def lenOK (l : List V) : Option (List V) := if Nat.ble l.length 10000 then some l else none
theorem lenOK.iff {l r : List V} (h : lenOK l = some r) : r = l ∧ l.length ≤ sizeLine := by
  unfold lenOK at h
  split at h
  · rename_i q; cases h; exact ⟨rfl, by have := Nat.le_of_ble_eq_true q; rw [sizeLine_eq]; omega⟩
  · cases h
noncomputable def nList (d : St → Option (List V)) : St → Option (List V) := fun ρ => (d ρ).bind lenOK
theorem sN_list {es : List Expr} {pos : Pos} {d : St → Option (List V)} (hd : SndL prog w hb n G ph es d) : SndN prog w hb n G ph (.List es pos) (nList d) := by
  intro A env h0 P μ ρ s vs Q E hμ hA F ev hQ
  obtain ⟨l, el, ev⟩ := Option.bind_eq_some_iff.mp ev
  obtain ⟨rfl, hlen⟩ := lenOK.iff ev
  refine wpAny_List_spliced (hd A env h0 P μ ρ s vs pos _ E hμ hA F el fun h' tk Xs k hXs => ⟨by rw [hXs.length]; exact hlen, ?_⟩)
  refine hQ _ tk _ Xs (k.trans (Ext.push _ _)) (k.none (get?_fresh h')) ⟨_, Heap.get?_push_size _ rfl⟩ ?_
  refine (VRs.narrow (fun a o hp hg hs => ⟨hp, fun z => ?_⟩) hXs).ext (Ext.push _ _)
  subst z; rw [show Heap.get? h' h'.objs.size = none from get?_fresh h'] at hg; cases hg
noncomputable def eTup (d : St → Option (List V)) : St → Option V := fun ρ => (d ρ).bind fun l => (lenOK l).bind fun l => some (.tup l)
theorem sE_tup {es : List Expr} {k : Nat} {pos : Pos} {d : St → Option (List V)} (hd : SndL prog w hb n G ph es d) : SndE prog w hb n G ph (.Tuple es k pos) (eTup d) := by
  intro A env h0 P μ ρ s vs Q E hμ hA F ev hQ
  obtain ⟨l, el, ev1⟩ := Option.bind_eq_some_iff.mp ev
  obtain ⟨l', el', ev2⟩ := Option.bind_eq_some_iff.mp ev1
  cases ev2
  obtain ⟨rfl, hlen⟩ := lenOK.iff el'
  refine wpAny_Tuple_spliced (hd A env h0 P μ ρ s _ pos _ E hμ hA F el fun h' tk Xs k hXs => ⟨by rw [hXs.length]; exact hlen, ?_⟩)
  exact hQ _ tk _ (k.trans (Ext.push _ _)) (VR.newTup (F.ext k).av hXs)
noncomputable def eN (d : St → Option (List V)) : St → Option V := fun ρ => (d ρ).bind fun l => some (.list l)
theorem sE_ofN {e : Expr} {d : St → Option (List V)} (hd : SndN prog w hb n G ph e d) : SndE prog w hb n G ph e (eN d) := by
  intro A env h0 P μ ρ s vs Q E hμ hA F ev hQ
  obtain ⟨l, el, ev⟩ := Option.bind_eq_some_iff.mp ev
  cases ev
  refine hd A env h0 P μ ρ s l Q E hμ hA F el fun h' tk a l k hn hl hs => hQ h' tk _ k ?_
  simp only [VR]
  exact ⟨a, _, rfl, F.av _ hn, hl, hs.sub fun b hb => hb.1⟩
end
end Mine
end

/- part M3 -/
section
open PySem PySem.Calls PyProof.Rows
namespace Mine

noncomputable def idxL (xs : List V) (i : V) : Option V :=
  match i with
  | .int (.ofNat k) => if Nat.ble k 100000 then xs[k]? else none
  | .int (.negSucc k) => if Nat.ble (k + 1) xs.length && Nat.ble xs.length 100000 then xs[xs.length - (k + 1)]? else none
  | _ => none
noncomputable def idxV (a i : V) : Option V :=
  match a with
  | .list xs => idxL xs i
  | .tup xs => (match i with
    | .int (.ofNat k) => if Nat.ble (k + 1) xs.length && Nat.ble k 100000 then xs[k]? else none
    | _ => none)
  | _ => none
noncomputable def uptoV (a i : V) : Option (List V) :=
  match a, i with
  | .list xs, .int (.ofNat k) => if Nat.ble xs.length 100000 then some (xs.take k) else none
  | .list xs, .int (.negSucc k) => if Nat.ble xs.length 100000 then some (xs.take (xs.length - (k + 1))) else none
  | _, _ => none

/-- what the heap under all holds -/
structure Base (hb : Heap) (mg mb : Str → Option Value) : Prop where
  g : hb.Ns mainGlobals mg
  b : hb.Ns builtinsNs mb
  nolimit : hb.NoLimit

section
variable {prog : Program} {w : World} {hb : Heap} {mg mb : Str → Option Value} {n : Nat} {G : Sig} {ph : Option Nat}

theorem wp_idxL {xs : List V} {i v : V} {A : Around} {s : Shared} {P P' : Addr → Prop} {p : Addr} {l : List Value} {Y : Value} {Q : Value → Shared → Prop} {E : Value → Shared → Prop} {value slice : Expr}
    (hs : ∀ o i, subscripted slice false o i = operate [o, i] (getItem o i))
    (e : idxL xs i = some v) (hl : s.heap.PlainList p (List.toArray l)) (hvs : VRs P s.heap xs l) (hY : VR P' s.heap i Y) (hQ : ∀ Z, VR P s.heap v Z → Q Z s) : wpAny (model prog w) A (subscriptTail value slice (.ref p) Y) Q E s := by
  unfold idxL at e
  split at e
  · rename_i k
    split at e
    · rename_i hk
      have hk := Nat.le_of_ble_eq_true hk
      simp only [VR] at hY
      obtain ⟨u, rfl⟩ := hY
      obtain ⟨x, hx, hv⟩ := hvs.get e
      exact tail_any hl.isList.typeIs slot_list_getitem.lookup (wpAny_getItem_list hl.isList (by simp) (by simp; omega) (by simpa using hx) (hQ x hv)) (hs _ _)
    · cases e
  · rename_i k
    split at e
    · rename_i hk
      rw [Bool.and_eq_true] at hk
      have h1 := Nat.le_of_ble_eq_true hk.1
      have h2 := Nat.le_of_ble_eq_true hk.2
      simp only [VR] at hY
      obtain ⟨u, rfl⟩ := hY
      obtain ⟨x, hx, hv⟩ := hvs.get e
      have e1 := hvs.length
      have e2 : (Int.negSucc k + ((List.toArray l).size : Int)).toNat = xs.length - (k + 1) := by rw [List.size_toArray, e1]; omega
      refine tail_any hl.isList.typeIs slot_list_getitem.lookup (wpAny_getItem_list_neg hl.isList (by omega) (by rw [List.size_toArray]; omega) (by omega) ?_ (hQ x hv)) (hs _ _)
      rw [e2]; simpa using hx
    · cases e
  · cases e
theorem wp_idx {a i v : V} {A : Around} {s : Shared} {P P' : Addr → Prop} {X Y : Value} {Q : Value → Shared → Prop} {E : Value → Shared → Prop} {value slice : Expr}
    (hs : ∀ o i, subscripted slice false o i = operate [o, i] (getItem o i))
    (e : idxV a i = some v) (hX : VR P s.heap a X) (hY : VR P' s.heap i Y) (hQ : ∀ Z, VR P s.heap v Z → Q Z s) : wpAny (model prog w) A (subscriptTail value slice X Y) Q E s := by
  unfold idxV at e
  split at e
  · rename_i xs
    simp only [VR] at hX
    obtain ⟨p, l, rfl, hp, hl, hvs⟩ := hX
    exact wp_idxL hs e hl hvs hY hQ
  · rename_i xs
    split at e
    · rename_i k
      split at e
      · rename_i hk
        rw [Bool.and_eq_true] at hk
        have h1 := Nat.le_of_ble_eq_true hk.1
        have h2 := Nat.le_of_ble_eq_true hk.2
        simp only [VR] at hX hY
        obtain ⟨p, l, rfl, hp, hl, hvs⟩ := hX; obtain ⟨u, rfl⟩ := hY
        obtain ⟨x, hx, hv⟩ := hvs.get e
        have e1 := hvs.length
        refine item_tupleT (j := k) hl.isTup (by first | omega | simp) (by simp; omega) ?_ hx (hQ x hv) (hs _ _)
        unfold seqIndex?
        have e3 : ¬ (Int.ofNat k < 0) := by simp
        simp only [e3, if_false]
        rw [if_pos (by simp; omega)]; simp
      · cases e
    · cases e
  · cases e

noncomputable def eIdx (a i : St → Option V) : St → Option V := fun ρ => (a ρ).bind fun x => (i ρ).bind fun y => idxV x y
theorem sE_idx {a i : Expr} {pos : Pos} {da di : St → Option V} (ha : SndE prog w hb n G ph a da) (hi : SndE prog w hb n G ph i di)
    (hs : ∀ o k, subscripted i false o k = operate [o, k] (getItem o k)) : SndE prog w hb n G ph (.Subscript a i pos) (eIdx da di) := by
  intro A env h0 P μ ρ s v Q E hμ hA F ev hQ
  obtain ⟨x, ex, ev⟩ := Option.bind_eq_some_iff.mp ev
  obtain ⟨y, ey, ev⟩ := Option.bind_eq_some_iff.mp ev
  refine Subscript_ (wp2 ha hi hμ hA F ex ey fun h' tk X Y k hX hY => ?_)
  exact wp_idx hs ev hX hY fun Z hZ => hQ h' tk Z k hZ
/-- an item of the list that may turn -/
noncomputable def muIdx (j : Nat) (i : St → Option V) : St → Option V := fun ρ => (ρ.getD j none).bind fun x => (i ρ).bind fun y => match x with | .list xs => idxL xs y | _ => none
theorem sE_muIdx {x : Str} {np pos : Pos} {j : Nat} {i : Expr} {di : St → Option V} (hj : G.σ.lookup x = some j) (hi : SndE prog w hb n G (some j) i di)
    (hs : ∀ o k, subscripted i false o k = operate [o, k] (getItem o k)) (hd : (x == ("__debug__" : Str)) = false) (hc : (x == ("__classdict__" : Str)) = false) :
    SndE prog w hb n G (some j) (.Subscript (.Name x np) i pos) (muIdx j di) := by
  intro A env h0 P μ ρ s v Q E hμ hA F ev hQ
  obtain ⟨z, ez, ev1⟩ := Option.bind_eq_some_iff.mp ev
  obtain ⟨y, ey, ev2⟩ := Option.bind_eq_some_iff.mp ev1
  obtain ⟨⟨j', a⟩, rfl, hj'⟩ := Option.map_eq_some_iff.mp hμ
  dsimp only at hj'; subst hj'
  refine Subscript_ (muName hj hd hc F ez fun xs l hz hl hvs => ?_)
  subst hz
  refine hi A env h0 P _ ρ s y _ E rfl hA F ey fun h' tk Y k hY => ?_
  exact wp_idxL hs ev2 (hl.at (k a)) (hvs.ext k) hY fun Z hZ => hQ h' tk Z k hZ

noncomputable def eUpto (a i : St → Option V) : St → Option V := fun ρ => (a ρ).bind fun x => (i ρ).bind fun y => (uptoV x y).bind fun l => some (.list l)
theorem VRs.takeTo {P : Addr → Prop} {h : Heap} {vs : List V} {l : List Value} (e : VRs P h vs l) (k : Nat) : VRs P h (vs.take k) (l.take k) := e.take k
theorem sE_upto {a i : Expr} {sp pos : Pos} {da di : St → Option V} (ha : SndE prog w hb n G ph a da) (hi : SndE prog w hb n G ph i di) :
    SndE prog w hb n G ph (.Subscript a (.Slice none (some i) none sp) pos) (eUpto da di) := by
  intro A env h0 P μ ρ s v Q E hμ hA F ev hQ
  obtain ⟨x, ex, ev1⟩ := Option.bind_eq_some_iff.mp ev
  obtain ⟨y, ey, ev2⟩ := Option.bind_eq_some_iff.mp ev1
  obtain ⟨out, eo, ev3⟩ := Option.bind_eq_some_iff.mp ev2
  cases ev3
  refine Subscript_ (ha A env h0 P μ ρ s x _ E hμ hA F ex fun h₁ tk₁ X k₁ hX => ?_)
  refine wpAny_Slice (wpAny_pure ?_)
  refine hi A env h0 P μ ρ _ y _ E hμ hA (F.ext k₁) ey fun h₂ tk₂ Y k₂ hY => ?_
  refine wpAny_pure ?_
  have hX₂ := hX.ext k₂
  have fin : ∀ (p : Addr) (xs : List V) (l : List Value) (kk : Int) (u : Tok) (c : Nat), Y = .int kk u → X = .ref p → h₂.PlainList p (List.toArray l) → VRs (Av P μ) h₂ xs l → xs.length ≤ 100000 → slicePick l.toArray none (some kk) none = (l.take c).toArray → out = xs.take c →
      wpAny (model prog w) A (subscriptTail a (.Slice none (some i) none sp) X (.ref h₂.objs.size)) Q E { s with heap := h₂.push { cls := .type "slice", data := .fields #[.none, Y, .none] }, toks := tk₂ } := by
    intro p xs l kk u c hYe hXe hl hvs hlen hsl ho
    subst hYe hXe
    have hl' := hl.at (fun o e => Ext.push h₂ { cls := .type "slice", data := .fields #[.none, .int kk u, .none] } p o e)
    refine tail_any hl'.isList.typeIs slot_list_getitem.lookup (wpAny_getItem_list_slice hl'.isList (Heap.IsSliceOf.new ..) .none (.int kk u) .none (by simp) ?_ (by rw [List.size_toArray, hvs.length, sizeLine_eq]; omega)) rfl
    rw [hsl]
    subst ho
    exact hQ _ tk₂ _ ((k₁.trans k₂).trans ((Ext.push _ _).trans (Ext.push _ _))) (VR.newList (F.ext ((k₁.trans k₂).trans (Ext.push _ _))).av ((hvs.take c).ext (Ext.push _ _)))
  unfold uptoV at eo
  split at eo
  · rename_i xs k
    split at eo
    · rename_i hk
      cases eo
      have hk := Nat.le_of_ble_eq_true hk
      simp only [VR] at hX₂ hY
      obtain ⟨p, l, e1, hp, hl, hvs⟩ := hX₂; obtain ⟨u, e2⟩ := hY
      exact fin p xs l _ u k e2 e1 hl hvs hk (by have := slicePick_upto' l.toArray k; simpa using this) rfl
    · cases eo
  · rename_i xs k
    split at eo
    · rename_i hk
      cases eo
      have hk := Nat.le_of_ble_eq_true hk
      simp only [VR] at hX₂ hY
      obtain ⟨p, l, e1, hp, hl, hvs⟩ := hX₂; obtain ⟨u, e2⟩ := hY
      have e3 := slicePick_butLast l.toArray (k + 1) (Nat.succ_pos _)
      rw [List.size_toArray, hvs.length] at e3
      exact fin p xs l _ u _ e2 e1 hl hvs hk e3 rfl
    · cases eo
  · cases eo

/-- a name of the top -/
theorem wp_glob {x : Str} {np : Pos} {A : Around} {env : Env} {h0 : Heap} {P : Addr → Prop} {μ : Mu} {ρ : St} {s : Shared} {f : Value} {Q : Value → Shared → Prop} {E : Value → Shared → Prop}
    (B : Base hb mg mb) (hk : G.sc.names.lookup x = some .globalImplicit) (hf : mg x = some f) (F : Frm hb G h0 P μ env ρ s.heap) (hQ : Q f s) (hd : (x == ("__debug__" : Str)) = false) :
    wpAny (model prog w) A (eval (.Name x np) env) Q E s :=
  Name_function_global F.fk (by show env.scope.names.lookup x = _; rw [F.scope]; exact hk) (loadGlobal_global (by rw [F.glob]; exact B.g.keeps F.hb) hf hQ) hd
theorem wp_blt {x : Str} {np : Pos} {A : Around} {env : Env} {h0 : Heap} {P : Addr → Prop} {μ : Mu} {ρ : St} {s : Shared} {f : Value} {Q : Value → Shared → Prop} {E : Value → Shared → Prop}
    (B : Base hb mg mb) (hk : G.sc.names.lookup x = some .globalImplicit) (hf : mg x = none ∧ mb x = some f) (F : Frm hb G h0 P μ env ρ s.heap) (hQ : Q f s) (hd : (x == ("__debug__" : Str)) = false) :
    wpAny (model prog w) A (eval (.Name x np) env) Q E s :=
  Name_function_global F.fk (by show env.scope.names.lookup x = _; rw [F.scope]; exact hk) (loadGlobal_builtin (by rw [F.glob]; exact B.g.keeps F.hb) hf.1 (by rw [F.blt]; exact B.b.keeps F.hb) hf.2 hQ) hd

/-- the def x does what F says -/
noncomputable def SndF (prog : Program) (w : World) (hb : Heap) (mg : Str → Option Value) (n : Nat) (x : Str) (D : List V → Option V) : Prop :=
  ∃ fa o fd, mg x = some (.ref fa) ∧ hb.get? fa = some o ∧ o.data = .func fd ∧
    ∀ (A : Around) (s : Shared) (P : Addr → Prop) (args : List V) (vs : List Value) (v : V) (Q : Value → Shared → Prop) (E : Value → Shared → Prop),
      AOK n A → Ext hb s.heap → Free P s.heap → VRs P s.heap args vs → D args = some v →
      (∀ h' tk X, Ext s.heap h' → VR P h' v X → Q X { s with heap := h', toks := tk }) → wpAny (model prog w) A (call (.ref fa) vs) Q E s
theorem SndF.weaken {x : Str} {D D' : List V → Option V} (h : SndF prog w hb mg n x D) (hd : ∀ a v, D' a = some v → D a = some v) : SndF prog w hb mg n x D' := by
  obtain ⟨fa, o, fd, h1, h2, h3, h4⟩ := h
  exact ⟨fa, o, fd, h1, h2, h3, fun A s P args vs v Q E hA hB hf hv hd' hQ => h4 A s P args vs v Q E hA hB hf hv (hd _ _ hd') hQ⟩
theorem SndF.le {x : Str} {D : List V → Option V} {m : Nat} (h : SndF prog w hb mg n x D) (hm : n ≤ m) : SndF prog w hb mg m x D := by
  obtain ⟨fa, o, fd, h1, h2, h3, h4⟩ := h
  exact ⟨fa, o, fd, h1, h2, h3, fun A s P args vs v Q E hA hB hf hv hd' hQ => h4 A s P args vs v Q E (hA.le hm) hB hf hv hd' hQ⟩

noncomputable def eCall (D : List V → Option V) (d : St → Option (List V)) : St → Option V := fun ρ => (d ρ).bind D
theorem sE_call {x : Str} {np pos : Pos} {e : Expr} {es : List Expr} {D : List V → Option V} {d : St → Option (List V)} (B : Base hb mg mb) (hf : SndF prog w hb mg n x D)
    (hL : SndL prog w hb n G ph (e :: es) d) (hk : G.sc.names.lookup x = some .globalImplicit) (he : ∀ env, starEach (e :: es) env = (false, eval e env) :: starEach es env)
    (hd : (x == ("__debug__" : Str)) = false) : SndE prog w hb n G ph (.Call (.Name x np) (e :: es) [] pos) (eCall D d) := by
  intro A env h0 P μ ρ s v Q E hμ hA F ev hQ
  obtain ⟨as, ea, ev⟩ := Option.bind_eq_some_iff.mp ev
  obtain ⟨fa, o, fd, h1, h2, h3, h4⟩ := hf
  refine Call_ (wp_glob B hk h1 F ?_ hd)
  refine callWith_def h3 (hL A env h0 P μ ρ s as pos _ E hμ hA F ea fun h' tk Xs k hXs => ⟨k _ _ (F.hb _ _ h2), ?_⟩) (he env)
  exact h4 A _ (Av P μ) as Xs v Q E hA (F.ext k).hb (F.ext k).av hXs ev fun h₂ tk₂ X k₂ hX => hQ h₂ tk₂ X (k.trans k₂) hX

/-- the builtin id does what D says -/
noncomputable def SndB (prog : Program) (w : World) (f : Value) (D : List V → Option V) : Prop :=
  ∀ (A : Around) (s : Shared) (P : Addr → Prop) (args : List V) (vs : List Value) (v : V) (Q : Value → Shared → Prop) (E : Value → Shared → Prop),
    A.handled = none → Free P s.heap → VRs P s.heap args vs → D args = some v →
    (∀ h' tk X, Ext s.heap h' → VR P h' v X → Q X { s with heap := h', toks := tk }) → wpAny (model prog w) A (call f vs) Q E s
theorem sE_blt {x : Str} {id : String} {np pos : Pos} {e : Expr} {es : List Expr} {D : List V → Option V} {d : St → Option (List V)} (B : Base hb mg mb) (hx : mg x = none ∧ mb x = some (.builtin id)) (hf : SndB prog w (.builtin id) D)
    (hL : SndL prog w hb n G ph (e :: es) d) (hk : G.sc.names.lookup x = some .globalImplicit) (he : ∀ env, starEach (e :: es) env = (false, eval e env) :: starEach es env)
    (hp : ∀ env, (backTo pos (starEach es env)).any (·.1) = false) (hd : (x == ("__debug__" : Str)) = false) : SndE prog w hb n G ph (.Call (.Name x np) (e :: es) [] pos) (eCall D d) := by
  intro A env h0 P μ ρ s v Q E hμ hA F ev hQ
  obtain ⟨as, ea, ev⟩ := Option.bind_eq_some_iff.mp ev
  refine Call_ (wp_blt B hk hx F ?_ hd)
  refine callWith_builtin1 (hL A env h0 P μ ρ s as pos _ E hμ hA F ea fun h' tk Xs k hXs => ?_) (he env) (hp env)
  exact hf A _ (Av P μ) as Xs v Q E hA.1 (F.ext k).av hXs ev fun h₂ tk₂ X k₂ hX => hQ h₂ tk₂ X (k.trans k₂) hX

noncomputable def lenV : List V → Option V
  | [.list xs] => if Nat.ble xs.length 100000 then some (.int xs.length) else none
  | _ => none
theorem sB_len : SndB prog w (.builtin "len") lenV := by
  intro A s P args vs v Q E hh hf hv hd hQ
  unfold lenV at hd
  split at hd
  · rename_i xs
    split at hd
    · rename_i hk
      have hk := Nat.le_of_ble_eq_true hk
      cases hd
      simp only [VRs, VR] at hv
      obtain ⟨X, r, rfl, ⟨a, l, rfl, _, hl, hs⟩, rfl⟩ := hv
      have e := hs.length
      refine call_len_list hl.isList (by rw [List.size_toArray]; omega) ?_
      rw [List.size_toArray, e]
      exact hQ s.heap _ _ (Ext.refl _) (by simp only [VR]; exact ⟨_, rfl⟩)
    · cases hd
  · cases hd
noncomputable def absV : List V → Option V
  | [.int x] => some (.int (if x < 0 then -x else x))
  | _ => none
theorem sB_abs : SndB prog w (.builtin "abs") absV := by
  intro A s P args vs v Q E hh hf hv hd hQ
  unfold absV at hd
  split at hd
  · cases hd
    simp only [VRs, VR] at hv
    obtain ⟨X, r, rfl, ⟨t, rfl⟩, rfl⟩ := hv
    exact call_abs_int fun u tk => hQ s.heap _ _ (Ext.refl _) (by simp only [VR]; exact ⟨_, rfl⟩)
  · cases hd
noncomputable def maxV : List V → Option V
  | [.int a, .int b] => some (.int (if b > a then b else a))
  | _ => none
theorem sB_max : SndB prog w (.builtin "max") maxV := by
  intro A s P args vs v Q E hh hf hv hd hQ
  unfold maxV at hd
  split at hd
  · cases hd
    simp only [VRs, VR] at hv
    obtain ⟨X, r, rfl, ⟨t, rfl⟩, Y, r', rfl, ⟨u, rfl⟩, rfl⟩ := hv
    refine max_two_ints hh fun h' tk k => hQ h' tk _ k ?_
    simp only [VR]
    split <;> exact ⟨_, rfl⟩
  · cases hd
noncomputable def sumV : List V → Option V
  | [.list xs] => (intsOf xs).bind fun ns => some (.int ns.sum)
  | _ => none
theorem sB_sum : SndB prog w (.builtin "sum") sumV := by
  intro A s P args vs v Q E hh hf hv hd hQ
  unfold sumV at hd
  split at hd
  · obtain ⟨ns, e1, e2⟩ := Option.bind_eq_some_iff.mp hd
    cases e2
    simp only [VRs, VR] at hv
    obtain ⟨X, r, rfl, ⟨a, l, rfl, _, hl, hs⟩, rfl⟩ := hv
    have hi := hs.ints e1
    obtain ⟨xs, hxs⟩ := hi.allInts.items
    have e3 := nums_intItems xs
    rw [← hxs, List.toList_toArray, hi.numsOf] at e3
    refine sum_intListG hh (hxs ▸ hl.isList) fun h' tk t' k => hQ h' tk _ k ?_
    rw [preSum_eq, List.take_of_length_le (by simp), ← e3]
    simp only [VR]; exact ⟨_, rfl⟩
  · cases hd
theorem VRs.ofInts {P : Addr → Prop} {h : Heap} : ∀ {l : List Value} {ns : List Int}, IntsAre l ns → VRs P h (ns.map V.int) l
  | _, _, .nil => by simp [VRs]
  | _, _, .cons n t r => by simp only [List.map_cons, VRs, VR]; exact ⟨_, _, rfl, ⟨_, rfl⟩, VRs.ofInts r⟩
noncomputable def sortedV : List V → Option V
  | [.list xs] => if Nat.blt xs.length 64 then (intsOf xs).bind fun ns => some (.list ((PySem.W.sortI ns).map V.int)) else none
  | _ => none
theorem sB_sorted : SndB prog w (.builtin "sorted") sortedV := by
  intro A s P args vs v Q E hh hf hv hd hQ
  unfold sortedV at hd
  split at hd
  · split at hd
    · rename_i hk
      obtain ⟨ns, e1, e2⟩ := Option.bind_eq_some_iff.mp hd
      cases e2
      simp only [VRs, VR] at hv
      obtain ⟨X, r, rfl, ⟨a, l, rfl, _, hl, hs⟩, rfl⟩ := hv
      have hi := hs.ints e1
      have hlen := hs.length
      refine sorted_ints hl.isList hi (by have h64 := Nat.le_of_ble_eq_true hk; omega) fun out ns' a1 a2 a3 => ?_
      obtain ⟨e, he⟩ := sortedAll_at s.heap l out
      have e3 := PySem.W.eq_sortI a2 a3
      refine hQ _ s.toks _ (fun _ _ => sortedAll_old) ?_
      simp only [VR]
      refine ⟨_, out.toList, rfl, hf _ (Heap.get?_none_of_le (Nat.le_succ _)), ⟨e, he⟩, ?_⟩
      rw [← e3]
      exact VRs.ofInts a1
    · cases hd
  · cases hd
end

section
variable {prog : Program} {w : World} {hb : Heap} {mg mb : Str → Option Value} {n : Nat} {G : Sig} {ph : Option Nat}
noncomputable def listN (d : St → Option V) : St → Option (List V) := fun ρ => (d ρ).bind fun v => match v with | .list xs => lenOK xs | _ => none
theorem sN_listOf {x : Str} {np pos : Pos} {e : Expr} {d : St → Option V} (B : Base hb mg mb) (hx : mg x = none ∧ mb x = some (.type "list"))
    (hE : SndE prog w hb n G ph e d) (hk : G.sc.names.lookup x = some .globalImplicit) (he : ∀ env, starEach [e] env = (false, eval e env) :: starEach [] env)
    (hd : (x == ("__debug__" : Str)) = false) : SndN prog w hb n G ph (.Call (.Name x np) [e] [] pos) (listN d) := by
  intro A env h0 P μ ρ s vs Q E hμ hA F ev hQ
  obtain ⟨v, ea, ev1⟩ := Option.bind_eq_some_iff.mp ev
  refine Call_ (wp_blt B hk hx F ?_ hd)
  refine callWith_type1 (args_cons (hE A env h0 P μ ρ s v _ E hμ hA F ea fun h' tk X k hX => args_nil ?_) (he env)) (he env) rfl
  cases v <;> simp only at ev1 <;> try (cases ev1; done)
  rename_i xs
  obtain ⟨rfl, hlen⟩ := lenOK.iff ev1
  simp only [VR] at hX
  obtain ⟨a, l, rfl, _, ⟨c, hl⟩, hs⟩ := hX
  refine call_list_seq a (.inl rfl) hl rfl rfl (fun h₂ c' k₂ hn => ?_) (by rw [List.size_toArray, hs.length]; exact hlen)
  refine hQ h₂ tk _ l (k.trans k₂) (k.none (get?_fresh h')) ⟨_, hn⟩ ?_
  refine (VRs.narrow (fun b o hp hg _ => ⟨hp, fun z => ?_⟩) hs).ext k₂
  subst z
  have q : h'.get? h'.objs.size = none := get?_fresh h'
  rw [show h'.get? h'.objs.size = some o from hg] at q; cases q
end
end Mine
end

/- part M4 -/
section
open PySem PySem.Calls PyProof.Rows
namespace Mine

inductive Fl where
  | next
  | ret (v : V)

noncomputable def Own (env : Env) (G : Sig) (μ : Mu) (b : Addr) : Prop := b = env.locals ∨ (∃ x ∈ G.asg, env.cells.lookup x = some b) ∨ ∃ i, μ = some (i, b)
/-- what a statement leaves as it was -/
noncomputable def Step (env : Env) (G : Sig) (μ : Mu) (h : Heap) (μ' : Mu) (h' : Heap) : Prop :=
  (∀ b o, ¬ Own env G μ b → h.get? b = some o → h'.get? b = some o) ∧ ∀ i a, μ' = some (i, a) → (∃ j, μ = some (j, a)) ∨ h.get? a = none

section
variable {hb : Heap} {G : Sig} {h0 : Heap} {P P' : Addr → Prop} {μ μ' μ'' ν : Mu} {env : Env} {ρ ρ' : St} {h h' h'' : Heap}

theorem seq_ne_dict {o o' : Obj} {es ep} (h : SeqObj o) (e : o = o') (hd : o'.data = .dict es ep) : False := by
  obtain ⟨xs, n, hs⟩ := h; subst e; rw [hs] at hd; cases hd
theorem seq_ne_cell {o o' : Obj} {v} (h : SeqObj o) (e : o = o') (hd : o'.data = .cell v) : False := by
  obtain ⟨xs, n, hs⟩ := h; subst e; rw [hs] at hd; cases hd

theorem Frm.own_seq (F : Frm hb G h0 P μ env ρ h) {a : Addr} {o : Obj} (hg : h.get? a = some o) (hs : SeqObj o) (ho : Own env G μ a) : ∃ i, μ = some (i, a) := by
  rcases ho with rfl | ⟨x, hx, hc⟩ | h3
  · obtain ⟨m, o', es, ep, e1, e2, _⟩ := F.ns
    rw [hg] at e1; exact (seq_ne_dict hs (Option.some.inj e1) e2).elim
  · obtain ⟨c, w, e1, _, o', e2, e3⟩ := F.cel x hx
    rw [hc] at e1; cases e1
    rw [hg] at e2; exact (seq_ne_cell hs (Option.some.inj e2) e3).elim
  · exact h3
theorem Frm.own_fld (F : Frm hb G h0 P μ env ρ h) {a : Addr} {o : Obj} {fs} (hg : h.get? a = some o) (hs : o.data = .fields fs) : ¬ Own env G μ a := by
  rintro (rfl | ⟨x, hx, hc⟩ | ⟨i, h3⟩)
  · obtain ⟨m, o', es, ep, e1, e2, _⟩ := F.ns
    rw [hg] at e1; cases e1; rw [hs] at e2; cases e2
  · obtain ⟨c, w, e1, _, o', e2, e3⟩ := F.cel x hx
    rw [hc] at e1; cases e1
    rw [hg] at e2; cases e2; rw [hs] at e3; cases e3
  · obtain ⟨_, _, items, n, hn⟩ := F.mu i a h3
    rw [hg] at hn; cases hn; cases hs
theorem Frm.own_new (F : Frm hb G h0 P μ env ρ h) {a : Addr} (hg : h.get? a = none) : ¬ Own env G μ a := by
  rintro (rfl | ⟨x, hx, hc⟩ | ⟨i, h3⟩)
  · obtain ⟨m, o', es, ep, e1, e2, _⟩ := F.ns
    rw [hg] at e1; cases e1
  · obtain ⟨c, w, e1, _, o', e2, e3⟩ := F.cel x hx
    rw [hc] at e1; cases e1
    rw [hg] at e2; cases e2
  · obtain ⟨_, _, items, n, hn⟩ := F.mu i a h3
    rw [hg] at hn; cases hn

theorem Step.refl (env : Env) (G : Sig) (μ : Mu) (h : Heap) : Step env G μ h μ h := ⟨fun _ _ _ e => e, fun i a e => .inl ⟨i, e⟩⟩
theorem Step.ext (k : Ext h h') : Step env G μ h μ h' := ⟨fun b o _ e => k b o e, fun i a e => .inl ⟨i, e⟩⟩
theorem Step.trans (F : Frm hb G h0 P μ' env ρ h') (x : Step env G μ h μ' h') (y : Step env G μ' h' μ'' h'') : Step env G μ h μ'' h'' := by
  refine ⟨fun b o hb' e => y.1 b o (fun ho => ?_) (x.1 b o hb' e), fun i a e => ?_⟩
  · rcases ho with q | q | ⟨i, q⟩
    · exact hb' (.inl q)
    · exact hb' (.inr (.inl q))
    · rcases x.2 i b q with ⟨j, z⟩ | z
      · exact hb' (.inr (.inr ⟨j, z⟩))
      · rw [z] at e; cases e
  · rcases y.2 i a e with ⟨j, z⟩ | z
    · exact x.2 j a z
    · by_cases ho : Own env G μ a
      · rcases ho with q | ⟨v, hv, hc⟩ | ⟨j, q⟩
        · subst q
          obtain ⟨m, o', es, ep, e1, e2, _⟩ := F.ns
          rw [z] at e1; cases e1
        · obtain ⟨c, w, e1, _, o', e2, e3⟩ := F.cel v hv
          rw [hc] at e1; cases e1
          rw [z] at e2; cases e2
        · exact .inl ⟨j, q⟩
      · cases q : h.get? a with
        | none => exact .inr rfl
        | some o => rw [x.1 a o ho q] at z; cases z
/-- a value seen before is the same value behind -/
theorem Step.seq (F : Frm hb G h0 P μ env ρ h) (x : Step env G μ h μ' h') {a : Addr} {o : Obj} (hp : Av P μ a) (hg : h.get? a = some o) (hs : SeqObj o) : Av P μ' a ∧ h'.get? a = some o := by
  have hn : ¬ Own env G μ a := fun ho => by
    obtain ⟨i, e⟩ := F.own_seq hg hs ho
    exact hp.2 i a e rfl
  refine ⟨⟨hp.1, fun i b e z => ?_⟩, x.1 a o hn hg⟩
  subst z
  rcases x.2 i a e with ⟨j, q⟩ | q
  · exact hp.2 j a q rfl
  · rw [q] at hg; cases hg
theorem Step.vr (F : Frm hb G h0 P μ env ρ h) (x : Step env G μ h μ' h') {v : V} {X : Value} (e : VR (Av P μ) h v X) : VR (Av P μ') h' v X := VR.mono (fun a o hp hg hs => x.seq F hp hg hs) v X e
theorem Step.vrs (F : Frm hb G h0 P μ env ρ h) (x : Step env G μ h μ' h') {v : List V} {X : List Value} (e : VRs (Av P μ) h v X) : VRs (Av P μ') h' v X := VRs.mono (fun a o hp hg hs => x.seq F hp hg hs) v X e

noncomputable def SeqKeep (h h' : Heap) : Prop := ∀ a o, h.get? a = some o → SeqObj o → h'.get? a = some o
theorem ValAt.seq {i : Nat} {v : V} {X : Value} (k : SeqKeep h h') (b : ValAt P μ h i v X) : ValAt P μ h' i v X := by
  rcases b with ⟨hk, hv⟩ | ⟨a, xs, l, e1, e2, e3, ⟨n, e4⟩, e5⟩
  · exact .inl ⟨hk, VR.mono (fun a o hp hg hs => ⟨hp, k a o hg hs⟩) v X hv⟩
  · exact .inr ⟨a, xs, l, e1, e2, e3, ⟨n, k a _ e4 ⟨_, _, rfl⟩⟩, VRs.mono (fun a o hp hg hs => ⟨hp, k a o hg hs⟩) _ _ e5⟩

theorem Ns.uniq {a : Addr} {m m' : Str → Option Value} (x : h.Ns a m) (y : h.Ns a m') : m = m' := by
  obtain ⟨o, es, ep, e1, e2, _, e3⟩ := x
  obtain ⟨o', es', ep', e1', e2', _, e3'⟩ := y
  rw [e1] at e1'; cases e1'
  rw [e2] at e2'; cases e2'
  funext z; rw [← e3, ← e3']

/-- a name that is stored into -/
noncomputable def Sto (G : Sig) (x : Str) : Prop := G.sc.names.lookup x = some .local ∨ (G.sc.names.lookup x = some .cell ∧ x ∈ G.asg)

theorem getD_set_ne {ρ : St} {i j : Nat} {o : Option V} (hij : j ≠ i) : (ρ.set i o).getD j none = ρ.getD j none := by
  simp [List.getD, List.getElem?_set_ne (Ne.symm hij)]
theorem getD_set_eq {ρ : St} {i : Nat} {v u : V} (hu : (ρ.set i (some v)).getD i none = some u) : u = v := by
  by_cases hl : i < ρ.length
  · have e : (ρ.set i (some v))[i]? = some (some v) := by simp [List.getElem?_set, hl]
    rw [List.getD, e] at hu; exact (Option.some.inj hu).symm
  · have e : (ρ.set i (some v))[i]? = none := by simp [List.getElem?_set, hl]
    rw [List.getD, e] at hu; cases hu

theorem Frm.stored (F : Frm hb G h0 P μ env ρ h) {c : Addr} {x : Str} {i : Nat} {v : V} {X : Value} (hi : G.σ.lookup x = some i) (hc0 : h0.get? c = none)
    (hcs : ∀ o, h.get? c = some o → ¬ SeqObj o) (hs : Heap.SameBut c h h') (halloc : ∃ o, h'.get? c = some o)
    (hns : ∃ m, h'.Ns env.locals m) (hcel : ∀ y ∈ G.asg, ∃ c w, env.cells.lookup y = some c ∧ h0.get? c = none ∧ h'.IsCell c w)
    (hx : Bd env h' x X) (hy : ∀ y Y, y ≠ x → Bd env h y Y → Bd env h' y Y)
    (hfree : ∀ b, h.get? b = none → P' b)
    (hold : ∀ j u Y, j ≠ i → ρ.getD j none = some u → ValAt P μ h j u Y → ValAt P' ν h j u Y) (hnew : ValAt P' ν h i v X)
    (hmu : ∀ j a, ν = some (j, a) → P' a ∧ h0.get? a = none ∧ ∃ items, h.PlainList a items) : Frm hb G h0 P' ν env (ρ.set i (some v)) h' := by
  have k : SeqKeep h h' := fun a o e q => (hs.2 a fun z => by subst z; exact hcs o e q).trans e
  refine ⟨F.scope, F.kind, F.glob, F.blt, F.base, fun b o e => (hs.2 b fun z => by subst z; rw [hc0] at e; cases e).trans (F.keep b o e), fun b e => ?_, hns, F.lnew, hcel, F.apart, F.inj, fun y j u e1 e2 => ?_, fun j a e => ?_⟩
  · by_cases z : b = c
    · subst z; obtain ⟨o, q⟩ := halloc; rw [q] at e; cases e
    · exact hfree b ((hs.2 b z).symm.trans e)
  · by_cases z : y = x
    · subst z
      rw [hi] at e1; cases e1
      rw [getD_set_eq e2]
      exact ⟨X, hx, hnew.seq k⟩
    · have hji : j ≠ i := fun q => z (F.inj y x i (q ▸ e1) hi)
      rw [getD_set_ne hji] at e2
      obtain ⟨Y, hB, hV⟩ := F.bnd y j u e1 e2
      exact ⟨Y, hy y Y z hB, (hold j u Y hji e2 hV).seq k⟩
  · obtain ⟨h1, h2, items, n, h3⟩ := hmu j a e
    exact ⟨h1, h2, items, n, k a _ h3 ⟨_, _, rfl⟩⟩
end

section
variable {prog : Program} {w : World} {hb : Heap} {n : Nat} {G : Sig} {A : Around} {env : Env} {h0 : Heap} {P P' : Addr → Prop} {μ ν : Mu} {ρ : St} {s : Shared} {E : Value → Shared → Prop}

theorem wp_store {x : Str} {i : Nat} {v : V} {X : Value} {Q : Unit → Shared → Prop} (hx : Sto G x) (hi : G.σ.lookup x = some i) (F : Frm hb G h0 P μ env ρ s.heap)
    (hfree : ∀ b, s.heap.get? b = none → P' b)
    (hold : ∀ j u Y, j ≠ i → ρ.getD j none = some u → ValAt P μ s.heap j u Y → ValAt P' ν s.heap j u Y) (hnew : ValAt P' ν s.heap i v X)
    (hmu : ∀ j a, ν = some (j, a) → P' a ∧ h0.get? a = none ∧ ∃ items, s.heap.PlainList a items)
    (hQ : ∀ h' tk, Frm hb G h0 P' ν env (ρ.set i (some v)) h' → (∀ b o, ¬ Own env G none b → s.heap.get? b = some o → h'.get? b = some o) → Q () { s with heap := h', toks := tk }) :
    wpAny (model prog w) A (storeName env x X) Q E s := by
  have hkind : env.kindOf x = G.sc.names.lookup x := by unfold Env.kindOf; rw [F.scope]
  obtain ⟨m, hn⟩ := F.ns
  rcases hx with hx | ⟨hx, hxa⟩
  · refine wpAny_storeName_local (hkind.trans hx) hn (fun h' hn' hs => hQ h' _ ?_ fun b o hb' e => hs.extBut b o (fun z => hb' (.inl z)) e) (by rw [F.fk]; rfl)
    obtain ⟨oL, es, ep, hL, hLd, _⟩ := id hn
    refine F.stored hi F.lnew (fun o e q => seq_ne_dict q (Option.some.inj (e.symm.trans hL)) hLd) hs (let ⟨o, _, _, e, _⟩ := hn'; ⟨o, e⟩) ⟨_, hn'⟩ (fun y hy => ?_) (.inl ⟨hkind.trans hx, _, hn', by simp⟩) (fun y Y hyx hB => ?_) hfree hold hnew hmu
    · obtain ⟨c, w', e1, e2, e3⟩ := F.cel y hy
      refine ⟨c, w', e1, e2, e3.sameBut hs fun z => ?_⟩
      subst z
      obtain ⟨o, e4, e5⟩ := e3
      rw [hL] at e4; cases e4; rw [hLd] at e5; cases e5
    · rcases hB with ⟨q1, m', q2, q3⟩ | ⟨q1, c, q2, q3⟩
      · refine .inl ⟨q1, _, hn', ?_⟩
        rw [if_neg hyx, Ns.uniq hn q2]; exact q3
      · refine .inr ⟨q1, c, q2, q3.sameBut hs fun z => ?_⟩
        subst z
        obtain ⟨o, e4, e5⟩ := q3
        rw [hL] at e4; cases e4; rw [hLd] at e5; cases e5
  · obtain ⟨c, w', e1, e2, e3⟩ := F.cel x hxa
    refine wpAny_storeName_cell F.fk (hkind.trans hx) e1 e3 fun h' hc' hs => hQ h' s.toks ?_ fun b o hb' e => hs.extBut b o (fun z => hb' (.inr (.inl ⟨x, hxa, z ▸ e1⟩))) e
    have hcl : env.locals ≠ c := fun z => by
      obtain ⟨o, es, ep, e4, e5, _⟩ := hn
      obtain ⟨o', e6, e7⟩ := e3
      rw [z, e6] at e4; cases e4; rw [e7] at e5; cases e5
    refine F.stored hi e2 (fun o e q => ?_) hs (let ⟨o, e, _⟩ := hc'; ⟨o, e⟩) ⟨m, hn.sameBut hs hcl⟩ (fun y hy => ?_) (.inr ⟨.inl (hkind.trans hx), c, e1, hc'⟩) (fun y Y hyx hB => ?_) hfree hold hnew hmu
    · obtain ⟨o', e6, e7⟩ := e3
      exact seq_ne_cell q (Option.some.inj (e.symm.trans e6)) e7
    · obtain ⟨c', w'', q1, q2, q3⟩ := F.cel y hy
      by_cases z : c' = c
      · subst z; exact ⟨c', _, q1, q2, hc'⟩
      · exact ⟨c', w'', q1, q2, q3.sameBut hs z⟩
    · rcases hB with ⟨q1, m', q2, q3⟩ | ⟨q1, c', q2, q3⟩
      · exact .inl ⟨q1, m', q2.sameBut hs hcl, q3⟩
      · refine .inr ⟨q1, c', q2, q3.sameBut hs fun z => hyx ?_⟩
        subst z
        exact name_of_addr F.apart (mem_of_lookup q2) (mem_of_lookup e1)

/-- the plain store -/
theorem wp_put {x : Str} {i : Nat} {v : V} {X : Value} {Q : Unit → Shared → Prop} (hx : Sto G x) (hi : G.σ.lookup x = some i) (hμ : μ.map (·.1) ≠ some i) (F : Frm hb G h0 P μ env ρ s.heap) (hX : VR (Av P μ) s.heap v X)
    (hQ : ∀ h' tk, Frm hb G h0 P μ env (ρ.set i (some v)) h' → Step env G μ s.heap μ h' → Q () { s with heap := h', toks := tk }) :
    wpAny (model prog w) A (storeName env x X) Q E s := by
  refine wp_store hx hi F F.free (fun j u Y _ _ q => q) (.inl ⟨fun a e => hμ (by rw [e]; rfl), hX⟩) F.mu fun h' tk F' k => hQ h' tk F' ⟨fun b o hb' e => k b o (fun z => hb' ?_) e, fun j a e => .inl ⟨j, e⟩⟩
  rcases z with z | z | ⟨j, z⟩
  · exact .inl z
  · exact .inr (.inl z)
  · cases z
/-- the store that makes a list the one that may turn -/
theorem wp_putN {x : Str} {i : Nat} {xs : List V} {a : Addr} {l : List Value} {Q : Unit → Shared → Prop} (hx : Sto G x) (hi : G.σ.lookup x = some i) (F : Frm hb G h0 (fun b => P b ∧ b ≠ a) none env ρ s.heap)
    (hp : ∀ b, s.heap.get? b = none → P b) (hpa : P a) (ha0 : h0.get? a = none) (hl : s.heap.PlainList a (List.toArray l)) (hs : VRs (fun b => P b ∧ b ≠ a) s.heap xs l)
    (hQ : ∀ h' tk, Frm hb G h0 P (some (i, a)) env (ρ.set i (some (.list xs))) h' → (∀ b o, ¬ Own env G none b → s.heap.get? b = some o → h'.get? b = some o) → Q () { s with heap := h', toks := tk }) :
    wpAny (model prog w) A (storeName env x (.ref a)) Q E s := by
  have av : ∀ b, (P b ∧ b ≠ a) → Av P (some (i, a)) b := fun b q => ⟨q.1, fun j c e z => by cases e; exact q.2 z⟩
  refine wp_store hx hi F hp (fun j u Y hj _ q => ?_) (.inr ⟨a, xs, l, rfl, rfl, rfl, hl, hs.sub av⟩) (fun j c e => by cases e; exact ⟨hpa, ha0, _, hl⟩) hQ
  rcases q with ⟨_, q⟩ | ⟨_, _, _, q, _⟩
  · exact .inl ⟨fun c e => hj (by cases e; rfl), q.sub fun b z => av b z.1⟩
  · cases q
theorem Frm.narrow {h h₁ : Heap} {a : Addr} (F : Frm hb G h0 P none env ρ h) (k : Ext h h₁) (ha : h.get? a = none) (hx : ∃ o, h₁.get? a = some o) : Frm hb G h0 (fun b => P b ∧ b ≠ a) none env ρ h₁ := by
  have F₁ := F.ext k
  refine ⟨F.scope, F.kind, F.glob, F.blt, F.base, F₁.keep, fun b e => ⟨F₁.free b e, fun z => ?_⟩, F₁.ns, F.lnew, F₁.cel, F.apart, F.inj, fun x i v e1 e2 => ?_, fun i b e => by cases e⟩
  · subst z; obtain ⟨o, q⟩ := hx; rw [q] at e; cases e
  · obtain ⟨X, hB, hV⟩ := F.bnd x i v e1 e2
    refine ⟨X, hB.ext k, .inl ⟨(fun b e => by cases e), ?_⟩⟩
    rcases hV with ⟨_, hV⟩ | ⟨_, _, _, q, _⟩
    · refine (VR.narrow (fun b o hp hg _ => Av.none ⟨hp.1, fun z => ?_⟩) hV).ext k
      subst z; rw [ha] at hg; cases hg
    · cases q
/-- the list that turned stands still from now on -/
theorem Frm.freeze {h : Heap} (F : Frm hb G h0 P μ env ρ h) : Frm hb G h0 P none env ρ h := by
  refine ⟨F.scope, F.kind, F.glob, F.blt, F.base, F.keep, F.free, F.ns, F.lnew, F.cel, F.apart, F.inj, fun x i v e1 e2 => ?_, fun i b e => by cases e⟩
  obtain ⟨X, hB, hV⟩ := F.bnd x i v e1 e2
  refine ⟨X, hB, .inl ⟨(fun b e => by cases e), ?_⟩⟩
  rcases hV with ⟨_, hV⟩ | ⟨a, xs, l, q, rfl, rfl, hl, hs⟩
  · exact hV.sub fun b z => Av.none z.1
  · simp only [VR]
    exact ⟨a, l, rfl, Av.none (F.mu i a q).1, hl, hs.sub fun b z => Av.none z.1⟩
end
end Mine
end

/- part M5 -/
section
open PySem PySem.Calls PyProof.Rows
namespace Mine

noncomputable def Post (hb : Heap) (G : Sig) (h0 : Heap) (P : Addr → Prop) (env : Env) (μ : Mu) (h : Heap) (ph' : Option Nat) (r : Fl × St) (f : Flow) (h' : Heap) : Prop :=
  match r with
  | (.next, ρ') => f = .next ∧ ∃ μ' : Mu, μ'.map (·.1) = ph' ∧ Frm hb G h0 P μ' env ρ' h' ∧ Step env G μ h μ' h'
  | (.ret v, _) => ∃ X, f = .ret X ∧ Ext h0 h' ∧ VR P h' v X

section
variable (prog : Program) (w : World) (hb : Heap)
noncomputable def SndS (n : Nat) (G : Sig) (ph ph' : Option Nat) (st : Stmt) (d : St → Option (Fl × St)) : Prop :=
  ∀ (A : Around) (env : Env) (h0 : Heap) (P : Addr → Prop) (μ : Mu) (ρ : St) (s : Shared) (r : Fl × St) (Q : Flow → Shared → Prop) (E : Value → Shared → Prop),
    μ.map (·.1) = ph → AOK n A → Frm hb G h0 P μ env ρ s.heap → d ρ = some r →
    (∀ h' tk f, Post hb G h0 P env μ s.heap ph' r f h' → Q f { s with heap := h', toks := tk }) → wpAny (model prog w) A (exec st env) Q E s
noncomputable def SndSs (n : Nat) (G : Sig) (ph ph' : Option Nat) (st : List Stmt) (d : St → Option (Fl × St)) : Prop :=
  ∀ (A : Around) (env : Env) (h0 : Heap) (P : Addr → Prop) (μ : Mu) (ρ : St) (s : Shared) (r : Fl × St) (Q : Flow → Shared → Prop) (E : Value → Shared → Prop),
    μ.map (·.1) = ph → AOK n A → Frm hb G h0 P μ env ρ s.heap → d ρ = some r →
    (∀ h' tk f, Post hb G h0 P env μ s.heap ph' r f h' → Q f { s with heap := h', toks := tk }) → wpAny (model prog w) A (execs st env) Q E s
end

section
variable {prog : Program} {w : World} {hb : Heap} {n : Nat} {G : Sig} {ph ph' ph'' : Option Nat}

noncomputable def dNil : St → Option (Fl × St) := fun ρ => some (.next, ρ)
noncomputable def andThen (b : St → Option (Fl × St)) : Fl × St → Option (Fl × St)
  | (.next, ρ') => b ρ'
  | (.ret v, ρ') => some (.ret v, ρ')
noncomputable def dSeq (a b : St → Option (Fl × St)) : St → Option (Fl × St) := fun ρ => (a ρ).bind (andThen b)

theorem sSs_nil : SndSs prog w hb n G ph ph [] dNil := by
  intro A env h0 P μ ρ s r Q E hμ hA F ev hQ
  cases ev
  exact wpAny_execs_nil (hQ s.heap s.toks _ ⟨rfl, μ, hμ, F, Step.refl ..⟩)
theorem sSs_cons {st : Stmt} {sts : List Stmt} {a b : St → Option (Fl × St)} (ha : SndS prog w hb n G ph ph' st a) (hb' : SndSs prog w hb n G ph' ph'' sts b) : SndSs prog w hb n G ph ph'' (st :: sts) (dSeq a b) := by
  intro A env h0 P μ ρ s r Q E hμ hA F ev hQ
  obtain ⟨⟨f, ρ₁⟩, e1, e2⟩ := Option.bind_eq_some_iff.mp ev
  refine wpAny_execs_cons (ha A env h0 P μ ρ s _ _ E hμ hA F e1 fun h₁ tk₁ f₁ hp => ?_)
  cases f with
  | next =>
    obtain ⟨rfl, μ₁, hμ₁, F₁, S₁⟩ := hp
    refine hb' A env h0 P μ₁ ρ₁ _ r _ E hμ₁ hA F₁ e2 fun h₂ tk₂ f₂ hp₂ => hQ h₂ tk₂ f₂ ?_
    obtain ⟨f', ρ₂⟩ := r
    cases f' with
    | next =>
      obtain ⟨rfl, μ₂, hμ₂, F₂, S₂⟩ := hp₂
      exact ⟨rfl, μ₂, hμ₂, F₂, S₁.trans F₁ S₂⟩
    | ret v => exact hp₂
  | ret v =>
    cases e2
    obtain ⟨X, rfl, q⟩ := hp
    exact hQ h₁ tk₁ _ ⟨X, rfl, q⟩
theorem sSs_freeze {sts : List Stmt} {d : St → Option (Fl × St)} (h : SndSs prog w hb n G none ph' sts d) : SndSs prog w hb n G ph ph' sts d := by
  intro A env h0 P μ ρ s r Q E hμ hA F ev hQ
  refine h A env h0 P none ρ s r Q E rfl hA F.freeze ev fun h' tk f hp => hQ h' tk f ?_
  obtain ⟨f', ρ'⟩ := r
  cases f' with
  | next =>
    obtain ⟨rfl, μ₂, hμ₂, F₂, S₂⟩ := hp
    refine ⟨rfl, μ₂, hμ₂, F₂, fun b o hb' e => S₂.1 b o (fun q => hb' ?_) e, fun i a e => ?_⟩
    · rcases q with q | q | ⟨_, q⟩
      · exact .inl q
      · exact .inr (.inl q)
      · cases q
    · rcases S₂.2 i a e with ⟨j, q⟩ | q
      · cases q
      · exact .inr q
  | ret v => exact hp
theorem sS_absurd {st : Stmt} : SndS prog w hb n G ph ph' st (fun _ => none) := by
  intro A env h0 P μ ρ s r Q E hμ hA F ev hQ
  cases ev
theorem sSs_absurd {st : List Stmt} : SndSs prog w hb n G ph ph' st (fun _ => none) := by
  intro A env h0 P μ ρ s r Q E hμ hA F ev hQ
  cases ev

noncomputable def dRet (d : St → Option V) : St → Option (Fl × St) := fun ρ => (d ρ).bind fun v => some (.ret v, [])
theorem sS_ret {e : Expr} {pos : Pos} {d : St → Option V} (hd : SndE prog w hb n G ph e d) : SndS prog w hb n G ph ph' (.Return (some e) pos) (dRet d) := by
  intro A env h0 P μ ρ s r Q E hμ hA F ev hQ
  obtain ⟨v, e1, e2⟩ := Option.bind_eq_some_iff.mp ev
  cases e2
  exact wpAny_Return_some (hd A env h0 P μ ρ s v _ E hμ hA F e1 fun h' tk X k hX => hQ h' tk _ ⟨X, rfl, F.keep.trans k, hX.sub fun b q => q.1⟩)

noncomputable def dExpr (d : St → Option V) : St → Option (Fl × St) := fun ρ => (d ρ).bind fun _ => some (.next, ρ)
theorem sS_expr {e : Expr} {pos : Pos} {d : St → Option V} (hd : SndE prog w hb n G ph e d) (hs : ∀ env, swapsWith e none pos.line env = pure false) : SndS prog w hb n G ph ph (.Expr e pos) (dExpr d) := by
  intro A env h0 P μ ρ s r Q E hμ hA F ev hQ
  obtain ⟨v, e1, e2⟩ := Option.bind_eq_some_iff.mp ev
  cases e2
  refine wpAny_Expr_any (hd A env h0 P μ ρ s v _ E hμ hA F e1 fun h' tk X k hX => hQ h' tk _ ⟨rfl, μ, hμ, F.ext k, Step.ext k⟩) ?_ (hs env)
  unfold interactive; rw [F.fk]; rfl

noncomputable def putS (i : Nat) (v : V) : St → Option (Fl × St) := fun ρ => some (.next, ρ.set i (some v))
noncomputable def dAsg (i : Nat) (d : St → Option V) : St → Option (Fl × St) := fun ρ => (d ρ).bind fun v => some (.next, ρ.set i (some v))
theorem sS_asg {x : Str} {i : Nat} {np pos : Pos} {e : Expr} {d : St → Option V} (hx : Sto G x) (hi : G.σ.lookup x = some i) (hp : ph ≠ some i) (hd : SndE prog w hb n G ph e d)
    (hs : ∀ env, env.scope = G.sc → swapsWith e (some (.Name x np)) pos.line env = pure false) : SndS prog w hb n G ph ph (.Assign [.Name x np] e pos) (dAsg i d) := by
  intro A env h0 P μ ρ s r Q E hμ hA F ev hQ
  obtain ⟨v, e1, e2⟩ := Option.bind_eq_some_iff.mp ev
  cases e2
  refine wpAny_Assign_Name (hd A env h0 P μ ρ s v _ E hμ hA F e1 fun h' tk X k hX => ?_) (hs env F.scope)
  refine wp_put hx hi (by rw [hμ]; exact hp) (F.ext k) hX fun h₂ tk₂ F₂ S₂ => hQ h₂ tk₂ _ ⟨rfl, μ, hμ, F₂, (Step.ext k).trans (F.ext k) S₂⟩
noncomputable def dAsgN (i : Nat) (d : St → Option (List V)) : St → Option (Fl × St) := fun ρ => (d ρ).bind fun l => some (.next, ρ.set i (some (.list l)))
theorem stepN {h h₁ h' : Heap} {hb : Heap} {G : Sig} {h0 : Heap} {P : Addr → Prop} {env : Env} {i : Nat} {a : Addr} (k : Ext h h₁) (ha : h.get? a = none)
    (q : ∀ b o, ¬ Own env G none b → h₁.get? b = some o → h'.get? b = some o) : Step env G none h (some (i, a)) h' :=
  ⟨fun b o hb' e => q b o hb' (k b o e), fun j c e => by cases e; exact .inr ha⟩
theorem sS_asgN {x : Str} {i : Nat} {np pos : Pos} {e : Expr} {d : St → Option (List V)} (hx : Sto G x) (hi : G.σ.lookup x = some i) (hd : SndN prog w hb n G none e d)
    (hs : ∀ env, env.scope = G.sc → swapsWith e (some (.Name x np)) pos.line env = pure false) : SndS prog w hb n G none (some i) (.Assign [.Name x np] e pos) (dAsgN i d) := by
  intro A env h0 P μ ρ s r Q E hμ hA F ev hQ
  obtain ⟨v, e1, e2⟩ := Option.bind_eq_some_iff.mp ev
  cases e2
  obtain rfl : μ = none := Option.map_eq_none_iff.mp hμ
  refine wpAny_Assign_Name (hd A env h0 P none ρ s v _ E hμ hA F e1 fun h' tk a l k ha hl hs' => ?_) (hs env F.scope)
  refine wp_putN hx hi (F.narrow k ha ⟨_, hl.choose_spec⟩) (F.ext k).free (F.free _ ha) (F.keep.none ha) hl (hs'.sub fun b q => ⟨q.1.1, q.2⟩) fun h₂ tk₂ F₂ q => ?_
  exact hQ h₂ tk₂ _ ⟨rfl, _, rfl, F₂, stepN (hb := hb) (h0 := h0) (P := P) k ha q⟩

noncomputable def augV (op : Operator) (a b : V) : Option V :=
  match a, b with
  | .int x, .int y => (match op with
    | .Add => some (.int (x + y))
    | .Sub => some (.int (x - y))
    | _ => none)
  | _, _ => none
noncomputable def dAug (i : Nat) (op : Operator) (d : St → Option V) : St → Option (Fl × St) := fun ρ => (ρ.getD i none).bind fun a => (d ρ).bind fun b => (augV op a b).bind fun v => some (.next, ρ.set i (some v))
theorem sS_aug {x : Str} {i : Nat} {op : Operator} {np pos : Pos} {e : Expr} {d : St → Option V} (hx : Sto G x) (hi : G.σ.lookup x = some i) (hp : ph ≠ some i) (hd : SndE prog w hb n G ph e d)
    (hd' : (x == ("__debug__" : Str)) = false) (hc : (x == ("__classdict__" : Str)) = false) : SndS prog w hb n G ph ph (.AugAssign (.Name x np) op e pos) (dAug i op d) := by
  intro A env h0 P μ ρ s r Q E hμ hA F ev hQ
  obtain ⟨a, e1, ev1⟩ := Option.bind_eq_some_iff.mp ev
  obtain ⟨b, e2, ev2⟩ := Option.bind_eq_some_iff.mp ev1
  obtain ⟨v, e3, e4⟩ := Option.bind_eq_some_iff.mp ev2
  cases e4
  obtain ⟨X, hB, hV⟩ := F.bnd x i a hi e1
  have hV : VR (Av P μ) s.heap a X := by
    rcases hV with ⟨_, hV⟩ | ⟨c, _, _, q, _⟩
    · exact hV
    · subst hμ; rw [q] at hp; exact absurd rfl hp
  have rest : ∀ s' : Shared, s' = s → wpAny (model prog w) A (eval e env) (fun v s₂ => wpAny (model prog w) A (inplaceOp op X v) (fun r s₃ => wpAny (model prog w) A (storeName env x r) (fun _ => Q .next) E s₃) E s₂) E s' := by
    rintro s' rfl
    refine hd A env h0 P μ ρ s' b _ E hμ hA F e2 fun h' tk Y k hY => ?_
    unfold augV at e3
    split at e3
    · simp only [VR] at hV hY
      obtain ⟨t, rfl⟩ := hV; obtain ⟨u, rfl⟩ := hY
      split at e3 <;> cases e3
      · refine PyProof.Rows.iadd_int ?_
        exact wp_put hx hi (by rw [hμ]; exact hp) (F.ext k) (by simp only [VR]; exact ⟨_, rfl⟩) fun h₂ tk₂ F₂ S₂ => hQ h₂ tk₂ _ ⟨rfl, μ, hμ, F₂, (Step.ext k).trans (F.ext k) S₂⟩
      · refine PyProof.Rows.isub_int ?_
        exact wp_put hx hi (by rw [hμ]; exact hp) (F.ext k) (by simp only [VR]; exact ⟨_, rfl⟩) fun h₂ tk₂ F₂ S₂ => hQ h₂ tk₂ _ ⟨rfl, μ, hμ, F₂, (Step.ext k).trans (F.ext k) S₂⟩
    · cases e3
  refine wpAny_AugAssign_Name ?_
  rcases hB with ⟨hl, m, hn, hm⟩ | ⟨hl, c, hc', hx'⟩
  · exact wpAny_loadName_local F.fk hl hn hm (rest _ rfl)
  · rcases hl with hl | hl
    · exact wpAny_loadName_cell F.fk hl hc' hx' (rest _ rfl)
    · exact wpAny_loadName_free F.fk hl hc' hx' (rest _ rfl) hc

noncomputable def dIf (t : St → Option Bool) (a b : St → Option (Fl × St)) : St → Option (Fl × St) := fun ρ => (t ρ).bind fun x => match x with | true => a ρ | false => b ρ
theorem Post.pre {h0 : Heap} {P : Addr → Prop} {env : Env} {μ μ₁ : Mu} {h h₁ h' : Heap} {ρ₁ : St} {r : Fl × St} {f : Flow} (F₁ : Frm hb G h0 P μ₁ env ρ₁ h₁) (S : Step env G μ h μ₁ h₁) (hp : Post hb G h0 P env μ₁ h₁ ph' r f h') : Post hb G h0 P env μ h ph' r f h' := by
  obtain ⟨f', ρ'⟩ := r
  cases f' with
  | next => obtain ⟨e, μ₂, h1, F₂, S₂⟩ := hp; exact ⟨e, μ₂, h1, F₂, S.trans F₁ S₂⟩
  | ret v => exact hp
theorem sS_if {t : Expr} {a b : List Stmt} {pos : Pos} {dt : St → Option Bool} {da db : St → Option (Fl × St)} (ht : SndT prog w hb n G ph t dt) (ha : SndSs prog w hb n G ph ph' a da) (hb' : SndSs prog w hb n G ph ph' b db) :
    SndS prog w hb n G ph ph' (.If t a b pos) (dIf dt da db) := by
  intro A env h0 P μ ρ s r Q E hμ hA F ev hQ
  obtain ⟨x, e1, e2⟩ := Option.bind_eq_some_iff.mp ev
  refine wpAny_If (ht A env h0 P μ ρ s x _ E hμ hA F e1 fun h' tk k => ?_)
  cases x with
  | true => exact ha A env h0 P μ ρ _ r _ E hμ hA (F.ext k) e2 fun h₂ tk₂ f hp => hQ h₂ tk₂ f (hp.pre (F.ext k) (Step.ext k))
  | false => exact hb' A env h0 P μ ρ _ r _ E hμ hA (F.ext k) e2 fun h₂ tk₂ f hp => hQ h₂ tk₂ f (hp.pre (F.ext k) (Step.ext k))

noncomputable def whileD (t : St → Option Bool) (b : St → Option (Fl × St)) : Nat → St → Option (Fl × St)
  | 0, _ => none
  | k + 1, ρ => (t ρ).bind fun x => match x with
    | false => some (.next, ρ)
    | true => (b ρ).bind (andThen (whileD t b k))
theorem sS_while {t : Expr} {body : List Stmt} {pos : Pos} {dt : St → Option Bool} {db : St → Option (Fl × St)} (N : Nat) (ht : SndT prog w hb n G ph t dt) (hbd : SndSs prog w hb n G ph ph body db) :
    SndS prog w hb n G ph ph (.While t body [] pos) (whileD dt db N) := by
  intro A env h0 P μ ρ s r Q E hμ hA F ev hQ
  refine wpAny_While (codeAny_whileLoop (fun k s' => ∃ h' tk μ' ρ', s' = { s with heap := h', toks := tk } ∧ μ'.map (·.1) = ph ∧ Frm hb G h0 P μ' env ρ' h' ∧ Step env G μ s.heap μ' h' ∧ whileD dt db k ρ' = some r) ?_ N
    ⟨s.heap, s.toks, μ, ρ, rfl, hμ, F, Step.refl .., ev⟩)
  rintro k s' ⟨h', tk, μ', ρ', rfl, hμ', F', S', ev'⟩
  cases k with
  | zero => cases ev'
  | succ k =>
    obtain ⟨x, e1, e2⟩ := Option.bind_eq_some_iff.mp ev'
    refine ht A env h0 P μ' ρ' _ x _ _ hμ' hA F' e1 fun h₁ tk₁ k₁ => ?_
    have F₁ := F'.ext k₁
    have S₁ : Step env G μ s.heap μ' h₁ := S'.trans F' (Step.ext k₁)
    cases x with
    | false =>
      cases e2
      exact wpAny_execs_nil (hQ h₁ tk₁ _ ⟨rfl, μ', hμ', F₁, S₁⟩)
    | true =>
      obtain ⟨⟨f, ρ₂⟩, e3, e4⟩ := Option.bind_eq_some_iff.mp e2
      refine hbd A env h0 P μ' ρ' _ _ _ _ hμ' hA F₁ e3 fun h₂ tk₂ f₂ hp => ?_
      cases f with
      | next =>
        obtain ⟨rfl, μ₂, hμ₂, F₂, S₂⟩ := hp
        exact ⟨k, Nat.lt_succ_self k, h₂, tk₂, μ₂, ρ₂, rfl, hμ₂, F₂, S₁.trans F₁ S₂, e4⟩
      | ret v =>
        cases e4
        obtain ⟨X, rfl, q⟩ := hp
        exact hQ h₂ tk₂ _ ⟨X, rfl, q⟩

/-- several names take the items of a tuple, one by one -/
noncomputable def putAll : List Nat → List V → St → Option St
  | [], [], ρ => some ρ
  | i :: is, v :: vs, ρ => putAll is vs (ρ.set i (some v))
  | _, _, _ => none
noncomputable def NamesAt (G : Sig) (ph : Option Nat) : List Str → List Nat → Prop
  | [], [] => True
  | x :: xs, i :: is => (Sto G x ∧ G.σ.lookup x = some i ∧ ph ≠ some i) ∧ NamesAt G ph xs is
  | _, _ => False
theorem wp_putAll {A : Around} {env : Env} {h0 : Heap} {P : Addr → Prop} {μ : Mu} {E : Value → Shared → Prop} (T : Str → Value → Sem Unit) (hT : ∀ x v (Q : Unit → Shared → Prop) s, wpAny (model prog w) A (storeName env x v) Q E s → wpAny (model prog w) A (T x v) Q E s) (hμ : μ.map (·.1) = ph) :
    ∀ (xs : List Str) (is : List Nat) (vs : List V) (Xs : List Value) (ρ ρ' : St) (s : Shared) (Q : Unit → Shared → Prop), NamesAt G ph xs is → putAll is vs ρ = some ρ' → Frm hb G h0 P μ env ρ s.heap → VRs (Av P μ) s.heap vs Xs →
      (∀ h' tk, Frm hb G h0 P μ env ρ' h' → Step env G μ s.heap μ h' → Q () { s with heap := h', toks := tk }) → wpAny (model prog w) A (assignInOrder (xs.map fun x => T x) Xs) Q E s
  | [], [], [], Xs, ρ, ρ', s, Q, _, e, F, hX, hQ => by
    cases e
    simp only [VRs] at hX; subst hX
    exact wpAny_pure (hQ s.heap s.toks F (Step.refl ..))
  | x :: xs, i :: is, v :: vs, Xs, ρ, ρ', s, Q, hN, e, F, hX, hQ => by
    simp only [VRs] at hX
    obtain ⟨X, Xr, rfl, hX1, hX2⟩ := hX
    obtain ⟨⟨h1, h2, h3⟩, hN'⟩ := hN
    refine wpAny_assignInOrder_more (hT x X _ _ (wp_put h1 h2 (by rw [hμ]; exact h3) F hX1 fun h' tk F' S' => ?_))
    exact wp_putAll T hT hμ xs is vs Xr _ ρ' _ Q hN' e F' (S'.vrs F hX2) fun h₂ tk₂ F₂ S₂ => hQ h₂ tk₂ F₂ (S'.trans F' S₂)
  | [], [], _ :: _, _, _, _, _, _, _, e, _, _, _ => by cases e
  | [], _ :: _, _, _, _, _, _, _, hN, _, _, _, _ => hN.elim
  | _ :: _, [], _, _, _, _, _, _, hN, _, _, _, _ => hN.elim
  | _ :: _, _ :: _, [], _, _, _, _, _, _, e, _, _, _ => by cases e

noncomputable def dTup (is : List Nat) (d : St → Option (List V)) : St → Option (Fl × St) := fun ρ => (d ρ).bind fun vs => (lenOK vs).bind fun vs => (putAll is vs ρ).bind fun ρ' => some (.next, ρ')
noncomputable def dTupR (is : List Nat) (d : St → Option (List V)) : St → Option (Fl × St) := fun ρ => (d ρ).bind fun vs => (lenOK vs).bind fun vs => (putAll is.reverse vs.reverse ρ).bind fun ρ' => some (.next, ρ')
theorem VRs.reverse {P : Addr → Prop} {h : Heap} : ∀ {vs : List V} {l : List Value}, VRs P h vs l → VRs P h vs.reverse l.reverse
  | [], l, e => by simp only [VRs] at e; subst e; simp [VRs]
  | v :: vs, l, e => by
    simp only [VRs] at e
    obtain ⟨x, t, rfl, h1, h2⟩ := e
    rw [List.reverse_cons, List.reverse_cons]
    exact (VRs.reverse h2).append (by simp only [VRs]; exact ⟨x, [], rfl, h1, rfl⟩)
end
end Mine
end

/- part M6 -/
section
open PySem PySem.Calls PyProof.Rows
namespace Mine
section
variable {prog : Program} {w : World} {hb : Heap} {n : Nat} {G : Sig} {ph ph' ph'' : Option Nat}

/-- the trees T₁, T₂ .. store into the names x₁, x₂ .. -/
noncomputable def Stores (prog : Program) (w : World) (env : Env) : List (Value → Sem Unit) → List Str → Prop
  | [], [] => True
  | T :: Ts, x :: xs => (∀ (A : Around) (E : Value → Shared → Prop) (v : Value) (Q : Unit → Shared → Prop) (s : Shared), wpAny (model prog w) A (storeName env x v) Q E s → wpAny (model prog w) A (T v) Q E s) ∧ Stores prog w env Ts xs
  | _, _ => False
theorem wp_stores {A : Around} {env : Env} {h0 : Heap} {P : Addr → Prop} {μ : Mu} {E : Value → Shared → Prop} (hμ : μ.map (·.1) = ph) :
    ∀ (Ts : List (Value → Sem Unit)) (xs : List Str) (is : List Nat) (vs : List V) (Xs : List Value) (ρ ρ' : St) (s : Shared) (Q : Unit → Shared → Prop), Stores prog w env Ts xs → NamesAt G ph xs is → putAll is vs ρ = some ρ' → Frm hb G h0 P μ env ρ s.heap → VRs (Av P μ) s.heap vs Xs →
      (∀ h' tk, Frm hb G h0 P μ env ρ' h' → Step env G μ s.heap μ h' → Q () { s with heap := h', toks := tk }) → wpAny (model prog w) A (assignInOrder Ts Xs) Q E s
  | [], [], [], [], Xs, ρ, ρ', s, Q, _, _, e, F, hX, hQ => by
    cases e
    simp only [VRs] at hX; subst hX
    exact wpAny_pure (hQ s.heap s.toks F (Step.refl ..))
  | T :: Ts, x :: xs, i :: is, v :: vs, Xs, ρ, ρ', s, Q, hT, hN, e, F, hX, hQ => by
    simp only [VRs] at hX
    obtain ⟨X, Xr, rfl, hX1, hX2⟩ := hX
    obtain ⟨⟨h1, h2, h3⟩, hN'⟩ := hN
    obtain ⟨hT1, hT2⟩ := hT
    refine wpAny_assignInOrder_more (hT1 A E X _ _ (wp_put h1 h2 (by rw [hμ]; exact h3) F hX1 fun h' tk F' S' => ?_))
    exact wp_stores hμ Ts xs is vs Xr _ ρ' _ Q hT2 hN' e F' (S'.vrs F hX2) fun h₂ tk₂ F₂ S₂ => hQ h₂ tk₂ F₂ (S'.trans F' S₂)
  | [], [], [], _ :: _, _, _, _, _, _, _, _, e, _, _, _ => by cases e
  | _, [], _ :: _, _, _, _, _, _, _, _, hN, _, _, _, _ => hN.elim
  | _, _ :: _, [], _, _, _, _, _, _, _, hN, _, _, _, _ => hN.elim
  | _, _ :: _, _ :: _, [], _, _, _, _, _, _, _, e, _, _, _ => by cases e
  | [], _ :: _, _ :: _, _ :: _, _, _, _, _, _, hT, _, _, _, _, _ => hT.elim
  | _ :: _, [], [], [], _, _, _, _, _, hT, _, _, _, _, _ => hT.elim
  | _ :: _, [], [], _ :: _, _, _, _, _, _, hT, _, _, _, _, _ => hT.elim

theorem stores_bind (env : Env) : ∀ xs : List Str, Stores prog w env (xs.map fun n => bindName env n) xs
  | [] => trivial
  | x :: xs => ⟨fun _ _ _ _ _ h => wpAny_bindName h, stores_bind env xs⟩
noncomputable def namesOf : List Expr → Option (List Str)
  | [] => some []
  | .Name x _ :: r => (namesOf r).bind fun l => some (x :: l)
  | _ => none
theorem stores_each (env : Env) : ∀ (elts : List Expr) (xs : List Str), namesOf elts = some xs → Stores prog w env ((assignEach elts env).map (·.2)) xs ∧ (assignEach elts env).length = xs.length ∧ (assignEach elts env).findIdx? (·.1) = none
  | [], xs, e => by cases e; exact ⟨trivial, rfl, rfl⟩
  | .Name x p :: r, xs, e => by
    obtain ⟨l, e1, e2⟩ := Option.bind_eq_some_iff.mp e
    cases e2
    obtain ⟨h1, h2, h3⟩ := stores_each env r l e1
    have e3 : assignEach (.Name x p :: r) env = (false, assign (.Name x p) env) :: assignEach r env := rfl
    rw [e3]
    refine ⟨⟨fun _ _ _ _ _ h => wpAny_assign_Name h, h1⟩, by rw [List.length_cons, h2, List.length_cons], ?_⟩
    rw [List.findIdx?_cons, h3]; rfl

theorem putAll_len : ∀ {is : List Nat} {vs : List V} {ρ ρ' : St}, putAll is vs ρ = some ρ' → vs.length = is.length
  | [], [], _, _, _ => rfl
  | _ :: is, _ :: vs, ρ, ρ', e => by rw [List.length_cons, List.length_cons, putAll_len (is := is) (vs := vs) e]
  | [], _ :: _, _, _, e => by cases e
  | _ :: _, [], _, _, e => by cases e
theorem NamesAt.len {ph : Option Nat} : ∀ {xs : List Str} {is : List Nat}, NamesAt G ph xs is → xs.length = is.length
  | [], [], _ => rfl
  | _ :: xs, _ :: is, h => by rw [List.length_cons, List.length_cons, NamesAt.len h.2]
  | [], _ :: _, h => h.elim
  | _ :: _, [], h => h.elim
theorem ext_of_but {h h' : Heap} (k : Heap.ExtBut h.objs.size h h') : Ext h h' := fun b o e => k b o (Nat.ne_of_lt (Heap.lt_size e)) e

/-- x, y, .. = (a, b, ..), the stores from behind -/
theorem sS_tupR {xs : List Str} {is : List Nat} {elts es : List Expr} {k k' : Nat} {tp vp pos : Pos} {d : St → Option (List V)} (hd : SndL prog w hb n G ph es d) (hN : NamesAt G ph xs.reverse is.reverse)
    (hsw : ∀ env, swapsWithSole [.Tuple elts k tp] (.Tuple es k' vp) pos.line env = pure false) (hw : ∀ env, env.scope = G.sc → swappedStores [.Tuple elts k tp] (.Tuple es k' vp) env = pure (some xs)) :
    SndS prog w hb n G ph ph (.Assign [.Tuple elts k tp] (.Tuple es k' vp) pos) (dTupR is d) := by
  intro A env h0 P μ ρ s r Q E hμ hA F ev hQ
  obtain ⟨vs, e1, ev1⟩ := Option.bind_eq_some_iff.mp ev
  obtain ⟨vs', e2, ev2⟩ := Option.bind_eq_some_iff.mp ev1
  obtain ⟨ρ', e3, ev3⟩ := Option.bind_eq_some_iff.mp ev2
  cases ev3
  obtain ⟨rfl, hlen⟩ := lenOK.iff e2
  refine Assign_Tuple_swapped (wpAny_Tuple_spliced (hd A env h0 P μ ρ s _ vp _ E hμ hA F e1 fun h' tk Xs kx hXs => ⟨by rw [hXs.length]; exact hlen, ?_⟩)) (hsw env) (hw env F.scope)
  have hl : xs.length = Xs.toArray.size := by
    have q1 := hN.len; have q2 := putAll_len e3; have q3 := hXs.length
    simp only [List.length_reverse] at q1 q2
    rw [List.size_toArray]; omega
  rw [hl]
  refine wpAny_unpackItems_tuple hA.1 ⟨_, Heap.get?_push_size _ rfl, rfl, _, rfl⟩ fun h₂ k₂ => ?_
  have kk : Ext h' h₂ := (Ext.push h' _).trans (ext_of_but k₂)
  exact wp_stores hμ _ _ _ _ _ ρ ρ' _ _ (stores_bind env xs.reverse) hN e3 (F.ext (kx.trans kk)) (hXs.ext kk).reverse fun h₃ tk₃ F₃ S₃ => hQ h₃ tk₃ _ ⟨rfl, μ, hμ, F₃, (Step.ext (kx.trans kk)).trans (F.ext (kx.trans kk)) S₃⟩
/-- x, y, .. = (a, b, ..), in order -/
theorem sS_tup {xs : List Str} {is : List Nat} {elts es : List Expr} {k k' : Nat} {tp vp pos : Pos} {d : St → Option (List V)} (hd : SndL prog w hb n G ph es d) (hN : NamesAt G ph xs is) (hel : namesOf elts = some xs)
    (hsw : ∀ env, swapsWithSole [.Tuple elts k tp] (.Tuple es k' vp) pos.line env = pure false) (hw : ∀ env, env.scope = G.sc → swappedStores [.Tuple elts k tp] (.Tuple es k' vp) env = pure none) :
    SndS prog w hb n G ph ph (.Assign [.Tuple elts k tp] (.Tuple es k' vp) pos) (dTup is d) := by
  intro A env h0 P μ ρ s r Q E hμ hA F ev hQ
  obtain ⟨vs, e1, ev1⟩ := Option.bind_eq_some_iff.mp ev
  obtain ⟨vs', e2, ev2⟩ := Option.bind_eq_some_iff.mp ev1
  obtain ⟨ρ', e3, ev3⟩ := Option.bind_eq_some_iff.mp ev2
  cases ev3
  obtain ⟨rfl, hlen⟩ := lenOK.iff e2
  obtain ⟨t1, t2, t3⟩ := stores_each (prog := prog) (w := w) env elts xs hel
  refine Assign_Tuple (wpAny_Tuple_spliced (hd A env h0 P μ ρ s _ vp _ E hμ hA F e1 fun h' tk Xs kx hXs => ⟨by rw [hXs.length]; exact hlen, ?_⟩)) (hsw env) (hw env F.scope)
  refine wpAny_assign_Tuple hA.1 ⟨_, Heap.get?_push_size _ rfl, rfl, _, rfl⟩ ?_ t3 fun h₂ k₂ => ?_
  · have q1 := hN.len; have q2 := putAll_len e3; have q3 := hXs.length
    rw [List.size_toArray]; omega
  have kk : Ext h' h₂ := (Ext.push h' _).trans (ext_of_but k₂)
  exact wp_stores hμ _ _ _ _ _ ρ ρ' _ _ t1 hN e3 (F.ext (kx.trans kk)) (hXs.ext kk) fun h₃ tk₃ F₃ S₃ => hQ h₃ tk₃ _ ⟨rfl, μ, hμ, F₃, (Step.ext (kx.trans kk)).trans (F.ext (kx.trans kk)) S₃⟩

/-- x, y = ([..], int): the list x is one that may turn -/
noncomputable def dTupNI (i j : Nat) (d₁ : St → Option (List V)) (d₂ : St → Option V) : St → Option (Fl × St) := fun ρ => (d₁ ρ).bind fun l => (d₂ ρ).bind fun v => match v with
  | .int c => some (.next, (ρ.set j (some (.int c))).set i (some (.list l)))
  | _ => none
theorem sS_tupNI {x y : Str} {i j : Nat} {px py tp vp pos : Pos} {e₁ e₂ : Expr} {k k' : Nat} {d₁ : St → Option (List V)} {d₂ : St → Option V} (h₁ : SndN prog w hb n G none e₁ d₁) (h₂ : SndE prog w hb n G none e₂ d₂)
    (hx : Sto G x) (hi : G.σ.lookup x = some i) (hy : Sto G y) (hj : G.σ.lookup y = some j)
    (he₁ : ∀ env, starEach [e₁, e₂] env = (false, eval e₁ env) :: starEach [e₂] env) (he₂ : ∀ env, starEach [e₂] env = (false, eval e₂ env) :: starEach [] env)
    (hsw : ∀ env, swapsWithSole [.Tuple [.Name x px, .Name y py] k tp] (.Tuple [e₁, e₂] k' vp) pos.line env = pure false)
    (hw : ∀ env, env.scope = G.sc → swappedStores [.Tuple [.Name x px, .Name y py] k tp] (.Tuple [e₁, e₂] k' vp) env = pure (some [x, y])) :
    SndS prog w hb n G none (some i) (.Assign [.Tuple [.Name x px, .Name y py] k tp] (.Tuple [e₁, e₂] k' vp) pos) (dTupNI i j d₁ d₂) := by
  intro A env h0 P μ ρ s r Q E hμ hA F ev hQ
  obtain ⟨l, e1, ev1⟩ := Option.bind_eq_some_iff.mp ev
  obtain ⟨v, e2, ev2⟩ := Option.bind_eq_some_iff.mp ev1
  obtain rfl : μ = none := Option.map_eq_none_iff.mp hμ
  refine Assign_Tuple_swapped (wpAny_Tuple_spliced (args_cons (h₁ A env h0 P none ρ s l _ E rfl hA F e1 fun g₁ tk₁ a xs q₁ ha hl hs => ?_) (he₁ env))) (hsw env) (hw env F.scope)
  refine args_cons (h₂ A env h0 P none ρ _ v _ E rfl hA (F.ext q₁) e2 fun g₂ tk₂ Y q₂ hY => args_nil ⟨by show 2 ≤ sizeLine; rw [sizeLine_eq]; omega, ?_⟩) (he₂ env)
  cases v <;> simp only at ev2 <;> try (cases ev2; done)
  rename_i c
  cases ev2
  simp only [VR] at hY
  obtain ⟨t, rfl⟩ := hY
  show wpAny _ A (unpackItems _ (List.toArray [Value.ref a, Value.int c t]).size none) _ _ _
  refine wpAny_unpackItems_tuple hA.1 ⟨_, Heap.get?_push_size _ rfl, rfl, _, rfl⟩ fun g₃ k₃ => ?_
  have kk : Ext g₁ g₃ := q₂.trans ((Ext.push g₂ _).trans (ext_of_but k₃))
  have kf := q₁.trans kk
  have F₃ := F.narrow kf ha ⟨_, kk a _ hl.choose_spec⟩
  refine wpAny_assignInOrder_more (wpAny_bindName (wp_put hy hj (by simp) F₃ (v := .int c) (by simp only [VR]; exact ⟨_, rfl⟩) fun g₄ tk₄ F₄ S₄ => ?_))
  have hs₃ : VRs (Av (fun b => P b ∧ b ≠ a) none) g₃ l xs := (hs.ext kk).sub fun b q => Av.none ⟨q.1.1, q.2⟩
  have hl₄ : g₄.PlainList a xs.toArray := by
    obtain ⟨m, hm⟩ := hl.at (kk a)
    exact ⟨m, S₄.1 a _ (fun ho => by obtain ⟨_, q⟩ := F₃.own_seq hm ⟨_, _, rfl⟩ ho; cases q) hm⟩
  have free₄ : ∀ b, g₄.get? b = none → P b := fun b e => (F₄.free b e).1
  refine wpAny_assignInOrder_more (wpAny_bindName (wp_putN hx hi F₄ free₄ (F.free _ ha) (F.keep.none ha) hl₄ ((S₄.vrs F₃ hs₃).sub fun b q => q.1) fun g₅ tk₅ F₅ k₅ => wpAny_pure ?_))
  refine hQ g₅ tk₅ _ ⟨rfl, _, rfl, F₅, fun b o hb' e => k₅ b o hb' (S₄.1 b o hb' (kf b o e)), fun j' c' e => by cases e; exact .inr ha⟩
/-- x, y = (a, [..]): the list y is one that may turn -/
noncomputable def dTupIN (i j : Nat) (d₁ : St → Option V) (d₂ : St → Option (List V)) : St → Option (Fl × St) := fun ρ => (d₁ ρ).bind fun v => (d₂ ρ).bind fun l => some (.next, (ρ.set j (some (.list l))).set i (some v))
theorem sS_tupIN {x y : Str} {i j : Nat} {px py tp vp pos : Pos} {e₁ e₂ : Expr} {k k' : Nat} {d₁ : St → Option V} {d₂ : St → Option (List V)} (h₁ : SndE prog w hb n G none e₁ d₁) (h₂ : SndN prog w hb n G none e₂ d₂)
    (hx : Sto G x) (hi : G.σ.lookup x = some i) (hy : Sto G y) (hj : G.σ.lookup y = some j) (hij : i ≠ j)
    (he₁ : ∀ env, starEach [e₁, e₂] env = (false, eval e₁ env) :: starEach [e₂] env) (he₂ : ∀ env, starEach [e₂] env = (false, eval e₂ env) :: starEach [] env)
    (hsw : ∀ env, swapsWithSole [.Tuple [.Name x px, .Name y py] k tp] (.Tuple [e₁, e₂] k' vp) pos.line env = pure false)
    (hw : ∀ env, env.scope = G.sc → swappedStores [.Tuple [.Name x px, .Name y py] k tp] (.Tuple [e₁, e₂] k' vp) env = pure (some [x, y])) :
    SndS prog w hb n G none (some j) (.Assign [.Tuple [.Name x px, .Name y py] k tp] (.Tuple [e₁, e₂] k' vp) pos) (dTupIN i j d₁ d₂) := by
  intro A env h0 P μ ρ s r Q E hμ hA F ev hQ
  obtain ⟨v, e1, ev1⟩ := Option.bind_eq_some_iff.mp ev
  obtain ⟨l, e2, ev2⟩ := Option.bind_eq_some_iff.mp ev1
  cases ev2
  obtain rfl : μ = none := Option.map_eq_none_iff.mp hμ
  refine Assign_Tuple_swapped (wpAny_Tuple_spliced (args_cons (h₁ A env h0 P none ρ s v _ E rfl hA F e1 fun g₁ tk₁ X q₁ hX => ?_) (he₁ env))) (hsw env) (hw env F.scope)
  refine args_cons (h₂ A env h0 P none ρ _ l _ E rfl hA (F.ext q₁) e2 fun g₂ tk₂ a xs q₂ ha hl hs => args_nil ⟨by show 2 ≤ sizeLine; rw [sizeLine_eq]; omega, ?_⟩) (he₂ env)
  show wpAny _ A (unpackItems _ (List.toArray [X, Value.ref a]).size none) _ _ _
  refine wpAny_unpackItems_tuple hA.1 ⟨_, Heap.get?_push_size _ rfl, rfl, _, rfl⟩ fun g₃ k₃ => ?_
  have kk : Ext g₂ g₃ := (Ext.push g₂ _).trans (ext_of_but k₃)
  have kf : Ext g₁ g₃ := q₂.trans kk
  have ha' : g₁.get? a = none := ha
  have F₃ := (F.ext q₁).narrow kf ha' ⟨_, kk a _ hl.choose_spec⟩
  have hs₃ : VRs (fun b => P b ∧ b ≠ a) g₃ l xs := (hs.ext kk).sub fun b q => ⟨q.1.1, q.2⟩
  refine wpAny_assignInOrder_more (wpAny_bindName (wp_putN hy hj F₃ (fun b e => (F₃.free b e).1) (F.free _ (q₁.none ha')) (F.keep.none (q₁.none ha')) (hl.at (kk a)) hs₃ fun g₄ tk₄ F₄ k₄ => ?_))
  have hX₄ : VR (Av P (some (j, a))) g₄ v X := by
    have hX₁ : VR (Av (fun b => P b ∧ b ≠ a) none) g₃ v X := (VR.narrow (fun b o hp hg _ => Av.none ⟨hp.1, fun z => by subst z; rw [ha'] at hg; cases hg⟩) hX).ext kf
    refine (VR.mono (fun b o hp hg hq => ⟨⟨hp.1.1, fun j' c' e z => by cases e; exact hp.1.2 z⟩, k₄ b o (fun ho => ?_) hg⟩) v X hX₁)
    obtain ⟨_, q⟩ := F₃.own_seq hg hq ho
    cases q
  refine wpAny_assignInOrder_more (wpAny_bindName (wp_put hx hi (by simpa using Ne.symm hij) F₄ hX₄ fun g₅ tk₅ F₅ S₅ => wpAny_pure ?_))
  refine hQ g₅ tk₅ _ ⟨rfl, _, rfl, F₅, fun b o hb' e => S₅.1 b o (fun ho => ?_) (k₄ b o hb' (kf b o (q₁ b o e))), fun j' c' e => by cases e; exact .inr (q₁.none ha')⟩
  rcases ho with q | q | ⟨_, q⟩
  · exact hb' (.inl q)
  · exact hb' (.inr (.inl q))
  · cases q; rw [q₁.none ha'] at e; cases e
end
end Mine
end

/- part M7 -/
section
open PySem PySem.Calls PyProof.Rows
namespace Mine
section
variable {prog : Program} {w : World} {hb : Heap} {n : Nat} {G : Sig} {ph ph' ph'' : Option Nat}

theorem Frm.turned {h0 : Heap} {P : Addr → Prop} {i : Nat} {a : Addr} {env : Env} {ρ : St} {h h' : Heap} {u : V} {xs : List V} {l : List Value} (F : Frm hb G h0 P (some (i, a)) env ρ h) (hu : ρ.getD i none = some u)
    (hs : Heap.SameBut a h h') (hl : h'.PlainList a (List.toArray l)) (hv : VRs (Av P (some (i, a))) h xs l) : Frm hb G h0 P (some (i, a)) env (ρ.set i (some (.list xs))) h' ∧ Step env G (some (i, a)) h (some (i, a)) h' := by
  obtain ⟨hpa, ha0, items, nn, hit⟩ := F.mu i a rfl
  have ne : ∀ {b o}, h.get? b = some o → ¬ SeqObj o → b ≠ a := fun e q z => by subst z; rw [hit] at e; cases e; exact q ⟨_, _, rfl⟩
  have keepV : ∀ b o, Av P (some (i, a)) b → h.get? b = some o → SeqObj o → Av P (some (i, a)) b ∧ h'.get? b = some o := fun b o hp hg _ => ⟨hp, (hs.2 b (hp.2 i a rfl)).trans hg⟩
  have bd : ∀ {x X}, Bd env h x X → Bd env h' x X := fun hB => by
    rcases hB with ⟨q1, m, q2, q3⟩ | ⟨q1, c, q2, q3⟩
    · refine .inl ⟨q1, m, q2.sameBut hs ?_, q3⟩
      obtain ⟨o, es, ep, e1, e2, _⟩ := q2
      exact ne e1 fun q => by obtain ⟨_, _, q⟩ := q; rw [e2] at q; cases q
    · refine .inr ⟨q1, c, q2, q3.sameBut hs ?_⟩
      obtain ⟨o, e1, e2⟩ := q3
      exact ne e1 fun q => by obtain ⟨_, _, q⟩ := q; rw [e2] at q; cases q
  refine ⟨⟨F.scope, F.kind, F.glob, F.blt, F.base, fun b o e => (hs.2 b fun z => by subst z; rw [ha0] at e; cases e).trans (F.keep b o e), fun b e => ?_, ?_, F.lnew, fun x hx => ?_, F.apart, F.inj, fun x j v e1 e2 => ?_, fun j b e => ?_⟩,
    fun b o hb' e => (hs.2 b fun z => hb' (.inr (.inr ⟨i, by rw [z]⟩))).trans e, fun j b e => .inl ⟨j, e⟩⟩
  · by_cases z : b = a
    · rw [z]; exact hpa
    · exact F.free b ((hs.2 b z).symm.trans e)
  · obtain ⟨m, q2⟩ := F.ns
    refine ⟨m, q2.sameBut hs ?_⟩
    obtain ⟨o, es, ep, e1, e2, _⟩ := q2
    exact ne e1 fun q => by obtain ⟨_, _, q⟩ := q; rw [e2] at q; cases q
  · obtain ⟨c, w', e1, e2, e3⟩ := F.cel x hx
    refine ⟨c, w', e1, e2, e3.sameBut hs ?_⟩
    obtain ⟨o, e4, e5⟩ := e3
    exact ne e4 fun q => by obtain ⟨_, _, q⟩ := q; rw [e5] at q; cases q
  · by_cases hj : j = i
    · subst hj
      obtain rfl := getD_set_eq e2
      obtain ⟨X, hB, hV⟩ := F.bnd x j u e1 hu
      rcases hV with ⟨q, _⟩ | ⟨b, ys, r, q1, q2, q3, q4, q5⟩
      · exact absurd rfl (q a)
      · cases q1; subst q2
        exact ⟨.ref a, bd hB, .inr ⟨a, xs, l, rfl, rfl, rfl, hl, VRs.mono keepV _ _ hv⟩⟩
    · rw [getD_set_ne hj] at e2
      obtain ⟨X, hB, hV⟩ := F.bnd x j v e1 e2
      refine ⟨X, bd hB, ?_⟩
      rcases hV with ⟨q, hV⟩ | ⟨b, ys, r, q1, q2, q3, q4, q5⟩
      · exact .inl ⟨q, VR.mono keepV _ _ hV⟩
      · cases q1; exact absurd rfl hj
  · cases e; exact ⟨hpa, ha0, _, hl⟩

noncomputable def dApp (i : Nat) (d : St → Option V) : St → Option (Fl × St) := fun ρ => (ρ.getD i none).bind fun u => (d ρ).bind fun v => match u with
  | .list xs => if Nat.ble xs.length 10000 then some (.next, ρ.set i (some (.list (xs ++ [v])))) else none
  | _ => none
theorem sS_app {x : Str} {i : Nat} {np ap cp pos : Pos} {e : Expr} {d : St → Option V} (hi : G.σ.lookup x = some i) (hd : SndE prog w hb n G (some i) e d)
    (hd' : (x == ("__debug__" : Str)) = false) (hc : (x == ("__classdict__" : Str)) = false)
    (hbase : ∀ env, attributeBase (.Name x np) "append" env (eval (.Name x np) env) = eval (.Name x np) env) (hline : (ap.endLine == cp.line) = true)
    (ht : ∀ env, backTo cp (starEach [e] env) = [(false, eval e env)])
    (hs : ∀ env, swapsWith (.Call (.Attribute (.Name x np) "append" ap) [e] [] cp) none pos.line env = pure false) :
    SndS prog w hb n G (some i) (some i) (.Expr (.Call (.Attribute (.Name x np) "append" ap) [e] [] cp) pos) (dApp i d) := by
  intro A env h0 P μ ρ s r Q E hμ hA F ev hQ
  obtain ⟨u, e1, ev1⟩ := Option.bind_eq_some_iff.mp ev
  obtain ⟨v, e2, ev2⟩ := Option.bind_eq_some_iff.mp ev1
  obtain ⟨⟨j, a⟩, rfl, hj⟩ := Option.map_eq_some_iff.mp hμ
  dsimp only at hj; subst hj
  cases u <;> simp only at ev2 <;> try (cases ev2; done)
  rename_i xs
  split at ev2
  · rename_i hlen
    have hlen := Nat.le_of_ble_eq_true hlen
    cases ev2
    refine wpAny_Expr_any (wpAny_Call_append (hbase env) (by rw [ht env]; rfl) hline (ht env) (muName hi hd' hc F e1 fun ys l hy hl hvs => ⟨a, l.toArray, rfl, ⟨_, _, hl.choose_spec, rfl, rfl, rfl⟩, ?_⟩)) (by unfold interactive; rw [F.fk]; rfl) (hs env)
    cases hy
    refine hd A env h0 P _ ρ s v _ E rfl hA F e2 fun h' tk Y k hY => ?_
    have hl' := hl.at (k a)
    refine wpAny_list_append_plain hl' (fun h₂ hl₂ hs₂ => ?_) (by rw [List.size_toArray, hvs.length, sizeLine_eq]; omega)
    have e3 : l.toArray.push Y = (l ++ [Y]).toArray := by simp
    rw [e3] at hl₂
    obtain ⟨F₂, S₂⟩ := (F.ext k).turned e1 hs₂ hl₂ ((hvs.ext k).append (ws := [v]) (r := [Y]) (by simp only [VRs]; exact ⟨Y, [], rfl, hY, rfl⟩))
    exact hQ h₂ tk _ ⟨rfl, _, rfl, F₂, (Step.ext k).trans (F.ext k) S₂⟩
  · cases ev2

noncomputable def dPop (i : Nat) : St → Option (Fl × St) := fun ρ => (ρ.getD i none).bind fun u => match u with
  | .list (x :: xs) => if Nat.ble xs.length 10000 then some (.next, ρ.set i (some (.list ((x :: xs).dropLast)))) else none
  | _ => none
theorem VRs.dropLast {P : Addr → Prop} {h : Heap} {vs : List V} {l : List Value} (e : VRs P h vs l) : VRs P h vs.dropLast l.dropLast := by
  rw [List.dropLast_eq_take, List.dropLast_eq_take, e.length]; exact e.take _
theorem sS_pop {x : Str} {i : Nat} {np ap cp pos : Pos} (hi : G.σ.lookup x = some i)
    (hd' : (x == ("__debug__" : Str)) = false) (hc : (x == ("__classdict__" : Str)) = false)
    (hbase : ∀ env, attributeBase (.Name x np) "pop" env (eval (.Name x np) env) = eval (.Name x np) env) (hline : (ap.endLine == cp.line) = true)
    (hs : ∀ env, swapsWith (.Call (.Attribute (.Name x np) "pop" ap) [] [] cp) none pos.line env = pure false) :
    SndS prog w hb n G (some i) (some i) (.Expr (.Call (.Attribute (.Name x np) "pop" ap) [] [] cp) pos) (dPop i) := by
  intro A env h0 P μ ρ s r Q E hμ hA F ev hQ
  obtain ⟨u, e1, ev2⟩ := Option.bind_eq_some_iff.mp ev
  obtain ⟨⟨j, a⟩, rfl, hj⟩ := Option.map_eq_some_iff.mp hμ
  dsimp only at hj; subst hj
  split at ev2
  · rename_i y ys
    split at ev2
    · rename_i hlen
      have hlen := Nat.le_of_ble_eq_true hlen
      cases ev2
      refine wpAny_Expr_any (wpAny_Call_method0_late (hbase env) hline (muName hi hd' hc F e1 fun zs l hy hl hvs => ?_)) (by unfold interactive; rw [F.fk]; rfl) (hs env)
      cases hy
      have hL := hvs.length
      simp only [List.length_cons] at hL
      obtain ⟨nn, hg⟩ := hl
      obtain ⟨Y, hY⟩ : ∃ Y, l.toArray[l.toArray.size - 1]? = some Y := ⟨l.toArray[l.toArray.size - 1]'(by rw [List.size_toArray]; omega), by simp⟩
      refine ⟨"list", "list.pop", PySem.F.plainAttrs_list, PySem.F.slot_list_pop, PySem.F.type_list_pop, ⟨_, hg, rfl⟩, fun b e => by cases e; exact ⟨_, hg, rfl⟩, ?_⟩
      refine callWith_method0 (env := env) ?_
      refine call_meets PySem.F.slot_list_pop ⟨_, hg, rfl⟩ PySem.F.entry_list_pop (PySem.F.args_list_pop_1 _) (PySem.MeetsSeq.list_pop_last a _ nn Y hY (by rw [List.size_toArray, sizeLine_eq]; omega)) ⟨hg, ?_⟩
      have e3 : (l.toArray.eraseIdxIfInBounds (l.toArray.size - 1)) = l.dropLast.toArray := by
        unfold Array.eraseIdxIfInBounds
        rw [dif_pos (by rw [List.size_toArray]; omega)]
        apply Array.toList_inj.mp
        rw [Array.toList_eraseIdx, List.size_toArray, List.toList_toArray, List.toList_toArray, List.eraseIdx_length_sub_one]
      have hg2 := get?_update_seq hg (fun xs => xs.eraseIdxIfInBounds (l.toArray.size - 1))
      rw [e3] at hg2
      obtain ⟨F₂, S₂⟩ := F.turned e1 (Heap.SameBut.update s.heap a (Obj.mapSeq fun xs => xs.eraseIdxIfInBounds (l.toArray.size - 1))) ⟨_, hg2⟩ hvs.dropLast
      exact hQ _ s.toks _ ⟨rfl, _, rfl, F₂, S₂⟩
    · cases ev2
  · cases ev2

theorem wp_setPlain {A : Around} {s : Shared} {a : Addr} {l : List Value} {j : Nat} {t : Tok} {Y : Value} {Q : Unit → Shared → Prop} {E : Value → Shared → Prop} (hl : s.heap.PlainList a (List.toArray l)) (hj : j < l.length) (hj2 : j ≤ 100000)
    (hQ : ∀ h', h'.PlainList a (List.toArray (l.set j Y)) → Heap.SameBut a s.heap h' → Q () { s with heap := h' }) : wpAny (model prog w) A (setItem (.ref a) (.int (Int.ofNat j) t) Y) Q E s := by
  obtain ⟨m, hg⟩ := hl
  have hT : s.TypeIs (.ref a) "list" := ⟨_, hg, rfl⟩
  have fit : Builtin.List.listFitsIndex (Int.ofNat j) = true := fitsIndex_of (by simp) (by simp; omega)
  obtain ⟨k, hk⟩ : ∃ k, k = Int.ofNat j := ⟨_, rfl⟩
  rw [← hk] at fit ⊢
  unfold setItem
  try with_reducible refine wpAny_holding ?_
  first | refine wpAny_bind (wpAny_pure ?_) | skip
  refine wpAny_bind (wpAny_sequenceKey hT (by decide) ?_)
  refine wpAny_bind (wpAny_callSpecial?_slot (name := Str.ofString "__setitem__") hT slot_list_setitem (wpAny_call_entry slot_list_setitem hT entry_list_setitem ?_ (args_list_setitem _ _ _)))
  show wpAny _ _ (Builtin.List.listSubscript? (.int k t) >>= _) _ _ s
  refine wpAny_bind (wpAny_listSubscript_int fit ?_)
  clear fit
  subst hk
  show wpAny _ _ ((seqItemAt a j >>= fun r => pure (r.map (j, ·))) >>= _) _ _ s
  refine wpAny_bind (wpAny_bind (wpAny_seqItemAt hg rfl (wpAny_pure ?_)))
  rw [show (List.toArray l)[j]? = some l[j] by simp [hj]]
  show wpAny _ _ (setSeqItemAt a j Y >>= _) _ _ s
  have hfin := hQ _ ⟨_, by
    have q := get?_update_seq hg (fun xs => xs.setIfInBounds j Y)
    rwa [show (List.toArray l).setIfInBounds j Y = (l.set j Y).toArray by simp] at q⟩ (Heap.SameBut.update s.heap a (Obj.mapSeq fun xs => xs.setIfInBounds j Y))
  refine wpAny_bind (wpAny_setSeqItemAt hg rfl ?_)
  first
    | exact wpAny_bind (wpAny_pure (wpAny_pure ⟨.none, rfl, wpAny_pure hfin⟩))
    | exact wpAny_pure ⟨.none, rfl, wpAny_pure hfin⟩

noncomputable def dSetI (i : Nat) (di dv : St → Option V) : St → Option (Fl × St) := fun ρ => (ρ.getD i none).bind fun u => (dv ρ).bind fun v => (di ρ).bind fun k => match u, k with
  | .list xs, .int (.ofNat j) => if Nat.ble (j + 1) xs.length && Nat.ble xs.length 10000 then some (.next, ρ.set i (some (.list (xs.set j v)))) else none
  | _, _ => none
theorem sS_setI {x : Str} {i : Nat} {np sp pos : Pos} {e idx : Expr} {di dv : St → Option V} (hi : G.σ.lookup x = some i) (hdi : SndE prog w hb n G (some i) idx di) (hdv : SndE prog w hb n G (some i) e dv)
    (hd' : (x == ("__debug__" : Str)) = false) (hc : (x == ("__classdict__" : Str)) = false)
    (hs : ∀ env, swapsWith e (some (.Subscript (.Name x np) idx sp)) pos.line env = pure false) :
    SndS prog w hb n G (some i) (some i) (.Assign [.Subscript (.Name x np) idx sp] e pos) (dSetI i di dv) := by
  intro A env h0 P μ ρ s r Q E hμ hA F ev hQ
  obtain ⟨u, e1, ev1⟩ := Option.bind_eq_some_iff.mp ev
  obtain ⟨v, e2, ev2⟩ := Option.bind_eq_some_iff.mp ev1
  obtain ⟨kv, e3, ev3⟩ := Option.bind_eq_some_iff.mp ev2
  obtain ⟨⟨j', a⟩, rfl, hj⟩ := Option.map_eq_some_iff.mp hμ
  dsimp only at hj; subst hj
  split at ev3
  · rename_i xs j
    split at ev3
    · rename_i hlen
      rw [Bool.and_eq_true] at hlen
      have h1 := Nat.le_of_ble_eq_true hlen.1
      have h2 := Nat.le_of_ble_eq_true hlen.2
      cases ev3
      refine wpAny_Assign_Subscript (hdv A env h0 P _ ρ s v _ E rfl hA F e2 fun g₁ tk₁ Y k₁ hY => ?_) (hs env)
      refine muName hi hd' hc (F.ext k₁) e1 fun ys l hy hl hvs => ?_
      cases hy
      refine hdi A env h0 P _ ρ _ _ _ E rfl hA (F.ext k₁) e3 fun g₂ tk₂ K k₂ hK => ?_
      simp only [VR] at hK
      obtain ⟨t, rfl⟩ := hK
      have hL := hvs.length
      refine wp_setPlain (hl.at (k₂ a)) (by omega) (by omega) fun g₃ hl₃ hs₃ => ?_
      have k₁₂ := k₁.trans k₂
      obtain ⟨F₂, S₂⟩ := (F.ext k₁₂).turned e1 hs₃ hl₃ (VRs.set (hY.ext k₂) j (hvs.ext k₂))
      exact hQ g₃ tk₂ _ ⟨rfl, _, rfl, F₂, (Step.ext k₁₂).trans (F.ext k₁₂) S₂⟩
    · cases ev3
  · cases ev3
end
end Mine
end

/- part M8 -/
section
open PySem PySem.Calls PyProof.Rows
namespace Mine

noncomputable def StepE (X : Addr → Prop) (env : Env) (G : Sig) (μ : Mu) (h : Heap) (μ' : Mu) (h' : Heap) : Prop :=
  (∀ b o, ¬ Own env G μ b → ¬ X b → h.get? b = some o → h'.get? b = some o) ∧ ∀ i a, μ' = some (i, a) → (∃ j, μ = some (j, a)) ∨ h.get? a = none
section
variable {hb : Heap} {G : Sig} {h0 : Heap} {P : Addr → Prop} {μ μ' μ'' : Mu} {env : Env} {ρ ρ' : St} {h h' h'' : Heap} {X Y : Addr → Prop}
theorem Step.toE (x : Step env G μ h μ' h') : StepE X env G μ h μ' h' := ⟨fun b o q _ e => x.1 b o q e, x.2⟩
theorem StepE.toStep (x : StepE X env G μ h μ' h') (hX : ∀ b, X b → h.get? b = none) : Step env G μ h μ' h' := ⟨fun b o q e => x.1 b o q (fun z => by rw [hX b z] at e; cases e) e, x.2⟩
theorem StepE.weaken (x : StepE X env G μ h μ' h') (hX : ∀ b, X b → Y b ∨ h.get? b = none) : StepE Y env G μ h μ' h' := ⟨fun b o q z e => x.1 b o q (fun z' => (hX b z').elim z (fun z'' => by rw [z''] at e; cases e)) e, x.2⟩
theorem StepE.trans (F : Frm hb G h0 P μ' env ρ h') (x : StepE X env G μ h μ' h') (y : StepE X env G μ' h' μ'' h'') (hX : ∀ b, X b → h'.get? b ≠ none) : StepE X env G μ h μ'' h'' := by
  refine ⟨fun b o hb' hx e => y.1 b o (fun ho => ?_) hx (x.1 b o hb' hx e), fun i a e => ?_⟩
  · rcases ho with q | q | ⟨i, q⟩
    · exact hb' (.inl q)
    · exact hb' (.inr (.inl q))
    · rcases x.2 i b q with ⟨j, z⟩ | z
      · exact hb' (.inr (.inr ⟨j, z⟩))
      · rw [z] at e; cases e
  · rcases y.2 i a e with ⟨j, z⟩ | z
    · exact x.2 j a z
    · by_cases ho : Own env G μ a
      · rcases ho with q | ⟨v, hv, hc⟩ | ⟨j, q⟩
        · subst q
          obtain ⟨m, o', es, ep, e1, e2, _⟩ := F.ns
          rw [z] at e1; cases e1
        · obtain ⟨c, w, e1, _, o', e2, e3⟩ := F.cel v hv
          rw [hc] at e1; cases e1
          rw [z] at e2; cases e2
        · exact .inl ⟨j, q⟩
      · by_cases hx : X a
        · exact absurd z (hX a hx)
        · cases q : h.get? a with
          | none => exact .inr rfl
          | some o => rw [x.1 a o ho hx q] at z; cases z
theorem StepE.seq (F : Frm hb G h0 P μ env ρ h) (x : StepE X env G μ h μ' h') {a : Addr} {o : Obj} (hp : Av P μ a) (hx : ¬ X a) (hg : h.get? a = some o) (hs : SeqObj o) : Av P μ' a ∧ h'.get? a = some o := by
  have hn : ¬ Own env G μ a := fun ho => by
    obtain ⟨i, e⟩ := F.own_seq hg hs ho
    exact hp.2 i a e rfl
  refine ⟨⟨hp.1, fun i b e z => ?_⟩, x.1 a o hn hx hg⟩
  subst z
  rcases x.2 i a e with ⟨j, q⟩ | q
  · exact hp.2 j a q rfl
  · rw [q] at hg; cases hg
/-- an iterator has gone on -/
theorem Frm.iter (F : Frm hb G h0 P μ env ρ h) {I : Addr} (hk : ∀ b o, b ≠ I → h.get? b = some o → h'.get? b = some o) (hI : ∃ o fs, h.get? I = some o ∧ o.data = .fields fs) (hPI : P I) (h0I : h0.get? I = none) :
    Frm hb G h0 P μ env ρ h' ∧ StepE (· = I) env G μ h μ h' := by
  obtain ⟨oI, fs, hg, hd⟩ := hI
  have ne : ∀ {b o}, h.get? b = some o → (∀ fs, o.data ≠ .fields fs) → b ≠ I := fun e q z => by subst z; rw [hg] at e; cases e; exact q fs hd
  have sq : ∀ b o, h.get? b = some o → SeqObj o → h'.get? b = some o := fun b o e q => hk b o (ne e fun fs z => by obtain ⟨_, _, q⟩ := q; rw [q] at z; cases z) e
  have nsI : ∀ {m}, h.Ns env.locals m → h'.Ns env.locals m := fun x => by
    obtain ⟨o, es, ep, e1, e2, r⟩ := x
    exact ⟨o, es, ep, hk _ _ (ne e1 fun fs z => by rw [e2] at z; cases z) e1, e2, r⟩
  have clI : ∀ {c v}, h.IsCell c v → h'.IsCell c v := fun x => by
    obtain ⟨o, e1, e2⟩ := x
    exact ⟨o, hk _ _ (ne e1 fun fs z => by rw [e2] at z; cases z) e1, e2⟩
  refine ⟨⟨F.scope, F.kind, F.glob, F.blt, F.base, fun b o e => hk b o (fun z => by subst z; rw [h0I] at e; cases e) (F.keep b o e), fun b e => ?_, ?_, F.lnew, fun x hx => ?_, F.apart, F.inj, fun x i v e1 e2 => ?_, fun i a e => ?_⟩,
    fun b o _ hb' e => hk b o hb' e, fun i a e => .inl ⟨i, e⟩⟩
  · by_cases z : b = I
    · rw [z]; exact hPI
    · refine F.free b ?_
      cases q : h.get? b with
      | none => rfl
      | some o => rw [hk b o z q] at e; cases e
  · obtain ⟨m, hn⟩ := F.ns; exact ⟨m, nsI hn⟩
  · obtain ⟨c, w, h1, h2, h3⟩ := F.cel x hx; exact ⟨c, w, h1, h2, clI h3⟩
  · obtain ⟨X, hB, hV⟩ := F.bnd x i v e1 e2
    refine ⟨X, ?_, hV.seq fun a o e q => sq a o e q⟩
    rcases hB with ⟨q1, m, q2, q3⟩ | ⟨q1, c, q2, q3⟩
    · exact .inl ⟨q1, m, nsI q2, q3⟩
    · exact .inr ⟨q1, c, q2, clI q3⟩
  · obtain ⟨h1, h2, items, m, h3⟩ := F.mu i a e
    exact ⟨h1, h2, items, m, sq _ _ h3 ⟨_, _, rfl⟩⟩
end

structure IterOK (prog : Program) (w : World) (A : Around) (Pv : Addr → Prop) (h : Heap) (I : Addr) (fp : List Addr) (Pit : Nat → Value → Prop) (Stt : Nat → Heap → Prop) (vs : List V) : Prop where
  W : Walks prog w A I fp [I] vs.length Pit Stt
  st : Stt 0 h
  obj : ∀ i h, Stt i h → ∃ o, h.get? I = some o ∧ (o.cls = .type "list_iterator" ∨ o.cls = .type "range_iterator") ∧ ∃ fs, o.data = .fields fs
  fps : ∀ b ∈ fp, b = I ∨ (Pv b ∧ ∃ o, h.get? b = some o ∧ SeqObj o)
  its : ∀ i X, i < vs.length → Pit i X → ∃ v, vs[i]? = some v ∧ VR Pv h v X

section
variable (prog : Program) (w : World) (hb : Heap)
noncomputable def SndA (n : Nat) (G : Sig) (ph : Option Nat) (t : Expr) (asg : V → St → Option St) : Prop :=
  ∀ (A : Around) (env : Env) (h0 : Heap) (P : Addr → Prop) (μ : Mu) (ρ ρ' : St) (s : Shared) (v : V) (X : Value) (Q : Unit → Shared → Prop) (E : Value → Shared → Prop),
    μ.map (·.1) = ph → AOK n A → Frm hb G h0 P μ env ρ s.heap → VR (Av P μ) s.heap v X → asg v ρ = some ρ' →
    (∀ h' tk, Frm hb G h0 P μ env ρ' h' → Step env G μ s.heap μ h' → Q () { s with heap := h', toks := tk }) → wpAny (model prog w) A (assign t env X) Q E s
noncomputable def SndI (n : Nat) (G : Sig) (ph : Option Nat) (e : Expr) (d : St → Option (List V)) : Prop :=
  ∀ (A : Around) (env : Env) (h0 : Heap) (P : Addr → Prop) (μ : Mu) (ρ : St) (s : Shared) (vs : List V) (Q : Value → Shared → Prop) (E : Value → Shared → Prop),
    μ.map (·.1) = ph → AOK n A → Frm hb G h0 P μ env ρ s.heap → d ρ = some vs →
    (∀ h' tk I fp Pit Stt, Ext s.heap h' → s.heap.get? I = none → IterOK prog w A (Av P μ) h' I fp Pit Stt vs → Q (.ref I) { s with heap := h', toks := tk }) →
    wpAny (model prog w) A (eval e env) (fun x s₁ => wpAny (model prog w) A (pyIter x) Q E s₁) E s
end

section
variable {prog : Program} {w : World} {hb : Heap} {mg mb : Str → Option Value} {n : Nat} {G : Sig} {ph ph' ph'' : Option Nat}

theorem wp_letOwned {A : Around} {s : Shared} {E : Value → Shared → Prop} {t : Expr} {I : Addr} {X : Value} {o : Obj} {fs : Array Value} {Q : Unit → Shared → Prop} (ho : s.heap.get? I = some o) (hc : o.cls = .type "list_iterator" ∨ o.cls = .type "range_iterator") (hd : o.data = .fields fs) (h : Q () s) :
    wpAny (model prog w) A (letOwnedTupleGo t (.ref I) X) Q E s := by
  have key : ∀ a : Addr, wpAny (model prog w) A (do
      let o ← load I
      match o.cls, o.data with
      | .type n, .fields vs =>
        if ["enumerate", "zip", "dict_itemiterator", "dict_reverseitemiterator", "odict_iterator", "itertools.zip_longest", "itertools.pairwise"].contains n && vs[0]? == some (rawInt a) then
          rule "for.unpacks-the-owned-tuple"
          updateField I 0 .none
      | _, _ => pure ()) Q E s := fun a => by
    refine wpAny_bind (wpAny_load ho ?_)
    rw [hd]
    rcases hc with hc | hc
    · rw [hc]
      show wpAny _ A (if _ = true then _ else _) Q E s
      rw [if_neg (by intro q; rw [show (["enumerate", "zip", "dict_itemiterator", "dict_reverseitemiterator", "odict_iterator", "itertools.zip_longest", "itertools.pairwise"].contains "list_iterator") = false from by decide, Bool.false_and] at q; cases q)]
      exact wpAny_pure h
    · rw [hc]
      show wpAny _ A (if _ = true then _ else _) Q E s
      rw [if_neg (by intro q; rw [show (["enumerate", "zip", "dict_itemiterator", "dict_reverseitemiterator", "odict_iterator", "itertools.zip_longest", "itertools.pairwise"].contains "range_iterator") = false from by decide, Bool.false_and] at q; cases q)]
      exact wpAny_pure h
  unfold letOwnedTupleGo
  split
  · cases X <;> first | exact key _ | exact wpAny_pure h
  · cases X <;> first | exact key _ | exact wpAny_pure h
  · exact wpAny_pure h

noncomputable def aName (i : Nat) : V → St → Option St := fun v ρ => some (ρ.set i (some v))
theorem sA_name {x : Str} {i : Nat} {p : Pos} (hx : Sto G x) (hi : G.σ.lookup x = some i) (hp : ph ≠ some i) : SndA prog w hb n G ph (.Name x p) (aName i) := by
  intro A env h0 P μ ρ ρ' s v X Q E hμ hA F hX e hQ
  cases e
  exact wpAny_assign_Name (wp_put hx hi (by rw [hμ]; exact hp) F hX hQ)
noncomputable def aTup (is : List Nat) : V → St → Option St := fun v ρ => match v with | .tup vs => putAll is vs ρ | _ => none
theorem sA_tup {xs : List Str} {is : List Nat} {elts : List Expr} {k : Nat} {p : Pos} (hN : NamesAt G ph xs is) (hel : namesOf elts = some xs) : SndA prog w hb n G ph (.Tuple elts k p) (aTup is) := by
  intro A env h0 P μ ρ ρ' s v X Q E hμ hA F hX e hQ
  unfold aTup at e
  split at e
  · rename_i vs
    simp only [VR] at hX
    obtain ⟨a, l, rfl, hp, hl, hs⟩ := hX
    obtain ⟨t1, t2, t3⟩ := stores_each (prog := prog) (w := w) env elts xs hel
    refine wpAny_assign_Tuple hA.1 hl.isTup ?_ t3 fun h₂ k₂ => ?_
    · have q1 := hN.len; have q2 := putAll_len e; have q3 := hs.length
      rw [List.size_toArray]; omega
    have kk : Ext s.heap h₂ := ext_of_but k₂
    exact wp_stores hμ _ _ _ _ _ ρ ρ' _ _ t1 hN e (F.ext kk) (hs.ext kk) fun h₃ tk₃ F₃ S₃ => hQ h₃ tk₃ F₃ ((Step.ext kk).trans (F.ext kk) S₃)
  · cases e

noncomputable def iList (d : St → Option V) : St → Option (List V) := fun ρ => (d ρ).bind fun v => match v with | .list xs => lenOK xs | _ => none
theorem sI_list {e : Expr} {d : St → Option V} (hd : SndE prog w hb n G ph e d) : SndI prog w hb n G ph e (iList d) := by
  intro A env h0 P μ ρ s vs Q E hμ hA F ev hQ
  obtain ⟨v, e1, e2⟩ := Option.bind_eq_some_iff.mp ev
  refine hd A env h0 P μ ρ s v _ E hμ hA F e1 fun h' tk X k hX => ?_
  cases v <;> simp only at e2 <;> try (cases e2; done)
  rename_i xs
  obtain ⟨rfl, hlen⟩ := lenOK.iff e2
  simp only [VR] at hX
  obtain ⟨a, l, rfl, hp, hl, hs⟩ := hX
  have hne : a ≠ h'.objs.size := Nat.ne_of_lt (Heap.lt_size hl.choose_spec)
  have W := Walks.list (prog := prog) (w := w) (A := A) hA.1 h'.objs.size a hne l.toArray
  rw [show l.toArray.size = vs.length by rw [List.size_toArray]; exact hs.length] at W
  refine wpAny_pyIter_list hl.isList (hQ _ tk _ _ _ _ (k.trans (Ext.push _ _)) (k.none (get?_fresh h')) ⟨W, ⟨⟨_, Heap.get?_push_size _ rfl, rfl, rfl⟩, hl.isList.push _⟩, fun i g hg => ?_, fun b hb' => ?_, fun i X hi hX => ?_⟩)
  · obtain ⟨⟨o, h1, h2, h3⟩, _⟩ := hg
    exact ⟨o, h1, .inl h2, _, h3⟩
  · rcases List.mem_cons.mp hb' with q | q
    · exact .inl q
    · rcases List.mem_cons.mp q with q | q
      · subst q
        obtain ⟨m, hm⟩ := hl
        exact .inr ⟨hp, _, Ext.push _ _ _ _ hm, _, _, rfl⟩
      · cases q
  · obtain ⟨u, hu⟩ : ∃ u, vs[i]? = some u := ⟨vs[i], by simp [hi]⟩
    obtain ⟨y, h1, h2⟩ := hs.get hu
    have hX' : l[i]? = some X := by simpa using hX
    rw [h1] at hX'
    cases hX'
    exact ⟨u, hu, h2.ext (Ext.push _ _)⟩

noncomputable def iota : Nat → Nat → List V
  | _, 0 => []
  | a, k + 1 => .int (Int.ofNat a) :: iota (a + 1) k
theorem iota_get : ∀ (k a i : Nat), i < k → (iota a k)[i]? = some (.int (Int.ofNat (a + i)))
  | 0, _, _, h => absurd h (Nat.not_lt_zero _)
  | k + 1, a, 0, _ => rfl
  | k + 1, a, i + 1, h => by
    have := iota_get k (a + 1) i (Nat.lt_of_succ_lt_succ h)
    simp only [iota, List.getElem?_cons_succ, this]
    congr 2; congr 1; omega
theorem iota_len : ∀ (k a : Nat), (iota a k).length = k
  | 0, _ => rfl
  | k + 1, a => by rw [iota, List.length_cons, iota_len k]
noncomputable def iRange (d : St → Option V) : St → Option (List V) := fun ρ => (d ρ).bind fun v => match v with | .int (.ofNat k) => if Nat.ble k 10000 then some (iota 0 k) else none | _ => none
theorem sI_range {x : Str} {np pos : Pos} {e : Expr} {d : St → Option V} (B : Base hb mg mb) (hx : mg x = none ∧ mb x = some (.type "range")) (hE : SndE prog w hb n G ph e d) (hk : G.sc.names.lookup x = some .globalImplicit)
    (he : ∀ env, starEach [e] env = (false, eval e env) :: starEach [] env) (hd : (x == ("__debug__" : Str)) = false) : SndI prog w hb n G ph (.Call (.Name x np) [e] [] pos) (iRange d) := by
  intro A env h0 P μ ρ s vs Q E hμ hA F ev hQ
  obtain ⟨v, e1, e2⟩ := Option.bind_eq_some_iff.mp ev
  split at e2
  · rename_i kk
    split at e2
    · rename_i hkk
      have hkk := Nat.le_of_ble_eq_true hkk
      cases e2
      refine Call_ (wp_blt B hk hx F ?_ hd)
      refine callWith_type1 (args_cons (hE A env h0 P μ ρ s _ _ E hμ hA F e1 fun h' tk X k hX => args_nil ?_) (he env)) (he env) rfl
      simp only [VR] at hX
      obtain ⟨t, rfl⟩ := hX
      refine call_range_1 ?_
      have hr : IsRange (h'.push { cls := .type "range", data := .fields #[.int 0 tk, .int (Int.ofNat kk) t, .int 1 (tk + 1)] }) h'.objs.size 0 (Int.ofNat kk) 1 tk t (tk + 1) := Heap.get?_push_size _ rfl
      have hsz : Builtin.Range.rangeSize 0 (Int.ofNat kk) 1 = ((kk : Nat) : Int) := by
        rw [rangeSize_one]; split
        · simp
        · rename_i q; have : kk = 0 := by simp at q; omega
          subst this; rfl
      have W := Walks.range (prog := prog) (w := w) (A := A) hA.1 (h'.push { cls := .type "range", data := .fields #[.int 0 tk, .int (Int.ofNat kk) t, .int 1 (tk + 1)] }).objs.size 0 1 (iota 0 kk).length
      refine wpAny_pyIter_range hr (small_one (by omega) (by omega) (by first | omega | simp) (by simp; omega)) (hQ _ _ _ _ _ _ (k.trans ((Ext.push _ _).trans (Ext.push _ _))) (k.none ((Ext.push _ _).none (get?_fresh _))) ⟨W, ?_, fun i g hg => ?_, fun b hb' => ?_, fun i X hi hX => ?_⟩)
      · have := Heap.get?_push_size (h'.push { cls := .type "range", data := .fields #[.int 0 tk, .int (Int.ofNat kk) t, .int 1 (tk + 1)] }) (o := { cls := .type "range_iterator", data := .fields #[rawInt 0, rawInt (Builtin.Range.rangeSize 0 (Int.ofNat kk) 1), rawInt 1] }) rfl
        rw [hsz] at this
        have hsz' : Builtin.Range.rangeSize 0 ((kk : Nat) : Int) 1 = ((kk : Nat) : Int) := hsz
        simpa [IsRangeIter, iota_len, hsz, hsz'] using this
      · exact ⟨_, hg, .inr rfl, _, rfl⟩
      · rcases List.mem_cons.mp hb' with q | q
        · exact .inl q
        · cases q
      · obtain ⟨u, rfl⟩ := hX
        rw [iota_len] at hi
        refine ⟨_, iota_get kk 0 i hi, ?_⟩
        simp only [VR]
        exact ⟨u, by congr 1; simp⟩
    · cases e2
  · cases e2

noncomputable def forD (asg : V → St → Option St) (b : St → Option (Fl × St)) : List V → St → Option (Fl × St)
  | [], ρ => some (.next, ρ)
  | v :: vs, ρ => (asg v ρ).bind fun ρ₁ => (b ρ₁).bind (andThen (forD asg b vs))
noncomputable def dFor (it : St → Option (List V)) (asg : V → St → Option St) (b : St → Option (Fl × St)) : St → Option (Fl × St) := fun ρ => (it ρ).bind fun vs => forD asg b vs ρ
theorem sS_for {t it : Expr} {body : List Stmt} {pos : Pos} {di : St → Option (List V)} {asg : V → St → Option St} {db : St → Option (Fl × St)} (hI : SndI prog w hb n G ph it di) (hT : SndA prog w hb n G ph t asg)
    (hB : SndSs prog w hb n G ph ph body db) (hs : ∀ env x, foldedSetIterable it env x = pure x) : SndS prog w hb n G ph ph (.For t it body [] pos) (dFor di asg db) := by
  intro A env h0 P μ ρ s r Q E hμ hA F ev hQ
  obtain ⟨vs, e1, e2⟩ := Option.bind_eq_some_iff.mp ev
  refine wpAny_For (hI A env h0 P μ ρ s vs _ E hμ hA F e1 fun g tk I fp Pit Stt k hIn ok => ?_) (hs env)
  have Fg := F.ext k
  refine codeAny_forLoop_any (fun m s' => ∃ h' tk' μ' ρ' j, s' = { s with heap := h', toks := tk' } ∧ μ'.map (·.1) = ph ∧ Frm hb G h0 P μ' env ρ' h' ∧ StepE (· = I) env G μ g μ' h' ∧ Stt j h' ∧ j ≤ vs.length ∧ m = vs.length - j ∧
      forD asg db (vs.drop j) ρ' = some r) ?_ vs.length ⟨g, tk, μ, ρ, 0, rfl, hμ, Fg, (Step.refl ..).toE, ok.st, Nat.zero_le _, rfl, e2⟩
  rintro m s' ⟨h', tk', μ', ρ', j, rfl, hμ', F', S', hst, hj, rfl, ev'⟩
  have h0I : h0.get? I = none := F.keep.none hIn
  obtain ⟨oI, hgI, hcI, fsI, hdI⟩ := ok.obj j h' hst
  by_cases hlt : j < vs.length
  · refine ok.W.item j _ _ _ hlt hst fun X h₁ tk₁ hP hst₁ hk₁ => ?_
    obtain ⟨o₁, hg₁, hc₁, fs₁, hd₁⟩ := ok.obj (j + 1) h₁ hst₁
    obtain ⟨F₁, S₁⟩ := F'.iter (I := I) (fun b o hb' e => hk₁ b o (by simpa using hb') e) ⟨oI, fsI, hgI, hdI⟩ (F.free I hIn) h0I
    have S₂ : StepE (· = I) env G μ g μ' h₁ := S'.trans F' S₁ (fun b q => by subst q; rw [hgI]; simp)
    obtain ⟨v, hv, hvr⟩ := ok.its j X hlt hP
    rw [List.drop_eq_getElem_cons hlt] at ev'
    have hv' : vs[j] = v := by have := List.getElem?_eq_getElem hlt; rw [hv] at this; exact (Option.some.inj this).symm
    rw [hv'] at ev'
    obtain ⟨ρ₁, e3, e4⟩ := Option.bind_eq_some_iff.mp ev'
    obtain ⟨⟨f, ρ₂⟩, e5, e6⟩ := Option.bind_eq_some_iff.mp e4
    have hvr₁ : VR (Av P μ') h₁ v X := VR.mono (fun a o hp hg hs => S₂.seq Fg hp (fun z => by
      subst z
      obtain ⟨o', q1, _, q2, q3⟩ := ok.obj 0 g ok.st
      rw [hg] at q1; cases q1
      obtain ⟨_, _, q4⟩ := hs; rw [q3] at q4; cases q4) hg hs) v X hvr
    refine wp_letOwned hg₁ hc₁ hd₁ ?_
    refine hT A env h0 P μ' ρ' ρ₁ _ v X _ _ hμ' hA F₁ hvr₁ e3 fun h₂ tk₂ F₂ S₃ => ?_
    refine hB A env h0 P μ' ρ₁ _ _ _ _ hμ' hA F₂ e5 fun h₃ tk₃ f₃ hp => ?_
    cases f with
    | next =>
      obtain ⟨rfl, μ₃, hμ₃, F₃, S₄⟩ := hp
      have S₅ : Step env G μ' h₁ μ₃ h₃ := S₃.trans F₂ S₄
      have hst₃ : Stt (j + 1) h₃ := ok.W.frame _ _ _ hst₁ fun b hb' o e => by
        rcases ok.fps b hb' with rfl | ⟨hp, o', hg, hsq⟩
        · rw [hg₁] at e; cases e
          exact S₅.1 _ _ (F₁.own_fld hg₁ hd₁) hg₁
        · have hbI : b ≠ I := fun z => by
            subst z
            obtain ⟨o'', q1, _, q2, q3⟩ := ok.obj 0 g ok.st
            rw [hg] at q1; cases q1
            obtain ⟨_, _, q4⟩ := hsq; rw [q3] at q4; cases q4
          obtain ⟨a1, a2⟩ := S₂.seq Fg hp hbI hg hsq
          rw [a2] at e; cases e
          exact (S₅.seq F₁ a1 a2 hsq).2
      refine ⟨vs.length - (j + 1), by omega, h₃, tk₃, μ₃, ρ₂, j + 1, rfl, hμ₃, F₃, S₂.trans F₁ S₅.toE (fun b q => by subst q; rw [hg₁]; simp), hst₃, hlt, rfl, e6⟩
    | ret v' =>
      cases e6
      obtain ⟨Y, rfl, q⟩ := hp
      exact hQ h₃ tk₃ _ ⟨Y, rfl, q⟩
  · have hjn : j = vs.length := by omega
    subst hjn
    rw [List.drop_length] at ev'
    cases ev'
    refine ok.W.done _ _ _ hst fun h₁ tk₁ hk₁ => ?_
    obtain ⟨F₁, S₁⟩ := F'.iter (I := I) (fun b o hb' e => hk₁ b o (by simpa using hb') e) ⟨oI, fsI, hgI, hdI⟩ (F.free I hIn) h0I
    have S₂ : StepE (· = I) env G μ g μ' h₁ := S'.trans F' S₁ (fun b q => by subst q; rw [hgI]; simp)
    refine wpAny_execs_nil (hQ h₁ tk₁ _ ⟨rfl, μ', hμ', F₁, ?_⟩)
    exact ⟨fun b o hb' e => S₂.1 b o hb' (fun z => by subst z; rw [hIn] at e; cases e) (k b o e), fun i a e => (S₂.2 i a e).imp id fun q => k.none q⟩
end
end Mine
end

/- part M9 -/
section
open PySem PySem.Calls PyProof.Rows
namespace Mine

section
variable {hb : Heap} {G : Sig} {h0 : Heap} {P : Addr → Prop} {env : Env} {ρ ρ' : St} {h h' h'' : Heap} {X Y : Addr → Prop}
theorem StepE.seqP (F : Frm hb G h0 P none env ρ h) (x : StepE X env G none h none h') {a : Addr} {o : Obj} (hp : P a) (hx : ¬ X a) (hg : h.get? a = some o) (hs : SeqObj o) : h'.get? a = some o :=
  (x.seq F (Av.none hp) hx hg hs).2
theorem StepE.vrsP (F : Frm hb G h0 P none env ρ h) (x : StepE X env G none h none h') (hX : ∀ a o, P a → h.get? a = some o → SeqObj o → ¬ X a) {v : List V} {l : List Value} (e : VRs P h v l) : VRs P h' v l :=
  VRs.mono (fun a o hp hg hs => ⟨hp, x.seqP F hp (hX a o hp hg hs) hg hs⟩) v l e
/-- the list under way, D, is turned -/
theorem Frm.acc (F : Frm hb G h0 P none env ρ h) {D : Addr} {l : List Value} (hs : Heap.SameBut D h h') (hl : h.PlainList D (List.toArray l)) (hl' : ∃ o, h'.get? D = some o) (hPD : ¬ P D) (h0D : h0.get? D = none) :
    Frm hb G h0 P none env ρ h' ∧ StepE (· = D) env G none h none h' := by
  obtain ⟨m, hg⟩ := hl
  have ne : ∀ {b o}, h.get? b = some o → ¬ SeqObj o → b ≠ D := fun e q z => by subst z; rw [hg] at e; cases e; exact q ⟨_, _, rfl⟩
  have sq : ∀ b o, P b → h.get? b = some o → SeqObj o → P b ∧ h'.get? b = some o := fun b o hp e _ => ⟨hp, (hs.2 b fun z => hPD (z ▸ hp)).trans e⟩
  refine ⟨⟨F.scope, F.kind, F.glob, F.blt, F.base, fun b o e => (hs.2 b fun z => by subst z; rw [h0D] at e; cases e).trans (F.keep b o e), fun b e => ?_, ?_, F.lnew, fun x hx => ?_, F.apart, F.inj, fun x i v e1 e2 => ?_, fun i a e => by cases e⟩,
    fun b o _ hb' e => (hs.2 b hb').trans e, fun i a e => by cases e⟩
  · have z : b ≠ D := fun z => by subst z; obtain ⟨o, q⟩ := hl'; rw [q] at e; cases e
    exact F.free b ((hs.2 b z).symm.trans e)
  · obtain ⟨m', q2⟩ := F.ns
    refine ⟨m', q2.sameBut hs ?_⟩
    obtain ⟨o, es, ep, e1, e2, _⟩ := q2
    exact ne e1 fun q => by obtain ⟨_, _, q⟩ := q; rw [e2] at q; cases q
  · obtain ⟨c, w', e1, e2, e3⟩ := F.cel x hx
    refine ⟨c, w', e1, e2, e3.sameBut hs ?_⟩
    obtain ⟨o, e4, e5⟩ := e3
    exact ne e4 fun q => by obtain ⟨_, _, q⟩ := q; rw [e5] at q; cases q
  · obtain ⟨Z, hB, hV⟩ := F.bnd x i v e1 e2
    refine ⟨Z, ?_, ?_⟩
    · rcases hB with ⟨q1, m', q2, q3⟩ | ⟨q1, c, q2, q3⟩
      · refine .inl ⟨q1, m', q2.sameBut hs ?_, q3⟩
        obtain ⟨o, es, ep, e1, e2, _⟩ := q2
        exact ne e1 fun q => by obtain ⟨_, _, q⟩ := q; rw [e2] at q; cases q
      · refine .inr ⟨q1, c, q2, q3.sameBut hs ?_⟩
        obtain ⟨o, e1, e2⟩ := q3
        exact ne e1 fun q => by obtain ⟨_, _, q⟩ := q; rw [e2] at q; cases q
    · rcases hV with ⟨q, hV⟩ | ⟨_, _, _, q, _⟩
      · exact .inl ⟨q, VR.mono (fun a o hp hg hsq => ⟨hp, (sq a o hp.1 hg hsq).2⟩) v Z hV⟩
      · cases q
end

section
variable (prog : Program) (w : World) (hb : Heap)
noncomputable def testsOf (ifs : List Expr) (env : Env) : Sem Bool := forIn ifs true fun c r => if r = true then do let ok ← isTrue c env (eval c env); pure (ForInStep.yield ok) else pure (ForInStep.yield r)
noncomputable def SndIfs (n : Nat) (G : Sig) (ifs : List Expr) (d : St → Option Bool) : Prop :=
  ∀ (A : Around) (env : Env) (h0 : Heap) (P : Addr → Prop) (ρ : St) (s : Shared) (v : Bool) (Q : Bool → Shared → Prop) (E : Value → Shared → Prop),
    AOK n A → Frm hb G h0 P none env ρ s.heap → d ρ = some v → (∀ h' tk, Ext s.heap h' → Q v { s with heap := h', toks := tk }) → wpAny (model prog w) A (testsOf ifs env) Q E s
/-- what is done for each item: some values are put behind the list D -/
noncomputable def SndM (n : Nat) (G : Sig) (T : Env → Value → Sem PUnit) (b : St → Option (List V × St)) : Prop :=
  ∀ (A : Around) (env : Env) (h0 : Heap) (P : Addr → Prop) (ρ ρ' : St) (s : Shared) (D : Addr) (l : List Value) (ys : List V) (Q : PUnit → Shared → Prop) (E : Value → Shared → Prop),
    AOK n A → Frm hb G h0 P none env ρ s.heap → s.heap.PlainList D (List.toArray l) → ¬ P D → h0.get? D = none → b ρ = some (ys, ρ') → l.length + ys.length ≤ sizeLine →
    (∀ h' tk l', Frm hb G h0 P none env ρ' h' → h'.PlainList D (List.toArray (l ++ l')) → VRs P h' ys l' → StepE (· = D) env G none s.heap none h' → Q ⟨⟩ { s with heap := h', toks := tk }) →
    wpAny (model prog w) A (T env (.ref D)) Q E s
end

section
variable {prog : Program} {w : World} {hb : Heap} {mg mb : Str → Option Value} {n : Nat} {G : Sig}
theorem sIf_nil : SndIfs prog w hb n G [] (fun _ => some true) := by
  intro A env h0 P ρ s v Q E hA F e hQ
  cases e
  exact wpAny_tests_nil (hQ s.heap s.toks (Ext.refl _))
theorem sIf_one {c : Expr} {d : St → Option Bool} (hd : SndT prog w hb n G none c d) : SndIfs prog w hb n G [c] d := by
  intro A env h0 P ρ s v Q E hA F e hQ
  exact wpAny_tests_one (hd A env h0 P none ρ s v Q E rfl hA F e hQ)

noncomputable def mEmit (d : St → Option V) : St → Option (List V × St) := fun ρ => (d ρ).bind fun y => some ([y], ρ)
theorem sM_emit {e : Expr} {d : St → Option V} (hd : SndE prog w hb n G none e d) : SndM prog w hb n G (fun env acc => do let _ ← call (.builtin "list.append") [acc, ← eval e env]) (mEmit d) := by
  intro A env h0 P ρ ρ' s D l ys Q E hA F hl hPD h0D ev hsz hQ
  obtain ⟨y, e1, e2⟩ := Option.bind_eq_some_iff.mp ev
  cases e2
  simp only [List.length_cons, List.length_nil] at hsz
  refine wpAny_bind (hd A env h0 P none ρ s y _ E rfl hA F e1 fun h' tk Y k hY => wpAny_bind ?_)
  have hl' := hl.at (k D)
  refine wpAny_list_append_plain hl' (fun h₂ hl₂ hs₂ => wpAny_pure ?_) (by rw [List.size_toArray]; omega)
  rw [show l.toArray.push Y = (l ++ [Y]).toArray by simp] at hl₂
  obtain ⟨F₂, S₂⟩ := (F.ext k).acc hs₂ hl' ⟨_, hl₂.choose_spec⟩ hPD h0D
  refine hQ h₂ tk [Y] F₂ hl₂ ?_ ((Step.ext k).toE.trans (F.ext k) S₂ fun b q => by subst q; rw [hl'.choose_spec]; simp)
  simp only [VRs]
  exact ⟨Y, [], rfl, VR.mono (fun a o hp hg hs => ⟨hp.1, (hs₂.2 a fun z => hPD (z ▸ hp.1)).trans hg⟩) y Y hY, rfl⟩

noncomputable def loopM (asg : V → St → Option St) (t : St → Option Bool) (b : St → Option (List V × St)) : List V → St → Option (List V × St)
  | [], ρ => some ([], ρ)
  | v :: vs, ρ => (asg v ρ).bind fun ρ₁ => (t ρ₁).bind fun ok => match ok with
    | false => loopM asg t b vs ρ₁
    | true => (b ρ₁).bind fun r => (loopM asg t b vs r.2).bind fun r' => some (r.1 ++ r'.1, r'.2)

theorem cLoop {elt t : Expr} {ifs : List Expr} {gens : List Comprehension} {scope : Scope} {pos p : Pos} {k : Nat} {T : Env → Value → Sem PUnit} {asg : V → St → Option St} {dt : St → Option Bool} {db : St → Option (List V × St)}
    (hturn : ∀ I acc env, compTurn (.ListComp elt gens scope pos) k I acc env = (do
      standAt p
      match ← pyNext I with
      | none => pure (.done .next)
      | some v =>
        letOwnedTupleGo t I v
        assign t env v
        let ok ← testsOf ifs env
        if ok then
          (do T env acc; again (.compLoop (.ListComp elt gens scope pos) k I acc env))
        else again (.compLoop (.ListComp elt gens scope pos) k I acc env)))
    (hT : SndA prog w hb n G none t asg) (hIf : SndIfs prog w hb n G ifs dt) (hM : SndM prog w hb n G T db)
    {A : Around} {env : Env} {h0 : Heap} {P : Addr → Prop} {ρ ρ' : St} {s : Shared} {D I : Addr} {l : List Value} {fp : List Addr} {Pit : Nat → Value → Prop} {Stt : Nat → Heap → Prop} {vs ys : List V} {R : Result → Shared → Prop}
    (hA : AOK n A) (F : Frm hb G h0 P none env ρ s.heap) (hl : s.heap.PlainList D (List.toArray l)) (hPD : ¬ P D) (h0D : h0.get? D = none) (hPI : P I) (h0I : h0.get? I = none)
    (ok : IterOK prog w A P s.heap I fp Pit Stt vs) (ev : loopM asg dt db vs ρ = some (ys, ρ')) (hsz : l.length + ys.length ≤ sizeLine)
    (hR : ∀ h' tk l', Frm hb G h0 P none env ρ' h' → h'.PlainList D (List.toArray (l ++ l')) → VRs P h' ys l' → StepE (fun b => b = D ∨ b = I) env G none s.heap none h' → R (.ok .next) { s with heap := h', toks := tk }) :
    codeAny (model prog w) A (.compLoop (.ListComp elt gens scope pos) k (.ref I) (.ref D) env) R s := by
  obtain ⟨oI₀, hgI₀, _, fsI₀, hdI₀⟩ := ok.obj 0 _ ok.st
  have nX : ∀ a o, P a → s.heap.get? a = some o → SeqObj o → ¬ (a = D ∨ a = I) := fun a o hp hg hs q => by
    rcases q with q | q
    · exact hPD (q ▸ hp)
    · subst q; rw [hgI₀] at hg; cases hg
      obtain ⟨_, _, q⟩ := hs; rw [hdI₀] at q; cases q
  refine codeAny_loop rfl (fun m s' => ∃ h' tk' ρⱼ j lj yj yr, s' = { s with heap := h', toks := tk' } ∧ Frm hb G h0 P none env ρⱼ h' ∧ h'.PlainList D (List.toArray (l ++ lj)) ∧ VRs P h' yj lj ∧ ys = yj ++ yr ∧
      StepE (fun b => b = D ∨ b = I) env G none s.heap none h' ∧ Stt j h' ∧ j ≤ vs.length ∧ m = vs.length - j ∧ loopM asg dt db (vs.drop j) ρⱼ = some (yr, ρ')) (fun m s' hI => ?_) vs.length
    ⟨s.heap, s.toks, ρ, 0, [], [], ys, rfl, F, by simpa using hl, by simp [VRs], rfl, (Step.refl ..).toE, ok.st, Nat.zero_le _, rfl, ev⟩
  obtain ⟨h', tk', ρⱼ, j, lj, yj, yr, rfl, F', hl', hvj, rfl, S', hst, hj, rfl, ev'⟩ := hI
  show wpAny _ A ((compTurn (.ListComp elt gens scope pos) k (.ref I) (.ref D) env).onRaise (fun x => do noteFrame x env; theTreesLotGoes x)) _ _ _
  refine wpAny_noted ?_
  rw [hturn]
  refine wpAny_bind (wpAny_standAt (wpAny_bind ?_))
  obtain ⟨oI, hgI, hcI, fsI, hdI⟩ := ok.obj j h' hst
  have aD : ∀ {g : Heap} {r : List Value}, g.PlainList D (List.toArray r) → g.get? D ≠ none := fun q z => by obtain ⟨_, q⟩ := q; rw [z] at q; cases q
  by_cases hlt : j < vs.length
  · refine ok.W.item j _ _ _ hlt hst fun X h₁ tk₁ hP hst₁ hk₁ => ?_
    obtain ⟨o₁, hg₁, hc₁, fs₁, hd₁⟩ := ok.obj (j + 1) h₁ hst₁
    have hDI : D ≠ I := fun z => by subst z; obtain ⟨_, q⟩ := hl'; rw [hgI] at q; cases q; cases hdI
    obtain ⟨F₁, S₁⟩ := F'.iter (I := I) (fun b o hb' e => hk₁ b o (by simpa using hb') e) ⟨oI, fsI, hgI, hdI⟩ hPI h0I
    have hl₁ : h₁.PlainList D (List.toArray (l ++ lj)) := hl'.at fun o e => hk₁ D o (by simpa using hDI) e
    have nI : ∀ a o, P a → h'.get? a = some o → SeqObj o → ¬ a = I := fun a o _ hg hs z => by
      subst z; rw [hgI] at hg; cases hg
      obtain ⟨_, _, q⟩ := hs; rw [hdI] at q; cases q
    have hvj₁ := S₁.vrsP F' nI hvj
    have S₂ : StepE (fun b => b = D ∨ b = I) env G none s.heap none h₁ := S'.trans F' (S₁.weaken fun b q => .inl (.inr q)) (fun b q => by
      rcases q with q | q
      · rw [q]; exact aD hl'
      · rw [q, hgI]; simp)
    obtain ⟨v, hv, hvr⟩ := ok.its j X hlt hP
    rw [List.drop_eq_getElem_cons hlt] at ev'
    have hv' : vs[j] = v := by have := List.getElem?_eq_getElem hlt; rw [hv] at this; exact (Option.some.inj this).symm
    rw [hv'] at ev'
    obtain ⟨ρ₁, e3, e4⟩ := Option.bind_eq_some_iff.mp ev'
    obtain ⟨okb, e5, e6⟩ := Option.bind_eq_some_iff.mp e4
    have hvr₁ : VR (Av P none) h₁ v X := VR.mono (fun a o hp hg hs => ⟨Av.none hp, S₂.seqP F hp (nX a o hp hg hs) hg hs⟩) v X hvr
    -- what was true of the iterator is true behind a step that leaves I alone
    have frm : ∀ {h₂ h₃ : Heap} {ρ₂ : St}, Frm hb G h0 P none env ρ₁ h₂ → StepE (fun b => b = D ∨ b = I) env G none s.heap none h₂ → Stt (j + 1) h₂ → StepE (· = D) env G none h₂ none h₃ → Stt (j + 1) h₃ := fun {h₂ h₃ ρ₂} F₂ Sa st₂ Sb => ok.W.frame _ _ _ st₂ fun b hb' o e => by
      obtain ⟨o₂, hg₂, _, fs₂, hd₂⟩ := ok.obj (j + 1) _ st₂
      rcases ok.fps b hb' with rfl | ⟨hp, o', hg, hsq⟩
      · rw [hg₂] at e; cases e
        exact Sb.1 _ _ (F₂.own_fld hg₂ hd₂) (fun z => hPD (z ▸ hPI)) hg₂
      · have a2 := Sa.seqP F hp (nX b o' hp hg hsq) hg hsq
        rw [a2] at e; cases e
        exact Sb.seqP F₂ hp (fun z => hPD (z ▸ hp)) a2 hsq
    refine wpAny_bind (wp_letOwned hg₁ hc₁ hd₁ ?_)
    refine wpAny_bind (hT A env h0 P none ρⱼ ρ₁ _ v X _ _ rfl hA F₁ hvr₁ e3 fun h₂ tk₂ F₂ S₃ => ?_)
    refine wpAny_bind (hIf A env h0 P ρ₁ _ okb _ _ hA F₂ e5 fun h₃ tk₃ k₃ => ?_)
    have F₃ := F₂.ext k₃
    have S₄ : Step env G none h₁ none h₃ := S₃.trans F₂ (Step.ext k₃)
    have hl₃ : h₃.PlainList D (List.toArray (l ++ lj)) := hl₁.at fun o e => by
      obtain ⟨m, hm⟩ := hl₁
      have hs : SeqObj o := by rw [hm] at e; cases e; exact ⟨_, _, rfl⟩
      exact S₄.1 D o (fun ho => by obtain ⟨_, q⟩ := F₁.own_seq e hs ho; cases q) e
    have hvj₃ : VRs P h₃ yj lj := S₄.toE.vrsP (X := fun _ => False) F₁ (fun _ _ _ _ _ q => q) hvj₁
    have hst₃ : Stt (j + 1) h₃ := ok.W.frame _ _ _ hst₁ fun b hb' o e => by
      rcases ok.fps b hb' with rfl | ⟨hp, o', hg, hsq⟩
      · rw [hg₁] at e; cases e
        exact S₄.1 _ _ (F₁.own_fld hg₁ hd₁) hg₁
      · have a2 := S₂.seqP F hp (nX b o' hp hg hsq) hg hsq
        rw [a2] at e; cases e
        exact S₄.toE.seqP (X := fun _ => False) F₁ hp id a2 hsq
    have S₅ : StepE (fun b => b = D ∨ b = I) env G none s.heap none h₃ := S₂.trans F₁ S₄.toE (fun b q => by
      rcases q with q | q
      · rw [q]; exact aD hl₁
      · rw [q, hg₁]; simp)
    cases okb with
    | false =>
      refine wpAny_pure ⟨rfl, vs.length - (j + 1), by omega, h₃, tk₃, ρ₁, j + 1, lj, yj, yr, rfl, F₃, hl₃, hvj₃, rfl, S₅, hst₃, hlt, rfl, e6⟩
    | true =>
      obtain ⟨⟨y1, ρ₂⟩, e7, e8⟩ := Option.bind_eq_some_iff.mp e6
      obtain ⟨⟨y2, ρ₃⟩, e9, e10⟩ := Option.bind_eq_some_iff.mp e8
      cases e10
      have hlen := hvj₃.length
      refine wpAny_bind (hM A env h0 P ρ₁ ρ₂ _ D _ y1 _ _ hA F₃ hl₃ hPD h0D e7 (by simp only [List.length_append] at hsz ⊢; omega) fun h₄ tk₄ l₄ F₄ hl₄ hv₄ S₆ => ?_)
      have S₇ : StepE (fun b => b = D ∨ b = I) env G none s.heap none h₄ := S₅.trans F₃ (S₆.weaken fun b q => .inl (.inl q)) (fun b q => by
        rcases q with q | q
        · rw [q]; exact aD hl₃
        · obtain ⟨o₃, hg₃, _⟩ := ok.obj (j + 1) _ hst₃; rw [q, hg₃]; simp)
      refine wpAny_pure ⟨rfl, vs.length - (j + 1), by omega, h₄, tk₄, ρ₂, j + 1, lj ++ l₄, yj ++ y1, y2, rfl, F₄, by simpa using hl₄, ?_, by simp, S₇, frm (ρ₂ := ρ₂) F₃ S₅ hst₃ S₆, hlt, rfl, e9⟩
      exact (S₆.vrsP F₃ (fun a o hp _ _ z => hPD (z ▸ hp)) hvj₃).append hv₄
  · have hjn : j = vs.length := by omega
    subst hjn
    rw [List.drop_length] at ev'
    cases ev'
    refine ok.W.done _ _ _ hst fun h₁ tk₁ hk₁ => wpAny_pure ?_
    have hDI : D ≠ I := fun z => by subst z; obtain ⟨_, q⟩ := hl'; rw [hgI] at q; cases q; cases hdI
    obtain ⟨F₁, S₁⟩ := F'.iter (I := I) (fun b o hb' e => hk₁ b o (by simpa using hb') e) ⟨oI, fsI, hgI, hdI⟩ hPI h0I
    have nI : ∀ a o, P a → h'.get? a = some o → SeqObj o → ¬ a = I := fun a o _ hg hs z => by
      subst z; rw [hgI] at hg; cases hg
      obtain ⟨_, _, q⟩ := hs; rw [hdI] at q; cases q
    refine hR h₁ tk₁ lj F₁ (hl'.at fun o e => hk₁ D o (by simpa using hDI) e) (by simpa using S₁.vrsP F' nI hvj) (S'.trans F' (S₁.weaken fun b q => .inl (.inr q)) (fun b q => by
      rcases q with q | q
      · rw [q]; exact aD hl'
      · rw [q, hgI]; simp))
end
end Mine
end

/- part M10 -/
section
open PySem PySem.Calls PyProof.Rows
namespace Mine

section
variable {prog : Program} {w : World} {hb : Heap} {mg mb : Str → Option Value} {n : Nat} {G : Sig}

theorem cStart {elt t it : Expr} {ifs : List Expr} {gens : List Comprehension} {scope : Scope} {pos : Pos} {k : Nat} {A : Around} {env : Env} {s : Shared} {I acc : Value} {R : Result → Shared → Prop}
    (hg : gens[k]? = some ⟨t, it, ifs, 0⟩) (h0 : codeAny (model prog w) A (.compLoop (.ListComp elt gens scope pos) k I acc env) R s)
    (h1 : wpAny (model prog w) A (pyIter I) (fun I' s' => codeAny (model prog w) A (.compLoop (.ListComp elt gens scope pos) k I' acc env) R s') (notedBy (model prog w) A env fun x s' => R (.error x) s') s) :
    codeAny (model prog w) A (.compStart (.ListComp elt gens scope pos) k I acc env) R s := by
  refine codeAny_of_tree ?_
  show wpAny _ _ ((compStart (.ListComp elt gens scope pos) k I acc env).onRaise (fun x => do noteFrame x env; standAt theWindowsPlace)) _ _ s
  refine wpAny_notedAt ?_
  unfold compStart
  have hc : (clausesOf (.ListComp elt gens scope pos))[k]? = some ⟨t, it, ifs, 0⟩ := hg
  rw [hc]
  show wpAny _ _ (ask >>= _) _ _ s
  refine wpAny_bind (wpAny_askSetting (wpAny_ite ?_))
  split
  · first
      | exact wpAny_bind (wpAny_pure (wpAny_pure (And.intro rfl h0)))
      | exact wpAny_pure (And.intro rfl h0)
  · first
      | exact wpAny_bind (wpAny_rule (wpAny_bind (wpAny_standAt (wpAny_bind (wpAny_mono h1 (fun it' s' h' => wpAny_pure (And.intro rfl h')) fun _ _ x => x)))))
      | (refine wpAny_bind (wpAny_rule ?_); show wpAny _ _ (standAt it.pos >>= _) _ _ s; exact wpAny_bind (wpAny_standAt (wpAny_bind (wpAny_mono h1 (fun it' s' h' => wpAny_pure (And.intro rfl h')) fun _ _ x => x))))

/-- the second for of a comprehension -/
noncomputable def mInner (di : St → Option (List V)) (asg : V → St → Option St) (dt : St → Option Bool) (db : St → Option (List V × St)) : St → Option (List V × St) := fun ρ => (di ρ).bind fun vs => loopM asg dt db vs ρ
theorem sM_inner {elt t it : Expr} {ifs : List Expr} {gens : List Comprehension} {scope : Scope} {pos p ip : Pos} {k : Nat} {T : Env → Value → Sem PUnit} {di : St → Option (List V)} {asg : V → St → Option St} {dt : St → Option Bool} {db : St → Option (List V × St)}
    (hg : gens[k]? = some ⟨t, it, ifs, 0⟩)
    (hturn : ∀ I acc env, compTurn (.ListComp elt gens scope pos) k I acc env = (do
      standAt p
      match ← pyNext I with
      | none => pure (.done .next)
      | some v =>
        letOwnedTupleGo t I v
        assign t env v
        let ok ← testsOf ifs env
        if ok then
          (do T env acc; again (.compLoop (.ListComp elt gens scope pos) k I acc env))
        else again (.compLoop (.ListComp elt gens scope pos) k I acc env)))
    (hI : SndI prog w hb n G none it di) (hT : SndA prog w hb n G none t asg) (hIf : SndIfs prog w hb n G ifs dt) (hM : SndM prog w hb n G T db) (hs : ∀ env x, foldedSetIterable it env x = pure x) :
    SndM prog w hb n G (fun env acc => do
      let x ← eval it env
      standAt ip
      let x ← foldedSetIterable it env x
      let _ ← runOwn (.compStart (.ListComp elt gens scope pos) k (← holding [x] (pyIter x)) acc env) env) (mInner di asg dt db) := by
  intro A env h0 P ρ ρ' s D l ys Q E hA F hl hPD h0D ev hsz hQ
  obtain ⟨vs, e1, e2⟩ := Option.bind_eq_some_iff.mp ev
  refine wpAny_bind (wpAny_mono (hI A env h0 P none ρ s vs (fun I s' => wpAny (model prog w) A (do let _ ← runOwn (.compStart (.ListComp elt gens scope pos) k I (.ref D) env) env) Q E s') E rfl hA F e1 fun g tk I fp Pit Stt kx hIn ok => ?_) (fun x s₁ h₁ => wpAny_bind (wpAny_standAt (wpAny_bind (wpAny_of_eq (hs env x) (wpAny_bind (wpAny_holding h₁)))))) fun _ _ e => e)
  have Fg := F.ext kx
  have ok' : IterOK prog w A P g I fp Pit Stt vs := ⟨ok.W, ok.st, ok.obj, fun b hb' => (ok.fps b hb').imp id fun q => ⟨q.1.1, q.2⟩, fun i X hi hX => let ⟨v, h1, h2⟩ := ok.its i X hi hX; ⟨v, h1, h2.sub fun b q => q.1⟩⟩
  have fin : codeAny (model prog w) A (.compLoop (.ListComp elt gens scope pos) k (.ref I) (.ref D) env) (fun r s' => match r with | .ok f => wpAny (model prog w) A (pure ⟨⟩) Q E s' | .error e => cameBackBy (model prog w) A env E e s') { s with heap := g, toks := tk } := by
    refine cLoop hturn hT hIf hM hA Fg (hl.at (kx D)) hPD h0D (F.free I hIn) (F.keep.none hIn) ok' e2 hsz fun h' tk' l' F' hl' hv' S' => wpAny_pure ?_
    refine hQ h' tk' l' F' hl' hv' ?_
    exact ⟨fun b o q1 q2 e => S'.1 b o q1 (fun z => by rcases z with z | z; exact q2 z; (subst z; rw [hIn] at e; cases e)) (kx b o e), fun i a e => by cases e⟩
  have fin2 := cStart (R := fun r s' => match r with | .ok f => wpAny (model prog w) A (pure ⟨⟩) Q E s' | .error e => cameBackBy (model prog w) A env E e s') hg fin (ok.W.self 0 _ _ _ ok.st fin)
  exact wpAny_bind (wpAny_runOwn fin2)

/-- cells for a block: old ones by its closure, new ones -/
theorem cells_spec : ∀ (names : List (Str × NameKind)) (h : Heap) (acc : List (Str × Addr)),
    (∀ p ∈ cellsFrom h.objs.size names acc, p ∈ acc ∨ (h.objs.size ≤ p.2 ∧ (pushCells h names).IsCell p.2 none ∧ (p.1, NameKind.cell) ∈ names)) ∧
    (acc.Pairwise (fun x y => x.2 ≠ y.2) → (∀ p ∈ acc, p.2 < h.objs.size) → (cellsFrom h.objs.size names acc).Pairwise fun x y => x.2 ≠ y.2) ∧
    (∀ x, (x, NameKind.cell) ∈ names → ∃ c, (cellsFrom h.objs.size names acc).lookup x = some c ∧ h.objs.size ≤ c ∧ (pushCells h names).IsCell c none) ∧
    (∀ x, (x, NameKind.cell) ∉ names → (cellsFrom h.objs.size names acc).lookup x = acc.lookup x)
  | [], h, acc => ⟨fun p hp => .inl hp, fun hp _ => hp, (fun x hx => by cases hx), fun x _ => rfl⟩
  | (name, kind) :: r, h, acc => by
    by_cases hk : kind = .cell
    · subst hk
      have e1 : cellsFrom h.objs.size ((name, NameKind.cell) :: r) acc = cellsFrom (h.push { cls := .type "cell", data := .cell none }).objs.size r ((name, h.objs.size) :: acc) := by rw [Heap.size_push]; rfl
      have e2 : pushCells h ((name, NameKind.cell) :: r) = pushCells (h.push { cls := .type "cell", data := .cell none }) r := rfl
      obtain ⟨i1, i2, i3, i4⟩ := cells_spec r (h.push { cls := .type "cell", data := .cell none }) ((name, h.objs.size) :: acc)
      rw [Heap.size_push] at i1 i2 i3 i4
      rw [e1, e2, Heap.size_push]
      have new : (pushCells (h.push { cls := .type "cell", data := .cell none }) r).IsCell h.objs.size none := ⟨_, pushCells_keeps r _ _ _ (Heap.get?_push_size _ rfl), rfl⟩
      refine ⟨fun p hp => ?_, fun hp hlt => ?_, fun x hx => ?_, fun x hx => ?_⟩
      · rcases i1 p hp with q | ⟨q1, q2, q3⟩
        · rcases List.mem_cons.mp q with q | q
          · subst q; exact .inr ⟨Nat.le_refl _, new, .head _⟩
          · exact .inl q
        · exact .inr ⟨by omega, q2, .tail _ q3⟩
      · refine i2 (List.pairwise_cons.mpr ⟨fun y hy e => ?_, hp⟩) fun p hp' => ?_
        · have e' : h.objs.size = y.2 := e; exact Nat.lt_irrefl _ (e' ▸ hlt y hy)
        · rcases List.mem_cons.mp hp' with q | q
          · subst q; exact Nat.lt_succ_self _
          · exact Nat.lt_succ_of_lt (hlt p q)
      · by_cases hr : (x, NameKind.cell) ∈ r
        · obtain ⟨c, q1, q2, q3⟩ := i3 x hr
          exact ⟨c, q1, by omega, q3⟩
        · have hxn : x = name := by
            rcases List.mem_cons.mp hx with q | q
            · exact (Prod.mk.inj q).1
            · exact absurd q hr
          subst hxn
          refine ⟨h.objs.size, ?_, Nat.le_refl _, new⟩
          rw [i4 x hr]; simp
      · have hr : (x, NameKind.cell) ∉ r := fun q => hx (.tail _ q)
        have hxn : (x == name) = false := by
          rw [beq_eq_false_iff_ne]
          rintro rfl
          exact hx (.head _)
        rw [i4 x hr, List.lookup_cons, hxn]
    · have hkb : (kind == NameKind.cell) = false := by simpa using hk
      have e1 : cellsFrom h.objs.size ((name, kind) :: r) acc = cellsFrom h.objs.size r acc := by rw [cellsFrom, hkb]; rfl
      have e2 : pushCells h ((name, kind) :: r) = pushCells h r := by rw [pushCells, hkb]; rfl
      obtain ⟨i1, i2, i3, i4⟩ := cells_spec r h acc
      have mem : ∀ x, (x, NameKind.cell) ∈ (name, kind) :: r → (x, NameKind.cell) ∈ r := fun x q => by
        rcases List.mem_cons.mp q with q | q
        · exact absurd (Prod.mk.inj q).2.symm hk
        · exact q
      rw [e1, e2]
      exact ⟨fun p hp => (i1 p hp).imp id fun q => ⟨q.1, q.2.1, .tail _ q.2.2⟩, i2, fun x hx => i3 x (mem x hx), fun x hx => i4 x fun q => hx (.tail _ q)⟩

theorem wp_blockEnv {A : Around} {s : Shared} {E : Value → Shared → Prop} {scope : Scope} {globals : Addr} {cl : List (Str × Addr)} {qual : Str} {outer : Env} {Q : Env → Shared → Prop}
    (hQ : Q (newEnv scope s.heap.objs.size globals (cellsFrom (s.heap.objs.size + 1) scope.names cl) qual none .none (some outer) builtinsNs) { s with heap := pushCells (s.heap.push { cls := .type "dict", data := .dict #[] }) scope.names }) :
    wpAny (model prog w) A (newFunctionEnv scope globals cl [] qual none .none (some outer)) Q E s := by
  simp only [newFunctionEnv, Option.isSome_some, if_true]
  refine wpAny_bind (wpAny_alloc ?_)
  refine wpAny_bind (wpAny_layCells _ (fun name kind cells => by cases hkc : kind == NameKind.cell <;> simp [hkc]) _ _ _ _ ?_)
  rw [show ({ s with heap := s.heap.push { cls := .type "dict", data := .dict #[] } } : Shared).heap.objs.size = s.heap.objs.size + 1 from Heap.size_push ..]
  refine wpAny_bind ?_
  rw [List.forIn_nil]
  exact wpAny_pure (wpAny_pure hQ)

/-- the closure of a block -/
noncomputable def clo (cells : List (Str × Addr)) : List (Str × NameKind) → List (Str × Addr) → List (Str × Addr)
  | [], acc => acc
  | (x, k) :: r, acc => if k == .free then (match cells.lookup x with | some c => clo cells r ((x, c) :: acc) | none => clo cells r acc) else clo cells r acc
theorem closureFor_clo {scope : Scope} {env : Env} (hfr : ∀ x, (x, NameKind.free) ∈ scope.names → ∃ c, env.cells.lookup x = some c) : closureFor scope env = pure (clo env.cells scope.names []) := by
  have key : ∀ (names : List (Str × NameKind)) (acc : List (Str × Addr)), (∀ x, (x, NameKind.free) ∈ names → ∃ c, env.cells.lookup x = some c) →
      (forIn names acc fun (x : Str × NameKind) (r : List (Str × Addr)) => if (x.2 == NameKind.free) = true then (do let c ← cellOf env x.1; pure (ForInStep.yield ((x.1, c) :: r))) else pure (ForInStep.yield r)) = (pure (clo env.cells names acc) : Sem (List (Str × Addr))) := by
    intro names
    induction names with
    | nil => intro acc _; rfl
    | cons y r ih =>
      intro acc hf
      obtain ⟨x, k⟩ := y
      rw [List.forIn_cons]
      have hf' : ∀ x, (x, NameKind.free) ∈ r → ∃ c, env.cells.lookup x = some c := fun x q => hf x (.tail _ q)
      cases hk : k == NameKind.free with
      | false =>
        simp only [hk, Bool.false_eq_true, if_false, pure_bind]
        rw [ih acc hf', clo, hk]; rfl
      | true =>
        have hk' : k = .free := by simpa using hk
        subst hk'
        obtain ⟨c, hc⟩ := hf x (.head _)
        have e : cellOf env x = pure c := by unfold cellOf; rw [hc]
        simp only [hk, if_true, e, pure_bind]
        rw [ih _ hf', clo, hk, hc]; rfl
  have := key scope.names [] hfr
  unfold closureFor
  simpa using this
theorem clo_mem {cells : List (Str × Addr)} : ∀ (names : List (Str × NameKind)) (acc : List (Str × Addr)) (p : Str × Addr), p ∈ clo cells names acc → p ∈ acc ∨ (cells.lookup p.1 = some p.2 ∧ (p.1, NameKind.free) ∈ names)
  | [], acc, p, h => .inl h
  | (x, k) :: r, acc, p, h => by
    unfold clo at h
    split at h
    · rename_i hk
      have hk' : k = .free := by simpa using hk
      subst hk'
      split at h
      · rename_i c hc
        rcases clo_mem r _ p h with q | q
        · rcases List.mem_cons.mp q with q | q
          · subst q; exact .inr ⟨hc, .head _⟩
          · exact .inl q
        · exact .inr ⟨q.1, .tail _ q.2⟩
      · exact (clo_mem r _ p h).imp id fun q => ⟨q.1, .tail _ q.2⟩
    · exact (clo_mem r _ p h).imp id fun q => ⟨q.1, .tail _ q.2⟩
theorem clo_apart {cells : List (Str × Addr)} (hap : cells.Pairwise fun x y => x.2 ≠ y.2) : ∀ (names : List (Str × NameKind)) (acc : List (Str × Addr)), (names.map (·.1)).Nodup → (∀ p ∈ acc, cells.lookup p.1 = some p.2 ∧ p.1 ∉ names.map (·.1)) → acc.Pairwise (fun x y => x.2 ≠ y.2) → (clo cells names acc).Pairwise fun x y => x.2 ≠ y.2
  | [], acc, _, _, h => h
  | (x, k) :: r, acc, hnd, hacc, h => by
    rw [List.map_cons, List.nodup_cons] at hnd
    unfold clo
    split
    · split
      · rename_i c hc
        refine clo_apart hap r _ hnd.2 (fun p hp => ?_) (List.pairwise_cons.mpr ⟨fun y hy e => ?_, h⟩)
        · rcases List.mem_cons.mp hp with q | q
          · subst q; exact ⟨hc, hnd.1⟩
          · exact ⟨(hacc p q).1, fun z => (hacc p q).2 (.tail _ z)⟩
        · have e' : c = y.2 := e
          have := name_of_addr hap (mem_of_lookup hc) (e' ▸ mem_of_lookup (hacc y hy).1)
          exact (hacc y hy).2 (this ▸ .head _)
      · exact clo_apart hap r _ hnd.2 (fun p hp => ⟨(hacc p hp).1, fun z => (hacc p hp).2 (.tail _ z)⟩) h
    · exact clo_apart hap r _ hnd.2 (fun p hp => ⟨(hacc p hp).1, fun z => (hacc p hp).2 (.tail _ z)⟩) h
theorem clo_acc {cells : List (Str × Addr)} : ∀ (names : List (Str × NameKind)) (acc : List (Str × Addr)) (p : Str × Addr), p ∈ acc → p ∈ clo cells names acc
  | [], acc, p, h => h
  | (x, k) :: r, acc, p, h => by
    unfold clo
    split
    · split
      · exact clo_acc r _ p (.tail _ h)
      · exact clo_acc r _ p h
    · exact clo_acc r _ p h
theorem clo_has {cells : List (Str × Addr)} : ∀ (names : List (Str × NameKind)) (acc : List (Str × Addr)) (x : Str) (c : Addr), (x, NameKind.free) ∈ names → cells.lookup x = some c → (x, c) ∈ clo cells names acc
  | (y, k) :: r, acc, x, c, hx, hc => by
    unfold clo
    rcases List.mem_cons.mp hx with q | q
    · cases q
      rw [if_pos (by decide), hc]
      exact clo_acc r _ _ (.head _)
    · split
      · split
        · exact clo_has r _ x c q hc
        · exact clo_has r _ x c q hc
      · exact clo_has r _ x c q hc
theorem lookup_of_mem : ∀ {l : List (Str × Addr)} {x : Str} {c : Addr}, (x, c) ∈ l → (∀ p ∈ l, p.1 = x → p.2 = c) → l.lookup x = some c
  | (y, d) :: r, x, c, h, hu => by
    rw [List.lookup_cons]
    cases hb : x == y with
    | true =>
      have e : x = y := by simpa using hb
      have := hu (y, d) (.head _) e.symm
      dsimp only at this ⊢; rw [this]
    | false =>
      rcases List.mem_cons.mp h with q | q
      · cases q; simp at hb
      · exact lookup_of_mem q fun p hp e => hu p (.tail _ hp) e
end
end Mine
end

/- part M11 -/
section
open PySem PySem.Calls PyProof.Rows
namespace Mine

noncomputable def relabelS (scope sc : Scope) : Scope := { scope with names := scope.names.map fun (n, k) => if (k == .free && sc.kind == .function && sc.names.lookup n == some .cell) then (n, .cell) else (n, k) }
noncomputable def isC : Option NameKind → Bool
  | some .cell => true
  | some .free => true
  | _ => false
noncomputable def csOK (G : Sig) (ph : Option Nat) (scope : Scope) (G' : Sig) (loc frs : List Nat) : Bool :=
  decide (scope.kind = .function) && decide ((scope.names.map (·.1)).Nodup) && decide ((G'.σ.map (·.2)).Nodup) && (G'.asg.all fun x => decide ((x, NameKind.cell) ∈ scope.names)) &&
  (scope.names.all fun p => decide (p.2 ≠ .free) || (match G'.σ.lookup p.1 with
    | some i => decide (G.σ.lookup p.1 = some i) && decide (i ∈ frs) && decide (ph ≠ some i) && isC (G.sc.names.lookup p.1)
    | none => false)) &&
  (G'.σ.all fun p => decide (p.2 ∈ loc) || decide ((p.1, NameKind.free) ∈ scope.names))

theorem snd_inj : ∀ {l : List (Str × Nat)}, (l.map (·.2)).Nodup → ∀ {x y : Str} {i : Nat}, (x, i) ∈ l → (y, i) ∈ l → x = y
  | p :: r, hnd, x, y, i, h1, h2 => by
    rw [List.map_cons, List.nodup_cons] at hnd
    rcases List.mem_cons.mp h1 with q1 | q1 <;> rcases List.mem_cons.mp h2 with q2 | q2
    · rw [← q1] at q2; exact (Prod.mk.inj q2).1.symm
    · exact absurd (List.mem_map.mpr ⟨_, q2, by rw [← q1]⟩) hnd.1
    · exact absurd (List.mem_map.mpr ⟨_, q1, by rw [← q2]⟩) hnd.1
    · exact snd_inj hnd.2 q1 q2
theorem lookup_nodup : ∀ {l : List (Str × NameKind)} {x : Str} {k : NameKind}, (l.map (·.1)).Nodup → (x, k) ∈ l → l.lookup x = some k
  | (y, k') :: r, x, k, hnd, h => by
    rw [List.map_cons, List.nodup_cons] at hnd
    rw [List.lookup_cons]
    rcases List.mem_cons.mp h with q | q
    · cases q; simp
    · have hb : (x == y) = false := by
        rw [beq_eq_false_iff_ne]; rintro rfl
        exact hnd.1 (List.mem_map.mpr ⟨_, q, rfl⟩)
      rw [hb]; exact lookup_nodup hnd.2 q
theorem lookup_relabelS {sc : Scope} : ∀ {names : List (Str × NameKind)} {x : Str}, names.lookup x = some .free →
    (names.map fun (n, k) => if (k == NameKind.free && sc.kind == .function && sc.names.lookup n == some .cell) then (n, NameKind.cell) else (n, k)).lookup x = some .cell ∨
    (names.map fun (n, k) => if (k == NameKind.free && sc.kind == .function && sc.names.lookup n == some .cell) then (n, NameKind.cell) else (n, k)).lookup x = some .free
  | (n, k) :: r, x, h => by
    rw [List.map_cons]
    rw [List.lookup_cons] at h
    cases hb : x == n with
    | true =>
      rw [hb] at h
      cases h
      dsimp only
      split
      · left; rw [List.lookup_cons, hb]
      · right; rw [List.lookup_cons, hb]
    | false =>
      rw [hb] at h
      have ih := lookup_relabelS (sc := sc) (names := r) h
      dsimp only
      split <;> (rw [List.lookup_cons, hb]; exact ih)

theorem mem_of_lookup' : ∀ {l : List (Str × Nat)} {n : Str} {c : Nat}, l.lookup n = some c → (n, c) ∈ l := fun h => mem_of_lookup h
noncomputable def clr : List Nat → St → St
  | [], ρ => ρ
  | i :: is, ρ => clr is (ρ.set i none)
theorem clr_none : ∀ (is : List Nat) (ρ : St) (i : Nat), ρ.getD i none = none → (clr is ρ).getD i none = none
  | [], ρ, i, h => h
  | j :: is, ρ, i, h => clr_none is _ i (by
    by_cases hij : i = j
    · subst hij
      by_cases hl : i < ρ.length
      · simp [List.getD, List.getElem?_set, hl]
      · simp [List.getD, List.getElem?_set, hl]
    · rw [getD_set_ne hij]; exact h)
theorem clr_in : ∀ (is : List Nat) (ρ : St) (i : Nat), i ∈ is → (clr is ρ).getD i none = none
  | j :: is, ρ, i, h => by
    by_cases hij : i = j
    · subst hij
      refine clr_none is _ i ?_
      by_cases hl : i < ρ.length
      · simp [List.getD, List.getElem?_set, hl]
      · simp [List.getD, List.getElem?_set, hl]
    · exact clr_in is _ i ((List.mem_cons.mp h).resolve_left hij)
theorem clr_out : ∀ (is : List Nat) (ρ : St) (i : Nat), i ∉ is → (clr is ρ).getD i none = ρ.getD i none
  | [], ρ, i, _ => rfl
  | j :: is, ρ, i, h => by
    rw [clr, clr_out is _ i fun q => h (.tail _ q), getD_set_ne (i := j) (j := i) (fun q => h (by rw [q]; exact .head _))]

section
variable {prog : Program} {w : World} {hb : Heap} {mg mb : Str → Option Value} {n : Nat} {G G' : Sig} {ph : Option Nat}

abbrev Turn (elt t : Expr) (ifs : List Expr) (gens : List Comprehension) (scope : Scope) (pos p : Pos) (k : Nat) (T : Env → Value → Sem PUnit) : Prop :=
  ∀ I acc env, compTurn (.ListComp elt gens scope pos) k I acc env = (do
      standAt p
      match ← pyNext I with
      | none => pure (.done .next)
      | some v =>
        letOwnedTupleGo t I v
        assign t env v
        let ok ← testsOf ifs env
        if ok then
          (do T env acc; again (.compLoop (.ListComp elt gens scope pos) k I acc env))
        else again (.compLoop (.ListComp elt gens scope pos) k I acc env))

theorem comp_core {elt t it : Expr} {ifs : List Expr} {rest : List Comprehension} {scope : Scope} {pos p : Pos} {T : Env → Value → Sem PUnit} {loc frs : List Nat} {di : St → Option (List V)} {asg : V → St → Option St} {dt : St → Option Bool} {db : St → Option (List V × St)}
    (CS : csOK G ph scope G' loc frs = true) (hsc : G'.sc = relabelS scope G.sc)
    (hturn : Turn elt t ifs (⟨t, it, ifs, 0⟩ :: rest) scope pos p 0 T)
    (hI : SndI prog w hb n G ph it di) (hT : SndA prog w hb n G' none t asg) (hIf : SndIfs prog w hb n G' ifs dt) (hM : SndM prog w hb n G' T db)
    {A : Around} {env : Env} {h0 : Heap} {P : Addr → Prop} {μ : Mu} {ρ ρ' : St} {s : Shared} {vs ys : List V} {E : Value → Shared → Prop} {RR : Value → Addr → Result → Shared → Prop}
    (hμ : μ.map (·.1) = ph) (hA : AOK n A) (F : Frm hb G h0 P μ env ρ s.heap) (hfr : (frs.all fun i => (ρ.getD i none).isSome) = true) (e1 : di ρ = some vs) (e2 : loopM asg dt db vs (clr loc ρ) = some (ys, ρ')) (hsz : ys.length ≤ sizeLine)
    (hRR : ∀ h' tk D C m l, Ext s.heap h' → s.heap.get? D = none → s.heap.get? C = none → C ≠ D → h'.Ns C m → h'.PlainList D (List.toArray l) → VRs (fun b => Av P μ b ∧ b ≠ D) h' ys l → RR (.ref D) C (.ok .next) { s with heap := h', toks := tk }) :
    closureFor scope env = pure (clo env.cells scope.names []) ∧
    wpAny (model prog w) A (eval it env) (fun x s₁ => wpAny (model prog w) A (pyIter x) (fun I s₂ => wpAny (model prog w) A (newList []) (fun acc s₃ =>
      wpAny (model prog w) A (newFunctionEnv scope env.globals (clo env.cells scope.names []) [] env.qual none .none (some env)) (fun cenv s₄ =>
        codeAny (model prog w) A (.compStart (.ListComp elt (⟨t, it, ifs, 0⟩ :: rest) scope pos) 0 I acc { cenv with scope := relabel scope env }) (RR acc cenv.locals) s₄) E s₃) E s₂) E s₁) E s := by
  unfold csOK at CS
  simp only [Bool.and_eq_true, List.all_eq_true, decide_eq_true_eq, Bool.or_eq_true] at CS hfr
  obtain ⟨⟨⟨⟨⟨c1, c2⟩, c3⟩, c4⟩, c5⟩, c6⟩ := CS
  have hcell : ∀ x, (x, NameKind.free) ∈ scope.names → ∃ i v X c, G'.σ.lookup x = some i ∧ ρ.getD i none = some v ∧ env.cells.lookup x = some c ∧ s.heap.IsCell c (some X) ∧ VR (Av P μ) s.heap v X := fun x hx => by
    have q := c5 _ hx
    rcases q with q | q
    · exact absurd rfl q
    · dsimp only at q
      split at q
      · rename_i i hi
        simp only [Bool.and_eq_true, decide_eq_true_eq] at q
        obtain ⟨⟨⟨q1, q2⟩, q3⟩, q4⟩ := q
        obtain ⟨v, hv⟩ := Option.isSome_iff_exists.mp (hfr i q2)
        obtain ⟨X, hB, hV⟩ := F.bnd x i v q1 hv
        have hV' : VR (Av P μ) s.heap v X := by
          rcases hV with ⟨_, hV⟩ | ⟨a, _, _, z, _⟩
          · exact hV
          · subst hμ; rw [z] at q3; exact absurd rfl q3
        rcases hB with ⟨k1, _⟩ | ⟨_, c, k2, k3⟩
        · unfold Env.kindOf at k1; rw [F.scope] at k1; rw [k1] at q4; cases q4
        · exact ⟨i, v, X, c, hi, hv, k2, k3, hV'⟩
      · cases q
  have hclos : ∀ x, (x, NameKind.free) ∈ scope.names → ∃ c, env.cells.lookup x = some c := fun x hx => let ⟨_, _, _, c, _, _, h, _⟩ := hcell x hx; ⟨c, h⟩
  refine ⟨closureFor_clo hclos, ?_⟩
  refine hI A env h0 P μ ρ s vs _ E hμ hA F e1 fun g tk I fp Pit Stt kx hIn ok => ?_
  refine wpAny_newList ?_ (Nat.zero_le _)
  refine wp_blockEnv ?_
  dsimp only
  generalize hH2 : g.push { cls := .type "list", data := .seq ([] : List Value).toArray } = H2
  have kD : Ext g H2 := hH2 ▸ Ext.push _ _
  have kC : Ext H2 (H2.push { cls := .type "dict", data := .dict #[] }) := Ext.push _ _
  generalize hH3 : pushCells (H2.push { cls := .type "dict", data := .dict #[] }) scope.names = H3
  have kP : Ext (H2.push { cls := .type "dict", data := .dict #[] }) H3 := fun b o e => hH3 ▸ pushCells_keeps _ _ b o e
  have k3 : Ext g H3 := kD.trans (kC.trans kP)
  have ks : Ext s.heap H3 := kx.trans k3
  have gD : g.get? g.objs.size = none := get?_fresh g
  have sD : s.heap.get? g.objs.size = none := kx.none gD
  have sC : s.heap.get? H2.objs.size = none := (kx.trans kD).none (get?_fresh H2)
  have hPl : H3.PlainList g.objs.size (List.toArray []) := ⟨_, kP _ _ (kC _ _ (hH2 ▸ Heap.get?_push_size _ rfl))⟩
  have hNsC : H3.Ns H2.objs.size fun _ => none := (Heap.Ns.new H2 (.type "dict")).keeps kP
  have hDC : H2.objs.size ≠ g.objs.size := fun z => by
    obtain ⟨m, hm⟩ := hPl
    obtain ⟨o, es, ep, e1', e2', _⟩ := hNsC
    rw [z, hm] at e1'; cases e1'; cases e2'
  obtain ⟨cs1, cs2, cs3, cs4⟩ := cells_spec scope.names (H2.push { cls := .type "dict", data := .dict #[] }) (clo env.cells scope.names [])
  rw [Heap.size_push] at cs1 cs2 cs3 cs4
  rw [hH3] at cs1 cs3
  have big : ∀ c, H2.objs.size + 1 ≤ c → s.heap.get? c = none := fun c hc => (kx.trans (kD.trans kC)).none (Heap.get?_none_of_le (by rw [Heap.size_push]; exact hc))
  have Fc : Frm hb G' s.heap (fun b => Av P μ b ∧ b ≠ g.objs.size) none { newEnv scope H2.objs.size env.globals (cellsFrom (H2.objs.size + 1) scope.names (clo env.cells scope.names [])) env.qual none .none (some env) builtinsNs with scope := relabel scope env } (clr loc ρ) H3 := by
    refine ⟨?_, ?_, F.glob, F.blt, F.hb, ks, fun b e => ⟨(F.ext ks).av b e, fun z => ?_⟩, ⟨_, hNsC⟩, sC, fun x hx => ?_, ?_, fun x y i h1 h2 => snd_inj c3 (mem_of_lookup' h1) (mem_of_lookup' h2), fun x i v h1 h2 => ?_, fun i a e => by cases e⟩
    · rw [hsc]; show relabel scope env = _; unfold relabel relabelS Env.kindOf; rw [F.scope]
    · rw [hsc]; exact c1
    · subst z; rw [hPl.choose_spec] at e; cases e
    · obtain ⟨c, q1, q2, q3⟩ := cs3 x (c4 x hx)
      exact ⟨c, none, q1, big c q2, q3⟩
    · refine cs2 (clo_apart F.apart _ _ c2 (by simp) List.Pairwise.nil) fun p hp => ?_
      rcases clo_mem _ _ p hp with q | ⟨q1, q2⟩
      · cases q
      · obtain ⟨i, v, X, c, a1, a2, a3, a4, a5⟩ := hcell p.1 q2
        rw [q1] at a3; cases a3
        have := (a4.keeps (kx.trans (kD.trans kC))).lt
        rwa [Heap.size_push] at this
    · have hloc : i ∉ loc := fun q => by rw [clr_in loc ρ i q] at h2; cases h2
      rw [clr_out loc ρ i hloc] at h2
      have hfree : (x, NameKind.free) ∈ scope.names := (c6 _ (mem_of_lookup' h1)).resolve_left hloc
      obtain ⟨i', v', X, c, a1, a2, a3, a4, a5⟩ := hcell x hfree
      rw [h1] at a1; cases a1
      rw [h2] at a2; cases a2
      have hlk : scope.names.lookup x = some .free := lookup_nodup c2 hfree
      have hnc : (x, NameKind.cell) ∉ scope.names := fun q => by rw [lookup_nodup c2 q] at hlk; cases hlk
      refine ⟨X, .inr ⟨?_, c, ?_, a4.keeps ks⟩, .inl ⟨(fun a e => by cases e), ?_⟩⟩
      · have := lookup_relabelS (sc := env.scope) hlk
        exact this
      · show (cellsFrom (H2.objs.size + 1) scope.names (clo env.cells scope.names [])).lookup x = some c
        rw [cs4 x hnc]
        refine lookup_of_mem (clo_has _ _ x c hfree a3) fun p hp e => ?_
        rcases clo_mem _ _ p hp with q | ⟨q1, _⟩
        · cases q
        · rw [e, a3] at q1; exact (Option.some.inj q1).symm
      · refine (VR.narrow (fun a o hp hg _ => Av.none ⟨hp, fun z => ?_⟩) a5).ext ks
        subst z; rw [sD] at hg; cases hg
  obtain ⟨oI, hgI, _, _, _⟩ := ok.obj 0 _ ok.st
  have ok' : IterOK prog w A (fun b => Av P μ b ∧ b ≠ g.objs.size) H3 I fp Pit Stt vs := ⟨ok.W, ok.W.frame _ _ _ ok.st fun b _ o e => k3 b o e, ok.obj,
    fun b hb' => (ok.fps b hb').imp id fun q => ⟨⟨q.1, fun z => by subst z; obtain ⟨o, q, _⟩ := q.2; rw [gD] at q; cases q⟩, let ⟨o, q1, q2⟩ := q.2; ⟨o, k3 _ _ q1, q2⟩⟩,
    fun i X hi hX => let ⟨v, h1, h2⟩ := ok.its i X hi hX; ⟨v, h1, (VR.narrow (fun a o hp hg _ => ⟨hp, fun z => by subst z; rw [gD] at hg; cases hg⟩) h2).ext k3⟩⟩
  have fin : codeAny (model prog w) A (.compLoop (.ListComp elt (⟨t, it, ifs, 0⟩ :: rest) scope pos) 0 (.ref I) (.ref g.objs.size) { newEnv scope H2.objs.size env.globals (cellsFrom (H2.objs.size + 1) scope.names (clo env.cells scope.names [])) env.qual none .none (some env) builtinsNs with scope := relabel scope env })
      (RR (.ref g.objs.size) H2.objs.size) { s with heap := H3, toks := tk } := by
    refine cLoop hturn hT hIf hM hA Fc hPl (fun q => q.2 rfl) sD ⟨F.av I hIn, fun z => by rw [z, gD] at hgI; cases hgI⟩ hIn ok' e2 (by simpa using hsz) fun h' tk' l' F' hl' hv' S' => ?_
    obtain ⟨m, hm⟩ := F'.ns
    exact hRR h' tk' _ _ m l' F'.keep sD sC hDC hm (by simpa using hl') hv'
  exact cStart rfl fin (ok.W.self 0 _ _ _ ok'.st fin)
end
end Mine
end

/- part M12 -/
section
open PySem PySem.Calls PyProof.Rows
namespace Mine
section
variable {prog : Program} {w : World} {hb : Heap} {mg mb : Str → Option Value} {n : Nat} {G G' : Sig} {ph : Option Nat}

noncomputable def frOK (frs : List Nat) (ρ : St) : Bool := frs.all fun i => (ρ.getD i none).isSome
noncomputable def dComp (loc frs : List Nat) (di : St → Option (List V)) (asg : V → St → Option St) (dt : St → Option Bool) (db : St → Option (List V × St)) : St → Option (List V) := fun ρ =>
  match frOK frs ρ with
  | false => none
  | true => (di ρ).bind fun vs => (loopM asg dt db vs (clr loc ρ)).bind fun r => lenOK r.1
theorem dComp_iff {loc frs : List Nat} {di : St → Option (List V)} {asg : V → St → Option St} {dt : St → Option Bool} {db : St → Option (List V × St)} {ρ : St} {ys : List V} (h : dComp loc frs di asg dt db ρ = some ys) :
    frOK frs ρ = true ∧ ∃ vs ρ', di ρ = some vs ∧ loopM asg dt db vs (clr loc ρ) = some (ys, ρ') ∧ ys.length ≤ sizeLine := by
  unfold dComp at h
  split at h
  · cases h
  · rename_i h1
    obtain ⟨vs, h2, h3⟩ := Option.bind_eq_some_iff.mp h
    obtain ⟨⟨zs, ρ'⟩, h4, h5⟩ := Option.bind_eq_some_iff.mp h3
    obtain ⟨rfl, h6⟩ := lenOK.iff h5
    exact ⟨h1, vs, ρ', h2, h4, h6⟩
theorem csOK_names {scope : Scope} {loc frs : List Nat} (CS : csOK G ph scope G' loc frs = true) : scope.kind = .function ∧ ∀ x ∈ scope.names, x.2 = .local → scope.names.lookup x.1 = some .local := by
  unfold csOK at CS
  simp only [Bool.and_eq_true, decide_eq_true_eq] at CS
  obtain ⟨⟨⟨⟨⟨c1, c2⟩, c3⟩, c4⟩, c5⟩, c6⟩ := CS
  exact ⟨c1, fun x hx hl => lookup_nodup c2 (by rw [← hl]; exact hx)⟩

theorem sN_comp {elt t it : Expr} {ifs : List Expr} {rest : List Comprehension} {scope : Scope} {pos p : Pos} {T : Env → Value → Sem PUnit} {loc frs : List Nat} {di : St → Option (List V)} {asg : V → St → Option St} {dt : St → Option Bool} {db : St → Option (List V × St)}
    (CS : csOK G ph scope G' loc frs = true) (hsc : G'.sc = relabelS scope G.sc) (hturn : Turn elt t ifs (⟨t, it, ifs, 0⟩ :: rest) scope pos p 0 T)
    (hI : SndI prog w hb n G ph it di) (hT : SndA prog w hb n G' none t asg) (hIf : SndIfs prog w hb n G' ifs dt) (hM : SndM prog w hb n G' T db) (hs : ∀ env x, foldedSetIterable it env x = pure x) :
    SndN prog w hb n G ph (.ListComp elt (⟨t, it, ifs, 0⟩ :: rest) scope pos) (dComp loc frs di asg dt db) := by
  intro A env h0 P μ ρ s ys Q E hμ hA F ev hQ
  obtain ⟨h1, vs, ρ', h2, h3, h4⟩ := dComp_iff ev
  obtain ⟨k1, k2⟩ := csOK_names CS
  obtain ⟨c1, c2⟩ := comp_core (RR := compPost (model prog w) A E none Q) CS hsc hturn hI hT hIf hM hμ hA F h1 h2 h3 h4 fun h' tk D C m l k hD hC hCD hn hl hv =>
    ⟨m, hn, fun h'' hs'' => hQ h'' tk D l (fun b o e => hs''.extBut b o (fun z => by subst z; rw [hC] at e; cases e) (k b o e)) hD (hl.at fun o e => hs''.extBut D o (Ne.symm hCD) e)
      (VRs.mono (fun a o hp hg hq => ⟨hp, hs''.extBut a o (fun z => by
        subst z
        obtain ⟨o', es, ep, e1, e2, _⟩ := hn
        rw [hg] at e1; cases e1
        obtain ⟨_, _, hq⟩ := hq; rw [e2] at hq; cases hq) hg⟩) _ _ hv)⟩
  rw [eval_ListComp]
  exact wpAny_comprehension_free (use := none) rfl (hs env) c1 k1 k2 c2

theorem Frm.off {h0 : Heap} {P : Addr → Prop} {μ : Mu} {env : Env} {ρ : St} {h h' : Heap} {C : Addr} {m : Str → Option Value} (F : Frm hb G h0 P μ env ρ h) (hs : Heap.SameBut C h h') (hn : h.Ns C m) (h0C : h0.get? C = none) (hCL : C ≠ env.locals) (hPC : P C) :
    Frm hb G h0 P μ env ρ h' := by
  obtain ⟨oC, es, ep, hC, hCd, _⟩ := hn
  have sq : SeqKeep h h' := fun a o e q => (hs.2 a fun z => by subst z; rw [hC] at e; cases e; obtain ⟨_, _, q⟩ := q; rw [hCd] at q; cases q).trans e
  have clC : ∀ {c v}, h.IsCell c v → h'.IsCell c v := fun x => x.sameBut hs fun z => by
    subst z; obtain ⟨o, e1, e2⟩ := x; rw [hC] at e1; cases e1; rw [hCd] at e2; cases e2
  refine ⟨F.scope, F.kind, F.glob, F.blt, F.base, fun b o e => (hs.2 b fun z => by subst z; rw [h0C] at e; cases e).trans (F.keep b o e), fun b e => ?_, let ⟨m', q⟩ := F.ns; ⟨m', q.sameBut hs (Ne.symm hCL)⟩, F.lnew,
    fun x hx => let ⟨c, w, e1, e2, e3⟩ := F.cel x hx; ⟨c, w, e1, e2, clC e3⟩, F.apart, F.inj, fun x i v e1 e2 => ?_, fun i a e => ?_⟩
  · by_cases z : b = C
    · rw [z]; exact hPC
    · exact F.free b ((hs.2 b z).symm.trans e)
  · obtain ⟨X, hB, hV⟩ := F.bnd x i v e1 e2
    refine ⟨X, ?_, hV.seq sq⟩
    rcases hB with ⟨q1, m', q2, q3⟩ | ⟨q1, c, q2, q3⟩
    · exact .inl ⟨q1, m', q2.sameBut hs (Ne.symm hCL), q3⟩
    · exact .inr ⟨q1, c, q2, clC q3⟩
  · obtain ⟨h1, h2, items, k, h3⟩ := F.mu i a e
    exact ⟨h1, h2, items, k, sq _ _ h3 ⟨_, _, rfl⟩⟩

/-- y = [..] where the two stores are exchanged -/
theorem sS_asgComp {y : Str} {i : Nat} {py spos : Pos} {elt t it : Expr} {ifs : List Expr} {rest : List Comprehension} {scope : Scope} {pos p : Pos} {T : Env → Value → Sem PUnit} {loc frs : List Nat} {di : St → Option (List V)} {asg : V → St → Option St} {dt : St → Option Bool} {db : St → Option (List V × St)}
    (hy : Sto G y) (hi : G.σ.lookup y = some i) (hp : ph ≠ some i)
    (CS : csOK G ph scope G' loc frs = true) (hsc : G'.sc = relabelS scope G.sc) (hturn : Turn elt t ifs (⟨t, it, ifs, 0⟩ :: rest) scope pos p 0 T)
    (hI : SndI prog w hb n G ph it di) (hT : SndA prog w hb n G' none t asg) (hIf : SndIfs prog w hb n G' ifs dt) (hM : SndM prog w hb n G' T db) (hs : ∀ env x, foldedSetIterable it env x = pure x)
    (hsw : ∀ env, env.scope = G.sc → swapsWith (.ListComp elt (⟨t, it, ifs, 0⟩ :: rest) scope pos) (some (.Name y py)) spos.line env = pure true) :
    SndS prog w hb n G ph ph (.Assign [.Name y py] (.ListComp elt (⟨t, it, ifs, 0⟩ :: rest) scope pos) spos) (dAsgN i (dComp loc frs di asg dt db)) := by
  intro A env h0 P μ ρ s r Q E hμ hA F ev hQ
  obtain ⟨ys, ev1, ev2⟩ := Option.bind_eq_some_iff.mp ev
  cases ev2
  obtain ⟨h1, vs, ρ', h2, h3, h4⟩ := dComp_iff ev1
  obtain ⟨k1, k2⟩ := csOK_names CS
  obtain ⟨c1, c2⟩ := comp_core (RR := compPost (model prog w) A E (some (assign (.Name y py) env)) (fun _ s' => Q .next s')) CS hsc hturn hI hT hIf hM hμ hA F h1 h2 h3 h4 fun h' tk D C m l k hD hC hCD hn hl hv => by
    have hV : VR (Av P μ) h' (.list ys) (.ref D) := by
      simp only [VR]; exact ⟨D, l, rfl, F.av D hD, hl, hv.sub fun b q => q.1⟩
    have F' := F.ext k
    have hCL : C ≠ env.locals := fun z => by
      subst z; obtain ⟨m', o, es, ep, e1, _⟩ := F.ns; rw [hC] at e1; cases e1
    show wpAny _ A (assign (.Name y py) env (.ref D)) _ _ _
    refine wpAny_assign_Name (wp_put hy hi (by rw [hμ]; exact hp) F' hV fun h₂ tk₂ F₂ S₂ => ?_)
    have hn₂ : h₂.Ns C m := by
      obtain ⟨o, es, ep, e1, e2, e3⟩ := hn
      refine ⟨o, es, ep, S₂.1 C o (fun ho => ?_) e1, e2, e3⟩
      rcases ho with q | ⟨x, hx, q⟩ | ⟨j, q⟩
      · exact hCL q
      · obtain ⟨c, w', q1, q2, q3⟩ := F.cel x hx
        rw [q] at q1; cases q1
        obtain ⟨o', q4, _⟩ := q3
        rw [hC] at q4; cases q4
      · obtain ⟨_, _, items, kk, q2⟩ := F.mu j C q
        rw [hC] at q2; cases q2
    refine ⟨m, hn₂, fun h₃ hs₃ => hQ h₃ tk₂ _ ⟨rfl, μ, hμ, F₂.off hs₃ hn₂ (F.keep.none hC) hCL (F.free C hC), ?_⟩⟩
    refine ⟨fun b o hb' e => hs₃.extBut b o (fun z => by subst z; rw [hC] at e; cases e) (S₂.1 b o hb' (k b o e)), fun j a e => (S₂.2 j a e).imp id fun q => k.none q⟩
  rw [exec_Assign_Name_used _ _ _ _ (hsw env F.scope)]
  refine wpAny_bind (wpAny_standAt (wpAny_bind ?_))
  show wpAny _ A (do let _ ← comprehension (.ListComp elt (⟨t, it, ifs, 0⟩ :: rest) scope pos) scope env _ (newList []) false (eval it env) (some (assign (.Name y py) env))) _ _ s
  exact wpAny_bind (wpAny_mono (wpAny_comprehension_free (use := some (assign (.Name y py) env)) (Q := fun _ s' => Q .next s') rfl (hs env) c1 k1 k2 c2) (fun _ s' hq => wpAny_pure (wpAny_pure hq)) fun _ _ e => e)

/-- a def of the text -/
noncomputable def fnOK (G : Sig) (ps : List Str) : Bool :=
  decide (G.sc.kind = .function) && decide ps.Nodup && decide ((G.σ.map (·.2)).Nodup) && (ps.zipIdx.all fun p => decide (G.σ.lookup p.1 = some p.2)) &&
  (ps.all fun p => decide (G.sc.names.lookup p = some .local) || (decide (G.sc.names.lookup p = some .cell) && decide ((p, NameKind.cell) ∈ G.sc.names))) && (G.asg.all fun x => decide ((x, NameKind.cell) ∈ G.sc.names))
noncomputable def fnV (k N : Nat) (d : St → Option (Fl × St)) (args : List V) : Option V :=
  match Nat.beq args.length k with
  | false => none
  | true => (d (args.map some ++ List.replicate N none)).bind fun r => match r.1 with
    | .ret v => some v
    | .next => some .none

theorem bindL_out {kindOf : Str → Option NameKind} : ∀ (ps : List Str) (vs : List Value) (m : Str → Option Value) (x : Str), x ∉ ps → bindL kindOf (ps.zip vs) m x = m x
  | [], _, m, x, _ => rfl
  | p :: ps, [], m, x, _ => rfl
  | p :: ps, v :: vs, m, x, h => by
    rw [List.zip_cons_cons, bindL, bindL_out ps vs _ x fun q => h (.tail _ q)]
    split
    · exact if_neg fun q : x = p => h (by rw [q]; exact .head _)
    · rfl
theorem bindC_out {kindOf : Str → Option NameKind} : ∀ (ps : List Str) (vs : List Value) (m : Str → Option Value) (x : Str), x ∉ ps → bindC kindOf (ps.zip vs) m x = m x
  | [], _, m, x, _ => rfl
  | p :: ps, [], m, x, _ => rfl
  | p :: ps, v :: vs, m, x, h => by
    rw [List.zip_cons_cons, bindC, bindC_out ps vs _ x fun q => h (.tail _ q)]
    split
    · rfl
    · exact if_neg fun q : x = p => h (by rw [q]; exact .head _)
theorem bind_in {kindOf : Str → Option NameKind} : ∀ (ps : List Str) (vs : List Value) (m : Str → Option Value) (i : Nat) (x : Str) (X : Value), ps.Nodup → ps[i]? = some x → vs[i]? = some X →
    (kindOf x = some .local → bindL kindOf (ps.zip vs) m x = some X) ∧ (kindOf x ≠ some .local → bindC kindOf (ps.zip vs) m x = some X)
  | [], _, _, i, x, X, _, h, _ => by simp at h
  | p :: ps, [], _, i, x, X, _, _, h => by simp at h
  | p :: ps, v :: vs, m, 0, x, X, hnd, h1, h2 => by
    simp only [List.getElem?_cons_zero, Option.some.injEq] at h1 h2
    subst h1 h2
    rw [List.nodup_cons] at hnd
    rw [List.zip_cons_cons, bindL, bindC]
    refine ⟨fun hk => ?_, fun hk => ?_⟩
    · rw [bindL_out ps vs _ p hnd.1, if_pos hk]; simp
    · rw [bindC_out ps vs _ p hnd.1, if_neg hk]; simp
  | p :: ps, v :: vs, m, i + 1, x, X, hnd, h1, h2 => by
    simp only [List.getElem?_cons_succ] at h1 h2
    rw [List.nodup_cons] at hnd
    rw [List.zip_cons_cons, bindL, bindC]
    exact ⟨(bind_in ps vs _ i x X hnd.2 h1 h2).1, (bind_in ps vs _ i x X hnd.2 h1 h2).2⟩

theorem sF_def {name : Str} {params : Arguments} {body : List Stmt} {pm code doc : Value} {fa : Addr} {o : Obj} {ps : List Str} {N : Nat} {ph' : Option Nat} {d : St → Option (Fl × St)}
    (B : Base hb mg mb) (hmg : mg name = some (.ref fa)) (ho : hb.get? fa = some o) (hd : o.data = .func (docDef name params body G.sc pm code doc)) (hcd : hb.CodeRec code name)
    (hok : fnOK G ps = true) (hbind : ∀ vs : List Value, vs.length = ps.length → bindArgs (docDef name params body G.sc pm code doc) ⟨vs, []⟩ = pure (ps.zip vs))
    (hco : G.sc.isCoroutine = false) (hgen : G.sc.isGenerator = false) (hbody : SndSs prog w hb n G none ph' body d) : SndF prog w hb mg (n + 1) name (fnV ps.length N d) := by
  refine ⟨fa, o, _, hmg, ho, hd, fun A s P args vs v Q E hA hB hf hv ev hQ => ?_⟩
  unfold fnOK at hok
  simp only [Bool.and_eq_true, List.all_eq_true, decide_eq_true_eq, Bool.or_eq_true] at hok
  obtain ⟨⟨⟨⟨⟨c1, c2⟩, c3⟩, c4⟩, c5⟩, c6⟩ := hok
  unfold fnV at ev
  split at ev
  · cases ev
  rename_i hlen
  have hlen : args.length = ps.length := Nat.eq_of_beq_eq_true hlen
  obtain ⟨⟨f, ρ'⟩, e1, e2⟩ := Option.bind_eq_some_iff.mp ev
  have hvl := hv.length
  have room : A.depth < recursionLimit := by have := hA.2.1; omega
  have newc : ∀ x, (x, NameKind.cell) ∈ G.sc.names → ∃ c, (cellsFrom (s.heap.objs.size + 1) G.sc.names []).lookup x = some c := fun x hx => by
    obtain ⟨_, _, q, _⟩ := cells_spec G.sc.names (s.heap.push { cls := .type "frame", data := .dict #[] }) []
    rw [Heap.size_push] at q
    obtain ⟨c, q1, _⟩ := q x hx
    exact ⟨c, q1⟩
  refine wpAny_call (call_cells room (hB _ _ ho) hd (B.nolimit.keeps hB) (hcd.keeps hB) (hbind vs (by omega)) (fun x hx => ?_) (fun h₁ tk Fr₁ Cl₁ => ?_) hco hgen c1)
  · have hxp : x.1 ∈ ps := (List.of_mem_zip (a := x.1) (b := x.2) hx).1
    rcases c5 _ hxp with q | ⟨q1, q2⟩
    · exact .inl q
    · obtain ⟨c, q3⟩ := newc _ q2
      exact .inr ⟨q1, by rw [q3]; rfl⟩
  · have F : Frm hb G s.heap P none (envOfC name G.sc s.heap.objs.size fa code) (args.map some ++ List.replicate N none) h₁ := by
      refine ⟨rfl, c1, rfl, rfl, hB, Fr₁.keep, fun b e => hf b (Ext.none Fr₁.keep e), ⟨_, Fr₁.ns⟩, get?_fresh _, fun x hx => ?_, Cl₁.apart, fun x y i h1 h2 => snd_inj c3 (mem_of_lookup' h1) (mem_of_lookup' h2), fun x i u h1 h2 => ?_, fun i a e => by cases e⟩
      · obtain ⟨c, q⟩ := newc x (c6 x hx)
        exact ⟨c, _, q, Heap.get?_none_of_le (Nat.le_of_lt (Cl₁.above x c (mem_of_lookup q))), Cl₁.cell x c q⟩
      · have hi : i < args.length := by
          rcases Nat.lt_or_ge i args.length with q | q
          · exact q
          · exfalso
            rw [List.getD, List.getElem?_append_right (by simpa using q)] at h2
            by_cases hr : i - (args.map some).length < N
            · rw [List.getElem?_replicate_of_lt hr] at h2; cases h2
            · rw [List.getElem?_eq_none (by simp at hr ⊢; omega)] at h2; cases h2
        have hu : args[i]? = some u := by
          rw [List.getD, List.getElem?_append_left (by simpa using hi), List.getElem?_map] at h2
          cases q : args[i]? with
          | none => rw [q] at h2; cases h2
          | some u' => rw [q] at h2; simpa using h2
        obtain ⟨X, hX, hVX⟩ := hv.get hu
        have hps : ∃ y, ps[i]? = some y := ⟨ps[i]'(by omega), by simp⟩
        obtain ⟨y, hy⟩ := hps
        have hσ : G.σ.lookup y = some i := by
          have := c4 (y, i) (List.mem_zipIdx_iff_getElem?.mpr hy)
          exact this
        have hxy : x = y := snd_inj c3 (mem_of_lookup' h1) (mem_of_lookup' hσ)
        subst hxy
        obtain ⟨b1, b2⟩ := bind_in (kindOf := (envOfC name G.sc s.heap.objs.size fa code).kindOf) ps vs (fun _ => none) i x X c2 hy hX
        have hVX' : VR (Av P none) h₁ u X := (hVX.sub fun b q => Av.none q).ext Fr₁.keep
        have hmem : x ∈ ps := List.mem_of_getElem? hy
        rcases c5 x hmem with q | ⟨q1, q2⟩
        · exact ⟨X, .inl ⟨q, _, Fr₁.ns, b1 q⟩, .inl ⟨(fun a e => by cases e), hVX'⟩⟩
        · obtain ⟨c, q3⟩ := newc x q2
          have hk : (envOfC name G.sc s.heap.objs.size fa code).kindOf x ≠ some .local := by
            show G.sc.names.lookup x ≠ _; rw [q1]; decide
          refine ⟨X, .inr ⟨.inl q1, c, q3, ?_⟩, .inl ⟨(fun a e => by cases e), hVX'⟩⟩
          have := Cl₁.cell x c q3
          rwa [b2 hk] at this
    refine hbody _ _ s.heap P none _ _ _ _ _ rfl hA.deeper F e1 fun h' tk' f' hp => ?_
    cases f with
    | next =>
      obtain ⟨rfl, μ', _, F', _⟩ := hp
      cases e2
      exact hQ h' tk' _ F'.keep (by simp only [VR])
    | ret u =>
      obtain ⟨X, rfl, hk, hX⟩ := hp
      cases e2
      exact hQ h' tk' X hk hX
end
end Mine
end

/- part M13 -/
section
open PySem PySem.Calls PyProof.Rows
namespace Mine

mutual
noncomputable def V.beq : V → V → Bool
  | .none, .none => true
  | .bool a, .bool b => a == b
  | .int a, .int b => a == b
  | .list a, .list b => V.beqs a b
  | .tup a, .tup b => V.beqs a b
  | _, _ => false
noncomputable def V.beqs : List V → List V → Bool
  | [], [] => true
  | a :: r, b :: q => V.beq a b && V.beqs r q
  | _, _ => false
end
mutual
theorem V.of_beq : ∀ {a b : V}, V.beq a b = true → a = b
  | .none, .none, _ => rfl
  | .bool a, .bool b, h => by simp only [V.beq, beq_iff_eq] at h; rw [h]
  | .int a, .int b, h => by simp only [V.beq, beq_iff_eq] at h; rw [h]
  | .list a, .list b, h => by simp only [V.beq] at h; rw [V.of_beqs h]
  | .tup a, .tup b, h => by simp only [V.beq] at h; rw [V.of_beqs h]
  | .none, .bool _, h => by simp [V.beq] at h
  | .none, .int _, h => by simp [V.beq] at h
  | .none, .list _, h => by simp [V.beq] at h
  | .none, .tup _, h => by simp [V.beq] at h
  | .bool _, .none, h => by simp [V.beq] at h
  | .bool _, .int _, h => by simp [V.beq] at h
  | .bool _, .list _, h => by simp [V.beq] at h
  | .bool _, .tup _, h => by simp [V.beq] at h
  | .int _, .none, h => by simp [V.beq] at h
  | .int _, .bool _, h => by simp [V.beq] at h
  | .int _, .list _, h => by simp [V.beq] at h
  | .int _, .tup _, h => by simp [V.beq] at h
  | .list _, .none, h => by simp [V.beq] at h
  | .list _, .bool _, h => by simp [V.beq] at h
  | .list _, .int _, h => by simp [V.beq] at h
  | .list _, .tup _, h => by simp [V.beq] at h
  | .tup _, .none, h => by simp [V.beq] at h
  | .tup _, .bool _, h => by simp [V.beq] at h
  | .tup _, .int _, h => by simp [V.beq] at h
  | .tup _, .list _, h => by simp [V.beq] at h
theorem V.of_beqs : ∀ {a b : List V}, V.beqs a b = true → a = b
  | [], [], _ => rfl
  | a :: r, b :: q, h => by
    simp only [V.beqs, Bool.and_eq_true] at h
    rw [V.of_beq h.1, V.of_beqs h.2]
  | [], _ :: _, h => by simp [V.beqs] at h
  | _ :: _, [], h => by simp [V.beqs] at h
end

/-- a table for a def of one int -/
noncomputable def assoc (k : Nat) : List (Nat × V) → Option V
  | [] => none
  | (j, v) :: r => match Nat.beq j k with | true => some v | false => assoc k r
noncomputable def tab1 (t : List (Nat × V)) : List V → Option V
  | [.int (.ofNat k)] => assoc k t
  | _ => none
noncomputable def okV (D : List V → Option V) (a : List V) (v : V) : Bool := match D a with | some u => V.beq u v | none => false
theorem okV_iff {D : List V → Option V} {a : List V} {v : V} (h : okV D a v = true) : D a = some v := by
  unfold okV at h
  split at h
  · rename_i u e; rw [e, V.of_beq h]
  · cases h
noncomputable def tabOK (D : List V → Option V) : List (Nat × V) → Bool
  | [] => true
  | (k, v) :: r => okV D [.int (.ofNat k)] v && tabOK D r
theorem tab1_ok {D : List V → Option V} : ∀ {t : List (Nat × V)}, tabOK D t = true → ∀ a v, tab1 t a = some v → D a = some v := by
  have key : ∀ {t : List (Nat × V)}, tabOK D t = true → ∀ k v, assoc k t = some v → D [.int (.ofNat k)] = some v := by
    intro t
    induction t with
    | nil => intro _ k v h; cases h
    | cons p r ih =>
      intro ht k v h
      obtain ⟨j, u⟩ := p
      simp only [tabOK, Bool.and_eq_true] at ht
      unfold assoc at h
      split at h
      · rename_i hb
        have := Nat.eq_of_beq_eq_true hb
        cases h; subst this
        exact okV_iff ht.1
      · exact ih ht.2 k v h
  intro t ht a v h
  unfold tab1 at h
  split at h
  · exact key ht _ _ h
  · cases h

abbrev eV (i : Nat) : St → Option V := fun ρ => ρ.getD i none
abbrev eI (i : Int) : St → Option V := fun _ => some (.int i)
abbrev eB (b : Bool) : St → Option V := fun _ => some (.bool b)
abbrev eO : St → Option V := fun _ => some .none
abbrev tT : St → Option Bool := fun _ => some true
abbrev dX : St → Option (Fl × St) := fun _ => none

noncomputable def nmB (x : Str) : Bool := !(x == ("__debug__" : Str)) && !(x == ("__classdict__" : Str))
noncomputable def nmOK (G : Sig) (ph : Option Nat) (x : Str) (i : Nat) : Bool := decide (G.σ.lookup x = some i) && decide (ph ≠ some i) && nmB x
noncomputable def stOK (G : Sig) (ph : Option Nat) (x : Str) (i : Nat) : Bool := decide (G.σ.lookup x = some i) && decide (ph ≠ some i) && (decide (G.sc.names.lookup x = some .local) || (decide (G.sc.names.lookup x = some .cell) && decide (x ∈ G.asg)))
noncomputable def glOK (G : Sig) (x : Str) : Bool := decide (G.sc.names.lookup x = some .globalImplicit) && !(x == ("__debug__" : Str))
noncomputable def nsOK (G : Sig) (ph : Option Nat) : List Str → List Nat → Bool
  | [], [] => true
  | x :: xs, i :: is => stOK G ph x i && nsOK G ph xs is
  | _, _ => false
section
variable {G : Sig} {ph : Option Nat} {x : Str} {i : Nat}
theorem nm_ (h : nmB x = true) : (x == ("__debug__" : Str)) = false ∧ (x == ("__classdict__" : Str)) = false := by
  unfold nmB at h
  simpa only [Bool.and_eq_true, Bool.not_eq_true'] using h
theorem nm1 (h : nmOK G ph x i = true) : G.σ.lookup x = some i ∧ ph ≠ some i ∧ (x == ("__debug__" : Str)) = false ∧ (x == ("__classdict__" : Str)) = false := by
  unfold nmOK at h
  simp only [Bool.and_eq_true, decide_eq_true_eq] at h
  exact ⟨h.1.1, h.1.2, nm_ h.2⟩
theorem st1 (h : stOK G ph x i = true) : Sto G x ∧ G.σ.lookup x = some i ∧ ph ≠ some i := by
  unfold stOK at h
  simp only [Bool.and_eq_true, decide_eq_true_eq, Bool.or_eq_true] at h
  exact ⟨h.2, h.1.1, h.1.2⟩
theorem gl1 (h : glOK G x = true) : G.sc.names.lookup x = some .globalImplicit ∧ (x == ("__debug__" : Str)) = false := by
  unfold glOK at h
  simp only [Bool.and_eq_true, decide_eq_true_eq, Bool.not_eq_true'] at h
  exact h
theorem ns1 : ∀ {xs : List Str} {is : List Nat}, nsOK G ph xs is = true → NamesAt G ph xs is
  | [], [], _ => trivial
  | x :: xs, i :: is, h => by
    simp only [nsOK, Bool.and_eq_true] at h
    exact ⟨st1 h.1, ns1 h.2⟩
  | [], _ :: _, h => by cases h
  | _ :: _, [], h => by cases h
end

noncomputable def nameOfS : Stmt → Str
  | .FunctionDef name .. => name
  | _ => ""
noncomputable def bodyOfS : Stmt → List Stmt
  | .FunctionDef _ _ body .. => body
  | _ => []
noncomputable def scopeOfS : Stmt → Scope
  | .FunctionDef _ _ _ _ _ _ scope .. => scope
  | _ => { kind := .module, names := [], isGenerator := false, isCoroutine := false }
noncomputable def argsOfS : Stmt → Arguments
  | .FunctionDef _ args .. => args
  | _ => { posonlyargs := [], args := [], vararg := none, kwonlyargs := [], kw_defaults := [], kwarg := none, defaults := [] }
noncomputable def nth (i : Nat) : Stmt := (Challenge.pw_xm0072_01.main.body)[i]?.getD (.Pass ⟨0, 0, 0, 0⟩)
noncomputable def Has (hb : Heap) (mg : Str → Option Value) (i : Nat) : Prop :=
  ∃ fa o pm code doc, mg (nameOfS (nth i)) = some (.ref fa) ∧ hb.get? fa = some o ∧ o.data = .func (docDef (nameOfS (nth i)) (argsOfS (nth i)) (bodyOfS (nth i)) (scopeOfS (nth i)) pm code doc) ∧ hb.CodeRec code (nameOfS (nth i))

structure World0 (hb : Heap) (mg mb : Str → Option Value) : Prop where
  B : Base hb mg mb
  has : ∀ i, i ∈ [3, 4, 5, 6, 7, 8, 9, 11, 12, 13, 15, 16, 17, 18, 20, 21, 22, 23, 24, 25, 26] → Has hb mg i
  len : mg "len" = none ∧ mb "len" = some (.builtin "len")
  list : mg "list" = none ∧ mb "list" = some (.type "list")
  max : mg "max" = none ∧ mb "max" = some (.builtin "max")
  abs : mg "abs" = none ∧ mb "abs" = some (.builtin "abs")
  range : mg "range" = none ∧ mb "range" = some (.type "range")
  sum : mg "sum" = none ∧ mb "sum" = some (.builtin "sum")
  sorted : mg "sorted" = none ∧ mb "sorted" = some (.builtin "sorted")
  int : mg "int" = none ∧ mb "int" = some (.type "int")

section
variable {prog : Program} {w : World} {hb : Heap} {mg mb : Str → Option Value} {n : Nat} {G G' : Sig} {ph : Option Nat}
theorem s_v {x : Str} {pos : Pos} {i : Nat} (h : nmOK G ph x i = true) : SndE prog w hb n G ph (.Name x pos) (eV i) := let ⟨a, b, c, d⟩ := nm1 h; sE_name a b c d
theorem s_call {x : Str} {np pos : Pos} {e : Expr} {es : List Expr} {D : List V → Option V} {d : St → Option (List V)} {m : Nat} (W : World0 hb mg mb) (hf : SndF prog w hb mg m x D) (hm : m ≤ n) (hk : glOK G x = true)
    (he : ∀ env, starEach (e :: es) env = (false, eval e env) :: starEach es env) (hL : SndL prog w hb n G ph (e :: es) d) : SndE prog w hb n G ph (.Call (.Name x np) (e :: es) [] pos) (eCall D d) :=
  sE_call W.B (hf.le hm) hL (gl1 hk).1 he (gl1 hk).2
theorem s_blt {x : Str} {id : String} {np pos : Pos} {e : Expr} {es : List Expr} {D : List V → Option V} {d : St → Option (List V)} (W : World0 hb mg mb) (hx : mg x = none ∧ mb x = some (.builtin id)) (hf : SndB prog w (.builtin id) D) (hk : glOK G x = true)
    (he : ∀ env, starEach (e :: es) env = (false, eval e env) :: starEach es env) (hp : ∀ env, (backTo pos (starEach es env)).any (·.1) = false) (hL : SndL prog w hb n G ph (e :: es) d) : SndE prog w hb n G ph (.Call (.Name x np) (e :: es) [] pos) (eCall D d) :=
  sE_blt W.B hx hf hL (gl1 hk).1 he hp (gl1 hk).2
theorem s_listOf {x : Str} {np pos : Pos} {e : Expr} {d : St → Option V} (W : World0 hb mg mb) (hx : mg x = none ∧ mb x = some (.type "list")) (hk : glOK G x = true) (he : ∀ env, starEach [e] env = (false, eval e env) :: starEach [] env)
    (hE : SndE prog w hb n G ph e d) : SndN prog w hb n G ph (.Call (.Name x np) [e] [] pos) (listN d) := sN_listOf W.B hx hE (gl1 hk).1 he (gl1 hk).2
theorem s_range {x : Str} {np pos : Pos} {e : Expr} {d : St → Option V} (W : World0 hb mg mb) (hx : mg x = none ∧ mb x = some (.type "range")) (hk : glOK G x = true) (he : ∀ env, starEach [e] env = (false, eval e env) :: starEach [] env)
    (hE : SndE prog w hb n G ph e d) : SndI prog w hb n G ph (.Call (.Name x np) [e] [] pos) (iRange d) := sI_range W.B hx hE (gl1 hk).1 he (gl1 hk).2
theorem s_asg {x : Str} {i : Nat} {np pos : Pos} {e : Expr} {d : St → Option V} (h : stOK G ph x i = true) (hs : ∀ env, env.scope = G.sc → swapsWith e (some (.Name x np)) pos.line env = pure false) (hd : SndE prog w hb n G ph e d) :
    SndS prog w hb n G ph ph (.Assign [.Name x np] e pos) (dAsg i d) := let ⟨a, b, c⟩ := st1 h; sS_asg a b c hd hs
theorem s_asgN {x : Str} {i : Nat} {np pos : Pos} {e : Expr} {d : St → Option (List V)} (h : stOK G none x i = true) (hs : ∀ env, env.scope = G.sc → swapsWith e (some (.Name x np)) pos.line env = pure false) (hd : SndN prog w hb n G none e d) :
    SndS prog w hb n G none (some i) (.Assign [.Name x np] e pos) (dAsgN i d) := let ⟨a, b, _⟩ := st1 h; sS_asgN a b hd hs
theorem s_aug {x : Str} {i : Nat} {op : Operator} {np pos : Pos} {e : Expr} {d : St → Option V} (h : stOK G ph x i = true) (h' : nmB x = true) (hd : SndE prog w hb n G ph e d) :
    SndS prog w hb n G ph ph (.AugAssign (.Name x np) op e pos) (dAug i op d) := let ⟨a, b, c⟩ := st1 h; sS_aug a b c hd (nm_ h').1 (nm_ h').2
theorem s_aName {x : Str} {i : Nat} {p : Pos} (h : stOK G ph x i = true) : SndA prog w hb n G ph (.Name x p) (aName i) := let ⟨a, b, c⟩ := st1 h; sA_name a b c
theorem s_aTup {xs : List Str} {is : List Nat} {elts : List Expr} {k : Nat} {p : Pos} (h : nsOK G ph xs is = true) (hel : namesOf elts = some xs) : SndA prog w hb n G ph (.Tuple elts k p) (aTup is) := sA_tup (ns1 h) hel
theorem s_ret {e : Expr} {pos : Pos} {d : St → Option V} (hd : SndE prog w hb n G ph e d) : SndS prog w hb n G ph ph (.Return (some e) pos) (dRet d) := sS_ret hd
theorem s_def (i : Nat) {ps : List Str} {N : Nat} {d : St → Option (Fl × St)} (W : World0 hb mg mb) (hi : i ∈ [3, 4, 5, 6, 7, 8, 9, 11, 12, 13, 15, 16, 17, 18, 20, 21, 22, 23, 24, 25, 26]) (hG : G.sc = scopeOfS (nth i)) (hok : fnOK G ps = true)
    (hbind : ∀ (pm code doc : Value) (vs : List Value), vs.length = ps.length → bindArgs (docDef (nameOfS (nth i)) (argsOfS (nth i)) (bodyOfS (nth i)) (scopeOfS (nth i)) pm code doc) ⟨vs, []⟩ = pure (ps.zip vs))
    (hco : (scopeOfS (nth i)).isCoroutine = false) (hgen : (scopeOfS (nth i)).isGenerator = false) {ph' : Option Nat} (hbody : SndSs prog w hb n G none ph' (bodyOfS (nth i)) d) : SndF prog w hb mg (n + 1) (nameOfS (nth i)) (fnV ps.length N d) := by
  obtain ⟨fa, o, pm, code, doc, h1, h2, h3, h4⟩ := W.has i hi
  rw [← hG] at h3 hco hgen
  exact sF_def (pm := pm) (code := code) (doc := doc) W.B h1 h2 h3 h4 hok (fun vs hv => by rw [hG]; exact hbind pm code doc vs hv) hco hgen hbody
end

end Mine
end

/- part M14 -/
section
open PySem PySem.Calls PyProof.Rows
namespace Mine
section
variable {prog : Program} {w : World} {hb : Heap} {mg mb : Str → Option Value} {n : Nat} {G G' : Sig} {ph : Option Nat}

theorem turn1 (elt t it : Expr) (ifs : List Expr) (scope : Scope) (pos : Pos) : Turn elt t ifs [⟨t, it, ifs, 0⟩] scope pos it.pos 0 (fun env acc => do let _ ← call (.builtin "list.append") [acc, ← eval elt env]) := fun I acc env => by
  rw [compTurn_list]
  rfl
theorem turn21 (elt t₁ it₁ t₂ it₂ : Expr) (ifs₁ ifs₂ : List Expr) (scope : Scope) (pos : Pos) : Turn elt t₁ ifs₁ [⟨t₁, it₁, ifs₁, 0⟩, ⟨t₂, it₂, ifs₂, 0⟩] scope pos it₁.pos 0 (fun env acc => do
      let x ← eval it₂ env
      standAt it₂.pos
      let x ← foldedSetIterable it₂ env x
      let _ ← runOwn (.compStart (.ListComp elt [⟨t₁, it₁, ifs₁, 0⟩, ⟨t₂, it₂, ifs₂, 0⟩] scope pos) 1 (← holding [x] (pyIter x)) acc env) env) := fun I acc env => by
  have e : compTurn (.ListComp elt [⟨t₁, it₁, ifs₁, 0⟩, ⟨t₂, it₂, ifs₂, 0⟩] scope pos) 0 I acc env = (do
      standAt it₁.pos
      match ← pyNext I with
      | none => pure (.done .next)
      | some v =>
        letOwnedTupleGo t₁ I v
        assign t₁ env v
        let ok ← testsOf ifs₁ env
        if ok then
          let x ← eval it₂ env
          standAt it₂.pos
          let x ← foldedSetIterable it₂ env x
          let y ← holding [x] (pyIter x)
          let _ ← runOwn (.compStart (.ListComp elt [⟨t₁, it₁, ifs₁, 0⟩, ⟨t₂, it₂, ifs₂, 0⟩] scope pos) 1 y acc env) env
          again (.compLoop (.ListComp elt [⟨t₁, it₁, ifs₁, 0⟩, ⟨t₂, it₂, ifs₂, 0⟩] scope pos) 0 I acc env)
        else again (.compLoop (.ListComp elt [⟨t₁, it₁, ifs₁, 0⟩, ⟨t₂, it₂, ifs₂, 0⟩] scope pos) 0 I acc env)) := by rfl
  rw [e]
  simp only [bind_assoc, pure_bind]
  all_goals rfl
theorem turn22 (elt t₁ it₁ t₂ it₂ : Expr) (ifs₁ ifs₂ : List Expr) (scope : Scope) (pos : Pos) : Turn elt t₂ ifs₂ [⟨t₁, it₁, ifs₁, 0⟩, ⟨t₂, it₂, ifs₂, 0⟩] scope pos it₂.pos 1 (fun env acc => do let _ ← call (.builtin "list.append") [acc, ← eval elt env]) := fun I acc env => by
  rfl

theorem s_comp1 {elt t it : Expr} {ifs : List Expr} {scope : Scope} {pos : Pos} {loc frs : List Nat} {di : St → Option (List V)} {asg : V → St → Option St} {dt : St → Option Bool} {de : St → Option V}
    (CS : csOK G ph scope G' loc frs = true) (hsc : G'.sc = relabelS scope G.sc)
    (hI : SndI prog w hb n G ph it di) (hT : SndA prog w hb n G' none t asg) (hIf : SndIfs prog w hb n G' ifs dt) (hM : SndE prog w hb n G' none elt de) (hs : ∀ env x, foldedSetIterable it env x = pure x) :
    SndN prog w hb n G ph (.ListComp elt [⟨t, it, ifs, 0⟩] scope pos) (dComp loc frs di asg dt (mEmit de)) :=
  sN_comp CS hsc (turn1 elt t it ifs scope pos) hI hT hIf (sM_emit hM) hs
/-- y = [elt for t₁ in it₁ for t₂ in it₂] -/
theorem s_asgComp2 {y : Str} {i : Nat} {py spos : Pos} {elt t₁ it₁ t₂ it₂ : Expr} {ifs₁ ifs₂ : List Expr} {scope : Scope} {pos : Pos} {loc frs : List Nat} {d₁ d₂ : St → Option (List V)} {a₁ a₂ : V → St → Option St} {u₁ u₂ : St → Option Bool} {de : St → Option V}
    (h : stOK G ph y i = true) (CS : csOK G ph scope G' loc frs = true) (hsc : G'.sc = relabelS scope G.sc)
    (hsw : ∀ env, env.scope = G.sc → swapsWith (.ListComp elt [⟨t₁, it₁, ifs₁, 0⟩, ⟨t₂, it₂, ifs₂, 0⟩] scope pos) (some (.Name y py)) spos.line env = pure true)
    (hs₁ : ∀ env x, foldedSetIterable it₁ env x = pure x) (hs₂ : ∀ env x, foldedSetIterable it₂ env x = pure x)
    (hI₁ : SndI prog w hb n G ph it₁ d₁) (hT₁ : SndA prog w hb n G' none t₁ a₁) (hF₁ : SndIfs prog w hb n G' ifs₁ u₁)
    (hI₂ : SndI prog w hb n G' none it₂ d₂) (hT₂ : SndA prog w hb n G' none t₂ a₂) (hF₂ : SndIfs prog w hb n G' ifs₂ u₂) (hM : SndE prog w hb n G' none elt de) :
    SndS prog w hb n G ph ph (.Assign [.Name y py] (.ListComp elt [⟨t₁, it₁, ifs₁, 0⟩, ⟨t₂, it₂, ifs₂, 0⟩] scope pos) spos) (dAsgN i (dComp loc frs d₁ a₁ u₁ (mInner d₂ a₂ u₂ (mEmit de)))) :=
  let ⟨a, b, c⟩ := st1 h
  sS_asgComp a b c CS hsc (turn21 elt t₁ it₁ t₂ it₂ ifs₁ ifs₂ scope pos) hI₁ hT₁ hF₁ (sM_inner (by rfl) (turn22 elt t₁ it₁ t₂ it₂ ifs₁ ifs₂ scope pos) hI₂ hT₂ hF₂ (sM_emit hM) hs₂) hs₁ hsw

/-- [..] * k, a list of its own -/
noncomputable def nRep (a b : St → Option V) : St → Option (List V) := fun ρ => (a ρ).bind fun x => (b ρ).bind fun y => match x, y with
  | .list (x :: xs), .int (.ofNat k) => if Nat.ble k 1000 && Nat.ble (x :: xs).length 1000 then some (rep k (x :: xs)) else none
  | .list (x :: xs), .int (.negSucc _) => none
  | _, _ => none
theorem sN_rep {l r : Expr} {pos : Pos} {dl dr : St → Option V} (hl : SndE prog w hb n G ph l dl) (hr : SndE prog w hb n G ph r dr) : SndN prog w hb n G ph (.BinOp l .Mult r pos) (nRep dl dr) := by
  intro A env h0 P μ ρ s vs Q E hμ hA F ev hQ
  obtain ⟨a, ea, ev1⟩ := Option.bind_eq_some_iff.mp ev
  obtain ⟨b, eb, ev2⟩ := Option.bind_eq_some_iff.mp ev1
  refine wpAny_BinOp (wp2 hl hr hμ hA F ea eb fun h' tk X Y k hX hY => ?_)
  split at ev2
  · rename_i x xs kk
    split at ev2
    · rename_i hc
      cases ev2
      rw [Bool.and_eq_true] at hc
      have hk := Nat.le_of_ble_eq_true hc.1
      have hn := Nat.le_of_ble_eq_true hc.2
      simp only [VR] at hX hY
      obtain ⟨p, l, rfl, hp, ⟨k1, hl⟩, hs⟩ := hX
      obtain ⟨u, rfl⟩ := hY
      have e1 := hs.length
      have hne : l.toArray.isEmpty = false := by
        cases l with
        | nil => simp at e1
        | cons _ _ => rfl
      have hmul : l.length * kk ≤ 1000 * 1000 := Nat.mul_le_mul (by omega) hk
      refine mulBase (x := Int.ofNat kk) hl (by first | omega | simp) (by first | (simp; omega) | omega) (by rw [List.size_toArray]; exact Nat.le_trans hmul (by decide)) ?_
      have e4 : List.foldl (fun x1 x2 => x1 ++ x2) #[] (List.replicate (if l.toArray.isEmpty = true then 0 else (Int.ofNat kk).toNat) l.toArray) = (rep kk l).toArray := by
        rw [hne, if_neg (by decide), show (Int.ofNat kk).toNat = kk from rfl, foldl_rep]; simp
      rw [e4]
      refine hQ _ _ _ (rep kk l) (k.trans (Ext.push _ _)) (k.none (get?_fresh h')) ⟨_, Heap.get?_push_size _ rfl⟩ ?_
      refine (VRs.narrow (fun a o hp hg hs => ⟨hp, fun z => ?_⟩) (VRs.rep hs kk)).ext (Ext.push _ _)
      subst z; rw [show Heap.get? h' h'.objs.size = none from get?_fresh h'] at hg; cases hg
    · cases ev2
  · cases ev2
  · cases ev2

noncomputable def muOK (G : Sig) (x : Str) (j : Nat) : Bool := decide (G.σ.lookup x = some j) && nmB x
theorem mu1 {x : Str} {j : Nat} (h : muOK G x j = true) : G.σ.lookup x = some j ∧ (x == ("__debug__" : Str)) = false ∧ (x == ("__classdict__" : Str)) = false := by
  unfold muOK at h
  simp only [Bool.and_eq_true, decide_eq_true_eq] at h
  exact ⟨h.1, nm_ h.2⟩
theorem s_muIdx {x : Str} {np pos : Pos} {j : Nat} {i : Expr} {di : St → Option V} (h : muOK G x j = true) (hs : ∀ o k, subscripted i false o k = operate [o, k] (getItem o k)) (hi : SndE prog w hb n G (some j) i di) :
    SndE prog w hb n G (some j) (.Subscript (.Name x np) i pos) (muIdx j di) := let ⟨a, b, c⟩ := mu1 h; sE_muIdx a hi hs b c
theorem s_app {x : Str} {i : Nat} {np ap cp pos : Pos} {e : Expr} {d : St → Option V} (h : muOK G x i = true) 
    (hbase : ∀ env, attributeBase (.Name x np) "append" env (eval (.Name x np) env) = eval (.Name x np) env) (hline : (ap.endLine == cp.line) = true)
    (ht : ∀ env, backTo cp (starEach [e] env) = [(false, eval e env)])
    (hs : ∀ env, swapsWith (.Call (.Attribute (.Name x np) "append" ap) [e] [] cp) none pos.line env = pure false) (hd : SndE prog w hb n G (some i) e d) :
    SndS prog w hb n G (some i) (some i) (.Expr (.Call (.Attribute (.Name x np) "append" ap) [e] [] cp) pos) (dApp i d) := let ⟨a, b, c⟩ := mu1 h; sS_app a hd b c hbase hline ht hs
theorem s_pop {x : Str} {i : Nat} {np ap cp pos : Pos} (h : muOK G x i = true)
    (hbase : ∀ env, attributeBase (.Name x np) "pop" env (eval (.Name x np) env) = eval (.Name x np) env) (hline : (ap.endLine == cp.line) = true)
    (hs : ∀ env, swapsWith (.Call (.Attribute (.Name x np) "pop" ap) [] [] cp) none pos.line env = pure false) :
    SndS prog w hb n G (some i) (some i) (.Expr (.Call (.Attribute (.Name x np) "pop" ap) [] [] cp) pos) (dPop i) := let ⟨a, b, c⟩ := mu1 h; sS_pop a b c hbase hline hs
theorem s_setI {x : Str} {i : Nat} {np sp pos : Pos} {e idx : Expr} {di dv : St → Option V} (h : muOK G x i = true) (hs : ∀ env, swapsWith e (some (.Subscript (.Name x np) idx sp)) pos.line env = pure false)
    (hdi : SndE prog w hb n G (some i) idx di) (hdv : SndE prog w hb n G (some i) e dv) :
    SndS prog w hb n G (some i) (some i) (.Assign [.Subscript (.Name x np) idx sp] e pos) (dSetI i di dv) := let ⟨a, b, c⟩ := mu1 h; sS_setI a hdi hdv b c hs
theorem s_tupR {xs : List Str} {is : List Nat} {elts es : List Expr} {k k' : Nat} {tp vp pos : Pos} {d : St → Option (List V)} (h : nsOK G ph xs.reverse is.reverse = true)
    (hsw : ∀ env, swapsWithSole [.Tuple elts k tp] (.Tuple es k' vp) pos.line env = pure false) (hw : ∀ env, env.scope = G.sc → swappedStores [.Tuple elts k tp] (.Tuple es k' vp) env = pure (some xs)) (hd : SndL prog w hb n G ph es d) :
    SndS prog w hb n G ph ph (.Assign [.Tuple elts k tp] (.Tuple es k' vp) pos) (dTupR is d) := sS_tupR hd (ns1 h) hsw hw
theorem s_tup {xs : List Str} {is : List Nat} {elts es : List Expr} {k k' : Nat} {tp vp pos : Pos} {d : St → Option (List V)} (h : nsOK G ph xs is = true) (hel : namesOf elts = some xs)
    (hsw : ∀ env, swapsWithSole [.Tuple elts k tp] (.Tuple es k' vp) pos.line env = pure false) (hw : ∀ env, env.scope = G.sc → swappedStores [.Tuple elts k tp] (.Tuple es k' vp) env = pure none) (hd : SndL prog w hb n G ph es d) :
    SndS prog w hb n G ph ph (.Assign [.Tuple elts k tp] (.Tuple es k' vp) pos) (dTup is d) := sS_tup hd (ns1 h) hel hsw hw
theorem s_tupNI {x y : Str} {i j : Nat} {px py tp vp pos : Pos} {e₁ e₂ : Expr} {k k' : Nat} {d₁ : St → Option (List V)} {d₂ : St → Option V}
    (hx : stOK G none x i = true) (hy : stOK G none y j = true)
    (he₁ : ∀ env, starEach [e₁, e₂] env = (false, eval e₁ env) :: starEach [e₂] env) (he₂ : ∀ env, starEach [e₂] env = (false, eval e₂ env) :: starEach [] env)
    (hsw : ∀ env, swapsWithSole [.Tuple [.Name x px, .Name y py] k tp] (.Tuple [e₁, e₂] k' vp) pos.line env = pure false)
    (hw : ∀ env, env.scope = G.sc → swappedStores [.Tuple [.Name x px, .Name y py] k tp] (.Tuple [e₁, e₂] k' vp) env = pure (some [x, y])) (h₁ : SndN prog w hb n G none e₁ d₁) (h₂ : SndE prog w hb n G none e₂ d₂) :
    SndS prog w hb n G none (some i) (.Assign [.Tuple [.Name x px, .Name y py] k tp] (.Tuple [e₁, e₂] k' vp) pos) (dTupNI i j d₁ d₂) := sS_tupNI h₁ h₂ (st1 hx).1 (st1 hx).2.1 (st1 hy).1 (st1 hy).2.1 he₁ he₂ hsw hw
theorem s_tupIN {x y : Str} {i j : Nat} {px py tp vp pos : Pos} {e₁ e₂ : Expr} {k k' : Nat} {d₁ : St → Option V} {d₂ : St → Option (List V)}
    (hx : stOK G none x i = true) (hy : stOK G none y j = true) (hij : i ≠ j)
    (he₁ : ∀ env, starEach [e₁, e₂] env = (false, eval e₁ env) :: starEach [e₂] env) (he₂ : ∀ env, starEach [e₂] env = (false, eval e₂ env) :: starEach [] env)
    (hsw : ∀ env, swapsWithSole [.Tuple [.Name x px, .Name y py] k tp] (.Tuple [e₁, e₂] k' vp) pos.line env = pure false)
    (hw : ∀ env, env.scope = G.sc → swappedStores [.Tuple [.Name x px, .Name y py] k tp] (.Tuple [e₁, e₂] k' vp) env = pure (some [x, y])) (h₁ : SndE prog w hb n G none e₁ d₁) (h₂ : SndN prog w hb n G none e₂ d₂) :
    SndS prog w hb n G none (some j) (.Assign [.Tuple [.Name x px, .Name y py] k tp] (.Tuple [e₁, e₂] k' vp) pos) (dTupIN i j d₁ d₂) := sS_tupIN h₁ h₂ (st1 hx).1 (st1 hx).2.1 (st1 hy).1 (st1 hy).2.1 hij he₁ he₂ hsw hw

theorem sw_comp (elt : Expr) (gens : List Comprehension) (s : Scope) (p : Pos) (t : Str) (tp : Pos) (line : Nat) (env : Env) (sc : Scope) (h : env.scope = sc) :
    swapsWith (.ListComp elt gens s p) (some (.Name t tp)) line env = pure ((({ env with scope := sc } : Env).blockKind == .function) && (sc.names.lookup t == some .local) && (tp.line == p.line) && !(s.names.any fun (n, k) => n == t && (k == .local || k == .cell))) := by
  subst h; rfl
end
end Mine
end

/- part M15 -/
section
open PySem PySem.Calls PyProof.Rows
namespace Mine
section
variable {prog : Program} {w : World} {hb : Heap} {mg mb : Str → Option Value} {n : Nat} {G G' : Sig} {ph : Option Nat}

noncomputable def intV : List V → Option V
  | [.int x] => some (.int x)
  | _ => none
theorem sB_int : SndB prog w (.type "int") intV := by
  intro A s P args vs v Q E hh hf hv hd hQ
  unfold intV at hd
  split at hd
  · cases hd
    simp only [VRs, VR] at hv
    obtain ⟨X, r, rfl, ⟨t, rfl⟩, rfl⟩ := hv
    exact call_int_int (hQ s.heap s.toks _ (Ext.refl _) (by simp only [VR]; exact ⟨_, rfl⟩))
  · cases hd
theorem s_typ {x : Str} {T : String} {np pos : Pos} {e : Expr} {es : List Expr} {D : List V → Option V} {d : St → Option (List V)} (W : World0 hb mg mb) (hx : mg x = none ∧ mb x = some (.type T)) (hf : SndB prog w (.type T) D) (hk : glOK G x = true)
    (he : ∀ env, starEach (e :: es) env = (false, eval e env) :: starEach es env) (hp : ∀ env, (backTo pos (starEach es env)).any (·.1) = false) (hL : SndL prog w hb n G ph (e :: es) d) : SndE prog w hb n G ph (.Call (.Name x np) (e :: es) [] pos) (eCall D d) := by
  intro A env h0 P μ ρ s v Q E hμ hA F ev hQ
  obtain ⟨as, ea, ev⟩ := Option.bind_eq_some_iff.mp ev
  refine Call_ (wp_blt W.B (gl1 hk).1 hx F ?_ (gl1 hk).2)
  refine callWith_type1 (hL A env h0 P μ ρ s as pos _ E hμ hA F ea fun h' tk Xs k hXs => ?_) (he env) (hp env)
  exact hf A _ (Av P μ) as Xs v Q E hA.1 (F.ext k).av hXs ev fun h₂ tk₂ X k₂ hX => hQ h₂ tk₂ X (k.trans k₂) hX

/-- the list that may turn has turned; all else stands -/
theorem Frm.turned2 {h0 : Heap} {P : Addr → Prop} {i : Nat} {a : Addr} {env : Env} {ρ : St} {h h' : Heap} {u : V} {xs : List V} {l : List Value} (F : Frm hb G h0 P (some (i, a)) env ρ h) (hu : ρ.getD i none = some u)
    (hs : ∀ b o, b ≠ a → h.get? b = some o → h'.get? b = some o) (hl : h'.PlainList a (List.toArray l)) (hv : VRs (Av P (some (i, a))) h' xs l) : Frm hb G h0 P (some (i, a)) env (ρ.set i (some (.list xs))) h' ∧ Step env G (some (i, a)) h (some (i, a)) h' := by
  obtain ⟨hpa, ha0, items, nn, hit⟩ := F.mu i a rfl
  have ne : ∀ {b o}, h.get? b = some o → ¬ SeqObj o → b ≠ a := fun e q z => by subst z; rw [hit] at e; cases e; exact q ⟨_, _, rfl⟩
  have keepV : ∀ b o, Av P (some (i, a)) b → h.get? b = some o → SeqObj o → Av P (some (i, a)) b ∧ h'.get? b = some o := fun b o hp hg _ => ⟨hp, hs b o (hp.2 i a rfl) hg⟩
  have nsI : ∀ {m}, h.Ns env.locals m → h'.Ns env.locals m := fun x => by
    obtain ⟨o, es, ep, e1, e2, r⟩ := x
    exact ⟨o, es, ep, hs _ _ (ne e1 fun q => by obtain ⟨_, _, q⟩ := q; rw [e2] at q; cases q) e1, e2, r⟩
  have clI : ∀ {c v}, h.IsCell c v → h'.IsCell c v := fun x => by
    obtain ⟨o, e1, e2⟩ := x
    exact ⟨o, hs _ _ (ne e1 fun q => by obtain ⟨_, _, q⟩ := q; rw [e2] at q; cases q) e1, e2⟩
  have bd : ∀ {x X}, Bd env h x X → Bd env h' x X := fun hB => by
    rcases hB with ⟨q1, m, q2, q3⟩ | ⟨q1, c, q2, q3⟩
    · exact .inl ⟨q1, m, nsI q2, q3⟩
    · exact .inr ⟨q1, c, q2, clI q3⟩
  refine ⟨⟨F.scope, F.kind, F.glob, F.blt, F.base, fun b o e => hs b o (fun z => by subst z; rw [ha0] at e; cases e) (F.keep b o e), fun b e => ?_, let ⟨m, q⟩ := F.ns; ⟨m, nsI q⟩, F.lnew, fun x hx => ?_, F.apart, F.inj, fun x j v e1 e2 => ?_, fun j b e => ?_⟩,
    fun b o hb' e => hs b o (fun z => hb' (.inr (.inr ⟨i, by rw [z]⟩))) e, fun j b e => .inl ⟨j, e⟩⟩
  · by_cases z : b = a
    · rw [z]; exact hpa
    · refine F.free b ?_
      cases q : h.get? b with
      | none => rfl
      | some o => rw [hs b o z q] at e; cases e
  · obtain ⟨c, w', e1, e2, e3⟩ := F.cel x hx
    exact ⟨c, w', e1, e2, clI e3⟩
  · by_cases hj : j = i
    · subst hj
      obtain rfl := getD_set_eq e2
      obtain ⟨X, hB, hV⟩ := F.bnd x j u e1 hu
      rcases hV with ⟨q, _⟩ | ⟨b, ys, r, q1, q2, q3, q4, q5⟩
      · exact absurd rfl (q a)
      · cases q1; subst q2
        exact ⟨.ref a, bd hB, .inr ⟨a, xs, l, rfl, rfl, rfl, hl, hv⟩⟩
    · rw [getD_set_ne hj] at e2
      obtain ⟨X, hB, hV⟩ := F.bnd x j v e1 e2
      refine ⟨X, bd hB, ?_⟩
      rcases hV with ⟨q, hV⟩ | ⟨b, ys, r, q1, q2, q3, q4, q5⟩
      · exact .inl ⟨q, VR.mono keepV _ _ hV⟩
      · cases q1; exact absurd rfl hj
  · cases e; exact ⟨hpa, ha0, _, hl⟩

/-- y = .. where the list a may turn and is none of it -/
theorem k_asg {x : Str} {i j : Nat} {np pos : Pos} {e : Expr} {d : St → Option V} (h : stOK G (some j) x i = true) (hs : ∀ env, env.scope = G.sc → swapsWith e (some (.Name x np)) pos.line env = pure false) (hd : SndE prog w hb n G (some j) e d)
    {A : Around} {env : Env} {h0 : Heap} {P : Addr → Prop} {a : Addr} {ρ : St} {s : Shared} {v : V} {Q : Flow → Shared → Prop} {E : Value → Shared → Prop} (hA : AOK n A) (F : Frm hb G h0 P (some (j, a)) env ρ s.heap) (ev : d ρ = some v)
    (hQ : ∀ h' tk, Frm hb G h0 P (some (j, a)) env (ρ.set i (some v)) h' → Step env G (some (j, a)) s.heap (some (j, a)) h' → Q .next { s with heap := h', toks := tk }) : wpAny (model prog w) A (exec (.Assign [.Name x np] e pos) env) Q E s := by
  obtain ⟨h1, h2, h3⟩ := st1 h
  refine wpAny_Assign_Name (hd A env h0 P _ ρ s v _ E rfl hA F ev fun h' tk X k hX => ?_) (hs env F.scope)
  exact wp_put h1 h2 (by simpa using h3) (F.ext k) hX fun h₂ tk₂ F₂ S₂ => hQ h₂ tk₂ F₂ ((Step.ext k).trans (F.ext k) S₂)
theorem k_setI {x : Str} {i : Nat} {np sp pos : Pos} {e idx : Expr} {di dv : St → Option V} (hm : muOK G x i = true) (hs : ∀ env, swapsWith e (some (.Subscript (.Name x np) idx sp)) pos.line env = pure false)
    (hdi : SndE prog w hb n G (some i) idx di) (hdv : SndE prog w hb n G (some i) e dv)
    {A : Around} {env : Env} {h0 : Heap} {P : Addr → Prop} {a : Addr} {ρ : St} {s : Shared} {xs : List V} {v : V} {j : Nat} {Q : Flow → Shared → Prop} {E : Value → Shared → Prop} (hA : AOK n A) (F : Frm hb G h0 P (some (i, a)) env ρ s.heap)
    (e1 : ρ.getD i none = some (.list xs)) (e2 : dv ρ = some v) (e3 : di ρ = some (.int (.ofNat j))) (h1 : j + 1 ≤ xs.length) (h2 : xs.length ≤ 10000)
    (hQ : ∀ h' tk, Frm hb G h0 P (some (i, a)) env (ρ.set i (some (.list (xs.set j v)))) h' → Step env G (some (i, a)) s.heap (some (i, a)) h' → Q .next { s with heap := h', toks := tk }) :
    wpAny (model prog w) A (exec (.Assign [.Subscript (.Name x np) idx sp] e pos) env) Q E s := by
  obtain ⟨hi, hd', hc⟩ := mu1 hm
  refine wpAny_Assign_Subscript (hdv A env h0 P _ ρ s v _ E rfl hA F e2 fun g₁ tk₁ Y k₁ hY => ?_) (hs env)
  refine muName hi hd' hc (F.ext k₁) e1 fun ys l hy hl hvs => ?_
  cases hy
  refine hdi A env h0 P _ ρ _ _ _ E rfl hA (F.ext k₁) e3 fun g₂ tk₂ K k₂ hK => ?_
  simp only [VR] at hK
  obtain ⟨t, rfl⟩ := hK
  have hL := hvs.length
  refine wp_setPlain (hl.at (k₂ a)) (by omega) (by omega) fun g₃ hl₃ hs₃ => ?_
  have k₁₂ := k₁.trans k₂
  obtain ⟨F₂, S₂⟩ := (F.ext k₁₂).turned e1 hs₃ hl₃ (VRs.set (hY.ext k₂) j (hvs.ext k₂))
  exact hQ g₃ tk₂ F₂ ((Step.ext k₁₂).trans (F.ext k₁₂) S₂)

/-! the draw -/
noncomputable def G_law_draw : Sig := ⟨scopeOfS (nth 20), [("pool", 0), ("many", 1), ("spot", 2)], []⟩
noncomputable def drT : St → Option Bool := tCmp .Lt (eV 2) (eCall lenV (lCons (muIdx 0 (eI 0)) lNil))
noncomputable def drA : St → Option V := eBin .Mod (eCall absV (lCons (eIdx (muIdx 0 (eI 0)) (eV 2)) lNil)) (eV 1)
noncomputable def drB : St → Option V := eBin .Mod (eIdx (eTup (lCons (eI 5) (lCons (eI 3) (lCons (eI 1) lNil)))) (eBin .Mod (eV 2) (eI 3))) (eV 1)
/-- pool [cells, k]: the number drawn below c -/
noncomputable def drawN (cells : List V) (k : Nat) (c : Nat) : Option Int :=
  match eIf drT drA drB [some (.list [.list cells, .int (Int.ofNat k + 1)]), some (.int c), some (.int (.ofNat k))] with
  | some (.int v) => some v
  | _ => none

theorem wp_draw {i : Nat} {dp np pos cp : Pos} {c : Nat} {k k' : Nat} {xn : Str} {cells : List V} {v : Int} (W : World0 hb mg mb) (hk : glOK G "_law_draw" = true) (hm : muOK G xn i = true)
    {A : Around} {env : Env} {h0 : Heap} {P : Addr → Prop} {a : Addr} {ρ : St} {s : Shared} {Q : Value → Shared → Prop} {E : Value → Shared → Prop} (hA : AOK (n + 1) A) (F : Frm hb G h0 P (some (i, a)) env ρ s.heap)
    (hc : ρ.getD i none = some (.list [.list cells, .int (.ofNat k)])) (hd : drawN cells k c = some v)
    (hQ : ∀ h' tk t, Frm hb G h0 P (some (i, a)) env (ρ.set i (some (.list [.list cells, .int (.ofNat (k + 1))]))) h' → Step env G (some (i, a)) s.heap (some (i, a)) h' → Q (.int v t) { s with heap := h', toks := tk }) :
    wpAny (model prog w) A (eval (.Call (.Name "_law_draw" dp) [.Name xn np, .Constant (.int (c : Int)) k' cp] [] pos) env) Q E s := by
  obtain ⟨g1, g2⟩ := gl1 hk
  obtain ⟨m1, m2, m3⟩ := mu1 hm
  obtain ⟨fa, o, pm, code, doc, w1, w2, w3, w4⟩ := W.has 20 (by decide)
  have hn : nameOfS (nth 20) = "_law_draw" := by rfl
  rw [hn] at w1
  refine Call_ (wp_glob W.B g1 w1 F ?_ g2)
  refine callWith_def w3 (args_cons (muName m1 m2 m3 F hc fun xs l hxs hl hvs => args_cons (wpAny_Constant_int (args_nil ?_)))) 
  cases hxs
  refine ⟨F.hb _ _ w2, ?_⟩
  have room : A.depth < recursionLimit := by have := hA.2.1; omega
  refine wpAny_call (call_cells (params := argsOfS (nth 20)) (body := bodyOfS (nth 20)) (scope := scopeOfS (nth 20)) (binds := [("pool", .ref a), ("many", .int (c : Int) s.toks)]) room (F.hb _ _ w2) w3 (W.B.nolimit.keeps F.hb) (w4.keeps F.hb) (by rfl) (fun x hx => ?_) (fun h₁ tk Fr₁ Cl₁ => ?_) (by rfl) (by rfl) (by rfl))
  · rcases List.mem_cons.mp hx with rfl | hx
    · exact .inl (show (scopeOfS (nth 20)).names.lookup (Str.ofString "pool") = some NameKind.local by decide +kernel)
    · rcases List.mem_cons.mp hx with rfl | hx
      · exact .inl (show (scopeOfS (nth 20)).names.lookup (Str.ofString "many") = some NameKind.local by decide +kernel)
      · cases hx
  have hAd : AOK n (A.deeper (envOfC (nameOfS (nth 20)) (scopeOfS (nth 20)) s.heap.objs.size fa code)) := hA.deeper
  have kk : Ext s.heap h₁ := Fr₁.keep
  obtain ⟨hpa, ha0, _⟩ := F.mu i a rfl
  have av : ∀ b, Av P (some (i, a)) b → Av P (some (0, a)) b := fun b q => ⟨q.1, fun j d e z => by cases e; exact q.2 i a rfl z⟩
  have va : ∀ b, Av P (some (0, a)) b → Av P (some (i, a)) b := fun b q => ⟨q.1, fun j d e z => by cases e; exact q.2 0 a rfl z⟩
  have C : Frm hb G_law_draw h0 P (some (0, a)) (envOfC (nameOfS (nth 20)) (scopeOfS (nth 20)) s.heap.objs.size fa code) [some (.list [.list cells, .int (.ofNat k)]), some (.int (c : Int)), none] h₁ := by
    refine ⟨rfl, by rfl, rfl, rfl, F.base, F.keep.trans kk, fun b e => F.free b (kk.none e), ⟨_, Fr₁.ns⟩, F.keep.none (get?_fresh _), (fun x hx => by cases hx), Cl₁.apart, fun x y j h1 h2 => snd_inj (by decide) (mem_of_lookup' h1) (mem_of_lookup' h2), fun x j u h1 h2 => ?_, (fun j b e => by cases e; exact ⟨hpa, ha0, _, hl.at (kk a)⟩)⟩
    have hmem := mem_of_lookup' h1
    simp only [G_law_draw, List.mem_cons, Prod.mk.injEq, List.not_mem_nil, or_false] at hmem
    rcases hmem with ⟨rfl, rfl⟩ | ⟨rfl, rfl⟩ | ⟨rfl, rfl⟩
    · cases h2
      exact ⟨.ref a, .inl ⟨by rfl, _, Fr₁.ns, by rfl⟩, .inr ⟨a, _, l, rfl, rfl, rfl, hl.at (kk a), (hvs.ext kk).sub av⟩⟩
    · cases h2
      exact ⟨.int (c : Int) s.toks, .inl ⟨by rfl, _, Fr₁.ns, by rfl⟩, .inl ⟨(fun d e => by cases e), by simp only [VR]; exact ⟨_, rfl⟩⟩⟩
    · cases h2
  have fin : ∀ (h₂ h₃ : Heap) (tk₃ : Nat) (Z : Value), Frm hb G_law_draw h0 P (some (0, a)) (envOfC (nameOfS (nth 20)) (scopeOfS (nth 20)) s.heap.objs.size fa code) [some (.list [.list cells, .int (Int.ofNat k + 1)]), some (.int (c : Int)), some (.int (.ofNat k))] h₂ →
      Step (envOfC (nameOfS (nth 20)) (scopeOfS (nth 20)) s.heap.objs.size fa code) G_law_draw (some (0, a)) h₁ (some (0, a)) h₂ → Ext h₂ h₃ → (∃ t, Z = .int v t) → Q Z { s with heap := h₃, toks := tk₃ } := by
    rintro h₂ h₃ tk₃ _ C₂ S₂ k₃ ⟨t, rfl⟩
    obtain ⟨X, hB, hV⟩ := (C₂.ext k₃).bnd "pool" 0 _ (by decide +kernel) rfl
    rcases hV with ⟨q, _⟩ | ⟨b, ys, r, q1, q2, q3, q4, q5⟩
    · exact absurd rfl (q a)
    · cases q1; cases q3
      have hs : ∀ b o, b ≠ a → s.heap.get? b = some o → h₃.get? b = some o := fun b o hba e => k₃ b o (S₂.1 b o (fun ho => by
        rcases ho with z | ⟨x, hx, _⟩ | ⟨j, z⟩
        · have z' : b = s.heap.objs.size := z
          subst z'; rw [show s.heap.get? s.heap.objs.size = none from get?_fresh _] at e; cases e
        · cases hx
        · cases z; exact hba rfl) (kk b o e))
      obtain ⟨F₃, S₃⟩ := F.turned2 (h' := h₃) hc hs q4 (q5.sub va)
      exact hQ h₃ tk₃ t F₃ S₃
  unfold drawN at hd
  split at hd
  · rename_i v' hv'
    cases hd
    obtain ⟨bb, e1, e2⟩ := Option.bind_eq_some_iff.mp hv'
    refine wpAny_execs_cons (k_asg (G := G_law_draw) (n := n) (j := 0) (i := 2) (d := muIdx 0 (eI 1)) (v := .int (.ofNat k)) (by decide +kernel) (fun _ _ => rfl) (s_muIdx (by decide +kernel) (fun _ _ => rfl) sE_int) hAd C rfl fun g₁ t₁ C₁ S₁ => ?_)
    refine wpAny_execs_cons (k_setI (G := G_law_draw) (n := n) (i := 0) (di := eI 1) (dv := eBin .Add (eV 2) (eI 1)) (j := 1) (v := .int (Int.ofNat k + 1)) (by decide +kernel) (fun _ => rfl) sE_int (sE_bin (s_v (by decide +kernel)) sE_int) hAd C₁ rfl rfl rfl (by simp) (by simp) fun g₂ t₂ C₂ S₂ => ?_)
    have S₁₂ := S₁.trans C₁ S₂
    refine wpAny_execs_cons (wpAny_If ((?hT : SndT prog w hb n G_law_draw (some 0) _ drT) _ _ h0 P _ _ _ bb _ _ rfl hAd C₂ e1 fun g₃ t₃ k₃ => ?_))
    case hT => exact sT_cmp (s_v (by decide +kernel)) (s_blt W W.len sB_len (by decide +kernel) (fun _ => rfl) (fun _ => rfl) (sL_cons (s_muIdx (by decide +kernel) (fun _ _ => rfl) sE_int) sL_nil (fun _ => rfl))) rfl
    have C₃ := C₂.ext k₃
    cases bb with
    | true =>
      refine wpAny_execs_cons (wpAny_Return_some ((?hAe : SndE prog w hb n G_law_draw (some 0) _ drA) _ _ h0 P _ _ _ _ _ _ rfl hAd C₃ e2 fun g₄ t₄ X k₄ hX => ?_))
      case hAe => exact sE_bin (s_blt W W.abs sB_abs (by decide +kernel) (fun _ => rfl) (fun _ => rfl) (sL_cons (sE_idx (s_muIdx (by decide +kernel) (fun _ _ => rfl) sE_int) (s_v (by decide +kernel)) (fun _ _ => rfl)) sL_nil (fun _ => rfl))) (s_v (by decide +kernel))
      simp only [VR] at hX
      exact fin g₂ g₄ t₄ X C₂ S₁₂ (k₃.trans k₄) hX
    | false =>
      refine wpAny_execs_nil ?_
      refine wpAny_execs_cons (wpAny_Return_some ((?hBe : SndE prog w hb n G_law_draw (some 0) _ drB) _ _ h0 P _ _ _ _ _ _ rfl hAd C₃ e2 fun g₄ t₄ X k₄ hX => ?_))
      case hBe => exact sE_bin (sE_idx (sE_tup (sL_cons sE_int (sL_cons sE_int (sL_cons sE_int sL_nil (fun _ => rfl)) (fun _ => rfl)) (fun _ => rfl))) (sE_bin (s_v (by decide +kernel)) sE_int) (fun _ _ => rfl)) (s_v (by decide +kernel))
      simp only [VR] at hX
      exact fin g₂ g₄ t₄ X C₂ S₁₂ (k₃.trans k₄) hX
  · cases hd
end
end Mine
end

/- part M16 -/
section
open PySem PySem.Calls PyProof.Rows
namespace Mine
section
variable {prog : Program} {w : World} {hb : Heap} {mg mb : Str → Option Value} {n : Nat} {G G' : Sig} {ph : Option Nat}

noncomputable def poolV (cells : List V) (k : Nat) : V := .list [.list cells, .int (.ofNat k)]
noncomputable def dDraws (i : Nat) (is : List Nat) (c₁ c₂ c₃ : Nat) : St → Option (Fl × St) := fun ρ => match ρ.getD i none with
  | some (.list [.list cells, .int (.ofNat k)]) => (drawN cells k c₁).bind fun v₁ => (drawN cells (k + 1) c₂).bind fun v₂ => (drawN cells (k + 2) c₃).bind fun v₃ =>
      (putAll is [.int (1 + v₁), .int (1 + v₂), .int v₃] (((ρ.set i (some (poolV cells (k + 1)))).set i (some (poolV cells (k + 2)))).set i (some (poolV cells (k + 3))))).bind fun ρ' => some (.next, ρ')
  | _ => none
theorem getD_set_self {ρ : St} {i : Nat} {u : V} {v : V} (h : ρ.getD i none = some u) : (ρ.set i (some v)).getD i none = some v := by
  by_cases hl : i < ρ.length
  · simp [List.getD, hl]
  · rw [List.getD, List.getElem?_eq_none (by omega)] at h; cases h
theorem sS_draws {xn : Str} {i : Nat} {xs : List Str} {is : List Nat} {elts : List Expr} {k k' k1 k2 k3 k4 k5 : Nat} {c₁ c₂ c₃ : Nat} {tp vp pos p1 p2 p3 p4 p5 b1 b2 d1 d2 d3 n1 n2 n3 q1 q2 q3 : Pos} {es : List Expr} (W : World0 hb mg mb) (hk : glOK G "_law_draw" = true) (hm : muOK G xn i = true)
    (hN : nsOK G (some i) xs is = true) (hel : namesOf elts = some xs)
    (hes : es = [.BinOp (.Constant (.int 1) k1 p1) .Add (.Call (.Name "_law_draw" d1) [.Name xn n1, .Constant (.int (c₁ : Int)) k2 q1] [] p2) b1,
      .BinOp (.Constant (.int 1) k3 p3) .Add (.Call (.Name "_law_draw" d2) [.Name xn n2, .Constant (.int (c₂ : Int)) k4 q2] [] p4) b2,
      .Call (.Name "_law_draw" d3) [.Name xn n3, .Constant (.int (c₃ : Int)) k5 q3] [] p5])
    (hsole : ∀ env, swapsWithSole [.Tuple elts k tp] (.Tuple es k' vp) pos.line env = pure false)
    (hsw : ∀ env, env.scope = G.sc → swappedStores [.Tuple elts k tp] (.Tuple es k' vp) env = pure none) :
    SndS prog w hb (n + 1) G (some i) (some i) (.Assign [.Tuple elts k tp] (.Tuple es k' vp) pos) (dDraws i is c₁ c₂ c₃) := by
  intro A env h0 P μ ρ s r Q E hμ hA F ev hQ
  obtain ⟨⟨j, a⟩, rfl, hj⟩ := Option.map_eq_some_iff.mp hμ
  dsimp only at hj; subst hj
  unfold dDraws at ev
  split at ev
  · rename_i cells kk hc
    obtain ⟨v₁, e1, ev1⟩ := Option.bind_eq_some_iff.mp ev
    obtain ⟨v₂, e2, ev2⟩ := Option.bind_eq_some_iff.mp ev1
    obtain ⟨v₃, e3, ev3⟩ := Option.bind_eq_some_iff.mp ev2
    obtain ⟨ρ', e4, ev4⟩ := Option.bind_eq_some_iff.mp ev3
    cases ev4
    obtain ⟨t1, t2, t3⟩ := stores_each (prog := prog) (w := w) env elts xs hel
    have hN' := ns1 hN
    refine Assign_Tuple (wpAny_Tuple_spliced ?_) (hsole env) (hsw env F.scope)
    subst hes
    refine args_cons (wpAny_BinOp (wpAny_Constant_int ?_))
    refine wp_draw W hk hm hA F hc e1 fun h₁ tk₁ u₁ F₁ S₁ => ?_
    refine PyProof.Rows.add_int ?_
    refine args_cons (wpAny_BinOp (wpAny_Constant_int ?_))
    refine wp_draw W hk hm hA F₁ (getD_set_self hc) e2 fun h₂ tk₂ u₂ F₂ S₂ => ?_
    refine PyProof.Rows.add_int ?_
    refine args_cons (wp_draw W hk hm hA F₂ (getD_set_self (getD_set_self hc)) e3 fun h₃ tk₃ u₃ F₃ S₃ => ?_)
    refine args_nil ⟨by show 3 ≤ sizeLine; rw [sizeLine_eq]; omega, ?_⟩
    refine wpAny_assign_Tuple hA.1 ⟨_, Heap.get?_push_size _ rfl, rfl, _, rfl⟩ ?_ t3 fun h₄ k₄ => ?_
    · have q1 := hN'.len; have q2 := putAll_len e4
      simp only [List.length_cons, List.length_nil] at q2
      show (assignEach elts env).length = 3
      omega
    have kk₄ : Ext h₃ h₄ := (Ext.push h₃ _).trans (ext_of_but k₄)
    have S₁₃ := (S₁.trans F₁ S₂).trans F₂ S₃
    refine wp_stores (ph := some j) rfl _ _ _ _ _ _ ρ' _ _ t1 hN' e4 (F₃.ext kk₄) ?_ fun h₅ tk₅ F₅ S₅ => hQ h₅ tk₅ _ ⟨rfl, _, rfl, F₅, (S₁₃.trans F₃ (Step.ext kk₄)).trans (F₃.ext kk₄) S₅⟩
    simp only [VRs, VR]
    exact ⟨_, _, rfl, ⟨_, rfl⟩, _, _, rfl, ⟨_, rfl⟩, _, _, rfl, ⟨_, rfl⟩, rfl⟩
  · cases ev
end
end Mine
end

/- part F1 -/
section
open PySem PySem.Calls PyProof.Rows
namespace Mine
section
variable {prog : Program} {w : World} {hb : Heap} {mg mb : Str → Option Value}
theorem and_ {a b : Bool} (h : a = true) (k : b = true) : (a && b) = true := by rw [h, k]; rfl

noncomputable def G_ztrim : Sig := ⟨scopeOfS (nth 3), [("row", 0), ("size", 1)], []⟩
noncomputable def d_ztrim : St → Option (Fl × St) :=
  (dSeq (dAsg 1 (eCall lenV (lCons (eV 0) lNil)))
    (dSeq (whileD (tAnd (tCmp .Gt (eV 1) (eI 0)) (tCmp .Eq (eIdx (eV 0) (eBin .Sub (eV 1) (eI 1))) (eI 0))) (dSeq (dAug 1 .Sub (eI 1))
      dNil) 400)
    (dSeq (dRet (eN (listN (eUpto (eV 0) (eV 1)))))
    dNil)))
noncomputable def D_ztrim : List V → Option V := fnV 1 1 d_ztrim
theorem b_ztrim (W : World0 hb mg mb) : SndSs prog w hb 0 G_ztrim none none (bodyOfS (nth 3)) d_ztrim := by
  delta d_ztrim
  refine sSs_cons (s_asg (by decide +kernel) (fun _ _ => rfl) ?_) ?_
  · refine s_blt W W.len sB_len (by decide +kernel) (fun _ => rfl) (fun _ => rfl) ?_
    refine sL_cons ?_ ?_ (fun _ => rfl)
    · exact s_v (by decide +kernel)
    exact sL_nil
  refine sSs_cons (sS_while 400 ?_ ?_) ?_
  · refine sT_and ?_ ?_
    · refine sT_cmp ?_ ?_ rfl
      · exact s_v (by decide +kernel)
      · exact sE_int
    · refine sT_cmp ?_ ?_ rfl
      · refine sE_idx ?_ ?_ (fun _ _ => rfl)
        · exact s_v (by decide +kernel)
        · refine sE_bin ?_ ?_
          · exact s_v (by decide +kernel)
          · exact sE_int
      · exact sE_int
  · refine sSs_cons (s_aug (by decide +kernel) (by decide +kernel) ?_) ?_
    · exact sE_int
    exact sSs_nil
  refine sSs_cons (s_ret ?_) ?_
  · refine sE_ofN ?_
    refine s_listOf W W.list (by decide +kernel) (fun _ => rfl) ?_
    refine sE_upto ?_ ?_
    · exact s_v (by decide +kernel)
    · exact s_v (by decide +kernel)
  exact sSs_nil
theorem f_ztrim (W : World0 hb mg mb) : SndF prog w hb mg 1 "ztrim" D_ztrim :=
  s_def 3 (N := 1) (ps := ["row"]) W (by decide) rfl (by decide +kernel) (fun pm code doc vs hv => by
    match vs, hv with
    | [a], _ => rfl) rfl rfl (b_ztrim W )

noncomputable def G_zlead : Sig := ⟨scopeOfS (nth 4), [("p", 0)], []⟩
noncomputable def d_zlead : St → Option (Fl × St) :=
  (dSeq (dRet (eIf (tCmp .Gt (eCall lenV (lCons (eV 0) lNil)) (eI 0)) (eIdx (eV 0) (eNeg (eI 1))) (eI 0)))
    dNil)
noncomputable def D_zlead : List V → Option V := fnV 1 0 d_zlead
theorem b_zlead (W : World0 hb mg mb) : SndSs prog w hb 0 G_zlead none none (bodyOfS (nth 4)) d_zlead := by
  delta d_zlead
  refine sSs_cons (s_ret ?_) ?_
  · refine sE_if ?_ ?_ ?_
    · refine sT_cmp ?_ ?_ rfl
      · refine s_blt W W.len sB_len (by decide +kernel) (fun _ => rfl) (fun _ => rfl) ?_
        refine sL_cons ?_ ?_ (fun _ => rfl)
        · exact s_v (by decide +kernel)
        exact sL_nil
      · exact sE_int
    · refine sE_idx ?_ ?_ (fun _ _ => rfl)
      · exact s_v (by decide +kernel)
      · refine sE_neg ?_
        exact sE_int
    · exact sE_int
  exact sSs_nil
theorem f_zlead (W : World0 hb mg mb) : SndF prog w hb mg 1 "zlead" D_zlead :=
  s_def 4 (N := 0) (ps := ["p"]) W (by decide) rfl (by decide +kernel) (fun pm code doc vs hv => by
    match vs, hv with
    | [a], _ => rfl) rfl rfl (b_zlead W )

noncomputable def G_zadd : Sig := ⟨scopeOfS (nth 5), [("a", 0), ("b", 1), ("size", 2)], ["a", "b"]⟩
noncomputable def d_zadd : St → Option (Fl × St) :=
  (dSeq (dAsg 2 (eCall maxV (lCons (eCall lenV (lCons (eV 0) lNil)) (lCons (eCall lenV (lCons (eV 1) lNil)) lNil))))
    (dSeq (dRet (eCall D_ztrim (lCons (eN (dComp [3] [0, 1] (iRange (eV 2)) (aName 3) tT (mEmit (eBin .Add (eIf (tCmp .Lt (eV 3) (eCall lenV (lCons (eV 0) lNil))) (eIdx (eV 0) (eV 3)) (eI 0)) (eIf (tCmp .Lt (eV 3) (eCall lenV (lCons (eV 1) lNil))) (eIdx (eV 1) (eV 3)) (eI 0)))))) lNil)))
    dNil))
noncomputable def D_zadd : List V → Option V := fnV 2 2 d_zadd
theorem b_zadd (W : World0 hb mg mb) (h_ztrim : SndF prog w hb mg 1 "ztrim" D_ztrim) : SndSs prog w hb 1 G_zadd none none (bodyOfS (nth 5)) d_zadd := by
  delta d_zadd
  refine sSs_cons (s_asg (by decide +kernel) (fun _ _ => rfl) ?_) ?_
  · refine s_blt W W.max sB_max (by decide +kernel) (fun _ => rfl) (fun _ => rfl) ?_
    refine sL_cons ?_ ?_ (fun _ => rfl)
    · refine s_blt W W.len sB_len (by decide +kernel) (fun _ => rfl) (fun _ => rfl) ?_
      refine sL_cons ?_ ?_ (fun _ => rfl)
      · exact s_v (by decide +kernel)
      exact sL_nil
    refine sL_cons ?_ ?_ (fun _ => rfl)
    · refine s_blt W W.len sB_len (by decide +kernel) (fun _ => rfl) (fun _ => rfl) ?_
      refine sL_cons ?_ ?_ (fun _ => rfl)
      · exact s_v (by decide +kernel)
      exact sL_nil
    exact sL_nil
  refine sSs_cons (s_ret ?_) ?_
  · refine s_call W h_ztrim (by first | decide | omega) (by decide +kernel) (fun _ => rfl) ?_
    refine sL_cons ?_ ?_ (fun _ => rfl)
    · refine sE_ofN ?_
      refine s_comp1 (G' := ⟨relabelS _ (Sig.sc G_zadd), [("at", 3), ("a", 0), ("b", 1)], []⟩) (by decide +kernel) rfl ?_ ?_ ?_ ?_ (fun _ _ => rfl)
      · refine s_range W W.range (by decide +kernel) (fun _ => rfl) ?_
        exact s_v (by decide +kernel)
      · exact s_aName (by decide +kernel)
      · exact sIf_nil
      · refine sE_bin ?_ ?_
        · refine sE_if ?_ ?_ ?_
          · refine sT_cmp ?_ ?_ rfl
            · exact s_v (by decide +kernel)
            · refine s_blt W W.len sB_len (by decide +kernel) (fun _ => rfl) (fun _ => rfl) ?_
              refine sL_cons ?_ ?_ (fun _ => rfl)
              · exact s_v (by decide +kernel)
              exact sL_nil
          · refine sE_idx ?_ ?_ (fun _ _ => rfl)
            · exact s_v (by decide +kernel)
            · exact s_v (by decide +kernel)
          · exact sE_int
        · refine sE_if ?_ ?_ ?_
          · refine sT_cmp ?_ ?_ rfl
            · exact s_v (by decide +kernel)
            · refine s_blt W W.len sB_len (by decide +kernel) (fun _ => rfl) (fun _ => rfl) ?_
              refine sL_cons ?_ ?_ (fun _ => rfl)
              · exact s_v (by decide +kernel)
              exact sL_nil
          · refine sE_idx ?_ ?_ (fun _ _ => rfl)
            · exact s_v (by decide +kernel)
            · exact s_v (by decide +kernel)
          · exact sE_int
    exact sL_nil
  exact sSs_nil
theorem f_zadd (W : World0 hb mg mb) (h_ztrim : SndF prog w hb mg 1 "ztrim" D_ztrim) : SndF prog w hb mg 2 "zadd" D_zadd :=
  s_def 5 (N := 2) (ps := ["a", "b"]) W (by decide) rfl (by decide +kernel) (fun pm code doc vs hv => by
    match vs, hv with
    | [a, b], _ => rfl) rfl rfl (b_zadd W h_ztrim)

noncomputable def G_zneg : Sig := ⟨scopeOfS (nth 6), [("p", 0)], []⟩
noncomputable def d_zneg : St → Option (Fl × St) :=
  (dSeq (dRet (eN (dComp [1] [] (iList (eV 0)) (aName 1) tT (mEmit (eNeg (eV 1))))))
    dNil)
noncomputable def D_zneg : List V → Option V := fnV 1 1 d_zneg
theorem b_zneg (W : World0 hb mg mb) : SndSs prog w hb 0 G_zneg none none (bodyOfS (nth 6)) d_zneg := by
  delta d_zneg
  refine sSs_cons (s_ret ?_) ?_
  · refine sE_ofN ?_
    refine s_comp1 (G' := ⟨relabelS _ (Sig.sc G_zneg), [("number", 1)], []⟩) (by decide +kernel) rfl ?_ ?_ ?_ ?_ (fun _ _ => rfl)
    · refine sI_list ?_
      exact s_v (by decide +kernel)
    · exact s_aName (by decide +kernel)
    · exact sIf_nil
    · refine sE_neg ?_
      exact s_v (by decide +kernel)
  exact sSs_nil
theorem f_zneg (W : World0 hb mg mb) : SndF prog w hb mg 1 "zneg" D_zneg :=
  s_def 6 (N := 1) (ps := ["p"]) W (by decide) rfl (by decide +kernel) (fun pm code doc vs hv => by
    match vs, hv with
    | [a], _ => rfl) rfl rfl (b_zneg W )

noncomputable def G_zsub : Sig := ⟨scopeOfS (nth 7), [("a", 0), ("b", 1)], []⟩
noncomputable def d_zsub : St → Option (Fl × St) :=
  (dSeq (dRet (eCall D_zadd (lCons (eV 0) (lCons (eCall D_zneg (lCons (eV 1) lNil)) lNil))))
    dNil)
noncomputable def D_zsub : List V → Option V := fnV 2 0 d_zsub
theorem b_zsub (W : World0 hb mg mb) (h_zadd : SndF prog w hb mg 2 "zadd" D_zadd) (h_zneg : SndF prog w hb mg 1 "zneg" D_zneg) : SndSs prog w hb 2 G_zsub none none (bodyOfS (nth 7)) d_zsub := by
  delta d_zsub
  refine sSs_cons (s_ret ?_) ?_
  · refine s_call W h_zadd (by first | decide | omega) (by decide +kernel) (fun _ => rfl) ?_
    refine sL_cons ?_ ?_ (fun _ => rfl)
    · exact s_v (by decide +kernel)
    refine sL_cons ?_ ?_ (fun _ => rfl)
    · refine s_call W h_zneg (by first | decide | omega) (by decide +kernel) (fun _ => rfl) ?_
      refine sL_cons ?_ ?_ (fun _ => rfl)
      · exact s_v (by decide +kernel)
      exact sL_nil
    exact sL_nil
  exact sSs_nil
theorem f_zsub (W : World0 hb mg mb) (h_zadd : SndF prog w hb mg 2 "zadd" D_zadd) (h_zneg : SndF prog w hb mg 1 "zneg" D_zneg) : SndF prog w hb mg 3 "zsub" D_zsub :=
  s_def 7 (N := 0) (ps := ["a", "b"]) W (by decide) rfl (by decide +kernel) (fun pm code doc vs hv => by
    match vs, hv with
    | [a, b], _ => rfl) rfl rfl (b_zsub W h_zadd h_zneg)

noncomputable def G_zscale : Sig := ⟨scopeOfS (nth 8), [("p", 0), ("k", 1)], ["k"]⟩
noncomputable def d_zscale : St → Option (Fl × St) :=
  (dSeq (dRet (eIf (tCmp .NotEq (eV 1) (eI 0)) (eN (dComp [2] [1] (iList (eV 0)) (aName 2) tT (mEmit (eBin .Mult (eV 2) (eV 1))))) (eN (nList lNil))))
    dNil)
noncomputable def D_zscale : List V → Option V := fnV 2 1 d_zscale
theorem b_zscale (W : World0 hb mg mb) : SndSs prog w hb 0 G_zscale none none (bodyOfS (nth 8)) d_zscale := by
  delta d_zscale
  refine sSs_cons (s_ret ?_) ?_
  · refine sE_if ?_ ?_ ?_
    · refine sT_cmp ?_ ?_ rfl
      · exact s_v (by decide +kernel)
      · exact sE_int
    · refine sE_ofN ?_
      refine s_comp1 (G' := ⟨relabelS _ (Sig.sc G_zscale), [("number", 2), ("k", 1)], []⟩) (by decide +kernel) rfl ?_ ?_ ?_ ?_ (fun _ _ => rfl)
      · refine sI_list ?_
        exact s_v (by decide +kernel)
      · exact s_aName (by decide +kernel)
      · exact sIf_nil
      · refine sE_bin ?_ ?_
        · exact s_v (by decide +kernel)
        · exact s_v (by decide +kernel)
    · refine sE_ofN ?_
      refine sN_list ?_
      exact sL_nil
  exact sSs_nil
theorem f_zscale (W : World0 hb mg mb) : SndF prog w hb mg 1 "zscale" D_zscale :=
  s_def 8 (N := 1) (ps := ["p", "k"]) W (by decide) rfl (by decide +kernel) (fun pm code doc vs hv => by
    match vs, hv with
    | [a, b], _ => rfl) rfl rfl (b_zscale W )

noncomputable def G_zraise : Sig := ⟨scopeOfS (nth 9), [("p", 0), ("many", 1)], []⟩
noncomputable def d_zraise : St → Option (Fl × St) :=
  (dSeq (dRet (eIf (tCmp .Gt (eCall lenV (lCons (eV 0) lNil)) (eI 0)) (eBin .Add (eBin .Mult (eN (nList (lCons (eI 0) lNil))) (eV 1)) (eN (listN (eV 0)))) (eN (nList lNil))))
    dNil)
noncomputable def D_zraise : List V → Option V := fnV 2 0 d_zraise
theorem b_zraise (W : World0 hb mg mb) : SndSs prog w hb 0 G_zraise none none (bodyOfS (nth 9)) d_zraise := by
  delta d_zraise
  refine sSs_cons (s_ret ?_) ?_
  · refine sE_if ?_ ?_ ?_
    · refine sT_cmp ?_ ?_ rfl
      · refine s_blt W W.len sB_len (by decide +kernel) (fun _ => rfl) (fun _ => rfl) ?_
        refine sL_cons ?_ ?_ (fun _ => rfl)
        · exact s_v (by decide +kernel)
        exact sL_nil
      · exact sE_int
    · refine sE_bin ?_ ?_
      · refine sE_bin ?_ ?_
        · refine sE_ofN ?_
          refine sN_list ?_
          refine sL_cons ?_ ?_ (fun _ => rfl)
          · exact sE_int
          exact sL_nil
        · exact s_v (by decide +kernel)
      · refine sE_ofN ?_
        refine s_listOf W W.list (by decide +kernel) (fun _ => rfl) ?_
        exact s_v (by decide +kernel)
    · refine sE_ofN ?_
      refine sN_list ?_
      exact sL_nil
  exact sSs_nil
theorem f_zraise (W : World0 hb mg mb) : SndF prog w hb mg 1 "zraise" D_zraise :=
  s_def 9 (N := 0) (ps := ["p", "many"]) W (by decide) rfl (by decide +kernel) (fun pm code doc vs hv => by
    match vs, hv with
    | [a, b], _ => rfl) rfl rfl (b_zraise W )

noncomputable def G_check_bottom : Sig := ⟨scopeOfS (nth 11), [("p", 0)], []⟩
noncomputable def d_check_bottom : St → Option (Fl × St) :=
  (dSeq (dIf (tCmp .Eq (eCall lenV (lCons (eV 0) lNil)) (eI 0)) dX dNil)
    dNil)
noncomputable def D_check_bottom : List V → Option V := fnV 1 0 d_check_bottom
theorem b_check_bottom (W : World0 hb mg mb) : SndSs prog w hb 0 G_check_bottom none none (bodyOfS (nth 11)) d_check_bottom := by
  delta d_check_bottom
  refine sSs_cons (sS_if (ph' := none) ?_ ?_ ?_) ?_
  · refine sT_cmp ?_ ?_ rfl
    · refine s_blt W W.len sB_len (by decide +kernel) (fun _ => rfl) (fun _ => rfl) ?_
      refine sL_cons ?_ ?_ (fun _ => rfl)
      · exact s_v (by decide +kernel)
      exact sL_nil
    · exact sE_int
  · exact sSs_absurd
  · exact sSs_nil
  exact sSs_nil
theorem f_check_bottom (W : World0 hb mg mb) : SndF prog w hb mg 1 "check_bottom" D_check_bottom :=
  s_def 11 (N := 0) (ps := ["p"]) W (by decide) rfl (by decide +kernel) (fun pm code doc vs hv => by
    match vs, hv with
    | [a], _ => rfl) rfl rfl (b_check_bottom W )

noncomputable def G_zexact : Sig := ⟨scopeOfS (nth 12), [("a", 0), ("b", 1), ("rest", 2), ("found", 3), ("number", 4), ("power", 5)], []⟩
noncomputable def d_zexact : St → Option (Fl × St) :=
  (dSeq (dExpr (eCall D_check_bottom (lCons (eV 1) lNil)))
    (dSeq (dTupIN 2 3 (eN (listN (eV 0))) (nRep (eN (nList (lCons (eI 0) lNil))) (eCall maxV (lCons (eI 0) (lCons (eBin .Add (eBin .Sub (eCall lenV (lCons (eV 0) lNil)) (eCall lenV (lCons (eV 1) lNil))) (eI 1)) lNil)))))
    (dSeq (whileD (tCmp .GtE (eCall lenV (lCons (eV 2) lNil)) (eCall lenV (lCons (eV 1) lNil))) (dSeq (dIf (tCmp .NotEq (eBin .Mod (eIdx (eV 2) (eNeg (eI 1))) (eIdx (eV 1) (eNeg (eI 1)))) (eI 0)) (dSeq (dRet eO)
        dNil) dNil)
      (dSeq (dTupR [4, 5] (lCons (eBin .FloorDiv (eIdx (eV 2) (eNeg (eI 1))) (eIdx (eV 1) (eNeg (eI 1)))) (lCons (eBin .Sub (eCall lenV (lCons (eV 2) lNil)) (eCall lenV (lCons (eV 1) lNil))) lNil)))
      (dSeq (dSetI 3 (eV 5) (eV 4))
      (dSeq (dAsg 2 (eCall D_zsub (lCons (eV 2) (lCons (eCall D_zraise (lCons (eCall D_zscale (lCons (eV 1) (lCons (eV 4) lNil))) (lCons (eV 5) lNil))) lNil))))
      dNil)))) 400)
    (dSeq (dRet (eIf (tCmp .Eq (eCall lenV (lCons (eV 2) lNil)) (eI 0)) (eCall D_ztrim (lCons (eV 3) lNil)) eO))
    dNil))))
noncomputable def D_zexact : List V → Option V := fnV 2 4 d_zexact
theorem b_zexact (W : World0 hb mg mb) (h_check_bottom : SndF prog w hb mg 1 "check_bottom" D_check_bottom) (h_zsub : SndF prog w hb mg 3 "zsub" D_zsub) (h_ztrim : SndF prog w hb mg 1 "ztrim" D_ztrim) (h_zraise : SndF prog w hb mg 1 "zraise" D_zraise) (h_zscale : SndF prog w hb mg 1 "zscale" D_zscale) : SndSs prog w hb 3 G_zexact none none (bodyOfS (nth 12)) d_zexact := by
  delta d_zexact
  refine sSs_cons (sS_expr ?_ (fun _ => rfl)) ?_
  · refine s_call W h_check_bottom (by first | decide | omega) (by decide +kernel) (fun _ => rfl) ?_
    refine sL_cons ?_ ?_ (fun _ => rfl)
    · exact s_v (by decide +kernel)
    exact sL_nil
  refine sSs_cons (s_tupIN (by decide +kernel) (by decide +kernel) (by decide) (fun _ => rfl) (fun _ => rfl) (fun _ => rfl) (fun env h => by cases env; cases h; rfl) ?_ ?_) ?_
  · refine sE_ofN ?_
    refine s_listOf W W.list (by decide +kernel) (fun _ => rfl) ?_
    exact s_v (by decide +kernel)
  · refine sN_rep ?_ ?_
    · refine sE_ofN ?_
      refine sN_list ?_
      refine sL_cons ?_ ?_ (fun _ => rfl)
      · exact sE_int
      exact sL_nil
    · refine s_blt W W.max sB_max (by decide +kernel) (fun _ => rfl) (fun _ => rfl) ?_
      refine sL_cons ?_ ?_ (fun _ => rfl)
      · exact sE_int
      refine sL_cons ?_ ?_ (fun _ => rfl)
      · refine sE_bin ?_ ?_
        · refine sE_bin ?_ ?_
          · refine s_blt W W.len sB_len (by decide +kernel) (fun _ => rfl) (fun _ => rfl) ?_
            refine sL_cons ?_ ?_ (fun _ => rfl)
            · exact s_v (by decide +kernel)
            exact sL_nil
          · refine s_blt W W.len sB_len (by decide +kernel) (fun _ => rfl) (fun _ => rfl) ?_
            refine sL_cons ?_ ?_ (fun _ => rfl)
            · exact s_v (by decide +kernel)
            exact sL_nil
        · exact sE_int
      exact sL_nil
  refine sSs_cons (sS_while 400 ?_ ?_) ?_
  · refine sT_cmp ?_ ?_ rfl
    · refine s_blt W W.len sB_len (by decide +kernel) (fun _ => rfl) (fun _ => rfl) ?_
      refine sL_cons ?_ ?_ (fun _ => rfl)
      · exact s_v (by decide +kernel)
      exact sL_nil
    · refine s_blt W W.len sB_len (by decide +kernel) (fun _ => rfl) (fun _ => rfl) ?_
      refine sL_cons ?_ ?_ (fun _ => rfl)
      · exact s_v (by decide +kernel)
      exact sL_nil
  · refine sSs_cons (sS_if (ph' := (some 3)) ?_ ?_ ?_) ?_
    · refine sT_cmp ?_ ?_ rfl
      · refine sE_bin ?_ ?_
        · refine sE_idx ?_ ?_ (fun _ _ => rfl)
          · exact s_v (by decide +kernel)
          · refine sE_neg ?_
            exact sE_int
        · refine sE_idx ?_ ?_ (fun _ _ => rfl)
          · exact s_v (by decide +kernel)
          · refine sE_neg ?_
            exact sE_int
      · exact sE_int
    · refine sSs_cons (s_ret ?_) ?_
      · exact sE_none
      exact sSs_nil
    · exact sSs_nil
    refine sSs_cons (s_tupR (xs := ["number", "power"]) (by decide +kernel) (fun _ => rfl) (fun env h => by cases env; cases h; rfl) ?_) ?_
    · refine sL_cons ?_ ?_ (fun _ => rfl)
      · refine sE_bin ?_ ?_
        · refine sE_idx ?_ ?_ (fun _ _ => rfl)
          · exact s_v (by decide +kernel)
          · refine sE_neg ?_
            exact sE_int
        · refine sE_idx ?_ ?_ (fun _ _ => rfl)
          · exact s_v (by decide +kernel)
          · refine sE_neg ?_
            exact sE_int
      refine sL_cons ?_ ?_ (fun _ => rfl)
      · refine sE_bin ?_ ?_
        · refine s_blt W W.len sB_len (by decide +kernel) (fun _ => rfl) (fun _ => rfl) ?_
          refine sL_cons ?_ ?_ (fun _ => rfl)
          · exact s_v (by decide +kernel)
          exact sL_nil
        · refine s_blt W W.len sB_len (by decide +kernel) (fun _ => rfl) (fun _ => rfl) ?_
          refine sL_cons ?_ ?_ (fun _ => rfl)
          · exact s_v (by decide +kernel)
          exact sL_nil
      exact sL_nil
    refine sSs_cons (s_setI (by decide +kernel) (fun _ => rfl) ?_ ?_) ?_
    · exact s_v (by decide +kernel)
    · exact s_v (by decide +kernel)
    refine sSs_cons (s_asg (by decide +kernel) (fun _ _ => rfl) ?_) ?_
    · refine s_call W h_zsub (by first | decide | omega) (by decide +kernel) (fun _ => rfl) ?_
      refine sL_cons ?_ ?_ (fun _ => rfl)
      · exact s_v (by decide +kernel)
      refine sL_cons ?_ ?_ (fun _ => rfl)
      · refine s_call W h_zraise (by first | decide | omega) (by decide +kernel) (fun _ => rfl) ?_
        refine sL_cons ?_ ?_ (fun _ => rfl)
        · refine s_call W h_zscale (by first | decide | omega) (by decide +kernel) (fun _ => rfl) ?_
          refine sL_cons ?_ ?_ (fun _ => rfl)
          · exact s_v (by decide +kernel)
          refine sL_cons ?_ ?_ (fun _ => rfl)
          · exact s_v (by decide +kernel)
          exact sL_nil
        refine sL_cons ?_ ?_ (fun _ => rfl)
        · exact s_v (by decide +kernel)
        exact sL_nil
      exact sL_nil
    exact sSs_nil
  refine sSs_freeze ?_
  refine sSs_cons (s_ret ?_) ?_
  · refine sE_if ?_ ?_ ?_
    · refine sT_cmp ?_ ?_ rfl
      · refine s_blt W W.len sB_len (by decide +kernel) (fun _ => rfl) (fun _ => rfl) ?_
        refine sL_cons ?_ ?_ (fun _ => rfl)
        · exact s_v (by decide +kernel)
        exact sL_nil
      · exact sE_int
    · refine s_call W h_ztrim (by first | decide | omega) (by decide +kernel) (fun _ => rfl) ?_
      refine sL_cons ?_ ?_ (fun _ => rfl)
      · exact s_v (by decide +kernel)
      exact sL_nil
    · exact sE_none
  exact sSs_nil
theorem f_zexact (W : World0 hb mg mb) (h_check_bottom : SndF prog w hb mg 1 "check_bottom" D_check_bottom) (h_zsub : SndF prog w hb mg 3 "zsub" D_zsub) (h_ztrim : SndF prog w hb mg 1 "ztrim" D_ztrim) (h_zraise : SndF prog w hb mg 1 "zraise" D_zraise) (h_zscale : SndF prog w hb mg 1 "zscale" D_zscale) : SndF prog w hb mg 4 "zexact" D_zexact :=
  s_def 12 (N := 4) (ps := ["a", "b"]) W (by decide) rfl (by decide +kernel) (fun pm code doc vs hv => by
    match vs, hv with
    | [a, b], _ => rfl) rfl rfl (b_zexact W h_check_bottom h_zsub h_ztrim h_zraise h_zscale)

noncomputable def G_pseudo : Sig := ⟨scopeOfS (nth 13), [("a", 0), ("b", 1), ("many", 2), ("more", 3), ("rest", 4), ("found", 5), ("left", 6), ("first", 7), ("number", 8), ("power", 9)], []⟩
noncomputable def d_pseudo : St → Option (Fl × St) :=
  (dSeq (dExpr (eCall D_check_bottom (lCons (eV 1) lNil)))
    (dSeq (dAsg 2 (eCall maxV (lCons (eI 0) (lCons (eBin .Add (eBin .Sub (eCall lenV (lCons (eV 0) lNil)) (eCall lenV (lCons (eV 1) lNil))) (eI 1)) lNil))))
    (dSeq (dTup [4, 5, 6, 7] (lCons (eN (listN (eV 0))) (lCons (eN (nList lNil)) (lCons (eV 2) (lCons (eCall D_zlead (lCons (eV 1) lNil)) lNil)))))
    (dSeq (whileD (tCmp .GtE (eCall lenV (lCons (eV 4) lNil)) (eCall lenV (lCons (eV 1) lNil))) (dSeq (dTupR [8, 9] (lCons (eIdx (eV 4) (eNeg (eI 1))) (lCons (eBin .Sub (eCall lenV (lCons (eV 4) lNil)) (eCall lenV (lCons (eV 1) lNil))) lNil)))
      (dSeq (dAsg 5 (eCall D_zsub (lCons (eCall D_zscale (lCons (eV 5) (lCons (eV 7) lNil))) (lCons (eCall D_zraise (lCons (eN (nList (lCons (eNeg (eV 8)) lNil))) (lCons (eV 9) lNil))) lNil))))
      (dSeq (dAsg 4 (eCall D_zsub (lCons (eCall D_zscale (lCons (eV 4) (lCons (eV 7) lNil))) (lCons (eCall D_zraise (lCons (eCall D_zscale (lCons (eV 1) (lCons (eV 8) lNil))) (lCons (eV 9) lNil))) lNil))))
      (dSeq (dAug 6 .Sub (eI 1))
      dNil)))) 400)
    (dSeq (dAsg 3 (eBin .Pow (eV 7) (eV 6)))
    (dSeq (dRet (eTup (lCons (eCall D_zscale (lCons (eV 5) (lCons (eV 3) lNil))) (lCons (eCall D_zscale (lCons (eV 4) (lCons (eV 3) lNil))) (lCons (eV 2) lNil)))))
    dNil))))))
noncomputable def D_pseudo : List V → Option V := fnV 2 8 d_pseudo
theorem b_pseudo (W : World0 hb mg mb) (h_check_bottom : SndF prog w hb mg 1 "check_bottom" D_check_bottom) (h_zlead : SndF prog w hb mg 1 "zlead" D_zlead) (h_zsub : SndF prog w hb mg 3 "zsub" D_zsub) (h_zscale : SndF prog w hb mg 1 "zscale" D_zscale) (h_zraise : SndF prog w hb mg 1 "zraise" D_zraise) : SndSs prog w hb 3 G_pseudo none none (bodyOfS (nth 13)) d_pseudo := by
  delta d_pseudo
  refine sSs_cons (sS_expr ?_ (fun _ => rfl)) ?_
  · refine s_call W h_check_bottom (by first | decide | omega) (by decide +kernel) (fun _ => rfl) ?_
    refine sL_cons ?_ ?_ (fun _ => rfl)
    · exact s_v (by decide +kernel)
    exact sL_nil
  refine sSs_cons (s_asg (by decide +kernel) (fun _ _ => rfl) ?_) ?_
  · refine s_blt W W.max sB_max (by decide +kernel) (fun _ => rfl) (fun _ => rfl) ?_
    refine sL_cons ?_ ?_ (fun _ => rfl)
    · exact sE_int
    refine sL_cons ?_ ?_ (fun _ => rfl)
    · refine sE_bin ?_ ?_
      · refine sE_bin ?_ ?_
        · refine s_blt W W.len sB_len (by decide +kernel) (fun _ => rfl) (fun _ => rfl) ?_
          refine sL_cons ?_ ?_ (fun _ => rfl)
          · exact s_v (by decide +kernel)
          exact sL_nil
        · refine s_blt W W.len sB_len (by decide +kernel) (fun _ => rfl) (fun _ => rfl) ?_
          refine sL_cons ?_ ?_ (fun _ => rfl)
          · exact s_v (by decide +kernel)
          exact sL_nil
      · exact sE_int
    exact sL_nil
  refine sSs_cons (s_tup (xs := ["rest", "found", "left", "first"]) (by decide +kernel) rfl (fun _ => rfl) (fun env h => by cases env; cases h; rfl) ?_) ?_
  · refine sL_cons ?_ ?_ (fun _ => rfl)
    · refine sE_ofN ?_
      refine s_listOf W W.list (by decide +kernel) (fun _ => rfl) ?_
      exact s_v (by decide +kernel)
    refine sL_cons ?_ ?_ (fun _ => rfl)
    · refine sE_ofN ?_
      refine sN_list ?_
      exact sL_nil
    refine sL_cons ?_ ?_ (fun _ => rfl)
    · exact s_v (by decide +kernel)
    refine sL_cons ?_ ?_ (fun _ => rfl)
    · refine s_call W h_zlead (by first | decide | omega) (by decide +kernel) (fun _ => rfl) ?_
      refine sL_cons ?_ ?_ (fun _ => rfl)
      · exact s_v (by decide +kernel)
      exact sL_nil
    exact sL_nil
  refine sSs_cons (sS_while 400 ?_ ?_) ?_
  · refine sT_cmp ?_ ?_ rfl
    · refine s_blt W W.len sB_len (by decide +kernel) (fun _ => rfl) (fun _ => rfl) ?_
      refine sL_cons ?_ ?_ (fun _ => rfl)
      · exact s_v (by decide +kernel)
      exact sL_nil
    · refine s_blt W W.len sB_len (by decide +kernel) (fun _ => rfl) (fun _ => rfl) ?_
      refine sL_cons ?_ ?_ (fun _ => rfl)
      · exact s_v (by decide +kernel)
      exact sL_nil
  · refine sSs_cons (s_tupR (xs := ["number", "power"]) (by decide +kernel) (fun _ => rfl) (fun env h => by cases env; cases h; rfl) ?_) ?_
    · refine sL_cons ?_ ?_ (fun _ => rfl)
      · refine sE_idx ?_ ?_ (fun _ _ => rfl)
        · exact s_v (by decide +kernel)
        · refine sE_neg ?_
          exact sE_int
      refine sL_cons ?_ ?_ (fun _ => rfl)
      · refine sE_bin ?_ ?_
        · refine s_blt W W.len sB_len (by decide +kernel) (fun _ => rfl) (fun _ => rfl) ?_
          refine sL_cons ?_ ?_ (fun _ => rfl)
          · exact s_v (by decide +kernel)
          exact sL_nil
        · refine s_blt W W.len sB_len (by decide +kernel) (fun _ => rfl) (fun _ => rfl) ?_
          refine sL_cons ?_ ?_ (fun _ => rfl)
          · exact s_v (by decide +kernel)
          exact sL_nil
      exact sL_nil
    refine sSs_cons (s_asg (by decide +kernel) (fun _ _ => rfl) ?_) ?_
    · refine s_call W h_zsub (by first | decide | omega) (by decide +kernel) (fun _ => rfl) ?_
      refine sL_cons ?_ ?_ (fun _ => rfl)
      · refine s_call W h_zscale (by first | decide | omega) (by decide +kernel) (fun _ => rfl) ?_
        refine sL_cons ?_ ?_ (fun _ => rfl)
        · exact s_v (by decide +kernel)
        refine sL_cons ?_ ?_ (fun _ => rfl)
        · exact s_v (by decide +kernel)
        exact sL_nil
      refine sL_cons ?_ ?_ (fun _ => rfl)
      · refine s_call W h_zraise (by first | decide | omega) (by decide +kernel) (fun _ => rfl) ?_
        refine sL_cons ?_ ?_ (fun _ => rfl)
        · refine sE_ofN ?_
          refine sN_list ?_
          refine sL_cons ?_ ?_ (fun _ => rfl)
          · refine sE_neg ?_
            exact s_v (by decide +kernel)
          exact sL_nil
        refine sL_cons ?_ ?_ (fun _ => rfl)
        · exact s_v (by decide +kernel)
        exact sL_nil
      exact sL_nil
    refine sSs_cons (s_asg (by decide +kernel) (fun _ _ => rfl) ?_) ?_
    · refine s_call W h_zsub (by first | decide | omega) (by decide +kernel) (fun _ => rfl) ?_
      refine sL_cons ?_ ?_ (fun _ => rfl)
      · refine s_call W h_zscale (by first | decide | omega) (by decide +kernel) (fun _ => rfl) ?_
        refine sL_cons ?_ ?_ (fun _ => rfl)
        · exact s_v (by decide +kernel)
        refine sL_cons ?_ ?_ (fun _ => rfl)
        · exact s_v (by decide +kernel)
        exact sL_nil
      refine sL_cons ?_ ?_ (fun _ => rfl)
      · refine s_call W h_zraise (by first | decide | omega) (by decide +kernel) (fun _ => rfl) ?_
        refine sL_cons ?_ ?_ (fun _ => rfl)
        · refine s_call W h_zscale (by first | decide | omega) (by decide +kernel) (fun _ => rfl) ?_
          refine sL_cons ?_ ?_ (fun _ => rfl)
          · exact s_v (by decide +kernel)
          refine sL_cons ?_ ?_ (fun _ => rfl)
          · exact s_v (by decide +kernel)
          exact sL_nil
        refine sL_cons ?_ ?_ (fun _ => rfl)
        · exact s_v (by decide +kernel)
        exact sL_nil
      exact sL_nil
    refine sSs_cons (s_aug (by decide +kernel) (by decide +kernel) ?_) ?_
    · exact sE_int
    exact sSs_nil
  refine sSs_cons (s_asg (by decide +kernel) (fun _ _ => rfl) ?_) ?_
  · refine sE_bin ?_ ?_
    · exact s_v (by decide +kernel)
    · exact s_v (by decide +kernel)
  refine sSs_cons (s_ret ?_) ?_
  · refine sE_tup ?_
    refine sL_cons ?_ ?_ (fun _ => rfl)
    · refine s_call W h_zscale (by first | decide | omega) (by decide +kernel) (fun _ => rfl) ?_
      refine sL_cons ?_ ?_ (fun _ => rfl)
      · exact s_v (by decide +kernel)
      refine sL_cons ?_ ?_ (fun _ => rfl)
      · exact s_v (by decide +kernel)
      exact sL_nil
    refine sL_cons ?_ ?_ (fun _ => rfl)
    · refine s_call W h_zscale (by first | decide | omega) (by decide +kernel) (fun _ => rfl) ?_
      refine sL_cons ?_ ?_ (fun _ => rfl)
      · exact s_v (by decide +kernel)
      refine sL_cons ?_ ?_ (fun _ => rfl)
      · exact s_v (by decide +kernel)
      exact sL_nil
    refine sL_cons ?_ ?_ (fun _ => rfl)
    · exact s_v (by decide +kernel)
    exact sL_nil
  exact sSs_nil
theorem f_pseudo (W : World0 hb mg mb) (h_check_bottom : SndF prog w hb mg 1 "check_bottom" D_check_bottom) (h_zlead : SndF prog w hb mg 1 "zlead" D_zlead) (h_zsub : SndF prog w hb mg 3 "zsub" D_zsub) (h_zscale : SndF prog w hb mg 1 "zscale" D_zscale) (h_zraise : SndF prog w hb mg 1 "zraise" D_zraise) : SndF prog w hb mg 4 "pseudo" D_pseudo :=
  s_def 13 (N := 8) (ps := ["a", "b"]) W (by decide) rfl (by decide +kernel) (fun pm code doc vs hv => by
    match vs, hv with
    | [a, b], _ => rfl) rfl rfl (b_pseudo W h_check_bottom h_zlead h_zsub h_zscale h_zraise)

noncomputable def G_gcd : Sig := ⟨scopeOfS (nth 15), [("a", 0), ("b", 1)], []⟩
noncomputable def d_gcd : St → Option (Fl × St) :=
  (dSeq (dTupR [0, 1] (lCons (eCall absV (lCons (eV 0) lNil)) (lCons (eCall absV (lCons (eV 1) lNil)) lNil)))
    (dSeq (whileD (tCmp .NotEq (eV 1) (eI 0)) (dSeq (dTupR [0, 1] (lCons (eV 1) (lCons (eBin .Mod (eV 0) (eV 1)) lNil)))
      dNil) 400)
    (dSeq (dRet (eV 0))
    dNil)))
noncomputable def D_gcd : List V → Option V := fnV 2 0 d_gcd
theorem b_gcd (W : World0 hb mg mb) : SndSs prog w hb 0 G_gcd none none (bodyOfS (nth 15)) d_gcd := by
  delta d_gcd
  refine sSs_cons (s_tupR (xs := ["a", "b"]) (by decide +kernel) (fun _ => rfl) (fun env h => by cases env; cases h; rfl) ?_) ?_
  · refine sL_cons ?_ ?_ (fun _ => rfl)
    · refine s_blt W W.abs sB_abs (by decide +kernel) (fun _ => rfl) (fun _ => rfl) ?_
      refine sL_cons ?_ ?_ (fun _ => rfl)
      · exact s_v (by decide +kernel)
      exact sL_nil
    refine sL_cons ?_ ?_ (fun _ => rfl)
    · refine s_blt W W.abs sB_abs (by decide +kernel) (fun _ => rfl) (fun _ => rfl) ?_
      refine sL_cons ?_ ?_ (fun _ => rfl)
      · exact s_v (by decide +kernel)
      exact sL_nil
    exact sL_nil
  refine sSs_cons (sS_while 400 ?_ ?_) ?_
  · refine sT_cmp ?_ ?_ rfl
    · exact s_v (by decide +kernel)
    · exact sE_int
  · refine sSs_cons (s_tupR (xs := ["a", "b"]) (by decide +kernel) (fun _ => rfl) (fun env h => by cases env; cases h; rfl) ?_) ?_
    · refine sL_cons ?_ ?_ (fun _ => rfl)
      · exact s_v (by decide +kernel)
      refine sL_cons ?_ ?_ (fun _ => rfl)
      · refine sE_bin ?_ ?_
        · exact s_v (by decide +kernel)
        · exact s_v (by decide +kernel)
      exact sL_nil
    exact sSs_nil
  refine sSs_cons (s_ret ?_) ?_
  · exact s_v (by decide +kernel)
  exact sSs_nil
theorem f_gcd (W : World0 hb mg mb) : SndF prog w hb mg 1 "gcd" D_gcd :=
  s_def 15 (N := 0) (ps := ["a", "b"]) W (by decide) rfl (by decide +kernel) (fun pm code doc vs hv => by
    match vs, hv with
    | [a, b], _ => rfl) rfl rfl (b_gcd W )

noncomputable def G_least_divisor : Sig := ⟨scopeOfS (nth 16), [("n", 0), ("begin", 1), ("found", 2)], []⟩
noncomputable def d_least_divisor : St → Option (Fl × St) :=
  (dSeq (dAsg 2 (eV 1))
    (dSeq (whileD (tCmp .LtE (eBin .Mult (eV 2) (eV 2)) (eV 0)) (dSeq (dIf (tCmp .Eq (eBin .Mod (eV 0) (eV 2)) (eI 0)) (dSeq (dRet (eV 2))
        dNil) dNil)
      (dSeq (dAug 2 .Add (eIf (tCmp .Eq (eV 2) (eI 2)) (eI 1) (eI 2)))
      dNil)) 400)
    (dSeq (dRet (eV 0))
    dNil)))
noncomputable def D_least_divisor : List V → Option V := fnV 2 1 d_least_divisor
theorem b_least_divisor (W : World0 hb mg mb) : SndSs prog w hb 0 G_least_divisor none none (bodyOfS (nth 16)) d_least_divisor := by
  delta d_least_divisor
  refine sSs_cons (s_asg (by decide +kernel) (fun _ _ => rfl) ?_) ?_
  · exact s_v (by decide +kernel)
  refine sSs_cons (sS_while 400 ?_ ?_) ?_
  · refine sT_cmp ?_ ?_ rfl
    · refine sE_bin ?_ ?_
      · exact s_v (by decide +kernel)
      · exact s_v (by decide +kernel)
    · exact s_v (by decide +kernel)
  · refine sSs_cons (sS_if (ph' := none) ?_ ?_ ?_) ?_
    · refine sT_cmp ?_ ?_ rfl
      · refine sE_bin ?_ ?_
        · exact s_v (by decide +kernel)
        · exact s_v (by decide +kernel)
      · exact sE_int
    · refine sSs_cons (s_ret ?_) ?_
      · exact s_v (by decide +kernel)
      exact sSs_nil
    · exact sSs_nil
    refine sSs_cons (s_aug (by decide +kernel) (by decide +kernel) ?_) ?_
    · refine sE_if ?_ ?_ ?_
      · refine sT_cmp ?_ ?_ rfl
        · exact s_v (by decide +kernel)
        · exact sE_int
      · exact sE_int
      · exact sE_int
    exact sSs_nil
  refine sSs_cons (s_ret ?_) ?_
  · exact s_v (by decide +kernel)
  exact sSs_nil
theorem f_least_divisor (W : World0 hb mg mb) : SndF prog w hb mg 1 "least_divisor" D_least_divisor :=
  s_def 16 (N := 1) (ps := ["n", "begin"]) W (by decide) rfl (by decide +kernel) (fun pm code doc vs hv => by
    match vs, hv with
    | [a, b], _ => rfl) rfl rfl (b_least_divisor W )

noncomputable def G_prime_factors : Sig := ⟨scopeOfS (nth 17), [("n", 0), ("found", 1), ("prime", 2), ("many", 3)], []⟩
noncomputable def d_prime_factors : St → Option (Fl × St) :=
  (dSeq (dTupNI 1 2 (nList lNil) (eI 2))
    (dSeq (whileD (tCmp .Gt (eV 0) (eI 1)) (dSeq (dTupR [2, 3] (lCons (eCall D_least_divisor (lCons (eV 0) (lCons (eV 2) lNil))) (lCons (eI 0) lNil)))
      (dSeq (whileD (tCmp .Eq (eBin .Mod (eV 0) (eV 2)) (eI 0)) (dSeq (dTupR [0, 3] (lCons (eBin .FloorDiv (eV 0) (eV 2)) (lCons (eBin .Add (eV 3) (eI 1)) lNil)))
        dNil) 400)
      (dSeq (dApp 1 (eTup (lCons (eV 2) (lCons (eV 3) lNil))))
      (dSeq (dAsg 2 (eIf (tCmp .Eq (eV 2) (eI 2)) (eI 3) (eBin .Add (eV 2) (eI 2))))
      dNil)))) 400)
    (dSeq (dRet (eV 1))
    dNil)))
noncomputable def D_prime_factors : List V → Option V := fnV 1 3 d_prime_factors
theorem b_prime_factors (W : World0 hb mg mb) (h_least_divisor : SndF prog w hb mg 1 "least_divisor" D_least_divisor) : SndSs prog w hb 1 G_prime_factors none none (bodyOfS (nth 17)) d_prime_factors := by
  delta d_prime_factors
  refine sSs_cons (s_tupNI (by decide +kernel) (by decide +kernel) (fun _ => rfl) (fun _ => rfl) (fun _ => rfl) (fun env h => by cases env; cases h; rfl) ?_ ?_) ?_
  · refine sN_list ?_
    exact sL_nil
  · exact sE_int
  refine sSs_cons (sS_while 400 ?_ ?_) ?_
  · refine sT_cmp ?_ ?_ rfl
    · exact s_v (by decide +kernel)
    · exact sE_int
  · refine sSs_cons (s_tupR (xs := ["prime", "many"]) (by decide +kernel) (fun _ => rfl) (fun env h => by cases env; cases h; rfl) ?_) ?_
    · refine sL_cons ?_ ?_ (fun _ => rfl)
      · refine s_call W h_least_divisor (by first | decide | omega) (by decide +kernel) (fun _ => rfl) ?_
        refine sL_cons ?_ ?_ (fun _ => rfl)
        · exact s_v (by decide +kernel)
        refine sL_cons ?_ ?_ (fun _ => rfl)
        · exact s_v (by decide +kernel)
        exact sL_nil
      refine sL_cons ?_ ?_ (fun _ => rfl)
      · exact sE_int
      exact sL_nil
    refine sSs_cons (sS_while 400 ?_ ?_) ?_
    · refine sT_cmp ?_ ?_ rfl
      · refine sE_bin ?_ ?_
        · exact s_v (by decide +kernel)
        · exact s_v (by decide +kernel)
      · exact sE_int
    · refine sSs_cons (s_tupR (xs := ["n", "many"]) (by decide +kernel) (fun _ => rfl) (fun env h => by cases env; cases h; rfl) ?_) ?_
      · refine sL_cons ?_ ?_ (fun _ => rfl)
        · refine sE_bin ?_ ?_
          · exact s_v (by decide +kernel)
          · exact s_v (by decide +kernel)
        refine sL_cons ?_ ?_ (fun _ => rfl)
        · refine sE_bin ?_ ?_
          · exact s_v (by decide +kernel)
          · exact sE_int
        exact sL_nil
      exact sSs_nil
    refine sSs_cons (s_app (by decide +kernel) (fun _ => rfl) rfl (fun _ => rfl) (fun _ => rfl) ?_) ?_
    · refine sE_tup ?_
      refine sL_cons ?_ ?_ (fun _ => rfl)
      · exact s_v (by decide +kernel)
      refine sL_cons ?_ ?_ (fun _ => rfl)
      · exact s_v (by decide +kernel)
      exact sL_nil
    refine sSs_cons (s_asg (by decide +kernel) (fun _ _ => rfl) ?_) ?_
    · refine sE_if ?_ ?_ ?_
      · refine sT_cmp ?_ ?_ rfl
        · exact s_v (by decide +kernel)
        · exact sE_int
      · exact sE_int
      · refine sE_bin ?_ ?_
        · exact s_v (by decide +kernel)
        · exact sE_int
    exact sSs_nil
  refine sSs_freeze ?_
  refine sSs_cons (s_ret ?_) ?_
  · exact s_v (by decide +kernel)
  exact sSs_nil
theorem f_prime_factors (W : World0 hb mg mb) (h_least_divisor : SndF prog w hb mg 1 "least_divisor" D_least_divisor) : SndF prog w hb mg 2 "prime_factors" D_prime_factors :=
  s_def 17 (N := 3) (ps := ["n"]) W (by decide) rfl (by decide +kernel) (fun pm code doc vs hv => by
    match vs, hv with
    | [a], _ => rfl) rfl rfl (b_prime_factors W h_least_divisor)

theorem u_prime_factors_1 : okV D_prime_factors [.int (.ofNat 1)] (.list []) = true := by decide +kernel
theorem u_prime_factors_2 : okV D_prime_factors [.int (.ofNat 2)] (.list [.tup [.int 2, .int 1]]) = true := by decide +kernel
theorem u_prime_factors_3 : okV D_prime_factors [.int (.ofNat 3)] (.list [.tup [.int 3, .int 1]]) = true := by decide +kernel
theorem u_prime_factors_4 : okV D_prime_factors [.int (.ofNat 4)] (.list [.tup [.int 2, .int 2]]) = true := by decide +kernel
theorem u_prime_factors_5 : okV D_prime_factors [.int (.ofNat 5)] (.list [.tup [.int 5, .int 1]]) = true := by decide +kernel
theorem u_prime_factors_6 : okV D_prime_factors [.int (.ofNat 6)] (.list [.tup [.int 2, .int 1], .tup [.int 3, .int 1]]) = true := by decide +kernel
theorem u_prime_factors_7 : okV D_prime_factors [.int (.ofNat 7)] (.list [.tup [.int 7, .int 1]]) = true := by decide +kernel
theorem u_prime_factors_8 : okV D_prime_factors [.int (.ofNat 8)] (.list [.tup [.int 2, .int 3]]) = true := by decide +kernel
theorem u_prime_factors_9 : okV D_prime_factors [.int (.ofNat 9)] (.list [.tup [.int 3, .int 2]]) = true := by decide +kernel
theorem u_prime_factors_10 : okV D_prime_factors [.int (.ofNat 10)] (.list [.tup [.int 2, .int 1], .tup [.int 5, .int 1]]) = true := by decide +kernel
theorem u_prime_factors_11 : okV D_prime_factors [.int (.ofNat 11)] (.list [.tup [.int 11, .int 1]]) = true := by decide +kernel
theorem u_prime_factors_12 : okV D_prime_factors [.int (.ofNat 12)] (.list [.tup [.int 2, .int 2], .tup [.int 3, .int 1]]) = true := by decide +kernel
theorem u_prime_factors_14 : okV D_prime_factors [.int (.ofNat 14)] (.list [.tup [.int 2, .int 1], .tup [.int 7, .int 1]]) = true := by decide +kernel
theorem u_prime_factors_15 : okV D_prime_factors [.int (.ofNat 15)] (.list [.tup [.int 3, .int 1], .tup [.int 5, .int 1]]) = true := by decide +kernel
theorem u_prime_factors_18 : okV D_prime_factors [.int (.ofNat 18)] (.list [.tup [.int 2, .int 1], .tup [.int 3, .int 2]]) = true := by decide +kernel
theorem u_prime_factors_20 : okV D_prime_factors [.int (.ofNat 20)] (.list [.tup [.int 2, .int 2], .tup [.int 5, .int 1]]) = true := by decide +kernel
theorem u_prime_factors_21 : okV D_prime_factors [.int (.ofNat 21)] (.list [.tup [.int 3, .int 1], .tup [.int 7, .int 1]]) = true := by decide +kernel
theorem u_prime_factors_22 : okV D_prime_factors [.int (.ofNat 22)] (.list [.tup [.int 2, .int 1], .tup [.int 11, .int 1]]) = true := by decide +kernel
theorem u_prime_factors_24 : okV D_prime_factors [.int (.ofNat 24)] (.list [.tup [.int 2, .int 3], .tup [.int 3, .int 1]]) = true := by decide +kernel
theorem u_prime_factors_28 : okV D_prime_factors [.int (.ofNat 28)] (.list [.tup [.int 2, .int 2], .tup [.int 7, .int 1]]) = true := by decide +kernel
theorem u_prime_factors_30 : okV D_prime_factors [.int (.ofNat 30)] (.list [.tup [.int 2, .int 1], .tup [.int 3, .int 1], .tup [.int 5, .int 1]]) = true := by decide +kernel
theorem u_prime_factors_33 : okV D_prime_factors [.int (.ofNat 33)] (.list [.tup [.int 3, .int 1], .tup [.int 11, .int 1]]) = true := by decide +kernel
theorem u_prime_factors_35 : okV D_prime_factors [.int (.ofNat 35)] (.list [.tup [.int 5, .int 1], .tup [.int 7, .int 1]]) = true := by decide +kernel
theorem u_prime_factors_36 : okV D_prime_factors [.int (.ofNat 36)] (.list [.tup [.int 2, .int 2], .tup [.int 3, .int 2]]) = true := by decide +kernel
theorem u_prime_factors_40 : okV D_prime_factors [.int (.ofNat 40)] (.list [.tup [.int 2, .int 3], .tup [.int 5, .int 1]]) = true := by decide +kernel
theorem u_prime_factors_42 : okV D_prime_factors [.int (.ofNat 42)] (.list [.tup [.int 2, .int 1], .tup [.int 3, .int 1], .tup [.int 7, .int 1]]) = true := by decide +kernel
theorem u_prime_factors_44 : okV D_prime_factors [.int (.ofNat 44)] (.list [.tup [.int 2, .int 2], .tup [.int 11, .int 1]]) = true := by decide +kernel
theorem u_prime_factors_45 : okV D_prime_factors [.int (.ofNat 45)] (.list [.tup [.int 3, .int 2], .tup [.int 5, .int 1]]) = true := by decide +kernel
theorem u_prime_factors_55 : okV D_prime_factors [.int (.ofNat 55)] (.list [.tup [.int 5, .int 1], .tup [.int 11, .int 1]]) = true := by decide +kernel
theorem u_prime_factors_56 : okV D_prime_factors [.int (.ofNat 56)] (.list [.tup [.int 2, .int 3], .tup [.int 7, .int 1]]) = true := by decide +kernel
theorem u_prime_factors_60 : okV D_prime_factors [.int (.ofNat 60)] (.list [.tup [.int 2, .int 2], .tup [.int 3, .int 1], .tup [.int 5, .int 1]]) = true := by decide +kernel
theorem u_prime_factors_63 : okV D_prime_factors [.int (.ofNat 63)] (.list [.tup [.int 3, .int 2], .tup [.int 7, .int 1]]) = true := by decide +kernel
theorem u_prime_factors_66 : okV D_prime_factors [.int (.ofNat 66)] (.list [.tup [.int 2, .int 1], .tup [.int 3, .int 1], .tup [.int 11, .int 1]]) = true := by decide +kernel
theorem u_prime_factors_70 : okV D_prime_factors [.int (.ofNat 70)] (.list [.tup [.int 2, .int 1], .tup [.int 5, .int 1], .tup [.int 7, .int 1]]) = true := by decide +kernel
theorem u_prime_factors_72 : okV D_prime_factors [.int (.ofNat 72)] (.list [.tup [.int 2, .int 3], .tup [.int 3, .int 2]]) = true := by decide +kernel
theorem u_prime_factors_77 : okV D_prime_factors [.int (.ofNat 77)] (.list [.tup [.int 7, .int 1], .tup [.int 11, .int 1]]) = true := by decide +kernel
theorem u_prime_factors_84 : okV D_prime_factors [.int (.ofNat 84)] (.list [.tup [.int 2, .int 2], .tup [.int 3, .int 1], .tup [.int 7, .int 1]]) = true := by decide +kernel
theorem u_prime_factors_88 : okV D_prime_factors [.int (.ofNat 88)] (.list [.tup [.int 2, .int 3], .tup [.int 11, .int 1]]) = true := by decide +kernel
theorem u_prime_factors_90 : okV D_prime_factors [.int (.ofNat 90)] (.list [.tup [.int 2, .int 1], .tup [.int 3, .int 2], .tup [.int 5, .int 1]]) = true := by decide +kernel
theorem u_prime_factors_99 : okV D_prime_factors [.int (.ofNat 99)] (.list [.tup [.int 3, .int 2], .tup [.int 11, .int 1]]) = true := by decide +kernel
theorem u_prime_factors_110 : okV D_prime_factors [.int (.ofNat 110)] (.list [.tup [.int 2, .int 1], .tup [.int 5, .int 1], .tup [.int 11, .int 1]]) = true := by decide +kernel
theorem u_prime_factors_132 : okV D_prime_factors [.int (.ofNat 132)] (.list [.tup [.int 2, .int 2], .tup [.int 3, .int 1], .tup [.int 11, .int 1]]) = true := by decide +kernel
noncomputable def l_prime_factors : List (Nat × V) := [(1, .list []), (2, .list [.tup [.int 2, .int 1]]), (3, .list [.tup [.int 3, .int 1]]), (4, .list [.tup [.int 2, .int 2]]), (5, .list [.tup [.int 5, .int 1]]), (6, .list [.tup [.int 2, .int 1], .tup [.int 3, .int 1]]), (7, .list [.tup [.int 7, .int 1]]), (8, .list [.tup [.int 2, .int 3]]), (9, .list [.tup [.int 3, .int 2]]), (10, .list [.tup [.int 2, .int 1], .tup [.int 5, .int 1]]), (11, .list [.tup [.int 11, .int 1]]), (12, .list [.tup [.int 2, .int 2], .tup [.int 3, .int 1]]), (14, .list [.tup [.int 2, .int 1], .tup [.int 7, .int 1]]), (15, .list [.tup [.int 3, .int 1], .tup [.int 5, .int 1]]), (18, .list [.tup [.int 2, .int 1], .tup [.int 3, .int 2]]), (20, .list [.tup [.int 2, .int 2], .tup [.int 5, .int 1]]), (21, .list [.tup [.int 3, .int 1], .tup [.int 7, .int 1]]), (22, .list [.tup [.int 2, .int 1], .tup [.int 11, .int 1]]), (24, .list [.tup [.int 2, .int 3], .tup [.int 3, .int 1]]), (28, .list [.tup [.int 2, .int 2], .tup [.int 7, .int 1]]), (30, .list [.tup [.int 2, .int 1], .tup [.int 3, .int 1], .tup [.int 5, .int 1]]), (33, .list [.tup [.int 3, .int 1], .tup [.int 11, .int 1]]), (35, .list [.tup [.int 5, .int 1], .tup [.int 7, .int 1]]), (36, .list [.tup [.int 2, .int 2], .tup [.int 3, .int 2]]), (40, .list [.tup [.int 2, .int 3], .tup [.int 5, .int 1]]), (42, .list [.tup [.int 2, .int 1], .tup [.int 3, .int 1], .tup [.int 7, .int 1]]), (44, .list [.tup [.int 2, .int 2], .tup [.int 11, .int 1]]), (45, .list [.tup [.int 3, .int 2], .tup [.int 5, .int 1]]), (55, .list [.tup [.int 5, .int 1], .tup [.int 11, .int 1]]), (56, .list [.tup [.int 2, .int 3], .tup [.int 7, .int 1]]), (60, .list [.tup [.int 2, .int 2], .tup [.int 3, .int 1], .tup [.int 5, .int 1]]), (63, .list [.tup [.int 3, .int 2], .tup [.int 7, .int 1]]), (66, .list [.tup [.int 2, .int 1], .tup [.int 3, .int 1], .tup [.int 11, .int 1]]), (70, .list [.tup [.int 2, .int 1], .tup [.int 5, .int 1], .tup [.int 7, .int 1]]), (72, .list [.tup [.int 2, .int 3], .tup [.int 3, .int 2]]), (77, .list [.tup [.int 7, .int 1], .tup [.int 11, .int 1]]), (84, .list [.tup [.int 2, .int 2], .tup [.int 3, .int 1], .tup [.int 7, .int 1]]), (88, .list [.tup [.int 2, .int 3], .tup [.int 11, .int 1]]), (90, .list [.tup [.int 2, .int 1], .tup [.int 3, .int 2], .tup [.int 5, .int 1]]), (99, .list [.tup [.int 3, .int 2], .tup [.int 11, .int 1]]), (110, .list [.tup [.int 2, .int 1], .tup [.int 5, .int 1], .tup [.int 11, .int 1]]), (132, .list [.tup [.int 2, .int 2], .tup [.int 3, .int 1], .tup [.int 11, .int 1]])]
noncomputable def T_prime_factors : List V → Option V := tab1 l_prime_factors
theorem ok_prime_factors : tabOK D_prime_factors l_prime_factors = true := (and_ u_prime_factors_1 (and_ u_prime_factors_2 (and_ u_prime_factors_3 (and_ u_prime_factors_4 (and_ u_prime_factors_5 (and_ u_prime_factors_6 (and_ u_prime_factors_7 (and_ u_prime_factors_8 (and_ u_prime_factors_9 (and_ u_prime_factors_10 (and_ u_prime_factors_11 (and_ u_prime_factors_12 (and_ u_prime_factors_14 (and_ u_prime_factors_15 (and_ u_prime_factors_18 (and_ u_prime_factors_20 (and_ u_prime_factors_21 (and_ u_prime_factors_22 (and_ u_prime_factors_24 (and_ u_prime_factors_28 (and_ u_prime_factors_30 (and_ u_prime_factors_33 (and_ u_prime_factors_35 (and_ u_prime_factors_36 (and_ u_prime_factors_40 (and_ u_prime_factors_42 (and_ u_prime_factors_44 (and_ u_prime_factors_45 (and_ u_prime_factors_55 (and_ u_prime_factors_56 (and_ u_prime_factors_60 (and_ u_prime_factors_63 (and_ u_prime_factors_66 (and_ u_prime_factors_70 (and_ u_prime_factors_72 (and_ u_prime_factors_77 (and_ u_prime_factors_84 (and_ u_prime_factors_88 (and_ u_prime_factors_90 (and_ u_prime_factors_99 (and_ u_prime_factors_110 (and_ u_prime_factors_132 rfl))))))))))))))))))))))))))))))))))))))))))
theorem t_prime_factors {L : Nat} (h : SndF prog w hb mg L "prime_factors" D_prime_factors) : SndF prog w hb mg L "prime_factors" T_prime_factors := h.weaken (tab1_ok ok_prime_factors)

noncomputable def G_divisors : Sig := ⟨scopeOfS (nth 18), [("n", 0), ("found", 1), ("prime", 2), ("many", 3)], ["prime", "many"]⟩
noncomputable def d_divisors : St → Option (Fl × St) :=
  (dSeq (dAsg 1 (eN (nList (lCons (eI 1) lNil))))
    (dSeq (dFor (iList (eCall T_prime_factors (lCons (eCall absV (lCons (eV 0) lNil)) lNil))) (aTup [2, 3]) (dSeq (dAsgN 1 (dComp [4, 5] [2, 3] (iList (eV 1)) (aName 4) tT (mInner (iRange (eBin .Add (eV 3) (eI 1))) (aName 5) tT (mEmit (eBin .Mult (eV 4) (eBin .Pow (eV 2) (eV 5)))))))
      dNil))
    (dSeq (dRet (eCall sortedV (lCons (eV 1) lNil)))
    dNil)))
noncomputable def D_divisors : List V → Option V := fnV 1 5 d_divisors
theorem b_divisors (W : World0 hb mg mb) (h_prime_factors : SndF prog w hb mg 2 "prime_factors" T_prime_factors) : SndSs prog w hb 2 G_divisors none none (bodyOfS (nth 18)) d_divisors := by
  delta d_divisors
  refine sSs_cons (s_asg (by decide +kernel) (fun _ _ => rfl) ?_) ?_
  · refine sE_ofN ?_
    refine sN_list ?_
    refine sL_cons ?_ ?_ (fun _ => rfl)
    · exact sE_int
    exact sL_nil
  refine sSs_cons (sS_for ?_ ?_ ?_ (fun _ _ => rfl)) ?_
  · refine sI_list ?_
    refine s_call W h_prime_factors (by first | decide | omega) (by decide +kernel) (fun _ => rfl) ?_
    refine sL_cons ?_ ?_ (fun _ => rfl)
    · refine s_blt W W.abs sB_abs (by decide +kernel) (fun _ => rfl) (fun _ => rfl) ?_
      refine sL_cons ?_ ?_ (fun _ => rfl)
      · exact s_v (by decide +kernel)
      exact sL_nil
    exact sL_nil
  · exact s_aTup (xs := ["prime", "many"]) (by decide +kernel) rfl
  · refine sSs_cons (s_asgComp2 (G' := ⟨relabelS _ (Sig.sc G_divisors), [("one", 4), ("times", 5), ("prime", 2), ("many", 3)], []⟩) (by decide +kernel) (by decide +kernel) rfl (fun env h => (sw_comp _ _ _ _ _ _ _ env _ h).trans (by rfl)) (fun _ _ => rfl) (fun _ _ => rfl) ?_ ?_ ?_ ?_ ?_ ?_ ?_) ?_
    · refine sI_list ?_
      exact s_v (by decide +kernel)
    · exact s_aName (by decide +kernel)
    · exact sIf_nil
    · refine s_range W W.range (by decide +kernel) (fun _ => rfl) ?_
      refine sE_bin ?_ ?_
      · exact s_v (by decide +kernel)
      · exact sE_int
    · exact s_aName (by decide +kernel)
    · exact sIf_nil
    · refine sE_bin ?_ ?_
      · exact s_v (by decide +kernel)
      · refine sE_bin ?_ ?_
        · exact s_v (by decide +kernel)
        · exact s_v (by decide +kernel)
    exact sSs_nil
  refine sSs_cons (s_ret ?_) ?_
  · refine s_blt W W.sorted sB_sorted (by decide +kernel) (fun _ => rfl) (fun _ => rfl) ?_
    refine sL_cons ?_ ?_ (fun _ => rfl)
    · exact s_v (by decide +kernel)
    exact sL_nil
  exact sSs_nil
theorem f_divisors (W : World0 hb mg mb) (h_prime_factors : SndF prog w hb mg 2 "prime_factors" T_prime_factors) : SndF prog w hb mg 3 "divisors" D_divisors :=
  s_def 18 (N := 5) (ps := ["n"]) W (by decide) rfl (by decide +kernel) (fun pm code doc vs hv => by
    match vs, hv with
    | [a], _ => rfl) rfl rfl (b_divisors W h_prime_factors)

theorem u_divisors_1 : okV D_divisors [.int (.ofNat 1)] (.list [.int 1]) = true := by decide +kernel
theorem u_divisors_2 : okV D_divisors [.int (.ofNat 2)] (.list [.int 1, .int 2]) = true := by decide +kernel
theorem u_divisors_3 : okV D_divisors [.int (.ofNat 3)] (.list [.int 1, .int 3]) = true := by decide +kernel
theorem u_divisors_4 : okV D_divisors [.int (.ofNat 4)] (.list [.int 1, .int 2, .int 4]) = true := by decide +kernel
theorem u_divisors_5 : okV D_divisors [.int (.ofNat 5)] (.list [.int 1, .int 5]) = true := by decide +kernel
theorem u_divisors_6 : okV D_divisors [.int (.ofNat 6)] (.list [.int 1, .int 2, .int 3, .int 6]) = true := by decide +kernel
theorem u_divisors_7 : okV D_divisors [.int (.ofNat 7)] (.list [.int 1, .int 7]) = true := by decide +kernel
theorem u_divisors_8 : okV D_divisors [.int (.ofNat 8)] (.list [.int 1, .int 2, .int 4, .int 8]) = true := by decide +kernel
theorem u_divisors_9 : okV D_divisors [.int (.ofNat 9)] (.list [.int 1, .int 3, .int 9]) = true := by decide +kernel
theorem u_divisors_10 : okV D_divisors [.int (.ofNat 10)] (.list [.int 1, .int 2, .int 5, .int 10]) = true := by decide +kernel
theorem u_divisors_11 : okV D_divisors [.int (.ofNat 11)] (.list [.int 1, .int 11]) = true := by decide +kernel
theorem u_divisors_12 : okV D_divisors [.int (.ofNat 12)] (.list [.int 1, .int 2, .int 3, .int 4, .int 6, .int 12]) = true := by decide +kernel
theorem u_divisors_14 : okV D_divisors [.int (.ofNat 14)] (.list [.int 1, .int 2, .int 7, .int 14]) = true := by decide +kernel
theorem u_divisors_15 : okV D_divisors [.int (.ofNat 15)] (.list [.int 1, .int 3, .int 5, .int 15]) = true := by decide +kernel
theorem u_divisors_18 : okV D_divisors [.int (.ofNat 18)] (.list [.int 1, .int 2, .int 3, .int 6, .int 9, .int 18]) = true := by decide +kernel
theorem u_divisors_20 : okV D_divisors [.int (.ofNat 20)] (.list [.int 1, .int 2, .int 4, .int 5, .int 10, .int 20]) = true := by decide +kernel
theorem u_divisors_21 : okV D_divisors [.int (.ofNat 21)] (.list [.int 1, .int 3, .int 7, .int 21]) = true := by decide +kernel
theorem u_divisors_22 : okV D_divisors [.int (.ofNat 22)] (.list [.int 1, .int 2, .int 11, .int 22]) = true := by decide +kernel
theorem u_divisors_24 : okV D_divisors [.int (.ofNat 24)] (.list [.int 1, .int 2, .int 3, .int 4, .int 6, .int 8, .int 12, .int 24]) = true := by decide +kernel
theorem u_divisors_28 : okV D_divisors [.int (.ofNat 28)] (.list [.int 1, .int 2, .int 4, .int 7, .int 14, .int 28]) = true := by decide +kernel
theorem u_divisors_30 : okV D_divisors [.int (.ofNat 30)] (.list [.int 1, .int 2, .int 3, .int 5, .int 6, .int 10, .int 15, .int 30]) = true := by decide +kernel
theorem u_divisors_33 : okV D_divisors [.int (.ofNat 33)] (.list [.int 1, .int 3, .int 11, .int 33]) = true := by decide +kernel
theorem u_divisors_35 : okV D_divisors [.int (.ofNat 35)] (.list [.int 1, .int 5, .int 7, .int 35]) = true := by decide +kernel
theorem u_divisors_36 : okV D_divisors [.int (.ofNat 36)] (.list [.int 1, .int 2, .int 3, .int 4, .int 6, .int 9, .int 12, .int 18, .int 36]) = true := by decide +kernel
theorem u_divisors_40 : okV D_divisors [.int (.ofNat 40)] (.list [.int 1, .int 2, .int 4, .int 5, .int 8, .int 10, .int 20, .int 40]) = true := by decide +kernel
theorem u_divisors_42 : okV D_divisors [.int (.ofNat 42)] (.list [.int 1, .int 2, .int 3, .int 6, .int 7, .int 14, .int 21, .int 42]) = true := by decide +kernel
theorem u_divisors_44 : okV D_divisors [.int (.ofNat 44)] (.list [.int 1, .int 2, .int 4, .int 11, .int 22, .int 44]) = true := by decide +kernel
theorem u_divisors_45 : okV D_divisors [.int (.ofNat 45)] (.list [.int 1, .int 3, .int 5, .int 9, .int 15, .int 45]) = true := by decide +kernel
theorem u_divisors_55 : okV D_divisors [.int (.ofNat 55)] (.list [.int 1, .int 5, .int 11, .int 55]) = true := by decide +kernel
theorem u_divisors_56 : okV D_divisors [.int (.ofNat 56)] (.list [.int 1, .int 2, .int 4, .int 7, .int 8, .int 14, .int 28, .int 56]) = true := by decide +kernel
theorem u_divisors_60 : okV D_divisors [.int (.ofNat 60)] (.list [.int 1, .int 2, .int 3, .int 4, .int 5, .int 6, .int 10, .int 12, .int 15, .int 20, .int 30, .int 60]) = true := by decide +kernel
theorem u_divisors_63 : okV D_divisors [.int (.ofNat 63)] (.list [.int 1, .int 3, .int 7, .int 9, .int 21, .int 63]) = true := by decide +kernel
theorem u_divisors_66 : okV D_divisors [.int (.ofNat 66)] (.list [.int 1, .int 2, .int 3, .int 6, .int 11, .int 22, .int 33, .int 66]) = true := by decide +kernel
theorem u_divisors_70 : okV D_divisors [.int (.ofNat 70)] (.list [.int 1, .int 2, .int 5, .int 7, .int 10, .int 14, .int 35, .int 70]) = true := by decide +kernel
theorem u_divisors_72 : okV D_divisors [.int (.ofNat 72)] (.list [.int 1, .int 2, .int 3, .int 4, .int 6, .int 8, .int 9, .int 12, .int 18, .int 24, .int 36, .int 72]) = true := by decide +kernel
theorem u_divisors_77 : okV D_divisors [.int (.ofNat 77)] (.list [.int 1, .int 7, .int 11, .int 77]) = true := by decide +kernel
theorem u_divisors_84 : okV D_divisors [.int (.ofNat 84)] (.list [.int 1, .int 2, .int 3, .int 4, .int 6, .int 7, .int 12, .int 14, .int 21, .int 28, .int 42, .int 84]) = true := by decide +kernel
theorem u_divisors_88 : okV D_divisors [.int (.ofNat 88)] (.list [.int 1, .int 2, .int 4, .int 8, .int 11, .int 22, .int 44, .int 88]) = true := by decide +kernel
theorem u_divisors_90 : okV D_divisors [.int (.ofNat 90)] (.list [.int 1, .int 2, .int 3, .int 5, .int 6, .int 9, .int 10, .int 15, .int 18, .int 30, .int 45, .int 90]) = true := by decide +kernel
theorem u_divisors_99 : okV D_divisors [.int (.ofNat 99)] (.list [.int 1, .int 3, .int 9, .int 11, .int 33, .int 99]) = true := by decide +kernel
theorem u_divisors_110 : okV D_divisors [.int (.ofNat 110)] (.list [.int 1, .int 2, .int 5, .int 10, .int 11, .int 22, .int 55, .int 110]) = true := by decide +kernel
theorem u_divisors_132 : okV D_divisors [.int (.ofNat 132)] (.list [.int 1, .int 2, .int 3, .int 4, .int 6, .int 11, .int 12, .int 22, .int 33, .int 44, .int 66, .int 132]) = true := by decide +kernel
noncomputable def l_divisors : List (Nat × V) := [(1, .list [.int 1]), (2, .list [.int 1, .int 2]), (3, .list [.int 1, .int 3]), (4, .list [.int 1, .int 2, .int 4]), (5, .list [.int 1, .int 5]), (6, .list [.int 1, .int 2, .int 3, .int 6]), (7, .list [.int 1, .int 7]), (8, .list [.int 1, .int 2, .int 4, .int 8]), (9, .list [.int 1, .int 3, .int 9]), (10, .list [.int 1, .int 2, .int 5, .int 10]), (11, .list [.int 1, .int 11]), (12, .list [.int 1, .int 2, .int 3, .int 4, .int 6, .int 12]), (14, .list [.int 1, .int 2, .int 7, .int 14]), (15, .list [.int 1, .int 3, .int 5, .int 15]), (18, .list [.int 1, .int 2, .int 3, .int 6, .int 9, .int 18]), (20, .list [.int 1, .int 2, .int 4, .int 5, .int 10, .int 20]), (21, .list [.int 1, .int 3, .int 7, .int 21]), (22, .list [.int 1, .int 2, .int 11, .int 22]), (24, .list [.int 1, .int 2, .int 3, .int 4, .int 6, .int 8, .int 12, .int 24]), (28, .list [.int 1, .int 2, .int 4, .int 7, .int 14, .int 28]), (30, .list [.int 1, .int 2, .int 3, .int 5, .int 6, .int 10, .int 15, .int 30]), (33, .list [.int 1, .int 3, .int 11, .int 33]), (35, .list [.int 1, .int 5, .int 7, .int 35]), (36, .list [.int 1, .int 2, .int 3, .int 4, .int 6, .int 9, .int 12, .int 18, .int 36]), (40, .list [.int 1, .int 2, .int 4, .int 5, .int 8, .int 10, .int 20, .int 40]), (42, .list [.int 1, .int 2, .int 3, .int 6, .int 7, .int 14, .int 21, .int 42]), (44, .list [.int 1, .int 2, .int 4, .int 11, .int 22, .int 44]), (45, .list [.int 1, .int 3, .int 5, .int 9, .int 15, .int 45]), (55, .list [.int 1, .int 5, .int 11, .int 55]), (56, .list [.int 1, .int 2, .int 4, .int 7, .int 8, .int 14, .int 28, .int 56]), (60, .list [.int 1, .int 2, .int 3, .int 4, .int 5, .int 6, .int 10, .int 12, .int 15, .int 20, .int 30, .int 60]), (63, .list [.int 1, .int 3, .int 7, .int 9, .int 21, .int 63]), (66, .list [.int 1, .int 2, .int 3, .int 6, .int 11, .int 22, .int 33, .int 66]), (70, .list [.int 1, .int 2, .int 5, .int 7, .int 10, .int 14, .int 35, .int 70]), (72, .list [.int 1, .int 2, .int 3, .int 4, .int 6, .int 8, .int 9, .int 12, .int 18, .int 24, .int 36, .int 72]), (77, .list [.int 1, .int 7, .int 11, .int 77]), (84, .list [.int 1, .int 2, .int 3, .int 4, .int 6, .int 7, .int 12, .int 14, .int 21, .int 28, .int 42, .int 84]), (88, .list [.int 1, .int 2, .int 4, .int 8, .int 11, .int 22, .int 44, .int 88]), (90, .list [.int 1, .int 2, .int 3, .int 5, .int 6, .int 9, .int 10, .int 15, .int 18, .int 30, .int 45, .int 90]), (99, .list [.int 1, .int 3, .int 9, .int 11, .int 33, .int 99]), (110, .list [.int 1, .int 2, .int 5, .int 10, .int 11, .int 22, .int 55, .int 110]), (132, .list [.int 1, .int 2, .int 3, .int 4, .int 6, .int 11, .int 12, .int 22, .int 33, .int 44, .int 66, .int 132])]
noncomputable def T_divisors : List V → Option V := tab1 l_divisors
theorem ok_divisors : tabOK D_divisors l_divisors = true := (and_ u_divisors_1 (and_ u_divisors_2 (and_ u_divisors_3 (and_ u_divisors_4 (and_ u_divisors_5 (and_ u_divisors_6 (and_ u_divisors_7 (and_ u_divisors_8 (and_ u_divisors_9 (and_ u_divisors_10 (and_ u_divisors_11 (and_ u_divisors_12 (and_ u_divisors_14 (and_ u_divisors_15 (and_ u_divisors_18 (and_ u_divisors_20 (and_ u_divisors_21 (and_ u_divisors_22 (and_ u_divisors_24 (and_ u_divisors_28 (and_ u_divisors_30 (and_ u_divisors_33 (and_ u_divisors_35 (and_ u_divisors_36 (and_ u_divisors_40 (and_ u_divisors_42 (and_ u_divisors_44 (and_ u_divisors_45 (and_ u_divisors_55 (and_ u_divisors_56 (and_ u_divisors_60 (and_ u_divisors_63 (and_ u_divisors_66 (and_ u_divisors_70 (and_ u_divisors_72 (and_ u_divisors_77 (and_ u_divisors_84 (and_ u_divisors_88 (and_ u_divisors_90 (and_ u_divisors_99 (and_ u_divisors_110 (and_ u_divisors_132 rfl))))))))))))))))))))))))))))))))))))))))))
theorem t_divisors {L : Nat} (h : SndF prog w hb mg L "divisors" D_divisors) : SndF prog w hb mg L "divisors" T_divisors := h.weaken (tab1_ok ok_divisors)

noncomputable def G_law_phi : Sig := ⟨scopeOfS (nth 21), [("n", 0), ("found", 1), ("prime", 2), ("many", 3)], []⟩
noncomputable def d_law_phi : St → Option (Fl × St) :=
  (dSeq (dAsg 1 (eV 0))
    (dSeq (dFor (iList (eCall T_prime_factors (lCons (eV 0) lNil))) (aTup [2, 3]) (dSeq (dAsg 1 (eBin .Mult (eBin .FloorDiv (eV 1) (eV 2)) (eBin .Sub (eV 2) (eI 1))))
      dNil))
    (dSeq (dRet (eV 1))
    dNil)))
noncomputable def D_law_phi : List V → Option V := fnV 1 3 d_law_phi
theorem b_law_phi (W : World0 hb mg mb) (h_prime_factors : SndF prog w hb mg 2 "prime_factors" T_prime_factors) : SndSs prog w hb 2 G_law_phi none none (bodyOfS (nth 21)) d_law_phi := by
  delta d_law_phi
  refine sSs_cons (s_asg (by decide +kernel) (fun _ _ => rfl) ?_) ?_
  · exact s_v (by decide +kernel)
  refine sSs_cons (sS_for ?_ ?_ ?_ (fun _ _ => rfl)) ?_
  · refine sI_list ?_
    refine s_call W h_prime_factors (by first | decide | omega) (by decide +kernel) (fun _ => rfl) ?_
    refine sL_cons ?_ ?_ (fun _ => rfl)
    · exact s_v (by decide +kernel)
    exact sL_nil
  · exact s_aTup (xs := ["prime", "many"]) (by decide +kernel) rfl
  · refine sSs_cons (s_asg (by decide +kernel) (fun _ _ => rfl) ?_) ?_
    · refine sE_bin ?_ ?_
      · refine sE_bin ?_ ?_
        · exact s_v (by decide +kernel)
        · exact s_v (by decide +kernel)
      · refine sE_bin ?_ ?_
        · exact s_v (by decide +kernel)
        · exact sE_int
    exact sSs_nil
  refine sSs_cons (s_ret ?_) ?_
  · exact s_v (by decide +kernel)
  exact sSs_nil
theorem f_law_phi (W : World0 hb mg mb) (h_prime_factors : SndF prog w hb mg 2 "prime_factors" T_prime_factors) : SndF prog w hb mg 3 "_law_phi" D_law_phi :=
  s_def 21 (N := 3) (ps := ["n"]) W (by decide) rfl (by decide +kernel) (fun pm code doc vs hv => by
    match vs, hv with
    | [a], _ => rfl) rfl rfl (b_law_phi W h_prime_factors)

theorem u_law_phi_1 : okV D_law_phi [.int (.ofNat 1)] (.int 1) = true := by decide +kernel
theorem u_law_phi_2 : okV D_law_phi [.int (.ofNat 2)] (.int 1) = true := by decide +kernel
theorem u_law_phi_3 : okV D_law_phi [.int (.ofNat 3)] (.int 2) = true := by decide +kernel
theorem u_law_phi_4 : okV D_law_phi [.int (.ofNat 4)] (.int 2) = true := by decide +kernel
theorem u_law_phi_5 : okV D_law_phi [.int (.ofNat 5)] (.int 4) = true := by decide +kernel
theorem u_law_phi_6 : okV D_law_phi [.int (.ofNat 6)] (.int 2) = true := by decide +kernel
theorem u_law_phi_7 : okV D_law_phi [.int (.ofNat 7)] (.int 6) = true := by decide +kernel
theorem u_law_phi_8 : okV D_law_phi [.int (.ofNat 8)] (.int 4) = true := by decide +kernel
theorem u_law_phi_9 : okV D_law_phi [.int (.ofNat 9)] (.int 6) = true := by decide +kernel
theorem u_law_phi_10 : okV D_law_phi [.int (.ofNat 10)] (.int 4) = true := by decide +kernel
theorem u_law_phi_11 : okV D_law_phi [.int (.ofNat 11)] (.int 10) = true := by decide +kernel
theorem u_law_phi_12 : okV D_law_phi [.int (.ofNat 12)] (.int 4) = true := by decide +kernel
noncomputable def l_law_phi : List (Nat × V) := [(1, .int 1), (2, .int 1), (3, .int 2), (4, .int 2), (5, .int 4), (6, .int 2), (7, .int 6), (8, .int 4), (9, .int 6), (10, .int 4), (11, .int 10), (12, .int 4)]
noncomputable def T_law_phi : List V → Option V := tab1 l_law_phi
theorem ok_law_phi : tabOK D_law_phi l_law_phi = true := (and_ u_law_phi_1 (and_ u_law_phi_2 (and_ u_law_phi_3 (and_ u_law_phi_4 (and_ u_law_phi_5 (and_ u_law_phi_6 (and_ u_law_phi_7 (and_ u_law_phi_8 (and_ u_law_phi_9 (and_ u_law_phi_10 (and_ u_law_phi_11 (and_ u_law_phi_12 rfl))))))))))))
theorem t_law_phi {L : Nat} (h : SndF prog w hb mg L "_law_phi" D_law_phi) : SndF prog w hb mg L "_law_phi" T_law_phi := h.weaken (tab1_ok ok_law_phi)

noncomputable def G_law_sign : Sig := ⟨scopeOfS (nth 22), [("n", 0), ("pairs", 1)], []⟩
noncomputable def d_law_sign : St → Option (Fl × St) :=
  (dSeq (dAsg 1 (eCall T_prime_factors (lCons (eV 0) lNil)))
    (dSeq (dRet (eIf (tCmp .NotEq (eN (dComp [2, 3] [] (iList (eV 1)) (aTup [2, 3]) (tCmp .Gt (eV 3) (eI 1)) (mEmit (eI 1)))) (eN (nList lNil))) (eI 0) (eBin .Pow (eNeg (eI 1)) (eCall lenV (lCons (eV 1) lNil)))))
    dNil))
noncomputable def D_law_sign : List V → Option V := fnV 1 3 d_law_sign
theorem b_law_sign (W : World0 hb mg mb) (h_prime_factors : SndF prog w hb mg 2 "prime_factors" T_prime_factors) : SndSs prog w hb 2 G_law_sign none none (bodyOfS (nth 22)) d_law_sign := by
  delta d_law_sign
  refine sSs_cons (s_asg (by decide +kernel) (fun _ _ => rfl) ?_) ?_
  · refine s_call W h_prime_factors (by first | decide | omega) (by decide +kernel) (fun _ => rfl) ?_
    refine sL_cons ?_ ?_ (fun _ => rfl)
    · exact s_v (by decide +kernel)
    exact sL_nil
  refine sSs_cons (s_ret ?_) ?_
  · refine sE_if ?_ ?_ ?_
    · refine sT_cmp ?_ ?_ rfl
      · refine sE_ofN ?_
        refine s_comp1 (G' := ⟨relabelS _ (Sig.sc G_law_sign), [("prime", 2), ("many", 3)], []⟩) (by decide +kernel) rfl ?_ ?_ ?_ ?_ (fun _ _ => rfl)
        · refine sI_list ?_
          exact s_v (by decide +kernel)
        · exact s_aTup (xs := ["prime", "many"]) (by decide +kernel) rfl
        · refine sIf_one ?_
          refine sT_cmp ?_ ?_ rfl
          · exact s_v (by decide +kernel)
          · exact sE_int
        · exact sE_int
      · refine sE_ofN ?_
        refine sN_list ?_
        exact sL_nil
    · exact sE_int
    · refine sE_bin ?_ ?_
      · refine sE_neg ?_
        exact sE_int
      · refine s_blt W W.len sB_len (by decide +kernel) (fun _ => rfl) (fun _ => rfl) ?_
        refine sL_cons ?_ ?_ (fun _ => rfl)
        · exact s_v (by decide +kernel)
        exact sL_nil
  exact sSs_nil
theorem f_law_sign (W : World0 hb mg mb) (h_prime_factors : SndF prog w hb mg 2 "prime_factors" T_prime_factors) : SndF prog w hb mg 3 "_law_sign" D_law_sign :=
  s_def 22 (N := 3) (ps := ["n"]) W (by decide) rfl (by decide +kernel) (fun pm code doc vs hv => by
    match vs, hv with
    | [a], _ => rfl) rfl rfl (b_law_sign W h_prime_factors)

theorem u_law_sign_1 : okV D_law_sign [.int (.ofNat 1)] (.int 1) = true := by decide +kernel
theorem u_law_sign_2 : okV D_law_sign [.int (.ofNat 2)] (.int (-1)) = true := by decide +kernel
theorem u_law_sign_3 : okV D_law_sign [.int (.ofNat 3)] (.int (-1)) = true := by decide +kernel
theorem u_law_sign_4 : okV D_law_sign [.int (.ofNat 4)] (.int 0) = true := by decide +kernel
theorem u_law_sign_5 : okV D_law_sign [.int (.ofNat 5)] (.int (-1)) = true := by decide +kernel
theorem u_law_sign_6 : okV D_law_sign [.int (.ofNat 6)] (.int 1) = true := by decide +kernel
theorem u_law_sign_7 : okV D_law_sign [.int (.ofNat 7)] (.int (-1)) = true := by decide +kernel
theorem u_law_sign_8 : okV D_law_sign [.int (.ofNat 8)] (.int 0) = true := by decide +kernel
theorem u_law_sign_9 : okV D_law_sign [.int (.ofNat 9)] (.int 0) = true := by decide +kernel
theorem u_law_sign_10 : okV D_law_sign [.int (.ofNat 10)] (.int 1) = true := by decide +kernel
theorem u_law_sign_11 : okV D_law_sign [.int (.ofNat 11)] (.int (-1)) = true := by decide +kernel
theorem u_law_sign_12 : okV D_law_sign [.int (.ofNat 12)] (.int 0) = true := by decide +kernel
theorem u_law_sign_14 : okV D_law_sign [.int (.ofNat 14)] (.int 1) = true := by decide +kernel
theorem u_law_sign_15 : okV D_law_sign [.int (.ofNat 15)] (.int 1) = true := by decide +kernel
theorem u_law_sign_18 : okV D_law_sign [.int (.ofNat 18)] (.int 0) = true := by decide +kernel
theorem u_law_sign_20 : okV D_law_sign [.int (.ofNat 20)] (.int 0) = true := by decide +kernel
theorem u_law_sign_21 : okV D_law_sign [.int (.ofNat 21)] (.int 1) = true := by decide +kernel
theorem u_law_sign_22 : okV D_law_sign [.int (.ofNat 22)] (.int 1) = true := by decide +kernel
theorem u_law_sign_24 : okV D_law_sign [.int (.ofNat 24)] (.int 0) = true := by decide +kernel
theorem u_law_sign_28 : okV D_law_sign [.int (.ofNat 28)] (.int 0) = true := by decide +kernel
theorem u_law_sign_30 : okV D_law_sign [.int (.ofNat 30)] (.int (-1)) = true := by decide +kernel
theorem u_law_sign_33 : okV D_law_sign [.int (.ofNat 33)] (.int 1) = true := by decide +kernel
theorem u_law_sign_35 : okV D_law_sign [.int (.ofNat 35)] (.int 1) = true := by decide +kernel
theorem u_law_sign_36 : okV D_law_sign [.int (.ofNat 36)] (.int 0) = true := by decide +kernel
theorem u_law_sign_40 : okV D_law_sign [.int (.ofNat 40)] (.int 0) = true := by decide +kernel
theorem u_law_sign_42 : okV D_law_sign [.int (.ofNat 42)] (.int (-1)) = true := by decide +kernel
theorem u_law_sign_44 : okV D_law_sign [.int (.ofNat 44)] (.int 0) = true := by decide +kernel
theorem u_law_sign_45 : okV D_law_sign [.int (.ofNat 45)] (.int 0) = true := by decide +kernel
theorem u_law_sign_55 : okV D_law_sign [.int (.ofNat 55)] (.int 1) = true := by decide +kernel
theorem u_law_sign_56 : okV D_law_sign [.int (.ofNat 56)] (.int 0) = true := by decide +kernel
theorem u_law_sign_60 : okV D_law_sign [.int (.ofNat 60)] (.int 0) = true := by decide +kernel
theorem u_law_sign_63 : okV D_law_sign [.int (.ofNat 63)] (.int 0) = true := by decide +kernel
theorem u_law_sign_66 : okV D_law_sign [.int (.ofNat 66)] (.int (-1)) = true := by decide +kernel
theorem u_law_sign_70 : okV D_law_sign [.int (.ofNat 70)] (.int (-1)) = true := by decide +kernel
theorem u_law_sign_72 : okV D_law_sign [.int (.ofNat 72)] (.int 0) = true := by decide +kernel
theorem u_law_sign_77 : okV D_law_sign [.int (.ofNat 77)] (.int 1) = true := by decide +kernel
theorem u_law_sign_84 : okV D_law_sign [.int (.ofNat 84)] (.int 0) = true := by decide +kernel
theorem u_law_sign_88 : okV D_law_sign [.int (.ofNat 88)] (.int 0) = true := by decide +kernel
theorem u_law_sign_90 : okV D_law_sign [.int (.ofNat 90)] (.int 0) = true := by decide +kernel
theorem u_law_sign_99 : okV D_law_sign [.int (.ofNat 99)] (.int 0) = true := by decide +kernel
theorem u_law_sign_110 : okV D_law_sign [.int (.ofNat 110)] (.int (-1)) = true := by decide +kernel
theorem u_law_sign_132 : okV D_law_sign [.int (.ofNat 132)] (.int 0) = true := by decide +kernel
noncomputable def l_law_sign : List (Nat × V) := [(1, .int 1), (2, .int (-1)), (3, .int (-1)), (4, .int 0), (5, .int (-1)), (6, .int 1), (7, .int (-1)), (8, .int 0), (9, .int 0), (10, .int 1), (11, .int (-1)), (12, .int 0), (14, .int 1), (15, .int 1), (18, .int 0), (20, .int 0), (21, .int 1), (22, .int 1), (24, .int 0), (28, .int 0), (30, .int (-1)), (33, .int 1), (35, .int 1), (36, .int 0), (40, .int 0), (42, .int (-1)), (44, .int 0), (45, .int 0), (55, .int 1), (56, .int 0), (60, .int 0), (63, .int 0), (66, .int (-1)), (70, .int (-1)), (72, .int 0), (77, .int 1), (84, .int 0), (88, .int 0), (90, .int 0), (99, .int 0), (110, .int (-1)), (132, .int 0)]
noncomputable def T_law_sign : List V → Option V := tab1 l_law_sign
theorem ok_law_sign : tabOK D_law_sign l_law_sign = true := (and_ u_law_sign_1 (and_ u_law_sign_2 (and_ u_law_sign_3 (and_ u_law_sign_4 (and_ u_law_sign_5 (and_ u_law_sign_6 (and_ u_law_sign_7 (and_ u_law_sign_8 (and_ u_law_sign_9 (and_ u_law_sign_10 (and_ u_law_sign_11 (and_ u_law_sign_12 (and_ u_law_sign_14 (and_ u_law_sign_15 (and_ u_law_sign_18 (and_ u_law_sign_20 (and_ u_law_sign_21 (and_ u_law_sign_22 (and_ u_law_sign_24 (and_ u_law_sign_28 (and_ u_law_sign_30 (and_ u_law_sign_33 (and_ u_law_sign_35 (and_ u_law_sign_36 (and_ u_law_sign_40 (and_ u_law_sign_42 (and_ u_law_sign_44 (and_ u_law_sign_45 (and_ u_law_sign_55 (and_ u_law_sign_56 (and_ u_law_sign_60 (and_ u_law_sign_63 (and_ u_law_sign_66 (and_ u_law_sign_70 (and_ u_law_sign_72 (and_ u_law_sign_77 (and_ u_law_sign_84 (and_ u_law_sign_88 (and_ u_law_sign_90 (and_ u_law_sign_99 (and_ u_law_sign_110 (and_ u_law_sign_132 rfl))))))))))))))))))))))))))))))))))))))))))
theorem t_law_sign {L : Nat} (h : SndF prog w hb mg L "_law_sign" D_law_sign) : SndF prog w hb mg L "_law_sign" T_law_sign := h.weaken (tab1_ok ok_law_sign)

noncomputable def G_law_sums : Sig := ⟨scopeOfS (nth 23), [("q", 0), ("marks", 1)], ["q", "marks"]⟩
noncomputable def d_law_sums : St → Option (Fl × St) :=
  (dSeq (dAsg 1 (eN (dComp [2] [0] (iList (eCall T_divisors (lCons (eV 0) lNil))) (aName 2) tT (mEmit (eTup (lCons (eV 2) (lCons (eCall T_law_sign (lCons (eBin .FloorDiv (eV 0) (eV 2)) lNil)) lNil)))))))
    (dSeq (dRet (eN (dComp [3] [1] (iRange (eV 0)) (aName 3) tT (mEmit (eCall sumV (lCons (eN (dComp [4, 5] [3] (iList (eV 1)) (aTup [4, 5]) (tCmp .Eq (eBin .Mod (eV 3) (eV 4)) (eI 0)) (mEmit (eBin .Mult (eV 4) (eV 5))))) lNil))))))
    dNil))
noncomputable def D_law_sums : List V → Option V := fnV 1 5 d_law_sums
theorem b_law_sums (W : World0 hb mg mb) (h_law_sign : SndF prog w hb mg 3 "_law_sign" T_law_sign) (h_divisors : SndF prog w hb mg 3 "divisors" T_divisors) : SndSs prog w hb 3 G_law_sums none none (bodyOfS (nth 23)) d_law_sums := by
  delta d_law_sums
  refine sSs_cons (s_asg (by decide +kernel) (fun env h => (sw_comp _ _ _ _ _ _ _ env _ h).trans (by rfl)) ?_) ?_
  · refine sE_ofN ?_
    refine s_comp1 (G' := ⟨relabelS _ (Sig.sc G_law_sums), [("d", 2), ("q", 0)], []⟩) (by decide +kernel) rfl ?_ ?_ ?_ ?_ (fun _ _ => rfl)
    · refine sI_list ?_
      refine s_call W h_divisors (by first | decide | omega) (by decide +kernel) (fun _ => rfl) ?_
      refine sL_cons ?_ ?_ (fun _ => rfl)
      · exact s_v (by decide +kernel)
      exact sL_nil
    · exact s_aName (by decide +kernel)
    · exact sIf_nil
    · refine sE_tup ?_
      refine sL_cons ?_ ?_ (fun _ => rfl)
      · exact s_v (by decide +kernel)
      refine sL_cons ?_ ?_ (fun _ => rfl)
      · refine s_call W h_law_sign (by first | decide | omega) (by decide +kernel) (fun _ => rfl) ?_
        refine sL_cons ?_ ?_ (fun _ => rfl)
        · refine sE_bin ?_ ?_
          · exact s_v (by decide +kernel)
          · exact s_v (by decide +kernel)
        exact sL_nil
      exact sL_nil
  refine sSs_cons (s_ret ?_) ?_
  · refine sE_ofN ?_
    refine s_comp1 (G' := ⟨relabelS _ (Sig.sc G_law_sums), [("at", 3), ("marks", 1)], ["at"]⟩) (by decide +kernel) rfl ?_ ?_ ?_ ?_ (fun _ _ => rfl)
    · refine s_range W W.range (by decide +kernel) (fun _ => rfl) ?_
      exact s_v (by decide +kernel)
    · exact s_aName (by decide +kernel)
    · exact sIf_nil
    · refine s_blt W W.sum sB_sum (by decide +kernel) (fun _ => rfl) (fun _ => rfl) ?_
      refine sL_cons ?_ ?_ (fun _ => rfl)
      · refine sE_ofN ?_
        refine s_comp1 (G' := ⟨relabelS _ (Sig.sc ⟨relabelS _ (Sig.sc G_law_sums), [("at", 3), ("marks", 1)], ["at"]⟩), [("d", 4), ("sign", 5), ("at", 3)], []⟩) (by decide +kernel) rfl ?_ ?_ ?_ ?_ (fun _ _ => rfl)
        · refine sI_list ?_
          exact s_v (by decide +kernel)
        · exact s_aTup (xs := ["d", "sign"]) (by decide +kernel) rfl
        · refine sIf_one ?_
          refine sT_cmp ?_ ?_ rfl
          · refine sE_bin ?_ ?_
            · exact s_v (by decide +kernel)
            · exact s_v (by decide +kernel)
          · exact sE_int
        · refine sE_bin ?_ ?_
          · exact s_v (by decide +kernel)
          · exact s_v (by decide +kernel)
      exact sL_nil
  exact sSs_nil
theorem f_law_sums (W : World0 hb mg mb) (h_law_sign : SndF prog w hb mg 3 "_law_sign" T_law_sign) (h_divisors : SndF prog w hb mg 3 "divisors" T_divisors) : SndF prog w hb mg 4 "_law_sums" D_law_sums :=
  s_def 23 (N := 5) (ps := ["q"]) W (by decide) rfl (by decide +kernel) (fun pm code doc vs hv => by
    match vs, hv with
    | [a], _ => rfl) rfl rfl (b_law_sums W h_law_sign h_divisors)

theorem u_law_sums_1 : okV D_law_sums [.int (.ofNat 1)] (.list [.int 1]) = true := by decide +kernel
theorem u_law_sums_2 : okV D_law_sums [.int (.ofNat 2)] (.list [.int 1, .int (-1)]) = true := by decide +kernel
theorem u_law_sums_3 : okV D_law_sums [.int (.ofNat 3)] (.list [.int 2, .int (-1), .int (-1)]) = true := by decide +kernel
theorem u_law_sums_4 : okV D_law_sums [.int (.ofNat 4)] (.list [.int 2, .int 0, .int (-2), .int 0]) = true := by decide +kernel
theorem u_law_sums_5 : okV D_law_sums [.int (.ofNat 5)] (.list [.int 4, .int (-1), .int (-1), .int (-1), .int (-1)]) = true := by decide +kernel
theorem u_law_sums_6 : okV D_law_sums [.int (.ofNat 6)] (.list [.int 2, .int 1, .int (-1), .int (-2), .int (-1), .int 1]) = true := by decide +kernel
theorem u_law_sums_7 : okV D_law_sums [.int (.ofNat 7)] (.list [.int 6, .int (-1), .int (-1), .int (-1), .int (-1), .int (-1), .int (-1)]) = true := by decide +kernel
theorem u_law_sums_8 : okV D_law_sums [.int (.ofNat 8)] (.list [.int 4, .int 0, .int 0, .int 0, .int (-4), .int 0, .int 0, .int 0]) = true := by decide +kernel
theorem u_law_sums_9 : okV D_law_sums [.int (.ofNat 9)] (.list [.int 6, .int 0, .int 0, .int (-3), .int 0, .int 0, .int (-3), .int 0, .int 0]) = true := by decide +kernel
theorem u_law_sums_10 : okV D_law_sums [.int (.ofNat 10)] (.list [.int 4, .int 1, .int (-1), .int 1, .int (-1), .int (-4), .int (-1), .int 1, .int (-1), .int 1]) = true := by decide +kernel
theorem u_law_sums_11 : okV D_law_sums [.int (.ofNat 11)] (.list [.int 10, .int (-1), .int (-1), .int (-1), .int (-1), .int (-1), .int (-1), .int (-1), .int (-1), .int (-1), .int (-1)]) = true := by decide +kernel
theorem u_law_sums_12 : okV D_law_sums [.int (.ofNat 12)] (.list [.int 4, .int 0, .int 2, .int 0, .int (-2), .int 0, .int (-4), .int 0, .int (-2), .int 0, .int 2, .int 0]) = true := by decide +kernel
theorem u_law_sums_14 : okV D_law_sums [.int (.ofNat 14)] (.list [.int 6, .int 1, .int (-1), .int 1, .int (-1), .int 1, .int (-1), .int (-6), .int (-1), .int 1, .int (-1), .int 1, .int (-1), .int 1]) = true := by decide +kernel
theorem u_law_sums_15 : okV D_law_sums [.int (.ofNat 15)] (.list [.int 8, .int 1, .int 1, .int (-2), .int 1, .int (-4), .int (-2), .int 1, .int 1, .int (-2), .int (-4), .int 1, .int (-2), .int 1, .int 1]) = true := by decide +kernel
theorem u_law_sums_18 : okV D_law_sums [.int (.ofNat 18)] (.list [.int 6, .int 0, .int 0, .int 3, .int 0, .int 0, .int (-3), .int 0, .int 0, .int (-6), .int 0, .int 0, .int (-3), .int 0, .int 0, .int 3, .int 0, .int 0]) = true := by decide +kernel
theorem u_law_sums_20 : okV D_law_sums [.int (.ofNat 20)] (.list [.int 8, .int 0, .int 2, .int 0, .int (-2), .int 0, .int 2, .int 0, .int (-2), .int 0, .int (-8), .int 0, .int (-2), .int 0, .int 2, .int 0, .int (-2), .int 0, .int 2, .int 0]) = true := by decide +kernel
theorem u_law_sums_21 : okV D_law_sums [.int (.ofNat 21)] (.list [.int 12, .int 1, .int 1, .int (-2), .int 1, .int 1, .int (-2), .int (-6), .int 1, .int (-2), .int 1, .int 1, .int (-2), .int 1, .int (-6), .int (-2), .int 1, .int 1, .int (-2), .int 1, .int 1]) = true := by decide +kernel
theorem u_law_sums_22 : okV D_law_sums [.int (.ofNat 22)] (.list [.int 10, .int 1, .int (-1), .int 1, .int (-1), .int 1, .int (-1), .int 1, .int (-1), .int 1, .int (-1), .int (-10), .int (-1), .int 1, .int (-1), .int 1, .int (-1), .int 1, .int (-1), .int 1, .int (-1), .int 1]) = true := by decide +kernel
theorem u_law_sums_24 : okV D_law_sums [.int (.ofNat 24)] (.list [.int 8, .int 0, .int 0, .int 0, .int 4, .int 0, .int 0, .int 0, .int (-4), .int 0, .int 0, .int 0, .int (-8), .int 0, .int 0, .int 0, .int (-4), .int 0, .int 0, .int 0, .int 4, .int 0, .int 0, .int 0]) = true := by decide +kernel
theorem u_law_sums_28 : okV D_law_sums [.int (.ofNat 28)] (.list [.int 12, .int 0, .int 2, .int 0, .int (-2), .int 0, .int 2, .int 0, .int (-2), .int 0, .int 2, .int 0, .int (-2), .int 0, .int (-12), .int 0, .int (-2), .int 0, .int 2, .int 0, .int (-2), .int 0, .int 2, .int 0, .int (-2), .int 0, .int 2, .int 0]) = true := by decide +kernel
theorem u_law_sums_30 : okV D_law_sums [.int (.ofNat 30)] (.list [.int 8, .int (-1), .int 1, .int 2, .int 1, .int 4, .int (-2), .int (-1), .int 1, .int 2, .int (-4), .int (-1), .int (-2), .int (-1), .int 1, .int (-8), .int 1, .int (-1), .int (-2), .int (-1), .int (-4), .int 2, .int 1, .int (-1), .int (-2), .int 4, .int 1, .int 2, .int 1, .int (-1)]) = true := by decide +kernel
theorem u_law_sums_33 : okV D_law_sums [.int (.ofNat 33)] (.list [.int 20, .int 1, .int 1, .int (-2), .int 1, .int 1, .int (-2), .int 1, .int 1, .int (-2), .int 1, .int (-10), .int (-2), .int 1, .int 1, .int (-2), .int 1, .int 1, .int (-2), .int 1, .int 1, .int (-2), .int (-10), .int 1, .int (-2), .int 1, .int 1, .int (-2), .int 1, .int 1, .int (-2), .int 1, .int 1]) = true := by decide +kernel
theorem u_law_sums_35 : okV D_law_sums [.int (.ofNat 35)] (.list [.int 24, .int 1, .int 1, .int 1, .int 1, .int (-4), .int 1, .int (-6), .int 1, .int 1, .int (-4), .int 1, .int 1, .int 1, .int (-6), .int (-4), .int 1, .int 1, .int 1, .int 1, .int (-4), .int (-6), .int 1, .int 1, .int 1, .int (-4), .int 1, .int 1, .int (-6), .int 1, .int (-4), .int 1, .int 1, .int 1, .int 1]) = true := by decide +kernel
theorem u_law_sums_36 : okV D_law_sums [.int (.ofNat 36)] (.list [.int 12, .int 0, .int 0, .int 0, .int 0, .int 0, .int 6, .int 0, .int 0, .int 0, .int 0, .int 0, .int (-6), .int 0, .int 0, .int 0, .int 0, .int 0, .int (-12), .int 0, .int 0, .int 0, .int 0, .int 0, .int (-6), .int 0, .int 0, .int 0, .int 0, .int 0, .int 6, .int 0, .int 0, .int 0, .int 0, .int 0]) = true := by decide +kernel
theorem u_law_sums_40 : okV D_law_sums [.int (.ofNat 40)] (.list [.int 16, .int 0, .int 0, .int 0, .int 4, .int 0, .int 0, .int 0, .int (-4), .int 0, .int 0, .int 0, .int 4, .int 0, .int 0, .int 0, .int (-4), .int 0, .int 0, .int 0, .int (-16), .int 0, .int 0, .int 0, .int (-4), .int 0, .int 0, .int 0, .int 4, .int 0, .int 0, .int 0, .int (-4), .int 0, .int 0, .int 0, .int 4, .int 0, .int 0, .int 0]) = true := by decide +kernel
theorem u_law_sums_42 : okV D_law_sums [.int (.ofNat 42)] (.list [.int 12, .int (-1), .int 1, .int 2, .int 1, .int (-1), .int (-2), .int 6, .int 1, .int 2, .int 1, .int (-1), .int (-2), .int (-1), .int (-6), .int 2, .int 1, .int (-1), .int (-2), .int (-1), .int 1, .int (-12), .int 1, .int (-1), .int (-2), .int (-1), .int 1, .int 2, .int (-6), .int (-1), .int (-2), .int (-1), .int 1, .int 2, .int 1, .int 6, .int (-2), .int (-1), .int 1, .int 2, .int 1, .int (-1)]) = true := by decide +kernel
theorem u_law_sums_44 : okV D_law_sums [.int (.ofNat 44)] (.list [.int 20, .int 0, .int 2, .int 0, .int (-2), .int 0, .int 2, .int 0, .int (-2), .int 0, .int 2, .int 0, .int (-2), .int 0, .int 2, .int 0, .int (-2), .int 0, .int 2, .int 0, .int (-2), .int 0, .int (-20), .int 0, .int (-2), .int 0, .int 2, .int 0, .int (-2), .int 0, .int 2, .int 0, .int (-2), .int 0, .int 2, .int 0, .int (-2), .int 0, .int 2, .int 0, .int (-2), .int 0, .int 2, .int 0]) = true := by decide +kernel
theorem u_law_sums_45 : okV D_law_sums [.int (.ofNat 45)] (.list [.int 24, .int 0, .int 0, .int 3, .int 0, .int 0, .int 3, .int 0, .int 0, .int (-6), .int 0, .int 0, .int 3, .int 0, .int 0, .int (-12), .int 0, .int 0, .int (-6), .int 0, .int 0, .int 3, .int 0, .int 0, .int 3, .int 0, .int 0, .int (-6), .int 0, .int 0, .int (-12), .int 0, .int 0, .int 3, .int 0, .int 0, .int (-6), .int 0, .int 0, .int 3, .int 0, .int 0, .int 3, .int 0, .int 0]) = true := by decide +kernel
theorem u_law_sums_55 : okV D_law_sums [.int (.ofNat 55)] (.list [.int 40, .int 1, .int 1, .int 1, .int 1, .int (-4), .int 1, .int 1, .int 1, .int 1, .int (-4), .int (-10), .int 1, .int 1, .int 1, .int (-4), .int 1, .int 1, .int 1, .int 1, .int (-4), .int 1, .int (-10), .int 1, .int 1, .int (-4), .int 1, .int 1, .int 1, .int 1, .int (-4), .int 1, .int 1, .int (-10), .int 1, .int (-4), .int 1, .int 1, .int 1, .int 1, .int (-4), .int 1, .int 1, .int 1, .int (-10), .int (-4), .int 1, .int 1, .int 1, .int 1, .int (-4), .int 1, .int 1, .int 1, .int 1]) = true := by decide +kernel
theorem u_law_sums_56 : okV D_law_sums [.int (.ofNat 56)] (.list [.int 24, .int 0, .int 0, .int 0, .int 4, .int 0, .int 0, .int 0, .int (-4), .int 0, .int 0, .int 0, .int 4, .int 0, .int 0, .int 0, .int (-4), .int 0, .int 0, .int 0, .int 4, .int 0, .int 0, .int 0, .int (-4), .int 0, .int 0, .int 0, .int (-24), .int 0, .int 0, .int 0, .int (-4), .int 0, .int 0, .int 0, .int 4, .int 0, .int 0, .int 0, .int (-4), .int 0, .int 0, .int 0, .int 4, .int 0, .int 0, .int 0, .int (-4), .int 0, .int 0, .int 0, .int 4, .int 0, .int 0, .int 0]) = true := by decide +kernel
theorem u_law_sums_60 : okV D_law_sums [.int (.ofNat 60)] (.list [.int 16, .int 0, .int (-2), .int 0, .int 2, .int 0, .int 4, .int 0, .int 2, .int 0, .int 8, .int 0, .int (-4), .int 0, .int (-2), .int 0, .int 2, .int 0, .int 4, .int 0, .int (-8), .int 0, .int (-2), .int 0, .int (-4), .int 0, .int (-2), .int 0, .int 2, .int 0, .int (-16), .int 0, .int 2, .int 0, .int (-2), .int 0, .int (-4), .int 0, .int (-2), .int 0, .int (-8), .int 0, .int 4, .int 0, .int 2, .int 0, .int (-2), .int 0, .int (-4), .int 0, .int 8, .int 0, .int 2, .int 0, .int 4, .int 0, .int 2, .int 0, .int (-2), .int 0]) = true := by decide +kernel
theorem u_law_sums_63 : okV D_law_sums [.int (.ofNat 63)] (.list [.int 36, .int 0, .int 0, .int 3, .int 0, .int 0, .int 3, .int 0, .int 0, .int (-6), .int 0, .int 0, .int 3, .int 0, .int 0, .int 3, .int 0, .int 0, .int (-6), .int 0, .int 0, .int (-18), .int 0, .int 0, .int 3, .int 0, .int 0, .int (-6), .int 0, .int 0, .int 3, .int 0, .int 0, .int 3, .int 0, .int 0, .int (-6), .int 0, .int 0, .int 3, .int 0, .int 0, .int (-18), .int 0, .int 0, .int (-6), .int 0, .int 0, .int 3, .int 0, .int 0, .int 3, .int 0, .int 0, .int (-6), .int 0, .int 0, .int 3, .int 0, .int 0, .int 3, .int 0, .int 0]) = true := by decide +kernel
theorem u_law_sums_66 : okV D_law_sums [.int (.ofNat 66)] (.list [.int 20, .int (-1), .int 1, .int 2, .int 1, .int (-1), .int (-2), .int (-1), .int 1, .int 2, .int 1, .int 10, .int (-2), .int (-1), .int 1, .int 2, .int 1, .int (-1), .int (-2), .int (-1), .int 1, .int 2, .int (-10), .int (-1), .int (-2), .int (-1), .int 1, .int 2, .int 1, .int (-1), .int (-2), .int (-1), .int 1, .int (-20), .int 1, .int (-1), .int (-2), .int (-1), .int 1, .int 2, .int 1, .int (-1), .int (-2), .int (-1), .int (-10), .int 2, .int 1, .int (-1), .int (-2), .int (-1), .int 1, .int 2, .int 1, .int (-1), .int (-2), .int 10, .int 1, .int 2, .int 1, .int (-1), .int (-2), .int (-1), .int 1, .int 2, .int 1, .int (-1)]) = true := by decide +kernel
theorem u_law_sums_70 : okV D_law_sums [.int (.ofNat 70)] (.list [.int 24, .int (-1), .int 1, .int (-1), .int 1, .int 4, .int 1, .int 6, .int 1, .int (-1), .int (-4), .int (-1), .int 1, .int (-1), .int (-6), .int 4, .int 1, .int (-1), .int 1, .int (-1), .int (-4), .int 6, .int 1, .int (-1), .int 1, .int 4, .int 1, .int (-1), .int (-6), .int (-1), .int (-4), .int (-1), .int 1, .int (-1), .int 1, .int (-24), .int 1, .int (-1), .int 1, .int (-1), .int (-4), .int (-1), .int (-6), .int (-1), .int 1, .int 4, .int 1, .int (-1), .int 1, .int 6, .int (-4), .int (-1), .int 1, .int (-1), .int 1, .int 4, .int (-6), .int (-1), .int 1, .int (-1), .int (-4), .int (-1), .int 1, .int 6, .int 1, .int 4, .int 1, .int (-1), .int 1, .int (-1)]) = true := by decide +kernel
theorem u_law_sums_72 : okV D_law_sums [.int (.ofNat 72)] (.list [.int 24, .int 0, .int 0, .int 0, .int 0, .int 0, .int 0, .int 0, .int 0, .int 0, .int 0, .int 0, .int 12, .int 0, .int 0, .int 0, .int 0, .int 0, .int 0, .int 0, .int 0, .int 0, .int 0, .int 0, .int (-12), .int 0, .int 0, .int 0, .int 0, .int 0, .int 0, .int 0, .int 0, .int 0, .int 0, .int 0, .int (-24), .int 0, .int 0, .int 0, .int 0, .int 0, .int 0, .int 0, .int 0, .int 0, .int 0, .int 0, .int (-12), .int 0, .int 0, .int 0, .int 0, .int 0, .int 0, .int 0, .int 0, .int 0, .int 0, .int 0, .int 12, .int 0, .int 0, .int 0, .int 0, .int 0, .int 0, .int 0, .int 0, .int 0, .int 0, .int 0]) = true := by decide +kernel
theorem u_law_sums_77 : okV D_law_sums [.int (.ofNat 77)] (.list [.int 60, .int 1, .int 1, .int 1, .int 1, .int 1, .int 1, .int (-6), .int 1, .int 1, .int 1, .int (-10), .int 1, .int 1, .int (-6), .int 1, .int 1, .int 1, .int 1, .int 1, .int 1, .int (-6), .int (-10), .int 1, .int 1, .int 1, .int 1, .int 1, .int (-6), .int 1, .int 1, .int 1, .int 1, .int (-10), .int 1, .int (-6), .int 1, .int 1, .int 1, .int 1, .int 1, .int 1, .int (-6), .int 1, .int (-10), .int 1, .int 1, .int 1, .int 1, .int (-6), .int 1, .int 1, .int 1, .int 1, .int 1, .int (-10), .int (-6), .int 1, .int 1, .int 1, .int 1, .int 1, .int 1, .int (-6), .int 1, .int 1, .int (-10), .int 1, .int 1, .int 1, .int (-6), .int 1, .int 1, .int 1, .int 1, .int 1, .int 1]) = true := by decide +kernel
theorem u_law_sums_84 : okV D_law_sums [.int (.ofNat 84)] (.list [.int 24, .int 0, .int (-2), .int 0, .int 2, .int 0, .int 4, .int 0, .int 2, .int 0, .int (-2), .int 0, .int (-4), .int 0, .int 12, .int 0, .int 2, .int 0, .int 4, .int 0, .int 2, .int 0, .int (-2), .int 0, .int (-4), .int 0, .int (-2), .int 0, .int (-12), .int 0, .int 4, .int 0, .int 2, .int 0, .int (-2), .int 0, .int (-4), .int 0, .int (-2), .int 0, .int 2, .int 0, .int (-24), .int 0, .int 2, .int 0, .int (-2), .int 0, .int (-4), .int 0, .int (-2), .int 0, .int 2, .int 0, .int 4, .int 0, .int (-12), .int 0, .int (-2), .int 0, .int (-4), .int 0, .int (-2), .int 0, .int 2, .int 0, .int 4, .int 0, .int 2, .int 0, .int 12, .int 0, .int (-4), .int 0, .int (-2), .int 0, .int 2, .int 0, .int 4, .int 0, .int 2, .int 0, .int (-2), .int 0]) = true := by decide +kernel
theorem u_law_sums_88 : okV D_law_sums [.int (.ofNat 88)] (.list [.int 40, .int 0, .int 0, .int 0, .int 4, .int 0, .int 0, .int 0, .int (-4), .int 0, .int 0, .int 0, .int 4, .int 0, .int 0, .int 0, .int (-4), .int 0, .int 0, .int 0, .int 4, .int 0, .int 0, .int 0, .int (-4), .int 0, .int 0, .int 0, .int 4, .int 0, .int 0, .int 0, .int (-4), .int 0, .int 0, .int 0, .int 4, .int 0, .int 0, .int 0, .int (-4), .int 0, .int 0, .int 0, .int (-40), .int 0, .int 0, .int 0, .int (-4), .int 0, .int 0, .int 0, .int 4, .int 0, .int 0, .int 0, .int (-4), .int 0, .int 0, .int 0, .int 4, .int 0, .int 0, .int 0, .int (-4), .int 0, .int 0, .int 0, .int 4, .int 0, .int 0, .int 0, .int (-4), .int 0, .int 0, .int 0, .int 4, .int 0, .int 0, .int 0, .int (-4), .int 0, .int 0, .int 0, .int 4, .int 0, .int 0, .int 0]) = true := by decide +kernel
theorem u_law_sums_90 : okV D_law_sums [.int (.ofNat 90)] (.list [.int 24, .int 0, .int 0, .int (-3), .int 0, .int 0, .int 3, .int 0, .int 0, .int 6, .int 0, .int 0, .int 3, .int 0, .int 0, .int 12, .int 0, .int 0, .int (-6), .int 0, .int 0, .int (-3), .int 0, .int 0, .int 3, .int 0, .int 0, .int 6, .int 0, .int 0, .int (-12), .int 0, .int 0, .int (-3), .int 0, .int 0, .int (-6), .int 0, .int 0, .int (-3), .int 0, .int 0, .int 3, .int 0, .int 0, .int (-24), .int 0, .int 0, .int 3, .int 0, .int 0, .int (-3), .int 0, .int 0, .int (-6), .int 0, .int 0, .int (-3), .int 0, .int 0, .int (-12), .int 0, .int 0, .int 6, .int 0, .int 0, .int 3, .int 0, .int 0, .int (-3), .int 0, .int 0, .int (-6), .int 0, .int 0, .int 12, .int 0, .int 0, .int 3, .int 0, .int 0, .int 6, .int 0, .int 0, .int 3, .int 0, .int 0, .int (-3), .int 0, .int 0]) = true := by decide +kernel
theorem u_law_sums_99 : okV D_law_sums [.int (.ofNat 99)] (.list [.int 60, .int 0, .int 0, .int 3, .int 0, .int 0, .int 3, .int 0, .int 0, .int (-6), .int 0, .int 0, .int 3, .int 0, .int 0, .int 3, .int 0, .int 0, .int (-6), .int 0, .int 0, .int 3, .int 0, .int 0, .int 3, .int 0, .int 0, .int (-6), .int 0, .int 0, .int 3, .int 0, .int 0, .int (-30), .int 0, .int 0, .int (-6), .int 0, .int 0, .int 3, .int 0, .int 0, .int 3, .int 0, .int 0, .int (-6), .int 0, .int 0, .int 3, .int 0, .int 0, .int 3, .int 0, .int 0, .int (-6), .int 0, .int 0, .int 3, .int 0, .int 0, .int 3, .int 0, .int 0, .int (-6), .int 0, .int 0, .int (-30), .int 0, .int 0, .int 3, .int 0, .int 0, .int (-6), .int 0, .int 0, .int 3, .int 0, .int 0, .int 3, .int 0, .int 0, .int (-6), .int 0, .int 0, .int 3, .int 0, .int 0, .int 3, .int 0, .int 0, .int (-6), .int 0, .int 0, .int 3, .int 0, .int 0, .int 3, .int 0, .int 0]) = true := by decide +kernel
theorem u_law_sums_110 : okV D_law_sums [.int (.ofNat 110)] (.list [.int 40, .int (-1), .int 1, .int (-1), .int 1, .int 4, .int 1, .int (-1), .int 1, .int (-1), .int (-4), .int 10, .int 1, .int (-1), .int 1, .int 4, .int 1, .int (-1), .int 1, .int (-1), .int (-4), .int (-1), .int (-10), .int (-1), .int 1, .int 4, .int 1, .int (-1), .int 1, .int (-1), .int (-4), .int (-1), .int 1, .int 10, .int 1, .int 4, .int 1, .int (-1), .int 1, .int (-1), .int (-4), .int (-1), .int 1, .int (-1), .int (-10), .int 4, .int 1, .int (-1), .int 1, .int (-1), .int (-4), .int (-1), .int 1, .int (-1), .int 1, .int (-40), .int 1, .int (-1), .int 1, .int (-1), .int (-4), .int (-1), .int 1, .int (-1), .int 1, .int 4, .int (-10), .int (-1), .int 1, .int (-1), .int (-4), .int (-1), .int 1, .int (-1), .int 1, .int 4, .int 1, .int 10, .int 1, .int (-1), .int (-4), .int (-1), .int 1, .int (-1), .int 1, .int 4, .int 1, .int (-1), .int (-10), .int (-1), .int (-4), .int (-1), .int 1, .int (-1), .int 1, .int 4, .int 1, .int (-1), .int 1, .int 10, .int (-4), .int (-1), .int 1, .int (-1), .int 1, .int 4, .int 1, .int (-1), .int 1, .int (-1)]) = true := by decide +kernel
theorem u_law_sums_132 : okV D_law_sums [.int (.ofNat 132)] (.list [.int 40, .int 0, .int (-2), .int 0, .int 2, .int 0, .int 4, .int 0, .int 2, .int 0, .int (-2), .int 0, .int (-4), .int 0, .int (-2), .int 0, .int 2, .int 0, .int 4, .int 0, .int 2, .int 0, .int 20, .int 0, .int (-4), .int 0, .int (-2), .int 0, .int 2, .int 0, .int 4, .int 0, .int 2, .int 0, .int (-2), .int 0, .int (-4), .int 0, .int (-2), .int 0, .int 2, .int 0, .int 4, .int 0, .int (-20), .int 0, .int (-2), .int 0, .int (-4), .int 0, .int (-2), .int 0, .int 2, .int 0, .int 4, .int 0, .int 2, .int 0, .int (-2), .int 0, .int (-4), .int 0, .int (-2), .int 0, .int 2, .int 0, .int (-40), .int 0, .int 2, .int 0, .int (-2), .int 0, .int (-4), .int 0, .int (-2), .int 0, .int 2, .int 0, .int 4, .int 0, .int 2, .int 0, .int (-2), .int 0, .int (-4), .int 0, .int (-2), .int 0, .int (-20), .int 0, .int 4, .int 0, .int 2, .int 0, .int (-2), .int 0, .int (-4), .int 0, .int (-2), .int 0, .int 2, .int 0, .int 4, .int 0, .int 2, .int 0, .int (-2), .int 0, .int (-4), .int 0, .int 20, .int 0, .int 2, .int 0, .int 4, .int 0, .int 2, .int 0, .int (-2), .int 0, .int (-4), .int 0, .int (-2), .int 0, .int 2, .int 0, .int 4, .int 0, .int 2, .int 0, .int (-2), .int 0]) = true := by decide +kernel
noncomputable def l_law_sums : List (Nat × V) := [(1, .list [.int 1]), (2, .list [.int 1, .int (-1)]), (3, .list [.int 2, .int (-1), .int (-1)]), (4, .list [.int 2, .int 0, .int (-2), .int 0]), (5, .list [.int 4, .int (-1), .int (-1), .int (-1), .int (-1)]), (6, .list [.int 2, .int 1, .int (-1), .int (-2), .int (-1), .int 1]), (7, .list [.int 6, .int (-1), .int (-1), .int (-1), .int (-1), .int (-1), .int (-1)]), (8, .list [.int 4, .int 0, .int 0, .int 0, .int (-4), .int 0, .int 0, .int 0]), (9, .list [.int 6, .int 0, .int 0, .int (-3), .int 0, .int 0, .int (-3), .int 0, .int 0]), (10, .list [.int 4, .int 1, .int (-1), .int 1, .int (-1), .int (-4), .int (-1), .int 1, .int (-1), .int 1]), (11, .list [.int 10, .int (-1), .int (-1), .int (-1), .int (-1), .int (-1), .int (-1), .int (-1), .int (-1), .int (-1), .int (-1)]), (12, .list [.int 4, .int 0, .int 2, .int 0, .int (-2), .int 0, .int (-4), .int 0, .int (-2), .int 0, .int 2, .int 0]), (14, .list [.int 6, .int 1, .int (-1), .int 1, .int (-1), .int 1, .int (-1), .int (-6), .int (-1), .int 1, .int (-1), .int 1, .int (-1), .int 1]), (15, .list [.int 8, .int 1, .int 1, .int (-2), .int 1, .int (-4), .int (-2), .int 1, .int 1, .int (-2), .int (-4), .int 1, .int (-2), .int 1, .int 1]), (18, .list [.int 6, .int 0, .int 0, .int 3, .int 0, .int 0, .int (-3), .int 0, .int 0, .int (-6), .int 0, .int 0, .int (-3), .int 0, .int 0, .int 3, .int 0, .int 0]), (20, .list [.int 8, .int 0, .int 2, .int 0, .int (-2), .int 0, .int 2, .int 0, .int (-2), .int 0, .int (-8), .int 0, .int (-2), .int 0, .int 2, .int 0, .int (-2), .int 0, .int 2, .int 0]), (21, .list [.int 12, .int 1, .int 1, .int (-2), .int 1, .int 1, .int (-2), .int (-6), .int 1, .int (-2), .int 1, .int 1, .int (-2), .int 1, .int (-6), .int (-2), .int 1, .int 1, .int (-2), .int 1, .int 1]), (22, .list [.int 10, .int 1, .int (-1), .int 1, .int (-1), .int 1, .int (-1), .int 1, .int (-1), .int 1, .int (-1), .int (-10), .int (-1), .int 1, .int (-1), .int 1, .int (-1), .int 1, .int (-1), .int 1, .int (-1), .int 1]), (24, .list [.int 8, .int 0, .int 0, .int 0, .int 4, .int 0, .int 0, .int 0, .int (-4), .int 0, .int 0, .int 0, .int (-8), .int 0, .int 0, .int 0, .int (-4), .int 0, .int 0, .int 0, .int 4, .int 0, .int 0, .int 0]), (28, .list [.int 12, .int 0, .int 2, .int 0, .int (-2), .int 0, .int 2, .int 0, .int (-2), .int 0, .int 2, .int 0, .int (-2), .int 0, .int (-12), .int 0, .int (-2), .int 0, .int 2, .int 0, .int (-2), .int 0, .int 2, .int 0, .int (-2), .int 0, .int 2, .int 0]), (30, .list [.int 8, .int (-1), .int 1, .int 2, .int 1, .int 4, .int (-2), .int (-1), .int 1, .int 2, .int (-4), .int (-1), .int (-2), .int (-1), .int 1, .int (-8), .int 1, .int (-1), .int (-2), .int (-1), .int (-4), .int 2, .int 1, .int (-1), .int (-2), .int 4, .int 1, .int 2, .int 1, .int (-1)]), (33, .list [.int 20, .int 1, .int 1, .int (-2), .int 1, .int 1, .int (-2), .int 1, .int 1, .int (-2), .int 1, .int (-10), .int (-2), .int 1, .int 1, .int (-2), .int 1, .int 1, .int (-2), .int 1, .int 1, .int (-2), .int (-10), .int 1, .int (-2), .int 1, .int 1, .int (-2), .int 1, .int 1, .int (-2), .int 1, .int 1]), (35, .list [.int 24, .int 1, .int 1, .int 1, .int 1, .int (-4), .int 1, .int (-6), .int 1, .int 1, .int (-4), .int 1, .int 1, .int 1, .int (-6), .int (-4), .int 1, .int 1, .int 1, .int 1, .int (-4), .int (-6), .int 1, .int 1, .int 1, .int (-4), .int 1, .int 1, .int (-6), .int 1, .int (-4), .int 1, .int 1, .int 1, .int 1]), (36, .list [.int 12, .int 0, .int 0, .int 0, .int 0, .int 0, .int 6, .int 0, .int 0, .int 0, .int 0, .int 0, .int (-6), .int 0, .int 0, .int 0, .int 0, .int 0, .int (-12), .int 0, .int 0, .int 0, .int 0, .int 0, .int (-6), .int 0, .int 0, .int 0, .int 0, .int 0, .int 6, .int 0, .int 0, .int 0, .int 0, .int 0]), (40, .list [.int 16, .int 0, .int 0, .int 0, .int 4, .int 0, .int 0, .int 0, .int (-4), .int 0, .int 0, .int 0, .int 4, .int 0, .int 0, .int 0, .int (-4), .int 0, .int 0, .int 0, .int (-16), .int 0, .int 0, .int 0, .int (-4), .int 0, .int 0, .int 0, .int 4, .int 0, .int 0, .int 0, .int (-4), .int 0, .int 0, .int 0, .int 4, .int 0, .int 0, .int 0]), (42, .list [.int 12, .int (-1), .int 1, .int 2, .int 1, .int (-1), .int (-2), .int 6, .int 1, .int 2, .int 1, .int (-1), .int (-2), .int (-1), .int (-6), .int 2, .int 1, .int (-1), .int (-2), .int (-1), .int 1, .int (-12), .int 1, .int (-1), .int (-2), .int (-1), .int 1, .int 2, .int (-6), .int (-1), .int (-2), .int (-1), .int 1, .int 2, .int 1, .int 6, .int (-2), .int (-1), .int 1, .int 2, .int 1, .int (-1)]), (44, .list [.int 20, .int 0, .int 2, .int 0, .int (-2), .int 0, .int 2, .int 0, .int (-2), .int 0, .int 2, .int 0, .int (-2), .int 0, .int 2, .int 0, .int (-2), .int 0, .int 2, .int 0, .int (-2), .int 0, .int (-20), .int 0, .int (-2), .int 0, .int 2, .int 0, .int (-2), .int 0, .int 2, .int 0, .int (-2), .int 0, .int 2, .int 0, .int (-2), .int 0, .int 2, .int 0, .int (-2), .int 0, .int 2, .int 0]), (45, .list [.int 24, .int 0, .int 0, .int 3, .int 0, .int 0, .int 3, .int 0, .int 0, .int (-6), .int 0, .int 0, .int 3, .int 0, .int 0, .int (-12), .int 0, .int 0, .int (-6), .int 0, .int 0, .int 3, .int 0, .int 0, .int 3, .int 0, .int 0, .int (-6), .int 0, .int 0, .int (-12), .int 0, .int 0, .int 3, .int 0, .int 0, .int (-6), .int 0, .int 0, .int 3, .int 0, .int 0, .int 3, .int 0, .int 0]), (55, .list [.int 40, .int 1, .int 1, .int 1, .int 1, .int (-4), .int 1, .int 1, .int 1, .int 1, .int (-4), .int (-10), .int 1, .int 1, .int 1, .int (-4), .int 1, .int 1, .int 1, .int 1, .int (-4), .int 1, .int (-10), .int 1, .int 1, .int (-4), .int 1, .int 1, .int 1, .int 1, .int (-4), .int 1, .int 1, .int (-10), .int 1, .int (-4), .int 1, .int 1, .int 1, .int 1, .int (-4), .int 1, .int 1, .int 1, .int (-10), .int (-4), .int 1, .int 1, .int 1, .int 1, .int (-4), .int 1, .int 1, .int 1, .int 1]), (56, .list [.int 24, .int 0, .int 0, .int 0, .int 4, .int 0, .int 0, .int 0, .int (-4), .int 0, .int 0, .int 0, .int 4, .int 0, .int 0, .int 0, .int (-4), .int 0, .int 0, .int 0, .int 4, .int 0, .int 0, .int 0, .int (-4), .int 0, .int 0, .int 0, .int (-24), .int 0, .int 0, .int 0, .int (-4), .int 0, .int 0, .int 0, .int 4, .int 0, .int 0, .int 0, .int (-4), .int 0, .int 0, .int 0, .int 4, .int 0, .int 0, .int 0, .int (-4), .int 0, .int 0, .int 0, .int 4, .int 0, .int 0, .int 0]), (60, .list [.int 16, .int 0, .int (-2), .int 0, .int 2, .int 0, .int 4, .int 0, .int 2, .int 0, .int 8, .int 0, .int (-4), .int 0, .int (-2), .int 0, .int 2, .int 0, .int 4, .int 0, .int (-8), .int 0, .int (-2), .int 0, .int (-4), .int 0, .int (-2), .int 0, .int 2, .int 0, .int (-16), .int 0, .int 2, .int 0, .int (-2), .int 0, .int (-4), .int 0, .int (-2), .int 0, .int (-8), .int 0, .int 4, .int 0, .int 2, .int 0, .int (-2), .int 0, .int (-4), .int 0, .int 8, .int 0, .int 2, .int 0, .int 4, .int 0, .int 2, .int 0, .int (-2), .int 0]), (63, .list [.int 36, .int 0, .int 0, .int 3, .int 0, .int 0, .int 3, .int 0, .int 0, .int (-6), .int 0, .int 0, .int 3, .int 0, .int 0, .int 3, .int 0, .int 0, .int (-6), .int 0, .int 0, .int (-18), .int 0, .int 0, .int 3, .int 0, .int 0, .int (-6), .int 0, .int 0, .int 3, .int 0, .int 0, .int 3, .int 0, .int 0, .int (-6), .int 0, .int 0, .int 3, .int 0, .int 0, .int (-18), .int 0, .int 0, .int (-6), .int 0, .int 0, .int 3, .int 0, .int 0, .int 3, .int 0, .int 0, .int (-6), .int 0, .int 0, .int 3, .int 0, .int 0, .int 3, .int 0, .int 0]), (66, .list [.int 20, .int (-1), .int 1, .int 2, .int 1, .int (-1), .int (-2), .int (-1), .int 1, .int 2, .int 1, .int 10, .int (-2), .int (-1), .int 1, .int 2, .int 1, .int (-1), .int (-2), .int (-1), .int 1, .int 2, .int (-10), .int (-1), .int (-2), .int (-1), .int 1, .int 2, .int 1, .int (-1), .int (-2), .int (-1), .int 1, .int (-20), .int 1, .int (-1), .int (-2), .int (-1), .int 1, .int 2, .int 1, .int (-1), .int (-2), .int (-1), .int (-10), .int 2, .int 1, .int (-1), .int (-2), .int (-1), .int 1, .int 2, .int 1, .int (-1), .int (-2), .int 10, .int 1, .int 2, .int 1, .int (-1), .int (-2), .int (-1), .int 1, .int 2, .int 1, .int (-1)]), (70, .list [.int 24, .int (-1), .int 1, .int (-1), .int 1, .int 4, .int 1, .int 6, .int 1, .int (-1), .int (-4), .int (-1), .int 1, .int (-1), .int (-6), .int 4, .int 1, .int (-1), .int 1, .int (-1), .int (-4), .int 6, .int 1, .int (-1), .int 1, .int 4, .int 1, .int (-1), .int (-6), .int (-1), .int (-4), .int (-1), .int 1, .int (-1), .int 1, .int (-24), .int 1, .int (-1), .int 1, .int (-1), .int (-4), .int (-1), .int (-6), .int (-1), .int 1, .int 4, .int 1, .int (-1), .int 1, .int 6, .int (-4), .int (-1), .int 1, .int (-1), .int 1, .int 4, .int (-6), .int (-1), .int 1, .int (-1), .int (-4), .int (-1), .int 1, .int 6, .int 1, .int 4, .int 1, .int (-1), .int 1, .int (-1)]), (72, .list [.int 24, .int 0, .int 0, .int 0, .int 0, .int 0, .int 0, .int 0, .int 0, .int 0, .int 0, .int 0, .int 12, .int 0, .int 0, .int 0, .int 0, .int 0, .int 0, .int 0, .int 0, .int 0, .int 0, .int 0, .int (-12), .int 0, .int 0, .int 0, .int 0, .int 0, .int 0, .int 0, .int 0, .int 0, .int 0, .int 0, .int (-24), .int 0, .int 0, .int 0, .int 0, .int 0, .int 0, .int 0, .int 0, .int 0, .int 0, .int 0, .int (-12), .int 0, .int 0, .int 0, .int 0, .int 0, .int 0, .int 0, .int 0, .int 0, .int 0, .int 0, .int 12, .int 0, .int 0, .int 0, .int 0, .int 0, .int 0, .int 0, .int 0, .int 0, .int 0, .int 0]), (77, .list [.int 60, .int 1, .int 1, .int 1, .int 1, .int 1, .int 1, .int (-6), .int 1, .int 1, .int 1, .int (-10), .int 1, .int 1, .int (-6), .int 1, .int 1, .int 1, .int 1, .int 1, .int 1, .int (-6), .int (-10), .int 1, .int 1, .int 1, .int 1, .int 1, .int (-6), .int 1, .int 1, .int 1, .int 1, .int (-10), .int 1, .int (-6), .int 1, .int 1, .int 1, .int 1, .int 1, .int 1, .int (-6), .int 1, .int (-10), .int 1, .int 1, .int 1, .int 1, .int (-6), .int 1, .int 1, .int 1, .int 1, .int 1, .int (-10), .int (-6), .int 1, .int 1, .int 1, .int 1, .int 1, .int 1, .int (-6), .int 1, .int 1, .int (-10), .int 1, .int 1, .int 1, .int (-6), .int 1, .int 1, .int 1, .int 1, .int 1, .int 1]), (84, .list [.int 24, .int 0, .int (-2), .int 0, .int 2, .int 0, .int 4, .int 0, .int 2, .int 0, .int (-2), .int 0, .int (-4), .int 0, .int 12, .int 0, .int 2, .int 0, .int 4, .int 0, .int 2, .int 0, .int (-2), .int 0, .int (-4), .int 0, .int (-2), .int 0, .int (-12), .int 0, .int 4, .int 0, .int 2, .int 0, .int (-2), .int 0, .int (-4), .int 0, .int (-2), .int 0, .int 2, .int 0, .int (-24), .int 0, .int 2, .int 0, .int (-2), .int 0, .int (-4), .int 0, .int (-2), .int 0, .int 2, .int 0, .int 4, .int 0, .int (-12), .int 0, .int (-2), .int 0, .int (-4), .int 0, .int (-2), .int 0, .int 2, .int 0, .int 4, .int 0, .int 2, .int 0, .int 12, .int 0, .int (-4), .int 0, .int (-2), .int 0, .int 2, .int 0, .int 4, .int 0, .int 2, .int 0, .int (-2), .int 0]), (88, .list [.int 40, .int 0, .int 0, .int 0, .int 4, .int 0, .int 0, .int 0, .int (-4), .int 0, .int 0, .int 0, .int 4, .int 0, .int 0, .int 0, .int (-4), .int 0, .int 0, .int 0, .int 4, .int 0, .int 0, .int 0, .int (-4), .int 0, .int 0, .int 0, .int 4, .int 0, .int 0, .int 0, .int (-4), .int 0, .int 0, .int 0, .int 4, .int 0, .int 0, .int 0, .int (-4), .int 0, .int 0, .int 0, .int (-40), .int 0, .int 0, .int 0, .int (-4), .int 0, .int 0, .int 0, .int 4, .int 0, .int 0, .int 0, .int (-4), .int 0, .int 0, .int 0, .int 4, .int 0, .int 0, .int 0, .int (-4), .int 0, .int 0, .int 0, .int 4, .int 0, .int 0, .int 0, .int (-4), .int 0, .int 0, .int 0, .int 4, .int 0, .int 0, .int 0, .int (-4), .int 0, .int 0, .int 0, .int 4, .int 0, .int 0, .int 0]), (90, .list [.int 24, .int 0, .int 0, .int (-3), .int 0, .int 0, .int 3, .int 0, .int 0, .int 6, .int 0, .int 0, .int 3, .int 0, .int 0, .int 12, .int 0, .int 0, .int (-6), .int 0, .int 0, .int (-3), .int 0, .int 0, .int 3, .int 0, .int 0, .int 6, .int 0, .int 0, .int (-12), .int 0, .int 0, .int (-3), .int 0, .int 0, .int (-6), .int 0, .int 0, .int (-3), .int 0, .int 0, .int 3, .int 0, .int 0, .int (-24), .int 0, .int 0, .int 3, .int 0, .int 0, .int (-3), .int 0, .int 0, .int (-6), .int 0, .int 0, .int (-3), .int 0, .int 0, .int (-12), .int 0, .int 0, .int 6, .int 0, .int 0, .int 3, .int 0, .int 0, .int (-3), .int 0, .int 0, .int (-6), .int 0, .int 0, .int 12, .int 0, .int 0, .int 3, .int 0, .int 0, .int 6, .int 0, .int 0, .int 3, .int 0, .int 0, .int (-3), .int 0, .int 0]), (99, .list [.int 60, .int 0, .int 0, .int 3, .int 0, .int 0, .int 3, .int 0, .int 0, .int (-6), .int 0, .int 0, .int 3, .int 0, .int 0, .int 3, .int 0, .int 0, .int (-6), .int 0, .int 0, .int 3, .int 0, .int 0, .int 3, .int 0, .int 0, .int (-6), .int 0, .int 0, .int 3, .int 0, .int 0, .int (-30), .int 0, .int 0, .int (-6), .int 0, .int 0, .int 3, .int 0, .int 0, .int 3, .int 0, .int 0, .int (-6), .int 0, .int 0, .int 3, .int 0, .int 0, .int 3, .int 0, .int 0, .int (-6), .int 0, .int 0, .int 3, .int 0, .int 0, .int 3, .int 0, .int 0, .int (-6), .int 0, .int 0, .int (-30), .int 0, .int 0, .int 3, .int 0, .int 0, .int (-6), .int 0, .int 0, .int 3, .int 0, .int 0, .int 3, .int 0, .int 0, .int (-6), .int 0, .int 0, .int 3, .int 0, .int 0, .int 3, .int 0, .int 0, .int (-6), .int 0, .int 0, .int 3, .int 0, .int 0, .int 3, .int 0, .int 0]), (110, .list [.int 40, .int (-1), .int 1, .int (-1), .int 1, .int 4, .int 1, .int (-1), .int 1, .int (-1), .int (-4), .int 10, .int 1, .int (-1), .int 1, .int 4, .int 1, .int (-1), .int 1, .int (-1), .int (-4), .int (-1), .int (-10), .int (-1), .int 1, .int 4, .int 1, .int (-1), .int 1, .int (-1), .int (-4), .int (-1), .int 1, .int 10, .int 1, .int 4, .int 1, .int (-1), .int 1, .int (-1), .int (-4), .int (-1), .int 1, .int (-1), .int (-10), .int 4, .int 1, .int (-1), .int 1, .int (-1), .int (-4), .int (-1), .int 1, .int (-1), .int 1, .int (-40), .int 1, .int (-1), .int 1, .int (-1), .int (-4), .int (-1), .int 1, .int (-1), .int 1, .int 4, .int (-10), .int (-1), .int 1, .int (-1), .int (-4), .int (-1), .int 1, .int (-1), .int 1, .int 4, .int 1, .int 10, .int 1, .int (-1), .int (-4), .int (-1), .int 1, .int (-1), .int 1, .int 4, .int 1, .int (-1), .int (-10), .int (-1), .int (-4), .int (-1), .int 1, .int (-1), .int 1, .int 4, .int 1, .int (-1), .int 1, .int 10, .int (-4), .int (-1), .int 1, .int (-1), .int 1, .int 4, .int 1, .int (-1), .int 1, .int (-1)]), (132, .list [.int 40, .int 0, .int (-2), .int 0, .int 2, .int 0, .int 4, .int 0, .int 2, .int 0, .int (-2), .int 0, .int (-4), .int 0, .int (-2), .int 0, .int 2, .int 0, .int 4, .int 0, .int 2, .int 0, .int 20, .int 0, .int (-4), .int 0, .int (-2), .int 0, .int 2, .int 0, .int 4, .int 0, .int 2, .int 0, .int (-2), .int 0, .int (-4), .int 0, .int (-2), .int 0, .int 2, .int 0, .int 4, .int 0, .int (-20), .int 0, .int (-2), .int 0, .int (-4), .int 0, .int (-2), .int 0, .int 2, .int 0, .int 4, .int 0, .int 2, .int 0, .int (-2), .int 0, .int (-4), .int 0, .int (-2), .int 0, .int 2, .int 0, .int (-40), .int 0, .int 2, .int 0, .int (-2), .int 0, .int (-4), .int 0, .int (-2), .int 0, .int 2, .int 0, .int 4, .int 0, .int 2, .int 0, .int (-2), .int 0, .int (-4), .int 0, .int (-2), .int 0, .int (-20), .int 0, .int 4, .int 0, .int 2, .int 0, .int (-2), .int 0, .int (-4), .int 0, .int (-2), .int 0, .int 2, .int 0, .int 4, .int 0, .int 2, .int 0, .int (-2), .int 0, .int (-4), .int 0, .int 20, .int 0, .int 2, .int 0, .int 4, .int 0, .int 2, .int 0, .int (-2), .int 0, .int (-4), .int 0, .int (-2), .int 0, .int 2, .int 0, .int 4, .int 0, .int 2, .int 0, .int (-2), .int 0])]
noncomputable def T_law_sums : List V → Option V := tab1 l_law_sums
theorem ok_law_sums : tabOK D_law_sums l_law_sums = true := (and_ u_law_sums_1 (and_ u_law_sums_2 (and_ u_law_sums_3 (and_ u_law_sums_4 (and_ u_law_sums_5 (and_ u_law_sums_6 (and_ u_law_sums_7 (and_ u_law_sums_8 (and_ u_law_sums_9 (and_ u_law_sums_10 (and_ u_law_sums_11 (and_ u_law_sums_12 (and_ u_law_sums_14 (and_ u_law_sums_15 (and_ u_law_sums_18 (and_ u_law_sums_20 (and_ u_law_sums_21 (and_ u_law_sums_22 (and_ u_law_sums_24 (and_ u_law_sums_28 (and_ u_law_sums_30 (and_ u_law_sums_33 (and_ u_law_sums_35 (and_ u_law_sums_36 (and_ u_law_sums_40 (and_ u_law_sums_42 (and_ u_law_sums_44 (and_ u_law_sums_45 (and_ u_law_sums_55 (and_ u_law_sums_56 (and_ u_law_sums_60 (and_ u_law_sums_63 (and_ u_law_sums_66 (and_ u_law_sums_70 (and_ u_law_sums_72 (and_ u_law_sums_77 (and_ u_law_sums_84 (and_ u_law_sums_88 (and_ u_law_sums_90 (and_ u_law_sums_99 (and_ u_law_sums_110 (and_ u_law_sums_132 rfl))))))))))))))))))))))))))))))))))))))))))
theorem t_law_sums {L : Nat} (h : SndF prog w hb mg L "_law_sums" D_law_sums) : SndF prog w hb mg L "_law_sums" T_law_sums := h.weaken (tab1_ok ok_law_sums)

noncomputable def G_law_rooted : Sig := ⟨scopeOfS (nth 24), [("q", 0), ("found", 1), ("d", 2)], []⟩
noncomputable def d_law_rooted (D : List V → Option V) : St → Option (Fl × St) :=
  (dSeq (dAsg 1 (eBin .Add (eBin .Add (eN (nList (lCons (eNeg (eI 1)) lNil))) (eBin .Mult (eN (nList (lCons (eI 0) lNil))) (eBin .Sub (eV 0) (eI 1)))) (eN (nList (lCons (eI 1) lNil)))))
    (dSeq (dFor (iList (eUpto (eCall T_divisors (lCons (eV 0) lNil)) (eNeg (eI 1)))) (aName 2) (dSeq (dAsg 1 (eCall D_zexact (lCons (eV 1) (lCons (eCall D (lCons (eV 2) lNil)) lNil))))
      dNil))
    (dSeq (dRet (eV 1))
    dNil)))
noncomputable def D_law_rooted (D : List V → Option V) : List V → Option V := fnV 1 2 (d_law_rooted D)
theorem b_law_rooted (W : World0 hb mg mb) (h_divisors : SndF prog w hb mg 3 "divisors" T_divisors) (h_zexact : SndF prog w hb mg 4 "zexact" D_zexact) {m : Nat} (hm : 4 ≤ m) {D : List V → Option V} (h_law_rooted : SndF prog w hb mg m "_law_rooted" D) : SndSs prog w hb m G_law_rooted none none (bodyOfS (nth 24)) (d_law_rooted D) := by
  delta d_law_rooted
  refine sSs_cons (s_asg (by decide +kernel) (fun _ _ => rfl) ?_) ?_
  · refine sE_bin ?_ ?_
    · refine sE_bin ?_ ?_
      · refine sE_ofN ?_
        refine sN_list ?_
        refine sL_cons ?_ ?_ (fun _ => rfl)
        · refine sE_neg ?_
          exact sE_int
        exact sL_nil
      · refine sE_bin ?_ ?_
        · refine sE_ofN ?_
          refine sN_list ?_
          refine sL_cons ?_ ?_ (fun _ => rfl)
          · exact sE_int
          exact sL_nil
        · refine sE_bin ?_ ?_
          · exact s_v (by decide +kernel)
          · exact sE_int
    · refine sE_ofN ?_
      refine sN_list ?_
      refine sL_cons ?_ ?_ (fun _ => rfl)
      · exact sE_int
      exact sL_nil
  refine sSs_cons (sS_for ?_ ?_ ?_ (fun _ _ => rfl)) ?_
  · refine sI_list ?_
    refine sE_upto ?_ ?_
    · refine s_call W h_divisors (by first | decide | omega) (by decide +kernel) (fun _ => rfl) ?_
      refine sL_cons ?_ ?_ (fun _ => rfl)
      · exact s_v (by decide +kernel)
      exact sL_nil
    · refine sE_neg ?_
      exact sE_int
  · exact s_aName (by decide +kernel)
  · refine sSs_cons (s_asg (by decide +kernel) (fun _ _ => rfl) ?_) ?_
    · refine s_call W h_zexact (by first | decide | omega) (by decide +kernel) (fun _ => rfl) ?_
      refine sL_cons ?_ ?_ (fun _ => rfl)
      · exact s_v (by decide +kernel)
      refine sL_cons ?_ ?_ (fun _ => rfl)
      · refine s_call W h_law_rooted (by first | decide | omega) (by decide +kernel) (fun _ => rfl) ?_
        refine sL_cons ?_ ?_ (fun _ => rfl)
        · exact s_v (by decide +kernel)
        exact sL_nil
      exact sL_nil
    exact sSs_nil
  refine sSs_cons (s_ret ?_) ?_
  · exact s_v (by decide +kernel)
  exact sSs_nil
theorem f_law_rooted (W : World0 hb mg mb) (h_divisors : SndF prog w hb mg 3 "divisors" T_divisors) (h_zexact : SndF prog w hb mg 4 "zexact" D_zexact) {m : Nat} (hm : 4 ≤ m) {D : List V → Option V} (h_law_rooted : SndF prog w hb mg m "_law_rooted" D) : SndF prog w hb mg (m + 1) "_law_rooted" (D_law_rooted D) :=
  s_def 24 (N := 2) (ps := ["q"]) W (by decide) rfl (by decide +kernel) (fun pm code doc vs hv => by
    match vs, hv with
    | [a], _ => rfl) rfl rfl (b_law_rooted W h_divisors h_zexact hm h_law_rooted)
noncomputable def Rt : Nat → List V → Option V
  | 0 => fun _ => none
  | k + 1 => D_law_rooted (Rt k)

theorem u_law_rooted_1 : okV (Rt 5) [.int (.ofNat 1)] (.list [.int (-1), .int 1]) = true := by decide +kernel
theorem u_law_rooted_2 : okV (Rt 5) [.int (.ofNat 2)] (.list [.int 1, .int 1]) = true := by decide +kernel
theorem u_law_rooted_3 : okV (Rt 5) [.int (.ofNat 3)] (.list [.int 1, .int 1, .int 1]) = true := by decide +kernel
theorem u_law_rooted_4 : okV (Rt 5) [.int (.ofNat 4)] (.list [.int 1, .int 0, .int 1]) = true := by decide +kernel
theorem u_law_rooted_5 : okV (Rt 5) [.int (.ofNat 5)] (.list [.int 1, .int 1, .int 1, .int 1, .int 1]) = true := by decide +kernel
theorem u_law_rooted_6 : okV (Rt 5) [.int (.ofNat 6)] (.list [.int 1, .int (-1), .int 1]) = true := by decide +kernel
theorem u_law_rooted_7 : okV (Rt 5) [.int (.ofNat 7)] (.list [.int 1, .int 1, .int 1, .int 1, .int 1, .int 1, .int 1]) = true := by decide +kernel
theorem u_law_rooted_8 : okV (Rt 5) [.int (.ofNat 8)] (.list [.int 1, .int 0, .int 0, .int 0, .int 1]) = true := by decide +kernel
theorem u_law_rooted_9 : okV (Rt 5) [.int (.ofNat 9)] (.list [.int 1, .int 0, .int 0, .int 1, .int 0, .int 0, .int 1]) = true := by decide +kernel
theorem u_law_rooted_10 : okV (Rt 5) [.int (.ofNat 10)] (.list [.int 1, .int (-1), .int 1, .int (-1), .int 1]) = true := by decide +kernel
theorem u_law_rooted_11 : okV (Rt 5) [.int (.ofNat 11)] (.list [.int 1, .int 1, .int 1, .int 1, .int 1, .int 1, .int 1, .int 1, .int 1, .int 1, .int 1]) = true := by decide +kernel
theorem u_law_rooted_12 : okV (Rt 5) [.int (.ofNat 12)] (.list [.int 1, .int 0, .int (-1), .int 0, .int 1]) = true := by decide +kernel
noncomputable def l_law_rooted : List (Nat × V) := [(1, .list [.int (-1), .int 1]), (2, .list [.int 1, .int 1]), (3, .list [.int 1, .int 1, .int 1]), (4, .list [.int 1, .int 0, .int 1]), (5, .list [.int 1, .int 1, .int 1, .int 1, .int 1]), (6, .list [.int 1, .int (-1), .int 1]), (7, .list [.int 1, .int 1, .int 1, .int 1, .int 1, .int 1, .int 1]), (8, .list [.int 1, .int 0, .int 0, .int 0, .int 1]), (9, .list [.int 1, .int 0, .int 0, .int 1, .int 0, .int 0, .int 1]), (10, .list [.int 1, .int (-1), .int 1, .int (-1), .int 1]), (11, .list [.int 1, .int 1, .int 1, .int 1, .int 1, .int 1, .int 1, .int 1, .int 1, .int 1, .int 1]), (12, .list [.int 1, .int 0, .int (-1), .int 0, .int 1])]
noncomputable def T_law_rooted : List V → Option V := tab1 l_law_rooted
theorem ok_law_rooted : tabOK (Rt 5) l_law_rooted = true := (and_ u_law_rooted_1 (and_ u_law_rooted_2 (and_ u_law_rooted_3 (and_ u_law_rooted_4 (and_ u_law_rooted_5 (and_ u_law_rooted_6 (and_ u_law_rooted_7 (and_ u_law_rooted_8 (and_ u_law_rooted_9 (and_ u_law_rooted_10 (and_ u_law_rooted_11 (and_ u_law_rooted_12 rfl))))))))))))
theorem t_law_rooted {L : Nat} (h : SndF prog w hb mg L "_law_rooted" (Rt 5)) : SndF prog w hb mg L "_law_rooted" T_law_rooted := h.weaken (tab1_ok ok_law_rooted)

noncomputable def G_law_added : Sig := ⟨scopeOfS (nth 25), [("q", 0), ("n", 1), ("found", 2), ("u", 3)], []⟩
noncomputable def d_law_added : St → Option (Fl × St) :=
  (dSeq (dAsgN 2 (nRep (eN (nList (lCons (eI 0) lNil))) (eV 0)))
    (dSeq (dFor (iRange (eV 0)) (aName 3) (dSeq (dIf (tCmp .Eq (eCall D_gcd (lCons (eV 3) (lCons (eV 0) lNil))) (eI 1)) (dSeq (dSetI 2 (eBin .Mod (eBin .Mult (eV 3) (eV 1)) (eV 0)) (eBin .Add (muIdx 2 (eBin .Mod (eBin .Mult (eV 3) (eV 1)) (eV 0))) (eI 1)))
        dNil) dNil)
      dNil))
    (dSeq (whileD (tCmp .Eq (muIdx 2 (eNeg (eI 1))) (eI 0)) (dSeq (dPop 2)
      dNil) 400)
    (dSeq (dRet (eV 2))
    dNil))))
noncomputable def D_law_added : List V → Option V := fnV 2 2 d_law_added
theorem b_law_added (W : World0 hb mg mb) (h_gcd : SndF prog w hb mg 1 "gcd" D_gcd) : SndSs prog w hb 1 G_law_added none none (bodyOfS (nth 25)) d_law_added := by
  delta d_law_added
  refine sSs_cons (s_asgN (by decide +kernel) (fun _ _ => rfl) ?_) ?_
  · refine sN_rep ?_ ?_
    · refine sE_ofN ?_
      refine sN_list ?_
      refine sL_cons ?_ ?_ (fun _ => rfl)
      · exact sE_int
      exact sL_nil
    · exact s_v (by decide +kernel)
  refine sSs_cons (sS_for ?_ ?_ ?_ (fun _ _ => rfl)) ?_
  · refine s_range W W.range (by decide +kernel) (fun _ => rfl) ?_
    exact s_v (by decide +kernel)
  · exact s_aName (by decide +kernel)
  · refine sSs_cons (sS_if (ph' := (some 2)) ?_ ?_ ?_) ?_
    · refine sT_cmp ?_ ?_ rfl
      · refine s_call W h_gcd (by first | decide | omega) (by decide +kernel) (fun _ => rfl) ?_
        refine sL_cons ?_ ?_ (fun _ => rfl)
        · exact s_v (by decide +kernel)
        refine sL_cons ?_ ?_ (fun _ => rfl)
        · exact s_v (by decide +kernel)
        exact sL_nil
      · exact sE_int
    · refine sSs_cons (s_setI (by decide +kernel) (fun _ => rfl) ?_ ?_) ?_
      · refine sE_bin ?_ ?_
        · refine sE_bin ?_ ?_
          · exact s_v (by decide +kernel)
          · exact s_v (by decide +kernel)
        · exact s_v (by decide +kernel)
      · refine sE_bin ?_ ?_
        · refine s_muIdx (by decide +kernel) (fun _ _ => rfl) ?_
          refine sE_bin ?_ ?_
          · refine sE_bin ?_ ?_
            · exact s_v (by decide +kernel)
            · exact s_v (by decide +kernel)
          · exact s_v (by decide +kernel)
        · exact sE_int
      exact sSs_nil
    · exact sSs_nil
    exact sSs_nil
  refine sSs_cons (sS_while 400 ?_ ?_) ?_
  · refine sT_cmp ?_ ?_ rfl
    · refine s_muIdx (by decide +kernel) (fun _ _ => rfl) ?_
      refine sE_neg ?_
      exact sE_int
    · exact sE_int
  · refine sSs_cons (s_pop (by decide +kernel) (fun _ => rfl) rfl (fun _ => rfl)) ?_
    exact sSs_nil
  refine sSs_freeze ?_
  refine sSs_cons (s_ret ?_) ?_
  · exact s_v (by decide +kernel)
  exact sSs_nil
theorem f_law_added (W : World0 hb mg mb) (h_gcd : SndF prog w hb mg 1 "gcd" D_gcd) : SndF prog w hb mg 2 "_law_added" D_law_added :=
  s_def 25 (N := 2) (ps := ["q", "n"]) W (by decide) rfl (by decide +kernel) (fun pm code doc vs hv => by
    match vs, hv with
    | [a, b], _ => rfl) rfl rfl (b_law_added W h_gcd)

noncomputable def G_law : Sig := ⟨scopeOfS (nth 26), [("script", 0), ("pool", 1), ("rest", 2), ("part", 3), ("both", 4), ("q", 5), ("r", 6), ("n", 7), ("row", 8), ("other", 9), ("due", 10), ("g", 11)], ["q", "r", "n", "row", "other"]⟩
noncomputable def d_law : St → Option (Fl × St) :=
  (dSeq (dAsgN 1 (nList (lCons (eN (dComp [12] [] (iList (eUpto (eV 0) (eI 3))) (aName 12) tT (mEmit (eCall intV (lCons (eV 12) lNil))))) (lCons (eI 0) lNil))))
    (dSeq (dDraws 1 [5, 6, 7] 12 12 30)
    (dSeq (dTup [8, 9] (lCons (eCall T_law_sums (lCons (eV 5) lNil)) (lCons (eCall T_law_sums (lCons (eV 6) lNil)) lNil)))
    (dSeq (dTupR [10, 11] (lCons (eIdx (eV 8) (eBin .Mod (eV 7) (eV 5))) (lCons (eCall D_gcd (lCons (eV 5) (lCons (eV 6) lNil))) lNil)))
    (dSeq (dAsg 2 (eIdx (eCall D_pseudo (lCons (eCall D_law_added (lCons (eV 5) (lCons (eV 7) lNil))) (lCons (eCall T_law_rooted (lCons (eV 5) lNil)) lNil))) (eI 1)))
    (dSeq (dIf (tCmp .NotEq (eV 2) (eIf (tCmp .NotEq (eV 10) (eI 0)) (eN (nList (lCons (eV 10) lNil))) (eN (nList lNil)))) (dSeq (dRet (eB false))
      dNil) dNil)
    (dSeq (dAsg 3 (eBin .FloorDiv (eV 5) (eCall D_gcd (lCons (eV 5) (lCons (eV 7) lNil)))))
    (dSeq (dIf (tCmp .NotEq (eBin .Mult (eV 10) (eCall T_law_phi (lCons (eV 3) lNil))) (eBin .Mult (eCall T_law_sign (lCons (eV 3) lNil)) (eCall T_law_phi (lCons (eV 5) lNil)))) (dSeq (dRet (eB false))
      dNil) dNil)
    (dSeq (dIf (tCmp .NotEq (eCall sumV (lCons (eN (dComp [13] [7] (iList (eCall T_divisors (lCons (eV 5) lNil))) (aName 13) tT (mEmit (eIdx (eCall T_law_sums (lCons (eV 13) lNil)) (eBin .Mod (eV 7) (eV 13)))))) lNil)) (eIf (tCmp .Eq (eBin .Mod (eV 7) (eV 5)) (eI 0)) (eV 5) (eI 0))) (dSeq (dRet (eB false))
      dNil) dNil)
    (dSeq (dIf (tAnd (tCmp .Eq (eV 11) (eI 1)) (tCmp .NotEq (eIdx (eCall T_law_sums (lCons (eBin .Mult (eV 5) (eV 6)) lNil)) (eBin .Mod (eV 7) (eBin .Mult (eV 5) (eV 6)))) (eBin .Mult (eV 10) (eIdx (eV 9) (eBin .Mod (eV 7) (eV 6)))))) (dSeq (dRet (eB false))
      dNil) dNil)
    (dSeq (dAsg 4 (eBin .Mult (eBin .FloorDiv (eV 5) (eV 11)) (eV 6)))
    (dSeq (dRet (eOfT (tCmp .Eq (eCall sumV (lCons (eN (dComp [14] [8, 5, 9, 6] (iRange (eV 4)) (aName 14) tT (mEmit (eBin .Mult (eIdx (eV 8) (eBin .Mod (eV 14) (eV 5))) (eIdx (eV 9) (eBin .Mod (eV 14) (eV 6))))))) lNil)) (eIf (tCmp .Eq (eV 5) (eV 6)) (eBin .Mult (eV 4) (eCall T_law_phi (lCons (eV 5) lNil))) (eI 0)))))
    dNil))))))))))))
noncomputable def D_law : List V → Option V := fnV 1 14 d_law
theorem b_law (W : World0 hb mg mb) (h_law_sums : SndF prog w hb mg 4 "_law_sums" T_law_sums) (h_gcd : SndF prog w hb mg 1 "gcd" D_gcd) (h_pseudo : SndF prog w hb mg 4 "pseudo" D_pseudo) (h_law_added : SndF prog w hb mg 2 "_law_added" D_law_added) (h_law_rooted : SndF prog w hb mg 9 "_law_rooted" T_law_rooted) (h_law_phi : SndF prog w hb mg 3 "_law_phi" T_law_phi) (h_law_sign : SndF prog w hb mg 3 "_law_sign" T_law_sign) (h_divisors : SndF prog w hb mg 3 "divisors" T_divisors) : SndSs prog w hb 10 G_law none none (bodyOfS (nth 26)) d_law := by
  delta d_law
  refine sSs_cons (s_asgN (by decide +kernel) (fun _ _ => rfl) ?_) ?_
  · refine sN_list ?_
    refine sL_cons ?_ ?_ (fun _ => rfl)
    · refine sE_ofN ?_
      refine s_comp1 (G' := ⟨relabelS _ (Sig.sc G_law), [("cell", 12)], []⟩) (by decide +kernel) rfl ?_ ?_ ?_ ?_ (fun _ _ => rfl)
      · refine sI_list ?_
        refine sE_upto ?_ ?_
        · exact s_v (by decide +kernel)
        · exact sE_int
      · exact s_aName (by decide +kernel)
      · exact sIf_nil
      · refine s_typ W W.int sB_int (by decide +kernel) (fun _ => rfl) (fun _ => rfl) ?_
        refine sL_cons ?_ ?_ (fun _ => rfl)
        · exact s_v (by decide +kernel)
        exact sL_nil
    refine sL_cons ?_ ?_ (fun _ => rfl)
    · exact sE_int
    exact sL_nil
  refine sSs_cons (sS_draws (n := 9) (xs := ["q", "r", "n"]) W (by decide +kernel) (by decide +kernel) (by decide +kernel) rfl rfl (fun _ => rfl) (fun env h => by cases env; cases h; rfl)) ?_
  refine sSs_freeze ?_
  refine sSs_cons (s_tup (xs := ["row", "other"]) (by decide +kernel) rfl (fun _ => rfl) (fun env h => by cases env; cases h; rfl) ?_) ?_
  · refine sL_cons ?_ ?_ (fun _ => rfl)
    · refine s_call W h_law_sums (by first | decide | omega) (by decide +kernel) (fun _ => rfl) ?_
      refine sL_cons ?_ ?_ (fun _ => rfl)
      · exact s_v (by decide +kernel)
      exact sL_nil
    refine sL_cons ?_ ?_ (fun _ => rfl)
    · refine s_call W h_law_sums (by first | decide | omega) (by decide +kernel) (fun _ => rfl) ?_
      refine sL_cons ?_ ?_ (fun _ => rfl)
      · exact s_v (by decide +kernel)
      exact sL_nil
    exact sL_nil
  refine sSs_cons (s_tupR (xs := ["due", "g"]) (by decide +kernel) (fun _ => rfl) (fun env h => by cases env; cases h; rfl) ?_) ?_
  · refine sL_cons ?_ ?_ (fun _ => rfl)
    · refine sE_idx ?_ ?_ (fun _ _ => rfl)
      · exact s_v (by decide +kernel)
      · refine sE_bin ?_ ?_
        · exact s_v (by decide +kernel)
        · exact s_v (by decide +kernel)
    refine sL_cons ?_ ?_ (fun _ => rfl)
    · refine s_call W h_gcd (by first | decide | omega) (by decide +kernel) (fun _ => rfl) ?_
      refine sL_cons ?_ ?_ (fun _ => rfl)
      · exact s_v (by decide +kernel)
      refine sL_cons ?_ ?_ (fun _ => rfl)
      · exact s_v (by decide +kernel)
      exact sL_nil
    exact sL_nil
  refine sSs_cons (s_asg (by decide +kernel) (fun _ _ => rfl) ?_) ?_
  · refine sE_idx ?_ ?_ (fun _ _ => rfl)
    · refine s_call W h_pseudo (by first | decide | omega) (by decide +kernel) (fun _ => rfl) ?_
      refine sL_cons ?_ ?_ (fun _ => rfl)
      · refine s_call W h_law_added (by first | decide | omega) (by decide +kernel) (fun _ => rfl) ?_
        refine sL_cons ?_ ?_ (fun _ => rfl)
        · exact s_v (by decide +kernel)
        refine sL_cons ?_ ?_ (fun _ => rfl)
        · exact s_v (by decide +kernel)
        exact sL_nil
      refine sL_cons ?_ ?_ (fun _ => rfl)
      · refine s_call W h_law_rooted (by first | decide | omega) (by decide +kernel) (fun _ => rfl) ?_
        refine sL_cons ?_ ?_ (fun _ => rfl)
        · exact s_v (by decide +kernel)
        exact sL_nil
      exact sL_nil
    · exact sE_int
  refine sSs_cons (sS_if (ph' := none) ?_ ?_ ?_) ?_
  · refine sT_cmp ?_ ?_ rfl
    · exact s_v (by decide +kernel)
    · refine sE_if ?_ ?_ ?_
      · refine sT_cmp ?_ ?_ rfl
        · exact s_v (by decide +kernel)
        · exact sE_int
      · refine sE_ofN ?_
        refine sN_list ?_
        refine sL_cons ?_ ?_ (fun _ => rfl)
        · exact s_v (by decide +kernel)
        exact sL_nil
      · refine sE_ofN ?_
        refine sN_list ?_
        exact sL_nil
  · refine sSs_cons (s_ret ?_) ?_
    · exact sE_bool
    exact sSs_nil
  · exact sSs_nil
  refine sSs_cons (s_asg (by decide +kernel) (fun _ _ => rfl) ?_) ?_
  · refine sE_bin ?_ ?_
    · exact s_v (by decide +kernel)
    · refine s_call W h_gcd (by first | decide | omega) (by decide +kernel) (fun _ => rfl) ?_
      refine sL_cons ?_ ?_ (fun _ => rfl)
      · exact s_v (by decide +kernel)
      refine sL_cons ?_ ?_ (fun _ => rfl)
      · exact s_v (by decide +kernel)
      exact sL_nil
  refine sSs_cons (sS_if (ph' := none) ?_ ?_ ?_) ?_
  · refine sT_cmp ?_ ?_ rfl
    · refine sE_bin ?_ ?_
      · exact s_v (by decide +kernel)
      · refine s_call W h_law_phi (by first | decide | omega) (by decide +kernel) (fun _ => rfl) ?_
        refine sL_cons ?_ ?_ (fun _ => rfl)
        · exact s_v (by decide +kernel)
        exact sL_nil
    · refine sE_bin ?_ ?_
      · refine s_call W h_law_sign (by first | decide | omega) (by decide +kernel) (fun _ => rfl) ?_
        refine sL_cons ?_ ?_ (fun _ => rfl)
        · exact s_v (by decide +kernel)
        exact sL_nil
      · refine s_call W h_law_phi (by first | decide | omega) (by decide +kernel) (fun _ => rfl) ?_
        refine sL_cons ?_ ?_ (fun _ => rfl)
        · exact s_v (by decide +kernel)
        exact sL_nil
  · refine sSs_cons (s_ret ?_) ?_
    · exact sE_bool
    exact sSs_nil
  · exact sSs_nil
  refine sSs_cons (sS_if (ph' := none) ?_ ?_ ?_) ?_
  · refine sT_cmp ?_ ?_ rfl
    · refine s_blt W W.sum sB_sum (by decide +kernel) (fun _ => rfl) (fun _ => rfl) ?_
      refine sL_cons ?_ ?_ (fun _ => rfl)
      · refine sE_ofN ?_
        refine s_comp1 (G' := ⟨relabelS _ (Sig.sc G_law), [("d", 13), ("n", 7)], []⟩) (by decide +kernel) rfl ?_ ?_ ?_ ?_ (fun _ _ => rfl)
        · refine sI_list ?_
          refine s_call W h_divisors (by first | decide | omega) (by decide +kernel) (fun _ => rfl) ?_
          refine sL_cons ?_ ?_ (fun _ => rfl)
          · exact s_v (by decide +kernel)
          exact sL_nil
        · exact s_aName (by decide +kernel)
        · exact sIf_nil
        · refine sE_idx ?_ ?_ (fun _ _ => rfl)
          · refine s_call W h_law_sums (by first | decide | omega) (by decide +kernel) (fun _ => rfl) ?_
            refine sL_cons ?_ ?_ (fun _ => rfl)
            · exact s_v (by decide +kernel)
            exact sL_nil
          · refine sE_bin ?_ ?_
            · exact s_v (by decide +kernel)
            · exact s_v (by decide +kernel)
      exact sL_nil
    · refine sE_if ?_ ?_ ?_
      · refine sT_cmp ?_ ?_ rfl
        · refine sE_bin ?_ ?_
          · exact s_v (by decide +kernel)
          · exact s_v (by decide +kernel)
        · exact sE_int
      · exact s_v (by decide +kernel)
      · exact sE_int
  · refine sSs_cons (s_ret ?_) ?_
    · exact sE_bool
    exact sSs_nil
  · exact sSs_nil
  refine sSs_cons (sS_if (ph' := none) ?_ ?_ ?_) ?_
  · refine sT_and ?_ ?_
    · refine sT_cmp ?_ ?_ rfl
      · exact s_v (by decide +kernel)
      · exact sE_int
    · refine sT_cmp ?_ ?_ rfl
      · refine sE_idx ?_ ?_ (fun _ _ => rfl)
        · refine s_call W h_law_sums (by first | decide | omega) (by decide +kernel) (fun _ => rfl) ?_
          refine sL_cons ?_ ?_ (fun _ => rfl)
          · refine sE_bin ?_ ?_
            · exact s_v (by decide +kernel)
            · exact s_v (by decide +kernel)
          exact sL_nil
        · refine sE_bin ?_ ?_
          · exact s_v (by decide +kernel)
          · refine sE_bin ?_ ?_
            · exact s_v (by decide +kernel)
            · exact s_v (by decide +kernel)
      · refine sE_bin ?_ ?_
        · exact s_v (by decide +kernel)
        · refine sE_idx ?_ ?_ (fun _ _ => rfl)
          · exact s_v (by decide +kernel)
          · refine sE_bin ?_ ?_
            · exact s_v (by decide +kernel)
            · exact s_v (by decide +kernel)
  · refine sSs_cons (s_ret ?_) ?_
    · exact sE_bool
    exact sSs_nil
  · exact sSs_nil
  refine sSs_cons (s_asg (by decide +kernel) (fun _ _ => rfl) ?_) ?_
  · refine sE_bin ?_ ?_
    · refine sE_bin ?_ ?_
      · exact s_v (by decide +kernel)
      · exact s_v (by decide +kernel)
    · exact s_v (by decide +kernel)
  refine sSs_cons (s_ret ?_) ?_
  · refine sE_cmp ?_ ?_ rfl
    · refine s_blt W W.sum sB_sum (by decide +kernel) (fun _ => rfl) (fun _ => rfl) ?_
      refine sL_cons ?_ ?_ (fun _ => rfl)
      · refine sE_ofN ?_
        refine s_comp1 (G' := ⟨relabelS _ (Sig.sc G_law), [("at", 14), ("row", 8), ("q", 5), ("other", 9), ("r", 6)], []⟩) (by decide +kernel) rfl ?_ ?_ ?_ ?_ (fun _ _ => rfl)
        · refine s_range W W.range (by decide +kernel) (fun _ => rfl) ?_
          exact s_v (by decide +kernel)
        · exact s_aName (by decide +kernel)
        · exact sIf_nil
        · refine sE_bin ?_ ?_
          · refine sE_idx ?_ ?_ (fun _ _ => rfl)
            · exact s_v (by decide +kernel)
            · refine sE_bin ?_ ?_
              · exact s_v (by decide +kernel)
              · exact s_v (by decide +kernel)
          · refine sE_idx ?_ ?_ (fun _ _ => rfl)
            · exact s_v (by decide +kernel)
            · refine sE_bin ?_ ?_
              · exact s_v (by decide +kernel)
              · exact s_v (by decide +kernel)
      exact sL_nil
    · refine sE_if ?_ ?_ ?_
      · refine sT_cmp ?_ ?_ rfl
        · exact s_v (by decide +kernel)
        · exact s_v (by decide +kernel)
      · refine sE_bin ?_ ?_
        · exact s_v (by decide +kernel)
        · refine s_call W h_law_phi (by first | decide | omega) (by decide +kernel) (fun _ => rfl) ?_
          refine sL_cons ?_ ?_ (fun _ => rfl)
          · exact s_v (by decide +kernel)
          exact sL_nil
      · exact sE_int
  exact sSs_nil
theorem f_law (W : World0 hb mg mb) (h_law_sums : SndF prog w hb mg 4 "_law_sums" T_law_sums) (h_gcd : SndF prog w hb mg 1 "gcd" D_gcd) (h_pseudo : SndF prog w hb mg 4 "pseudo" D_pseudo) (h_law_added : SndF prog w hb mg 2 "_law_added" D_law_added) (h_law_rooted : SndF prog w hb mg 9 "_law_rooted" T_law_rooted) (h_law_phi : SndF prog w hb mg 3 "_law_phi" T_law_phi) (h_law_sign : SndF prog w hb mg 3 "_law_sign" T_law_sign) (h_divisors : SndF prog w hb mg 3 "divisors" T_divisors) : SndF prog w hb mg 11 "law" D_law :=
  s_def 26 (N := 14) (ps := ["script"]) W (by decide) rfl (by decide +kernel) (fun pm code doc vs hv => by
    match vs, hv with
    | [a], _ => rfl) rfl rfl (b_law W h_law_sums h_gcd h_pseudo h_law_added h_law_rooted h_law_phi h_law_sign h_divisors)

end
end Mine
end

/- part P1 -/
section
open PySem PySem.Calls PyProof.Rows
namespace Mine
noncomputable def s1 : St → Option (Fl × St) := (dAsgN 1 (nList (lCons (eN (dComp [12] [] (iList (eUpto (eV 0) (eI 3))) (aName 12) tT (mEmit (eCall intV (lCons (eV 12) lNil))))) (lCons (eI 0) lNil))))
noncomputable def s2 : St → Option (Fl × St) := (dDraws 1 [5, 6, 7] 12 12 30)
noncomputable def s3 : St → Option (Fl × St) := (dTup [8, 9] (lCons (eCall T_law_sums (lCons (eV 5) lNil)) (lCons (eCall T_law_sums (lCons (eV 6) lNil)) lNil)))
noncomputable def s4 : St → Option (Fl × St) := (dTupR [10, 11] (lCons (eIdx (eV 8) (eBin .Mod (eV 7) (eV 5))) (lCons (eCall D_gcd (lCons (eV 5) (lCons (eV 6) lNil))) lNil)))
noncomputable def s5 : St → Option (Fl × St) := (dAsg 2 (eIdx (eCall D_pseudo (lCons (eCall D_law_added (lCons (eV 5) (lCons (eV 7) lNil))) (lCons (eCall T_law_rooted (lCons (eV 5) lNil)) lNil))) (eI 1)))
noncomputable def s6 : St → Option (Fl × St) := (dIf (tCmp .NotEq (eV 2) (eIf (tCmp .NotEq (eV 10) (eI 0)) (eN (nList (lCons (eV 10) lNil))) (eN (nList lNil)))) (dSeq (dRet (eB false)) dNil) dNil)
noncomputable def s7 : St → Option (Fl × St) := (dAsg 3 (eBin .FloorDiv (eV 5) (eCall D_gcd (lCons (eV 5) (lCons (eV 7) lNil)))))
noncomputable def s8 : St → Option (Fl × St) := (dIf (tCmp .NotEq (eBin .Mult (eV 10) (eCall T_law_phi (lCons (eV 3) lNil))) (eBin .Mult (eCall T_law_sign (lCons (eV 3) lNil)) (eCall T_law_phi (lCons (eV 5) lNil)))) (dSeq (dRet (eB false)) dNil) dNil)
noncomputable def s9 : St → Option (Fl × St) := (dIf (tCmp .NotEq (eCall sumV (lCons (eN (dComp [13] [7] (iList (eCall T_divisors (lCons (eV 5) lNil))) (aName 13) tT (mEmit (eIdx (eCall T_law_sums (lCons (eV 13) lNil)) (eBin .Mod (eV 7) (eV 13)))))) lNil)) (eIf (tCmp .Eq (eBin .Mod (eV 7) (eV 5)) (eI 0)) (eV 5) (eI 0))) (dSeq (dRet (eB false)) dNil) dNil)
noncomputable def s10 : St → Option (Fl × St) := (dIf (tAnd (tCmp .Eq (eV 11) (eI 1)) (tCmp .NotEq (eIdx (eCall T_law_sums (lCons (eBin .Mult (eV 5) (eV 6)) lNil)) (eBin .Mod (eV 7) (eBin .Mult (eV 5) (eV 6)))) (eBin .Mult (eV 10) (eIdx (eV 9) (eBin .Mod (eV 7) (eV 6)))))) (dSeq (dRet (eB false)) dNil) dNil)
noncomputable def s11 : St → Option (Fl × St) := (dAsg 4 (eBin .Mult (eBin .FloorDiv (eV 5) (eV 11)) (eV 6)))
noncomputable def s12 : St → Option (Fl × St) := (dRet (eOfT (tCmp .Eq (eCall sumV (lCons (eN (dComp [14] [8, 5, 9, 6] (iRange (eV 4)) (aName 14) tT (mEmit (eBin .Mult (eIdx (eV 8) (eBin .Mod (eV 14) (eV 5))) (eIdx (eV 9) (eBin .Mod (eV 14) (eV 6))))))) lNil)) (eIf (tCmp .Eq (eV 5) (eV 6)) (eBin .Mult (eV 4) (eCall T_law_phi (lCons (eV 5) lNil))) (eI 0)))))
noncomputable def Ea : St → Option V := (eIdx (eV 8) (eBin .Mod (eV 7) (eV 5)))
noncomputable def Eb : St → Option V := (eCall D_gcd (lCons (eV 5) (lCons (eV 6) lNil)))
noncomputable def T10 : St → Option Bool := (tAnd (tCmp .Eq (eV 11) (eI 1)) (tCmp .NotEq (eIdx (eCall T_law_sums (lCons (eBin .Mult (eV 5) (eV 6)) lNil)) (eBin .Mod (eV 7) (eBin .Mult (eV 5) (eV 6)))) (eBin .Mult (eV 10) (eIdx (eV 9) (eBin .Mod (eV 7) (eV 6))))))
theorem d_law_split : d_law = dSeq s1 (dSeq s2 (dSeq s3 (dSeq s4 (dSeq s5 (dSeq s6 (dSeq s7 (dSeq s8 (dSeq s9 (dSeq s10 (dSeq s11 (dSeq s12 (dNil)))))))))))) := rfl
theorem s4_split : s4 = dTupR [10, 11] (lCons Ea (lCons Eb lNil)) := rfl
theorem s10_split : s10 = dIf T10 (dSeq (dRet (eB false)) dNil) dNil := rfl
abbrev R (x0 x1 x2 x3 x4 x5 x6 x7 x8 x9 x10 x11 : Option V) : St := [x0, x1, x2, x3, x4, x5, x6, x7, x8, x9, x10, x11, none, none, none]
noncomputable def qv (q : Nat) : Option V := some (.int (.ofNat q))
noncomputable def rowF (q : Nat) : Option V := assoc q l_law_sums
noncomputable def dueF (q n : Nat) : Option V := match rowF q with | some (.list xs) => xs[n % q]? | _ => none
noncomputable def restF (q n : Nat) : Option V := match dueF q n with | some (.int (.ofNat 0)) => some (.list []) | some v => some (.list [v]) | none => none
noncomputable def partF (q n : Nat) : Option V := qv (q / Nat.gcd q n)
noncomputable def gF (q r : Nat) : Option V := qv (Nat.gcd q r)
noncomputable def QN (q n : Nat) : Prop := ∃ u : V, dueF q n = some u ∧ (∀ x0 x1 x6 x9 : Option V, Ea (R x0 x1 none none none (qv q) x6 (qv n) (rowF q) x9 none none) = some u) ∧ ∀ (x0 x1 x6 x9 x11 : Option V) (K : St → Option (Fl × St)),
  dSeq s5 (dSeq s6 (dSeq s7 (dSeq s8 (dSeq s9 K)))) (R x0 x1 none none none (qv q) x6 (qv n) (rowF q) x9 (dueF q n) x11) = K (R x0 x1 (restF q n) (partF q n) none (qv q) x6 (qv n) (rowF q) x9 (dueF q n) x11)
noncomputable def chk10 (q r : Nat) : Nat → Bool
  | 0 => true
  | n + 1 => (match T10 (R none none none none none (qv q) (qv r) (qv n) none (rowF r) (dueF q n) (gF q r)) with | some false => true | _ => false) && chk10 q r n
noncomputable def QR (q r : Nat) : Prop := (∀ (x0 x1 x7 : Option V) (K : St → Option (Fl × St)), dSeq s3 K (R x0 x1 none none none (qv q) (qv r) x7 none none none none) = K (R x0 x1 none none none (qv q) (qv r) x7 (rowF q) (rowF r) none none)) ∧
  (∀ x0 x1 x7 x8 x9 : Option V, Eb (R x0 x1 none none none (qv q) (qv r) x7 x8 x9 none none) = gF q r) ∧ chk10 q r 30 = true ∧
  ∀ x0 x1 x2 x3 x7 x10 : Option V, dSeq s11 (dSeq s12 dNil) (R x0 x1 x2 x3 none (qv q) (qv r) x7 (rowF q) (rowF r) x10 (gF q r)) = some (.ret (.bool true), [])
theorem qn_1_0 : QN 1 0 := ⟨.int (1), by kernel_rfl, fun x0 x1 x6 x9 => by kernel_rfl, fun x0 x1 x6 x9 x11 K => by kernel_rfl⟩
theorem qn_1_1 : QN 1 1 := ⟨.int (1), by kernel_rfl, fun x0 x1 x6 x9 => by kernel_rfl, fun x0 x1 x6 x9 x11 K => by kernel_rfl⟩
theorem qn_1_2 : QN 1 2 := ⟨.int (1), by kernel_rfl, fun x0 x1 x6 x9 => by kernel_rfl, fun x0 x1 x6 x9 x11 K => by kernel_rfl⟩
theorem qn_1_3 : QN 1 3 := ⟨.int (1), by kernel_rfl, fun x0 x1 x6 x9 => by kernel_rfl, fun x0 x1 x6 x9 x11 K => by kernel_rfl⟩
theorem qn_1_4 : QN 1 4 := ⟨.int (1), by kernel_rfl, fun x0 x1 x6 x9 => by kernel_rfl, fun x0 x1 x6 x9 x11 K => by kernel_rfl⟩
theorem qn_1_5 : QN 1 5 := ⟨.int (1), by kernel_rfl, fun x0 x1 x6 x9 => by kernel_rfl, fun x0 x1 x6 x9 x11 K => by kernel_rfl⟩
theorem qn_1_6 : QN 1 6 := ⟨.int (1), by kernel_rfl, fun x0 x1 x6 x9 => by kernel_rfl, fun x0 x1 x6 x9 x11 K => by kernel_rfl⟩
theorem qn_1_7 : QN 1 7 := ⟨.int (1), by kernel_rfl, fun x0 x1 x6 x9 => by kernel_rfl, fun x0 x1 x6 x9 x11 K => by kernel_rfl⟩
theorem qn_1_8 : QN 1 8 := ⟨.int (1), by kernel_rfl, fun x0 x1 x6 x9 => by kernel_rfl, fun x0 x1 x6 x9 x11 K => by kernel_rfl⟩
theorem qn_1_9 : QN 1 9 := ⟨.int (1), by kernel_rfl, fun x0 x1 x6 x9 => by kernel_rfl, fun x0 x1 x6 x9 x11 K => by kernel_rfl⟩
theorem qn_1_10 : QN 1 10 := ⟨.int (1), by kernel_rfl, fun x0 x1 x6 x9 => by kernel_rfl, fun x0 x1 x6 x9 x11 K => by kernel_rfl⟩
theorem qn_1_11 : QN 1 11 := ⟨.int (1), by kernel_rfl, fun x0 x1 x6 x9 => by kernel_rfl, fun x0 x1 x6 x9 x11 K => by kernel_rfl⟩
theorem qn_1_12 : QN 1 12 := ⟨.int (1), by kernel_rfl, fun x0 x1 x6 x9 => by kernel_rfl, fun x0 x1 x6 x9 x11 K => by kernel_rfl⟩
theorem qn_1_13 : QN 1 13 := ⟨.int (1), by kernel_rfl, fun x0 x1 x6 x9 => by kernel_rfl, fun x0 x1 x6 x9 x11 K => by kernel_rfl⟩
theorem qn_1_14 : QN 1 14 := ⟨.int (1), by kernel_rfl, fun x0 x1 x6 x9 => by kernel_rfl, fun x0 x1 x6 x9 x11 K => by kernel_rfl⟩
theorem qn_1_15 : QN 1 15 := ⟨.int (1), by kernel_rfl, fun x0 x1 x6 x9 => by kernel_rfl, fun x0 x1 x6 x9 x11 K => by kernel_rfl⟩
theorem qn_1_16 : QN 1 16 := ⟨.int (1), by kernel_rfl, fun x0 x1 x6 x9 => by kernel_rfl, fun x0 x1 x6 x9 x11 K => by kernel_rfl⟩
theorem qn_1_17 : QN 1 17 := ⟨.int (1), by kernel_rfl, fun x0 x1 x6 x9 => by kernel_rfl, fun x0 x1 x6 x9 x11 K => by kernel_rfl⟩
theorem qn_1_18 : QN 1 18 := ⟨.int (1), by kernel_rfl, fun x0 x1 x6 x9 => by kernel_rfl, fun x0 x1 x6 x9 x11 K => by kernel_rfl⟩
theorem qn_1_19 : QN 1 19 := ⟨.int (1), by kernel_rfl, fun x0 x1 x6 x9 => by kernel_rfl, fun x0 x1 x6 x9 x11 K => by kernel_rfl⟩
theorem qn_1_20 : QN 1 20 := ⟨.int (1), by kernel_rfl, fun x0 x1 x6 x9 => by kernel_rfl, fun x0 x1 x6 x9 x11 K => by kernel_rfl⟩
theorem qn_1_21 : QN 1 21 := ⟨.int (1), by kernel_rfl, fun x0 x1 x6 x9 => by kernel_rfl, fun x0 x1 x6 x9 x11 K => by kernel_rfl⟩
theorem qn_1_22 : QN 1 22 := ⟨.int (1), by kernel_rfl, fun x0 x1 x6 x9 => by kernel_rfl, fun x0 x1 x6 x9 x11 K => by kernel_rfl⟩
theorem qn_1_23 : QN 1 23 := ⟨.int (1), by kernel_rfl, fun x0 x1 x6 x9 => by kernel_rfl, fun x0 x1 x6 x9 x11 K => by kernel_rfl⟩
theorem qn_1_24 : QN 1 24 := ⟨.int (1), by kernel_rfl, fun x0 x1 x6 x9 => by kernel_rfl, fun x0 x1 x6 x9 x11 K => by kernel_rfl⟩
theorem qn_1_25 : QN 1 25 := ⟨.int (1), by kernel_rfl, fun x0 x1 x6 x9 => by kernel_rfl, fun x0 x1 x6 x9 x11 K => by kernel_rfl⟩
theorem qn_1_26 : QN 1 26 := ⟨.int (1), by kernel_rfl, fun x0 x1 x6 x9 => by kernel_rfl, fun x0 x1 x6 x9 x11 K => by kernel_rfl⟩
theorem qn_1_27 : QN 1 27 := ⟨.int (1), by kernel_rfl, fun x0 x1 x6 x9 => by kernel_rfl, fun x0 x1 x6 x9 x11 K => by kernel_rfl⟩
theorem qn_1_28 : QN 1 28 := ⟨.int (1), by kernel_rfl, fun x0 x1 x6 x9 => by kernel_rfl, fun x0 x1 x6 x9 x11 K => by kernel_rfl⟩
theorem qn_1_29 : QN 1 29 := ⟨.int (1), by kernel_rfl, fun x0 x1 x6 x9 => by kernel_rfl, fun x0 x1 x6 x9 x11 K => by kernel_rfl⟩
theorem qn_1 : ∀ n, n < 30 → QN 1 n
  | 0, _ => qn_1_0
  | 1, _ => qn_1_1
  | 2, _ => qn_1_2
  | 3, _ => qn_1_3
  | 4, _ => qn_1_4
  | 5, _ => qn_1_5
  | 6, _ => qn_1_6
  | 7, _ => qn_1_7
  | 8, _ => qn_1_8
  | 9, _ => qn_1_9
  | 10, _ => qn_1_10
  | 11, _ => qn_1_11
  | 12, _ => qn_1_12
  | 13, _ => qn_1_13
  | 14, _ => qn_1_14
  | 15, _ => qn_1_15
  | 16, _ => qn_1_16
  | 17, _ => qn_1_17
  | 18, _ => qn_1_18
  | 19, _ => qn_1_19
  | 20, _ => qn_1_20
  | 21, _ => qn_1_21
  | 22, _ => qn_1_22
  | 23, _ => qn_1_23
  | 24, _ => qn_1_24
  | 25, _ => qn_1_25
  | 26, _ => qn_1_26
  | 27, _ => qn_1_27
  | 28, _ => qn_1_28
  | 29, _ => qn_1_29
  | n + 30, h => absurd h (by omega)
theorem qn_2_0 : QN 2 0 := ⟨.int (1), by kernel_rfl, fun x0 x1 x6 x9 => by kernel_rfl, fun x0 x1 x6 x9 x11 K => by kernel_rfl⟩
theorem qn_2_1 : QN 2 1 := ⟨.int (-1), by kernel_rfl, fun x0 x1 x6 x9 => by kernel_rfl, fun x0 x1 x6 x9 x11 K => by kernel_rfl⟩
theorem qn_2_2 : QN 2 2 := ⟨.int (1), by kernel_rfl, fun x0 x1 x6 x9 => by kernel_rfl, fun x0 x1 x6 x9 x11 K => by kernel_rfl⟩
theorem qn_2_3 : QN 2 3 := ⟨.int (-1), by kernel_rfl, fun x0 x1 x6 x9 => by kernel_rfl, fun x0 x1 x6 x9 x11 K => by kernel_rfl⟩
theorem qn_2_4 : QN 2 4 := ⟨.int (1), by kernel_rfl, fun x0 x1 x6 x9 => by kernel_rfl, fun x0 x1 x6 x9 x11 K => by kernel_rfl⟩
theorem qn_2_5 : QN 2 5 := ⟨.int (-1), by kernel_rfl, fun x0 x1 x6 x9 => by kernel_rfl, fun x0 x1 x6 x9 x11 K => by kernel_rfl⟩
theorem qn_2_6 : QN 2 6 := ⟨.int (1), by kernel_rfl, fun x0 x1 x6 x9 => by kernel_rfl, fun x0 x1 x6 x9 x11 K => by kernel_rfl⟩
theorem qn_2_7 : QN 2 7 := ⟨.int (-1), by kernel_rfl, fun x0 x1 x6 x9 => by kernel_rfl, fun x0 x1 x6 x9 x11 K => by kernel_rfl⟩
theorem qn_2_8 : QN 2 8 := ⟨.int (1), by kernel_rfl, fun x0 x1 x6 x9 => by kernel_rfl, fun x0 x1 x6 x9 x11 K => by kernel_rfl⟩
theorem qn_2_9 : QN 2 9 := ⟨.int (-1), by kernel_rfl, fun x0 x1 x6 x9 => by kernel_rfl, fun x0 x1 x6 x9 x11 K => by kernel_rfl⟩
theorem qn_2_10 : QN 2 10 := ⟨.int (1), by kernel_rfl, fun x0 x1 x6 x9 => by kernel_rfl, fun x0 x1 x6 x9 x11 K => by kernel_rfl⟩
theorem qn_2_11 : QN 2 11 := ⟨.int (-1), by kernel_rfl, fun x0 x1 x6 x9 => by kernel_rfl, fun x0 x1 x6 x9 x11 K => by kernel_rfl⟩
theorem qn_2_12 : QN 2 12 := ⟨.int (1), by kernel_rfl, fun x0 x1 x6 x9 => by kernel_rfl, fun x0 x1 x6 x9 x11 K => by kernel_rfl⟩
theorem qn_2_13 : QN 2 13 := ⟨.int (-1), by kernel_rfl, fun x0 x1 x6 x9 => by kernel_rfl, fun x0 x1 x6 x9 x11 K => by kernel_rfl⟩
theorem qn_2_14 : QN 2 14 := ⟨.int (1), by kernel_rfl, fun x0 x1 x6 x9 => by kernel_rfl, fun x0 x1 x6 x9 x11 K => by kernel_rfl⟩
theorem qn_2_15 : QN 2 15 := ⟨.int (-1), by kernel_rfl, fun x0 x1 x6 x9 => by kernel_rfl, fun x0 x1 x6 x9 x11 K => by kernel_rfl⟩
theorem qn_2_16 : QN 2 16 := ⟨.int (1), by kernel_rfl, fun x0 x1 x6 x9 => by kernel_rfl, fun x0 x1 x6 x9 x11 K => by kernel_rfl⟩
theorem qn_2_17 : QN 2 17 := ⟨.int (-1), by kernel_rfl, fun x0 x1 x6 x9 => by kernel_rfl, fun x0 x1 x6 x9 x11 K => by kernel_rfl⟩
theorem qn_2_18 : QN 2 18 := ⟨.int (1), by kernel_rfl, fun x0 x1 x6 x9 => by kernel_rfl, fun x0 x1 x6 x9 x11 K => by kernel_rfl⟩
theorem qn_2_19 : QN 2 19 := ⟨.int (-1), by kernel_rfl, fun x0 x1 x6 x9 => by kernel_rfl, fun x0 x1 x6 x9 x11 K => by kernel_rfl⟩
theorem qn_2_20 : QN 2 20 := ⟨.int (1), by kernel_rfl, fun x0 x1 x6 x9 => by kernel_rfl, fun x0 x1 x6 x9 x11 K => by kernel_rfl⟩
theorem qn_2_21 : QN 2 21 := ⟨.int (-1), by kernel_rfl, fun x0 x1 x6 x9 => by kernel_rfl, fun x0 x1 x6 x9 x11 K => by kernel_rfl⟩
theorem qn_2_22 : QN 2 22 := ⟨.int (1), by kernel_rfl, fun x0 x1 x6 x9 => by kernel_rfl, fun x0 x1 x6 x9 x11 K => by kernel_rfl⟩
theorem qn_2_23 : QN 2 23 := ⟨.int (-1), by kernel_rfl, fun x0 x1 x6 x9 => by kernel_rfl, fun x0 x1 x6 x9 x11 K => by kernel_rfl⟩
theorem qn_2_24 : QN 2 24 := ⟨.int (1), by kernel_rfl, fun x0 x1 x6 x9 => by kernel_rfl, fun x0 x1 x6 x9 x11 K => by kernel_rfl⟩
theorem qn_2_25 : QN 2 25 := ⟨.int (-1), by kernel_rfl, fun x0 x1 x6 x9 => by kernel_rfl, fun x0 x1 x6 x9 x11 K => by kernel_rfl⟩
theorem qn_2_26 : QN 2 26 := ⟨.int (1), by kernel_rfl, fun x0 x1 x6 x9 => by kernel_rfl, fun x0 x1 x6 x9 x11 K => by kernel_rfl⟩
theorem qn_2_27 : QN 2 27 := ⟨.int (-1), by kernel_rfl, fun x0 x1 x6 x9 => by kernel_rfl, fun x0 x1 x6 x9 x11 K => by kernel_rfl⟩
theorem qn_2_28 : QN 2 28 := ⟨.int (1), by kernel_rfl, fun x0 x1 x6 x9 => by kernel_rfl, fun x0 x1 x6 x9 x11 K => by kernel_rfl⟩
theorem qn_2_29 : QN 2 29 := ⟨.int (-1), by kernel_rfl, fun x0 x1 x6 x9 => by kernel_rfl, fun x0 x1 x6 x9 x11 K => by kernel_rfl⟩
theorem qn_2 : ∀ n, n < 30 → QN 2 n
  | 0, _ => qn_2_0
  | 1, _ => qn_2_1
  | 2, _ => qn_2_2
  | 3, _ => qn_2_3
  | 4, _ => qn_2_4
  | 5, _ => qn_2_5
  | 6, _ => qn_2_6
  | 7, _ => qn_2_7
  | 8, _ => qn_2_8
  | 9, _ => qn_2_9
  | 10, _ => qn_2_10
  | 11, _ => qn_2_11
  | 12, _ => qn_2_12
  | 13, _ => qn_2_13
  | 14, _ => qn_2_14
  | 15, _ => qn_2_15
  | 16, _ => qn_2_16
  | 17, _ => qn_2_17
  | 18, _ => qn_2_18
  | 19, _ => qn_2_19
  | 20, _ => qn_2_20
  | 21, _ => qn_2_21
  | 22, _ => qn_2_22
  | 23, _ => qn_2_23
  | 24, _ => qn_2_24
  | 25, _ => qn_2_25
  | 26, _ => qn_2_26
  | 27, _ => qn_2_27
  | 28, _ => qn_2_28
  | 29, _ => qn_2_29
  | n + 30, h => absurd h (by omega)
theorem qn_3_0 : QN 3 0 := ⟨.int (2), by kernel_rfl, fun x0 x1 x6 x9 => by kernel_rfl, fun x0 x1 x6 x9 x11 K => by kernel_rfl⟩
theorem qn_3_1 : QN 3 1 := ⟨.int (-1), by kernel_rfl, fun x0 x1 x6 x9 => by kernel_rfl, fun x0 x1 x6 x9 x11 K => by kernel_rfl⟩
theorem qn_3_2 : QN 3 2 := ⟨.int (-1), by kernel_rfl, fun x0 x1 x6 x9 => by kernel_rfl, fun x0 x1 x6 x9 x11 K => by kernel_rfl⟩
theorem qn_3_3 : QN 3 3 := ⟨.int (2), by kernel_rfl, fun x0 x1 x6 x9 => by kernel_rfl, fun x0 x1 x6 x9 x11 K => by kernel_rfl⟩
theorem qn_3_4 : QN 3 4 := ⟨.int (-1), by kernel_rfl, fun x0 x1 x6 x9 => by kernel_rfl, fun x0 x1 x6 x9 x11 K => by kernel_rfl⟩
theorem qn_3_5 : QN 3 5 := ⟨.int (-1), by kernel_rfl, fun x0 x1 x6 x9 => by kernel_rfl, fun x0 x1 x6 x9 x11 K => by kernel_rfl⟩
theorem qn_3_6 : QN 3 6 := ⟨.int (2), by kernel_rfl, fun x0 x1 x6 x9 => by kernel_rfl, fun x0 x1 x6 x9 x11 K => by kernel_rfl⟩
theorem qn_3_7 : QN 3 7 := ⟨.int (-1), by kernel_rfl, fun x0 x1 x6 x9 => by kernel_rfl, fun x0 x1 x6 x9 x11 K => by kernel_rfl⟩
theorem qn_3_8 : QN 3 8 := ⟨.int (-1), by kernel_rfl, fun x0 x1 x6 x9 => by kernel_rfl, fun x0 x1 x6 x9 x11 K => by kernel_rfl⟩
theorem qn_3_9 : QN 3 9 := ⟨.int (2), by kernel_rfl, fun x0 x1 x6 x9 => by kernel_rfl, fun x0 x1 x6 x9 x11 K => by kernel_rfl⟩
theorem qn_3_10 : QN 3 10 := ⟨.int (-1), by kernel_rfl, fun x0 x1 x6 x9 => by kernel_rfl, fun x0 x1 x6 x9 x11 K => by kernel_rfl⟩
theorem qn_3_11 : QN 3 11 := ⟨.int (-1), by kernel_rfl, fun x0 x1 x6 x9 => by kernel_rfl, fun x0 x1 x6 x9 x11 K => by kernel_rfl⟩
theorem qn_3_12 : QN 3 12 := ⟨.int (2), by kernel_rfl, fun x0 x1 x6 x9 => by kernel_rfl, fun x0 x1 x6 x9 x11 K => by kernel_rfl⟩
theorem qn_3_13 : QN 3 13 := ⟨.int (-1), by kernel_rfl, fun x0 x1 x6 x9 => by kernel_rfl, fun x0 x1 x6 x9 x11 K => by kernel_rfl⟩
theorem qn_3_14 : QN 3 14 := ⟨.int (-1), by kernel_rfl, fun x0 x1 x6 x9 => by kernel_rfl, fun x0 x1 x6 x9 x11 K => by kernel_rfl⟩
theorem qn_3_15 : QN 3 15 := ⟨.int (2), by kernel_rfl, fun x0 x1 x6 x9 => by kernel_rfl, fun x0 x1 x6 x9 x11 K => by kernel_rfl⟩
theorem qn_3_16 : QN 3 16 := ⟨.int (-1), by kernel_rfl, fun x0 x1 x6 x9 => by kernel_rfl, fun x0 x1 x6 x9 x11 K => by kernel_rfl⟩
theorem qn_3_17 : QN 3 17 := ⟨.int (-1), by kernel_rfl, fun x0 x1 x6 x9 => by kernel_rfl, fun x0 x1 x6 x9 x11 K => by kernel_rfl⟩
theorem qn_3_18 : QN 3 18 := ⟨.int (2), by kernel_rfl, fun x0 x1 x6 x9 => by kernel_rfl, fun x0 x1 x6 x9 x11 K => by kernel_rfl⟩
theorem qn_3_19 : QN 3 19 := ⟨.int (-1), by kernel_rfl, fun x0 x1 x6 x9 => by kernel_rfl, fun x0 x1 x6 x9 x11 K => by kernel_rfl⟩
theorem qn_3_20 : QN 3 20 := ⟨.int (-1), by kernel_rfl, fun x0 x1 x6 x9 => by kernel_rfl, fun x0 x1 x6 x9 x11 K => by kernel_rfl⟩
theorem qn_3_21 : QN 3 21 := ⟨.int (2), by kernel_rfl, fun x0 x1 x6 x9 => by kernel_rfl, fun x0 x1 x6 x9 x11 K => by kernel_rfl⟩
theorem qn_3_22 : QN 3 22 := ⟨.int (-1), by kernel_rfl, fun x0 x1 x6 x9 => by kernel_rfl, fun x0 x1 x6 x9 x11 K => by kernel_rfl⟩
theorem qn_3_23 : QN 3 23 := ⟨.int (-1), by kernel_rfl, fun x0 x1 x6 x9 => by kernel_rfl, fun x0 x1 x6 x9 x11 K => by kernel_rfl⟩
theorem qn_3_24 : QN 3 24 := ⟨.int (2), by kernel_rfl, fun x0 x1 x6 x9 => by kernel_rfl, fun x0 x1 x6 x9 x11 K => by kernel_rfl⟩
theorem qn_3_25 : QN 3 25 := ⟨.int (-1), by kernel_rfl, fun x0 x1 x6 x9 => by kernel_rfl, fun x0 x1 x6 x9 x11 K => by kernel_rfl⟩
theorem qn_3_26 : QN 3 26 := ⟨.int (-1), by kernel_rfl, fun x0 x1 x6 x9 => by kernel_rfl, fun x0 x1 x6 x9 x11 K => by kernel_rfl⟩
theorem qn_3_27 : QN 3 27 := ⟨.int (2), by kernel_rfl, fun x0 x1 x6 x9 => by kernel_rfl, fun x0 x1 x6 x9 x11 K => by kernel_rfl⟩
theorem qn_3_28 : QN 3 28 := ⟨.int (-1), by kernel_rfl, fun x0 x1 x6 x9 => by kernel_rfl, fun x0 x1 x6 x9 x11 K => by kernel_rfl⟩
theorem qn_3_29 : QN 3 29 := ⟨.int (-1), by kernel_rfl, fun x0 x1 x6 x9 => by kernel_rfl, fun x0 x1 x6 x9 x11 K => by kernel_rfl⟩
theorem qn_3 : ∀ n, n < 30 → QN 3 n
  | 0, _ => qn_3_0
  | 1, _ => qn_3_1
  | 2, _ => qn_3_2
  | 3, _ => qn_3_3
  | 4, _ => qn_3_4
  | 5, _ => qn_3_5
  | 6, _ => qn_3_6
  | 7, _ => qn_3_7
  | 8, _ => qn_3_8
  | 9, _ => qn_3_9
  | 10, _ => qn_3_10
  | 11, _ => qn_3_11
  | 12, _ => qn_3_12
  | 13, _ => qn_3_13
  | 14, _ => qn_3_14
  | 15, _ => qn_3_15
  | 16, _ => qn_3_16
  | 17, _ => qn_3_17
  | 18, _ => qn_3_18
  | 19, _ => qn_3_19
  | 20, _ => qn_3_20
  | 21, _ => qn_3_21
  | 22, _ => qn_3_22
  | 23, _ => qn_3_23
  | 24, _ => qn_3_24
  | 25, _ => qn_3_25
  | 26, _ => qn_3_26
  | 27, _ => qn_3_27
  | 28, _ => qn_3_28
  | 29, _ => qn_3_29
  | n + 30, h => absurd h (by omega)
theorem qn_4_0 : QN 4 0 := ⟨.int (2), by kernel_rfl, fun x0 x1 x6 x9 => by kernel_rfl, fun x0 x1 x6 x9 x11 K => by kernel_rfl⟩
theorem qn_4_1 : QN 4 1 := ⟨.int (0), by kernel_rfl, fun x0 x1 x6 x9 => by kernel_rfl, fun x0 x1 x6 x9 x11 K => by kernel_rfl⟩
theorem qn_4_2 : QN 4 2 := ⟨.int (-2), by kernel_rfl, fun x0 x1 x6 x9 => by kernel_rfl, fun x0 x1 x6 x9 x11 K => by kernel_rfl⟩
theorem qn_4_3 : QN 4 3 := ⟨.int (0), by kernel_rfl, fun x0 x1 x6 x9 => by kernel_rfl, fun x0 x1 x6 x9 x11 K => by kernel_rfl⟩
theorem qn_4_4 : QN 4 4 := ⟨.int (2), by kernel_rfl, fun x0 x1 x6 x9 => by kernel_rfl, fun x0 x1 x6 x9 x11 K => by kernel_rfl⟩
theorem qn_4_5 : QN 4 5 := ⟨.int (0), by kernel_rfl, fun x0 x1 x6 x9 => by kernel_rfl, fun x0 x1 x6 x9 x11 K => by kernel_rfl⟩
theorem qn_4_6 : QN 4 6 := ⟨.int (-2), by kernel_rfl, fun x0 x1 x6 x9 => by kernel_rfl, fun x0 x1 x6 x9 x11 K => by kernel_rfl⟩
theorem qn_4_7 : QN 4 7 := ⟨.int (0), by kernel_rfl, fun x0 x1 x6 x9 => by kernel_rfl, fun x0 x1 x6 x9 x11 K => by kernel_rfl⟩
theorem qn_4_8 : QN 4 8 := ⟨.int (2), by kernel_rfl, fun x0 x1 x6 x9 => by kernel_rfl, fun x0 x1 x6 x9 x11 K => by kernel_rfl⟩
theorem qn_4_9 : QN 4 9 := ⟨.int (0), by kernel_rfl, fun x0 x1 x6 x9 => by kernel_rfl, fun x0 x1 x6 x9 x11 K => by kernel_rfl⟩
theorem qn_4_10 : QN 4 10 := ⟨.int (-2), by kernel_rfl, fun x0 x1 x6 x9 => by kernel_rfl, fun x0 x1 x6 x9 x11 K => by kernel_rfl⟩
theorem qn_4_11 : QN 4 11 := ⟨.int (0), by kernel_rfl, fun x0 x1 x6 x9 => by kernel_rfl, fun x0 x1 x6 x9 x11 K => by kernel_rfl⟩
theorem qn_4_12 : QN 4 12 := ⟨.int (2), by kernel_rfl, fun x0 x1 x6 x9 => by kernel_rfl, fun x0 x1 x6 x9 x11 K => by kernel_rfl⟩
theorem qn_4_13 : QN 4 13 := ⟨.int (0), by kernel_rfl, fun x0 x1 x6 x9 => by kernel_rfl, fun x0 x1 x6 x9 x11 K => by kernel_rfl⟩
theorem qn_4_14 : QN 4 14 := ⟨.int (-2), by kernel_rfl, fun x0 x1 x6 x9 => by kernel_rfl, fun x0 x1 x6 x9 x11 K => by kernel_rfl⟩
theorem qn_4_15 : QN 4 15 := ⟨.int (0), by kernel_rfl, fun x0 x1 x6 x9 => by kernel_rfl, fun x0 x1 x6 x9 x11 K => by kernel_rfl⟩
theorem qn_4_16 : QN 4 16 := ⟨.int (2), by kernel_rfl, fun x0 x1 x6 x9 => by kernel_rfl, fun x0 x1 x6 x9 x11 K => by kernel_rfl⟩
theorem qn_4_17 : QN 4 17 := ⟨.int (0), by kernel_rfl, fun x0 x1 x6 x9 => by kernel_rfl, fun x0 x1 x6 x9 x11 K => by kernel_rfl⟩
theorem qn_4_18 : QN 4 18 := ⟨.int (-2), by kernel_rfl, fun x0 x1 x6 x9 => by kernel_rfl, fun x0 x1 x6 x9 x11 K => by kernel_rfl⟩
theorem qn_4_19 : QN 4 19 := ⟨.int (0), by kernel_rfl, fun x0 x1 x6 x9 => by kernel_rfl, fun x0 x1 x6 x9 x11 K => by kernel_rfl⟩
theorem qn_4_20 : QN 4 20 := ⟨.int (2), by kernel_rfl, fun x0 x1 x6 x9 => by kernel_rfl, fun x0 x1 x6 x9 x11 K => by kernel_rfl⟩
theorem qn_4_21 : QN 4 21 := ⟨.int (0), by kernel_rfl, fun x0 x1 x6 x9 => by kernel_rfl, fun x0 x1 x6 x9 x11 K => by kernel_rfl⟩
theorem qn_4_22 : QN 4 22 := ⟨.int (-2), by kernel_rfl, fun x0 x1 x6 x9 => by kernel_rfl, fun x0 x1 x6 x9 x11 K => by kernel_rfl⟩
theorem qn_4_23 : QN 4 23 := ⟨.int (0), by kernel_rfl, fun x0 x1 x6 x9 => by kernel_rfl, fun x0 x1 x6 x9 x11 K => by kernel_rfl⟩
theorem qn_4_24 : QN 4 24 := ⟨.int (2), by kernel_rfl, fun x0 x1 x6 x9 => by kernel_rfl, fun x0 x1 x6 x9 x11 K => by kernel_rfl⟩
theorem qn_4_25 : QN 4 25 := ⟨.int (0), by kernel_rfl, fun x0 x1 x6 x9 => by kernel_rfl, fun x0 x1 x6 x9 x11 K => by kernel_rfl⟩
theorem qn_4_26 : QN 4 26 := ⟨.int (-2), by kernel_rfl, fun x0 x1 x6 x9 => by kernel_rfl, fun x0 x1 x6 x9 x11 K => by kernel_rfl⟩
theorem qn_4_27 : QN 4 27 := ⟨.int (0), by kernel_rfl, fun x0 x1 x6 x9 => by kernel_rfl, fun x0 x1 x6 x9 x11 K => by kernel_rfl⟩
theorem qn_4_28 : QN 4 28 := ⟨.int (2), by kernel_rfl, fun x0 x1 x6 x9 => by kernel_rfl, fun x0 x1 x6 x9 x11 K => by kernel_rfl⟩
theorem qn_4_29 : QN 4 29 := ⟨.int (0), by kernel_rfl, fun x0 x1 x6 x9 => by kernel_rfl, fun x0 x1 x6 x9 x11 K => by kernel_rfl⟩
theorem qn_4 : ∀ n, n < 30 → QN 4 n
  | 0, _ => qn_4_0
  | 1, _ => qn_4_1
  | 2, _ => qn_4_2
  | 3, _ => qn_4_3
  | 4, _ => qn_4_4
  | 5, _ => qn_4_5
  | 6, _ => qn_4_6
  | 7, _ => qn_4_7
  | 8, _ => qn_4_8
  | 9, _ => qn_4_9
  | 10, _ => qn_4_10
  | 11, _ => qn_4_11
  | 12, _ => qn_4_12
  | 13, _ => qn_4_13
  | 14, _ => qn_4_14
  | 15, _ => qn_4_15
  | 16, _ => qn_4_16
  | 17, _ => qn_4_17
  | 18, _ => qn_4_18
  | 19, _ => qn_4_19
  | 20, _ => qn_4_20
  | 21, _ => qn_4_21
  | 22, _ => qn_4_22
  | 23, _ => qn_4_23
  | 24, _ => qn_4_24
  | 25, _ => qn_4_25
  | 26, _ => qn_4_26
  | 27, _ => qn_4_27
  | 28, _ => qn_4_28
  | 29, _ => qn_4_29
  | n + 30, h => absurd h (by omega)
theorem qn_5_0 : QN 5 0 := ⟨.int (4), by kernel_rfl, fun x0 x1 x6 x9 => by kernel_rfl, fun x0 x1 x6 x9 x11 K => by kernel_rfl⟩
theorem qn_5_1 : QN 5 1 := ⟨.int (-1), by kernel_rfl, fun x0 x1 x6 x9 => by kernel_rfl, fun x0 x1 x6 x9 x11 K => by kernel_rfl⟩
theorem qn_5_2 : QN 5 2 := ⟨.int (-1), by kernel_rfl, fun x0 x1 x6 x9 => by kernel_rfl, fun x0 x1 x6 x9 x11 K => by kernel_rfl⟩
theorem qn_5_3 : QN 5 3 := ⟨.int (-1), by kernel_rfl, fun x0 x1 x6 x9 => by kernel_rfl, fun x0 x1 x6 x9 x11 K => by kernel_rfl⟩
theorem qn_5_4 : QN 5 4 := ⟨.int (-1), by kernel_rfl, fun x0 x1 x6 x9 => by kernel_rfl, fun x0 x1 x6 x9 x11 K => by kernel_rfl⟩
theorem qn_5_5 : QN 5 5 := ⟨.int (4), by kernel_rfl, fun x0 x1 x6 x9 => by kernel_rfl, fun x0 x1 x6 x9 x11 K => by kernel_rfl⟩
theorem qn_5_6 : QN 5 6 := ⟨.int (-1), by kernel_rfl, fun x0 x1 x6 x9 => by kernel_rfl, fun x0 x1 x6 x9 x11 K => by kernel_rfl⟩
theorem qn_5_7 : QN 5 7 := ⟨.int (-1), by kernel_rfl, fun x0 x1 x6 x9 => by kernel_rfl, fun x0 x1 x6 x9 x11 K => by kernel_rfl⟩
theorem qn_5_8 : QN 5 8 := ⟨.int (-1), by kernel_rfl, fun x0 x1 x6 x9 => by kernel_rfl, fun x0 x1 x6 x9 x11 K => by kernel_rfl⟩
theorem qn_5_9 : QN 5 9 := ⟨.int (-1), by kernel_rfl, fun x0 x1 x6 x9 => by kernel_rfl, fun x0 x1 x6 x9 x11 K => by kernel_rfl⟩
theorem qn_5_10 : QN 5 10 := ⟨.int (4), by kernel_rfl, fun x0 x1 x6 x9 => by kernel_rfl, fun x0 x1 x6 x9 x11 K => by kernel_rfl⟩
theorem qn_5_11 : QN 5 11 := ⟨.int (-1), by kernel_rfl, fun x0 x1 x6 x9 => by kernel_rfl, fun x0 x1 x6 x9 x11 K => by kernel_rfl⟩
theorem qn_5_12 : QN 5 12 := ⟨.int (-1), by kernel_rfl, fun x0 x1 x6 x9 => by kernel_rfl, fun x0 x1 x6 x9 x11 K => by kernel_rfl⟩
theorem qn_5_13 : QN 5 13 := ⟨.int (-1), by kernel_rfl, fun x0 x1 x6 x9 => by kernel_rfl, fun x0 x1 x6 x9 x11 K => by kernel_rfl⟩
theorem qn_5_14 : QN 5 14 := ⟨.int (-1), by kernel_rfl, fun x0 x1 x6 x9 => by kernel_rfl, fun x0 x1 x6 x9 x11 K => by kernel_rfl⟩
theorem qn_5_15 : QN 5 15 := ⟨.int (4), by kernel_rfl, fun x0 x1 x6 x9 => by kernel_rfl, fun x0 x1 x6 x9 x11 K => by kernel_rfl⟩
theorem qn_5_16 : QN 5 16 := ⟨.int (-1), by kernel_rfl, fun x0 x1 x6 x9 => by kernel_rfl, fun x0 x1 x6 x9 x11 K => by kernel_rfl⟩
theorem qn_5_17 : QN 5 17 := ⟨.int (-1), by kernel_rfl, fun x0 x1 x6 x9 => by kernel_rfl, fun x0 x1 x6 x9 x11 K => by kernel_rfl⟩
theorem qn_5_18 : QN 5 18 := ⟨.int (-1), by kernel_rfl, fun x0 x1 x6 x9 => by kernel_rfl, fun x0 x1 x6 x9 x11 K => by kernel_rfl⟩
theorem qn_5_19 : QN 5 19 := ⟨.int (-1), by kernel_rfl, fun x0 x1 x6 x9 => by kernel_rfl, fun x0 x1 x6 x9 x11 K => by kernel_rfl⟩
theorem qn_5_20 : QN 5 20 := ⟨.int (4), by kernel_rfl, fun x0 x1 x6 x9 => by kernel_rfl, fun x0 x1 x6 x9 x11 K => by kernel_rfl⟩
theorem qn_5_21 : QN 5 21 := ⟨.int (-1), by kernel_rfl, fun x0 x1 x6 x9 => by kernel_rfl, fun x0 x1 x6 x9 x11 K => by kernel_rfl⟩
theorem qn_5_22 : QN 5 22 := ⟨.int (-1), by kernel_rfl, fun x0 x1 x6 x9 => by kernel_rfl, fun x0 x1 x6 x9 x11 K => by kernel_rfl⟩
theorem qn_5_23 : QN 5 23 := ⟨.int (-1), by kernel_rfl, fun x0 x1 x6 x9 => by kernel_rfl, fun x0 x1 x6 x9 x11 K => by kernel_rfl⟩
theorem qn_5_24 : QN 5 24 := ⟨.int (-1), by kernel_rfl, fun x0 x1 x6 x9 => by kernel_rfl, fun x0 x1 x6 x9 x11 K => by kernel_rfl⟩
theorem qn_5_25 : QN 5 25 := ⟨.int (4), by kernel_rfl, fun x0 x1 x6 x9 => by kernel_rfl, fun x0 x1 x6 x9 x11 K => by kernel_rfl⟩
theorem qn_5_26 : QN 5 26 := ⟨.int (-1), by kernel_rfl, fun x0 x1 x6 x9 => by kernel_rfl, fun x0 x1 x6 x9 x11 K => by kernel_rfl⟩
theorem qn_5_27 : QN 5 27 := ⟨.int (-1), by kernel_rfl, fun x0 x1 x6 x9 => by kernel_rfl, fun x0 x1 x6 x9 x11 K => by kernel_rfl⟩
theorem qn_5_28 : QN 5 28 := ⟨.int (-1), by kernel_rfl, fun x0 x1 x6 x9 => by kernel_rfl, fun x0 x1 x6 x9 x11 K => by kernel_rfl⟩
theorem qn_5_29 : QN 5 29 := ⟨.int (-1), by kernel_rfl, fun x0 x1 x6 x9 => by kernel_rfl, fun x0 x1 x6 x9 x11 K => by kernel_rfl⟩
theorem qn_5 : ∀ n, n < 30 → QN 5 n
  | 0, _ => qn_5_0
  | 1, _ => qn_5_1
  | 2, _ => qn_5_2
  | 3, _ => qn_5_3
  | 4, _ => qn_5_4
  | 5, _ => qn_5_5
  | 6, _ => qn_5_6
  | 7, _ => qn_5_7
  | 8, _ => qn_5_8
  | 9, _ => qn_5_9
  | 10, _ => qn_5_10
  | 11, _ => qn_5_11
  | 12, _ => qn_5_12
  | 13, _ => qn_5_13
  | 14, _ => qn_5_14
  | 15, _ => qn_5_15
  | 16, _ => qn_5_16
  | 17, _ => qn_5_17
  | 18, _ => qn_5_18
  | 19, _ => qn_5_19
  | 20, _ => qn_5_20
  | 21, _ => qn_5_21
  | 22, _ => qn_5_22
  | 23, _ => qn_5_23
  | 24, _ => qn_5_24
  | 25, _ => qn_5_25
  | 26, _ => qn_5_26
  | 27, _ => qn_5_27
  | 28, _ => qn_5_28
  | 29, _ => qn_5_29
  | n + 30, h => absurd h (by omega)
theorem qn_6_0 : QN 6 0 := ⟨.int (2), by kernel_rfl, fun x0 x1 x6 x9 => by kernel_rfl, fun x0 x1 x6 x9 x11 K => by kernel_rfl⟩
theorem qn_6_1 : QN 6 1 := ⟨.int (1), by kernel_rfl, fun x0 x1 x6 x9 => by kernel_rfl, fun x0 x1 x6 x9 x11 K => by kernel_rfl⟩
theorem qn_6_2 : QN 6 2 := ⟨.int (-1), by kernel_rfl, fun x0 x1 x6 x9 => by kernel_rfl, fun x0 x1 x6 x9 x11 K => by kernel_rfl⟩
theorem qn_6_3 : QN 6 3 := ⟨.int (-2), by kernel_rfl, fun x0 x1 x6 x9 => by kernel_rfl, fun x0 x1 x6 x9 x11 K => by kernel_rfl⟩
theorem qn_6_4 : QN 6 4 := ⟨.int (-1), by kernel_rfl, fun x0 x1 x6 x9 => by kernel_rfl, fun x0 x1 x6 x9 x11 K => by kernel_rfl⟩
theorem qn_6_5 : QN 6 5 := ⟨.int (1), by kernel_rfl, fun x0 x1 x6 x9 => by kernel_rfl, fun x0 x1 x6 x9 x11 K => by kernel_rfl⟩
theorem qn_6_6 : QN 6 6 := ⟨.int (2), by kernel_rfl, fun x0 x1 x6 x9 => by kernel_rfl, fun x0 x1 x6 x9 x11 K => by kernel_rfl⟩
theorem qn_6_7 : QN 6 7 := ⟨.int (1), by kernel_rfl, fun x0 x1 x6 x9 => by kernel_rfl, fun x0 x1 x6 x9 x11 K => by kernel_rfl⟩
theorem qn_6_8 : QN 6 8 := ⟨.int (-1), by kernel_rfl, fun x0 x1 x6 x9 => by kernel_rfl, fun x0 x1 x6 x9 x11 K => by kernel_rfl⟩
theorem qn_6_9 : QN 6 9 := ⟨.int (-2), by kernel_rfl, fun x0 x1 x6 x9 => by kernel_rfl, fun x0 x1 x6 x9 x11 K => by kernel_rfl⟩
theorem qn_6_10 : QN 6 10 := ⟨.int (-1), by kernel_rfl, fun x0 x1 x6 x9 => by kernel_rfl, fun x0 x1 x6 x9 x11 K => by kernel_rfl⟩
theorem qn_6_11 : QN 6 11 := ⟨.int (1), by kernel_rfl, fun x0 x1 x6 x9 => by kernel_rfl, fun x0 x1 x6 x9 x11 K => by kernel_rfl⟩
theorem qn_6_12 : QN 6 12 := ⟨.int (2), by kernel_rfl, fun x0 x1 x6 x9 => by kernel_rfl, fun x0 x1 x6 x9 x11 K => by kernel_rfl⟩
theorem qn_6_13 : QN 6 13 := ⟨.int (1), by kernel_rfl, fun x0 x1 x6 x9 => by kernel_rfl, fun x0 x1 x6 x9 x11 K => by kernel_rfl⟩
theorem qn_6_14 : QN 6 14 := ⟨.int (-1), by kernel_rfl, fun x0 x1 x6 x9 => by kernel_rfl, fun x0 x1 x6 x9 x11 K => by kernel_rfl⟩
theorem qn_6_15 : QN 6 15 := ⟨.int (-2), by kernel_rfl, fun x0 x1 x6 x9 => by kernel_rfl, fun x0 x1 x6 x9 x11 K => by kernel_rfl⟩
theorem qn_6_16 : QN 6 16 := ⟨.int (-1), by kernel_rfl, fun x0 x1 x6 x9 => by kernel_rfl, fun x0 x1 x6 x9 x11 K => by kernel_rfl⟩
theorem qn_6_17 : QN 6 17 := ⟨.int (1), by kernel_rfl, fun x0 x1 x6 x9 => by kernel_rfl, fun x0 x1 x6 x9 x11 K => by kernel_rfl⟩
theorem qn_6_18 : QN 6 18 := ⟨.int (2), by kernel_rfl, fun x0 x1 x6 x9 => by kernel_rfl, fun x0 x1 x6 x9 x11 K => by kernel_rfl⟩
theorem qn_6_19 : QN 6 19 := ⟨.int (1), by kernel_rfl, fun x0 x1 x6 x9 => by kernel_rfl, fun x0 x1 x6 x9 x11 K => by kernel_rfl⟩
theorem qn_6_20 : QN 6 20 := ⟨.int (-1), by kernel_rfl, fun x0 x1 x6 x9 => by kernel_rfl, fun x0 x1 x6 x9 x11 K => by kernel_rfl⟩
theorem qn_6_21 : QN 6 21 := ⟨.int (-2), by kernel_rfl, fun x0 x1 x6 x9 => by kernel_rfl, fun x0 x1 x6 x9 x11 K => by kernel_rfl⟩
theorem qn_6_22 : QN 6 22 := ⟨.int (-1), by kernel_rfl, fun x0 x1 x6 x9 => by kernel_rfl, fun x0 x1 x6 x9 x11 K => by kernel_rfl⟩
theorem qn_6_23 : QN 6 23 := ⟨.int (1), by kernel_rfl, fun x0 x1 x6 x9 => by kernel_rfl, fun x0 x1 x6 x9 x11 K => by kernel_rfl⟩
theorem qn_6_24 : QN 6 24 := ⟨.int (2), by kernel_rfl, fun x0 x1 x6 x9 => by kernel_rfl, fun x0 x1 x6 x9 x11 K => by kernel_rfl⟩
theorem qn_6_25 : QN 6 25 := ⟨.int (1), by kernel_rfl, fun x0 x1 x6 x9 => by kernel_rfl, fun x0 x1 x6 x9 x11 K => by kernel_rfl⟩
theorem qn_6_26 : QN 6 26 := ⟨.int (-1), by kernel_rfl, fun x0 x1 x6 x9 => by kernel_rfl, fun x0 x1 x6 x9 x11 K => by kernel_rfl⟩
theorem qn_6_27 : QN 6 27 := ⟨.int (-2), by kernel_rfl, fun x0 x1 x6 x9 => by kernel_rfl, fun x0 x1 x6 x9 x11 K => by kernel_rfl⟩
theorem qn_6_28 : QN 6 28 := ⟨.int (-1), by kernel_rfl, fun x0 x1 x6 x9 => by kernel_rfl, fun x0 x1 x6 x9 x11 K => by kernel_rfl⟩
theorem qn_6_29 : QN 6 29 := ⟨.int (1), by kernel_rfl, fun x0 x1 x6 x9 => by kernel_rfl, fun x0 x1 x6 x9 x11 K => by kernel_rfl⟩
theorem qn_6 : ∀ n, n < 30 → QN 6 n
  | 0, _ => qn_6_0
  | 1, _ => qn_6_1
  | 2, _ => qn_6_2
  | 3, _ => qn_6_3
  | 4, _ => qn_6_4
  | 5, _ => qn_6_5
  | 6, _ => qn_6_6
  | 7, _ => qn_6_7
  | 8, _ => qn_6_8
  | 9, _ => qn_6_9
  | 10, _ => qn_6_10
  | 11, _ => qn_6_11
  | 12, _ => qn_6_12
  | 13, _ => qn_6_13
  | 14, _ => qn_6_14
  | 15, _ => qn_6_15
  | 16, _ => qn_6_16
  | 17, _ => qn_6_17
  | 18, _ => qn_6_18
  | 19, _ => qn_6_19
  | 20, _ => qn_6_20
  | 21, _ => qn_6_21
  | 22, _ => qn_6_22
  | 23, _ => qn_6_23
  | 24, _ => qn_6_24
  | 25, _ => qn_6_25
  | 26, _ => qn_6_26
  | 27, _ => qn_6_27
  | 28, _ => qn_6_28
  | 29, _ => qn_6_29
  | n + 30, h => absurd h (by omega)
theorem qn_7_0 : QN 7 0 := ⟨.int (6), by kernel_rfl, fun x0 x1 x6 x9 => by kernel_rfl, fun x0 x1 x6 x9 x11 K => by kernel_rfl⟩
theorem qn_7_1 : QN 7 1 := ⟨.int (-1), by kernel_rfl, fun x0 x1 x6 x9 => by kernel_rfl, fun x0 x1 x6 x9 x11 K => by kernel_rfl⟩
theorem qn_7_2 : QN 7 2 := ⟨.int (-1), by kernel_rfl, fun x0 x1 x6 x9 => by kernel_rfl, fun x0 x1 x6 x9 x11 K => by kernel_rfl⟩
theorem qn_7_3 : QN 7 3 := ⟨.int (-1), by kernel_rfl, fun x0 x1 x6 x9 => by kernel_rfl, fun x0 x1 x6 x9 x11 K => by kernel_rfl⟩
theorem qn_7_4 : QN 7 4 := ⟨.int (-1), by kernel_rfl, fun x0 x1 x6 x9 => by kernel_rfl, fun x0 x1 x6 x9 x11 K => by kernel_rfl⟩
theorem qn_7_5 : QN 7 5 := ⟨.int (-1), by kernel_rfl, fun x0 x1 x6 x9 => by kernel_rfl, fun x0 x1 x6 x9 x11 K => by kernel_rfl⟩
theorem qn_7_6 : QN 7 6 := ⟨.int (-1), by kernel_rfl, fun x0 x1 x6 x9 => by kernel_rfl, fun x0 x1 x6 x9 x11 K => by kernel_rfl⟩
theorem qn_7_7 : QN 7 7 := ⟨.int (6), by kernel_rfl, fun x0 x1 x6 x9 => by kernel_rfl, fun x0 x1 x6 x9 x11 K => by kernel_rfl⟩
theorem qn_7_8 : QN 7 8 := ⟨.int (-1), by kernel_rfl, fun x0 x1 x6 x9 => by kernel_rfl, fun x0 x1 x6 x9 x11 K => by kernel_rfl⟩
theorem qn_7_9 : QN 7 9 := ⟨.int (-1), by kernel_rfl, fun x0 x1 x6 x9 => by kernel_rfl, fun x0 x1 x6 x9 x11 K => by kernel_rfl⟩
theorem qn_7_10 : QN 7 10 := ⟨.int (-1), by kernel_rfl, fun x0 x1 x6 x9 => by kernel_rfl, fun x0 x1 x6 x9 x11 K => by kernel_rfl⟩
theorem qn_7_11 : QN 7 11 := ⟨.int (-1), by kernel_rfl, fun x0 x1 x6 x9 => by kernel_rfl, fun x0 x1 x6 x9 x11 K => by kernel_rfl⟩
theorem qn_7_12 : QN 7 12 := ⟨.int (-1), by kernel_rfl, fun x0 x1 x6 x9 => by kernel_rfl, fun x0 x1 x6 x9 x11 K => by kernel_rfl⟩
theorem qn_7_13 : QN 7 13 := ⟨.int (-1), by kernel_rfl, fun x0 x1 x6 x9 => by kernel_rfl, fun x0 x1 x6 x9 x11 K => by kernel_rfl⟩
theorem qn_7_14 : QN 7 14 := ⟨.int (6), by kernel_rfl, fun x0 x1 x6 x9 => by kernel_rfl, fun x0 x1 x6 x9 x11 K => by kernel_rfl⟩
theorem qn_7_15 : QN 7 15 := ⟨.int (-1), by kernel_rfl, fun x0 x1 x6 x9 => by kernel_rfl, fun x0 x1 x6 x9 x11 K => by kernel_rfl⟩
theorem qn_7_16 : QN 7 16 := ⟨.int (-1), by kernel_rfl, fun x0 x1 x6 x9 => by kernel_rfl, fun x0 x1 x6 x9 x11 K => by kernel_rfl⟩
theorem qn_7_17 : QN 7 17 := ⟨.int (-1), by kernel_rfl, fun x0 x1 x6 x9 => by kernel_rfl, fun x0 x1 x6 x9 x11 K => by kernel_rfl⟩
theorem qn_7_18 : QN 7 18 := ⟨.int (-1), by kernel_rfl, fun x0 x1 x6 x9 => by kernel_rfl, fun x0 x1 x6 x9 x11 K => by kernel_rfl⟩
theorem qn_7_19 : QN 7 19 := ⟨.int (-1), by kernel_rfl, fun x0 x1 x6 x9 => by kernel_rfl, fun x0 x1 x6 x9 x11 K => by kernel_rfl⟩
theorem qn_7_20 : QN 7 20 := ⟨.int (-1), by kernel_rfl, fun x0 x1 x6 x9 => by kernel_rfl, fun x0 x1 x6 x9 x11 K => by kernel_rfl⟩
theorem qn_7_21 : QN 7 21 := ⟨.int (6), by kernel_rfl, fun x0 x1 x6 x9 => by kernel_rfl, fun x0 x1 x6 x9 x11 K => by kernel_rfl⟩
theorem qn_7_22 : QN 7 22 := ⟨.int (-1), by kernel_rfl, fun x0 x1 x6 x9 => by kernel_rfl, fun x0 x1 x6 x9 x11 K => by kernel_rfl⟩
theorem qn_7_23 : QN 7 23 := ⟨.int (-1), by kernel_rfl, fun x0 x1 x6 x9 => by kernel_rfl, fun x0 x1 x6 x9 x11 K => by kernel_rfl⟩
theorem qn_7_24 : QN 7 24 := ⟨.int (-1), by kernel_rfl, fun x0 x1 x6 x9 => by kernel_rfl, fun x0 x1 x6 x9 x11 K => by kernel_rfl⟩
theorem qn_7_25 : QN 7 25 := ⟨.int (-1), by kernel_rfl, fun x0 x1 x6 x9 => by kernel_rfl, fun x0 x1 x6 x9 x11 K => by kernel_rfl⟩
theorem qn_7_26 : QN 7 26 := ⟨.int (-1), by kernel_rfl, fun x0 x1 x6 x9 => by kernel_rfl, fun x0 x1 x6 x9 x11 K => by kernel_rfl⟩
theorem qn_7_27 : QN 7 27 := ⟨.int (-1), by kernel_rfl, fun x0 x1 x6 x9 => by kernel_rfl, fun x0 x1 x6 x9 x11 K => by kernel_rfl⟩
theorem qn_7_28 : QN 7 28 := ⟨.int (6), by kernel_rfl, fun x0 x1 x6 x9 => by kernel_rfl, fun x0 x1 x6 x9 x11 K => by kernel_rfl⟩
theorem qn_7_29 : QN 7 29 := ⟨.int (-1), by kernel_rfl, fun x0 x1 x6 x9 => by kernel_rfl, fun x0 x1 x6 x9 x11 K => by kernel_rfl⟩
theorem qn_7 : ∀ n, n < 30 → QN 7 n
  | 0, _ => qn_7_0
  | 1, _ => qn_7_1
  | 2, _ => qn_7_2
  | 3, _ => qn_7_3
  | 4, _ => qn_7_4
  | 5, _ => qn_7_5
  | 6, _ => qn_7_6
  | 7, _ => qn_7_7
  | 8, _ => qn_7_8
  | 9, _ => qn_7_9
  | 10, _ => qn_7_10
  | 11, _ => qn_7_11
  | 12, _ => qn_7_12
  | 13, _ => qn_7_13
  | 14, _ => qn_7_14
  | 15, _ => qn_7_15
  | 16, _ => qn_7_16
  | 17, _ => qn_7_17
  | 18, _ => qn_7_18
  | 19, _ => qn_7_19
  | 20, _ => qn_7_20
  | 21, _ => qn_7_21
  | 22, _ => qn_7_22
  | 23, _ => qn_7_23
  | 24, _ => qn_7_24
  | 25, _ => qn_7_25
  | 26, _ => qn_7_26
  | 27, _ => qn_7_27
  | 28, _ => qn_7_28
  | 29, _ => qn_7_29
  | n + 30, h => absurd h (by omega)
theorem qn_8_0 : QN 8 0 := ⟨.int (4), by kernel_rfl, fun x0 x1 x6 x9 => by kernel_rfl, fun x0 x1 x6 x9 x11 K => by kernel_rfl⟩
theorem qn_8_1 : QN 8 1 := ⟨.int (0), by kernel_rfl, fun x0 x1 x6 x9 => by kernel_rfl, fun x0 x1 x6 x9 x11 K => by kernel_rfl⟩
theorem qn_8_2 : QN 8 2 := ⟨.int (0), by kernel_rfl, fun x0 x1 x6 x9 => by kernel_rfl, fun x0 x1 x6 x9 x11 K => by kernel_rfl⟩
theorem qn_8_3 : QN 8 3 := ⟨.int (0), by kernel_rfl, fun x0 x1 x6 x9 => by kernel_rfl, fun x0 x1 x6 x9 x11 K => by kernel_rfl⟩
theorem qn_8_4 : QN 8 4 := ⟨.int (-4), by kernel_rfl, fun x0 x1 x6 x9 => by kernel_rfl, fun x0 x1 x6 x9 x11 K => by kernel_rfl⟩
theorem qn_8_5 : QN 8 5 := ⟨.int (0), by kernel_rfl, fun x0 x1 x6 x9 => by kernel_rfl, fun x0 x1 x6 x9 x11 K => by kernel_rfl⟩
theorem qn_8_6 : QN 8 6 := ⟨.int (0), by kernel_rfl, fun x0 x1 x6 x9 => by kernel_rfl, fun x0 x1 x6 x9 x11 K => by kernel_rfl⟩
theorem qn_8_7 : QN 8 7 := ⟨.int (0), by kernel_rfl, fun x0 x1 x6 x9 => by kernel_rfl, fun x0 x1 x6 x9 x11 K => by kernel_rfl⟩
theorem qn_8_8 : QN 8 8 := ⟨.int (4), by kernel_rfl, fun x0 x1 x6 x9 => by kernel_rfl, fun x0 x1 x6 x9 x11 K => by kernel_rfl⟩
theorem qn_8_9 : QN 8 9 := ⟨.int (0), by kernel_rfl, fun x0 x1 x6 x9 => by kernel_rfl, fun x0 x1 x6 x9 x11 K => by kernel_rfl⟩
theorem qn_8_10 : QN 8 10 := ⟨.int (0), by kernel_rfl, fun x0 x1 x6 x9 => by kernel_rfl, fun x0 x1 x6 x9 x11 K => by kernel_rfl⟩
theorem qn_8_11 : QN 8 11 := ⟨.int (0), by kernel_rfl, fun x0 x1 x6 x9 => by kernel_rfl, fun x0 x1 x6 x9 x11 K => by kernel_rfl⟩
theorem qn_8_12 : QN 8 12 := ⟨.int (-4), by kernel_rfl, fun x0 x1 x6 x9 => by kernel_rfl, fun x0 x1 x6 x9 x11 K => by kernel_rfl⟩
theorem qn_8_13 : QN 8 13 := ⟨.int (0), by kernel_rfl, fun x0 x1 x6 x9 => by kernel_rfl, fun x0 x1 x6 x9 x11 K => by kernel_rfl⟩
theorem qn_8_14 : QN 8 14 := ⟨.int (0), by kernel_rfl, fun x0 x1 x6 x9 => by kernel_rfl, fun x0 x1 x6 x9 x11 K => by kernel_rfl⟩
theorem qn_8_15 : QN 8 15 := ⟨.int (0), by kernel_rfl, fun x0 x1 x6 x9 => by kernel_rfl, fun x0 x1 x6 x9 x11 K => by kernel_rfl⟩
theorem qn_8_16 : QN 8 16 := ⟨.int (4), by kernel_rfl, fun x0 x1 x6 x9 => by kernel_rfl, fun x0 x1 x6 x9 x11 K => by kernel_rfl⟩
theorem qn_8_17 : QN 8 17 := ⟨.int (0), by kernel_rfl, fun x0 x1 x6 x9 => by kernel_rfl, fun x0 x1 x6 x9 x11 K => by kernel_rfl⟩
theorem qn_8_18 : QN 8 18 := ⟨.int (0), by kernel_rfl, fun x0 x1 x6 x9 => by kernel_rfl, fun x0 x1 x6 x9 x11 K => by kernel_rfl⟩
theorem qn_8_19 : QN 8 19 := ⟨.int (0), by kernel_rfl, fun x0 x1 x6 x9 => by kernel_rfl, fun x0 x1 x6 x9 x11 K => by kernel_rfl⟩
theorem qn_8_20 : QN 8 20 := ⟨.int (-4), by kernel_rfl, fun x0 x1 x6 x9 => by kernel_rfl, fun x0 x1 x6 x9 x11 K => by kernel_rfl⟩
theorem qn_8_21 : QN 8 21 := ⟨.int (0), by kernel_rfl, fun x0 x1 x6 x9 => by kernel_rfl, fun x0 x1 x6 x9 x11 K => by kernel_rfl⟩
theorem qn_8_22 : QN 8 22 := ⟨.int (0), by kernel_rfl, fun x0 x1 x6 x9 => by kernel_rfl, fun x0 x1 x6 x9 x11 K => by kernel_rfl⟩
theorem qn_8_23 : QN 8 23 := ⟨.int (0), by kernel_rfl, fun x0 x1 x6 x9 => by kernel_rfl, fun x0 x1 x6 x9 x11 K => by kernel_rfl⟩
theorem qn_8_24 : QN 8 24 := ⟨.int (4), by kernel_rfl, fun x0 x1 x6 x9 => by kernel_rfl, fun x0 x1 x6 x9 x11 K => by kernel_rfl⟩
theorem qn_8_25 : QN 8 25 := ⟨.int (0), by kernel_rfl, fun x0 x1 x6 x9 => by kernel_rfl, fun x0 x1 x6 x9 x11 K => by kernel_rfl⟩
theorem qn_8_26 : QN 8 26 := ⟨.int (0), by kernel_rfl, fun x0 x1 x6 x9 => by kernel_rfl, fun x0 x1 x6 x9 x11 K => by kernel_rfl⟩
theorem qn_8_27 : QN 8 27 := ⟨.int (0), by kernel_rfl, fun x0 x1 x6 x9 => by kernel_rfl, fun x0 x1 x6 x9 x11 K => by kernel_rfl⟩
theorem qn_8_28 : QN 8 28 := ⟨.int (-4), by kernel_rfl, fun x0 x1 x6 x9 => by kernel_rfl, fun x0 x1 x6 x9 x11 K => by kernel_rfl⟩
theorem qn_8_29 : QN 8 29 := ⟨.int (0), by kernel_rfl, fun x0 x1 x6 x9 => by kernel_rfl, fun x0 x1 x6 x9 x11 K => by kernel_rfl⟩
theorem qn_8 : ∀ n, n < 30 → QN 8 n
  | 0, _ => qn_8_0
  | 1, _ => qn_8_1
  | 2, _ => qn_8_2
  | 3, _ => qn_8_3
  | 4, _ => qn_8_4
  | 5, _ => qn_8_5
  | 6, _ => qn_8_6
  | 7, _ => qn_8_7
  | 8, _ => qn_8_8
  | 9, _ => qn_8_9
  | 10, _ => qn_8_10
  | 11, _ => qn_8_11
  | 12, _ => qn_8_12
  | 13, _ => qn_8_13
  | 14, _ => qn_8_14
  | 15, _ => qn_8_15
  | 16, _ => qn_8_16
  | 17, _ => qn_8_17
  | 18, _ => qn_8_18
  | 19, _ => qn_8_19
  | 20, _ => qn_8_20
  | 21, _ => qn_8_21
  | 22, _ => qn_8_22
  | 23, _ => qn_8_23
  | 24, _ => qn_8_24
  | 25, _ => qn_8_25
  | 26, _ => qn_8_26
  | 27, _ => qn_8_27
  | 28, _ => qn_8_28
  | 29, _ => qn_8_29
  | n + 30, h => absurd h (by omega)
theorem qn_9_0 : QN 9 0 := ⟨.int (6), by kernel_rfl, fun x0 x1 x6 x9 => by kernel_rfl, fun x0 x1 x6 x9 x11 K => by kernel_rfl⟩
theorem qn_9_1 : QN 9 1 := ⟨.int (0), by kernel_rfl, fun x0 x1 x6 x9 => by kernel_rfl, fun x0 x1 x6 x9 x11 K => by kernel_rfl⟩
theorem qn_9_2 : QN 9 2 := ⟨.int (0), by kernel_rfl, fun x0 x1 x6 x9 => by kernel_rfl, fun x0 x1 x6 x9 x11 K => by kernel_rfl⟩
theorem qn_9_3 : QN 9 3 := ⟨.int (-3), by kernel_rfl, fun x0 x1 x6 x9 => by kernel_rfl, fun x0 x1 x6 x9 x11 K => by kernel_rfl⟩
theorem qn_9_4 : QN 9 4 := ⟨.int (0), by kernel_rfl, fun x0 x1 x6 x9 => by kernel_rfl, fun x0 x1 x6 x9 x11 K => by kernel_rfl⟩
theorem qn_9_5 : QN 9 5 := ⟨.int (0), by kernel_rfl, fun x0 x1 x6 x9 => by kernel_rfl, fun x0 x1 x6 x9 x11 K => by kernel_rfl⟩
theorem qn_9_6 : QN 9 6 := ⟨.int (-3), by kernel_rfl, fun x0 x1 x6 x9 => by kernel_rfl, fun x0 x1 x6 x9 x11 K => by kernel_rfl⟩
theorem qn_9_7 : QN 9 7 := ⟨.int (0), by kernel_rfl, fun x0 x1 x6 x9 => by kernel_rfl, fun x0 x1 x6 x9 x11 K => by kernel_rfl⟩
theorem qn_9_8 : QN 9 8 := ⟨.int (0), by kernel_rfl, fun x0 x1 x6 x9 => by kernel_rfl, fun x0 x1 x6 x9 x11 K => by kernel_rfl⟩
theorem qn_9_9 : QN 9 9 := ⟨.int (6), by kernel_rfl, fun x0 x1 x6 x9 => by kernel_rfl, fun x0 x1 x6 x9 x11 K => by kernel_rfl⟩
theorem qn_9_10 : QN 9 10 := ⟨.int (0), by kernel_rfl, fun x0 x1 x6 x9 => by kernel_rfl, fun x0 x1 x6 x9 x11 K => by kernel_rfl⟩
theorem qn_9_11 : QN 9 11 := ⟨.int (0), by kernel_rfl, fun x0 x1 x6 x9 => by kernel_rfl, fun x0 x1 x6 x9 x11 K => by kernel_rfl⟩
theorem qn_9_12 : QN 9 12 := ⟨.int (-3), by kernel_rfl, fun x0 x1 x6 x9 => by kernel_rfl, fun x0 x1 x6 x9 x11 K => by kernel_rfl⟩
theorem qn_9_13 : QN 9 13 := ⟨.int (0), by kernel_rfl, fun x0 x1 x6 x9 => by kernel_rfl, fun x0 x1 x6 x9 x11 K => by kernel_rfl⟩
theorem qn_9_14 : QN 9 14 := ⟨.int (0), by kernel_rfl, fun x0 x1 x6 x9 => by kernel_rfl, fun x0 x1 x6 x9 x11 K => by kernel_rfl⟩
theorem qn_9_15 : QN 9 15 := ⟨.int (-3), by kernel_rfl, fun x0 x1 x6 x9 => by kernel_rfl, fun x0 x1 x6 x9 x11 K => by kernel_rfl⟩
theorem qn_9_16 : QN 9 16 := ⟨.int (0), by kernel_rfl, fun x0 x1 x6 x9 => by kernel_rfl, fun x0 x1 x6 x9 x11 K => by kernel_rfl⟩
theorem qn_9_17 : QN 9 17 := ⟨.int (0), by kernel_rfl, fun x0 x1 x6 x9 => by kernel_rfl, fun x0 x1 x6 x9 x11 K => by kernel_rfl⟩
theorem qn_9_18 : QN 9 18 := ⟨.int (6), by kernel_rfl, fun x0 x1 x6 x9 => by kernel_rfl, fun x0 x1 x6 x9 x11 K => by kernel_rfl⟩
theorem qn_9_19 : QN 9 19 := ⟨.int (0), by kernel_rfl, fun x0 x1 x6 x9 => by kernel_rfl, fun x0 x1 x6 x9 x11 K => by kernel_rfl⟩
theorem qn_9_20 : QN 9 20 := ⟨.int (0), by kernel_rfl, fun x0 x1 x6 x9 => by kernel_rfl, fun x0 x1 x6 x9 x11 K => by kernel_rfl⟩
theorem qn_9_21 : QN 9 21 := ⟨.int (-3), by kernel_rfl, fun x0 x1 x6 x9 => by kernel_rfl, fun x0 x1 x6 x9 x11 K => by kernel_rfl⟩
theorem qn_9_22 : QN 9 22 := ⟨.int (0), by kernel_rfl, fun x0 x1 x6 x9 => by kernel_rfl, fun x0 x1 x6 x9 x11 K => by kernel_rfl⟩
theorem qn_9_23 : QN 9 23 := ⟨.int (0), by kernel_rfl, fun x0 x1 x6 x9 => by kernel_rfl, fun x0 x1 x6 x9 x11 K => by kernel_rfl⟩
theorem qn_9_24 : QN 9 24 := ⟨.int (-3), by kernel_rfl, fun x0 x1 x6 x9 => by kernel_rfl, fun x0 x1 x6 x9 x11 K => by kernel_rfl⟩
theorem qn_9_25 : QN 9 25 := ⟨.int (0), by kernel_rfl, fun x0 x1 x6 x9 => by kernel_rfl, fun x0 x1 x6 x9 x11 K => by kernel_rfl⟩
theorem qn_9_26 : QN 9 26 := ⟨.int (0), by kernel_rfl, fun x0 x1 x6 x9 => by kernel_rfl, fun x0 x1 x6 x9 x11 K => by kernel_rfl⟩
theorem qn_9_27 : QN 9 27 := ⟨.int (6), by kernel_rfl, fun x0 x1 x6 x9 => by kernel_rfl, fun x0 x1 x6 x9 x11 K => by kernel_rfl⟩
theorem qn_9_28 : QN 9 28 := ⟨.int (0), by kernel_rfl, fun x0 x1 x6 x9 => by kernel_rfl, fun x0 x1 x6 x9 x11 K => by kernel_rfl⟩
theorem qn_9_29 : QN 9 29 := ⟨.int (0), by kernel_rfl, fun x0 x1 x6 x9 => by kernel_rfl, fun x0 x1 x6 x9 x11 K => by kernel_rfl⟩
theorem qn_9 : ∀ n, n < 30 → QN 9 n
  | 0, _ => qn_9_0
  | 1, _ => qn_9_1
  | 2, _ => qn_9_2
  | 3, _ => qn_9_3
  | 4, _ => qn_9_4
  | 5, _ => qn_9_5
  | 6, _ => qn_9_6
  | 7, _ => qn_9_7
  | 8, _ => qn_9_8
  | 9, _ => qn_9_9
  | 10, _ => qn_9_10
  | 11, _ => qn_9_11
  | 12, _ => qn_9_12
  | 13, _ => qn_9_13
  | 14, _ => qn_9_14
  | 15, _ => qn_9_15
  | 16, _ => qn_9_16
  | 17, _ => qn_9_17
  | 18, _ => qn_9_18
  | 19, _ => qn_9_19
  | 20, _ => qn_9_20
  | 21, _ => qn_9_21
  | 22, _ => qn_9_22
  | 23, _ => qn_9_23
  | 24, _ => qn_9_24
  | 25, _ => qn_9_25
  | 26, _ => qn_9_26
  | 27, _ => qn_9_27
  | 28, _ => qn_9_28
  | 29, _ => qn_9_29
  | n + 30, h => absurd h (by omega)
theorem qn_10_0 : QN 10 0 := ⟨.int (4), by kernel_rfl, fun x0 x1 x6 x9 => by kernel_rfl, fun x0 x1 x6 x9 x11 K => by kernel_rfl⟩
theorem qn_10_1 : QN 10 1 := ⟨.int (1), by kernel_rfl, fun x0 x1 x6 x9 => by kernel_rfl, fun x0 x1 x6 x9 x11 K => by kernel_rfl⟩
theorem qn_10_2 : QN 10 2 := ⟨.int (-1), by kernel_rfl, fun x0 x1 x6 x9 => by kernel_rfl, fun x0 x1 x6 x9 x11 K => by kernel_rfl⟩
theorem qn_10_3 : QN 10 3 := ⟨.int (1), by kernel_rfl, fun x0 x1 x6 x9 => by kernel_rfl, fun x0 x1 x6 x9 x11 K => by kernel_rfl⟩
theorem qn_10_4 : QN 10 4 := ⟨.int (-1), by kernel_rfl, fun x0 x1 x6 x9 => by kernel_rfl, fun x0 x1 x6 x9 x11 K => by kernel_rfl⟩
theorem qn_10_5 : QN 10 5 := ⟨.int (-4), by kernel_rfl, fun x0 x1 x6 x9 => by kernel_rfl, fun x0 x1 x6 x9 x11 K => by kernel_rfl⟩
theorem qn_10_6 : QN 10 6 := ⟨.int (-1), by kernel_rfl, fun x0 x1 x6 x9 => by kernel_rfl, fun x0 x1 x6 x9 x11 K => by kernel_rfl⟩
theorem qn_10_7 : QN 10 7 := ⟨.int (1), by kernel_rfl, fun x0 x1 x6 x9 => by kernel_rfl, fun x0 x1 x6 x9 x11 K => by kernel_rfl⟩
theorem qn_10_8 : QN 10 8 := ⟨.int (-1), by kernel_rfl, fun x0 x1 x6 x9 => by kernel_rfl, fun x0 x1 x6 x9 x11 K => by kernel_rfl⟩
theorem qn_10_9 : QN 10 9 := ⟨.int (1), by kernel_rfl, fun x0 x1 x6 x9 => by kernel_rfl, fun x0 x1 x6 x9 x11 K => by kernel_rfl⟩
theorem qn_10_10 : QN 10 10 := ⟨.int (4), by kernel_rfl, fun x0 x1 x6 x9 => by kernel_rfl, fun x0 x1 x6 x9 x11 K => by kernel_rfl⟩
theorem qn_10_11 : QN 10 11 := ⟨.int (1), by kernel_rfl, fun x0 x1 x6 x9 => by kernel_rfl, fun x0 x1 x6 x9 x11 K => by kernel_rfl⟩
theorem qn_10_12 : QN 10 12 := ⟨.int (-1), by kernel_rfl, fun x0 x1 x6 x9 => by kernel_rfl, fun x0 x1 x6 x9 x11 K => by kernel_rfl⟩
theorem qn_10_13 : QN 10 13 := ⟨.int (1), by kernel_rfl, fun x0 x1 x6 x9 => by kernel_rfl, fun x0 x1 x6 x9 x11 K => by kernel_rfl⟩
theorem qn_10_14 : QN 10 14 := ⟨.int (-1), by kernel_rfl, fun x0 x1 x6 x9 => by kernel_rfl, fun x0 x1 x6 x9 x11 K => by kernel_rfl⟩
theorem qn_10_15 : QN 10 15 := ⟨.int (-4), by kernel_rfl, fun x0 x1 x6 x9 => by kernel_rfl, fun x0 x1 x6 x9 x11 K => by kernel_rfl⟩
theorem qn_10_16 : QN 10 16 := ⟨.int (-1), by kernel_rfl, fun x0 x1 x6 x9 => by kernel_rfl, fun x0 x1 x6 x9 x11 K => by kernel_rfl⟩
theorem qn_10_17 : QN 10 17 := ⟨.int (1), by kernel_rfl, fun x0 x1 x6 x9 => by kernel_rfl, fun x0 x1 x6 x9 x11 K => by kernel_rfl⟩
theorem qn_10_18 : QN 10 18 := ⟨.int (-1), by kernel_rfl, fun x0 x1 x6 x9 => by kernel_rfl, fun x0 x1 x6 x9 x11 K => by kernel_rfl⟩
theorem qn_10_19 : QN 10 19 := ⟨.int (1), by kernel_rfl, fun x0 x1 x6 x9 => by kernel_rfl, fun x0 x1 x6 x9 x11 K => by kernel_rfl⟩
theorem qn_10_20 : QN 10 20 := ⟨.int (4), by kernel_rfl, fun x0 x1 x6 x9 => by kernel_rfl, fun x0 x1 x6 x9 x11 K => by kernel_rfl⟩
theorem qn_10_21 : QN 10 21 := ⟨.int (1), by kernel_rfl, fun x0 x1 x6 x9 => by kernel_rfl, fun x0 x1 x6 x9 x11 K => by kernel_rfl⟩
theorem qn_10_22 : QN 10 22 := ⟨.int (-1), by kernel_rfl, fun x0 x1 x6 x9 => by kernel_rfl, fun x0 x1 x6 x9 x11 K => by kernel_rfl⟩
theorem qn_10_23 : QN 10 23 := ⟨.int (1), by kernel_rfl, fun x0 x1 x6 x9 => by kernel_rfl, fun x0 x1 x6 x9 x11 K => by kernel_rfl⟩
theorem qn_10_24 : QN 10 24 := ⟨.int (-1), by kernel_rfl, fun x0 x1 x6 x9 => by kernel_rfl, fun x0 x1 x6 x9 x11 K => by kernel_rfl⟩
theorem qn_10_25 : QN 10 25 := ⟨.int (-4), by kernel_rfl, fun x0 x1 x6 x9 => by kernel_rfl, fun x0 x1 x6 x9 x11 K => by kernel_rfl⟩
theorem qn_10_26 : QN 10 26 := ⟨.int (-1), by kernel_rfl, fun x0 x1 x6 x9 => by kernel_rfl, fun x0 x1 x6 x9 x11 K => by kernel_rfl⟩
theorem qn_10_27 : QN 10 27 := ⟨.int (1), by kernel_rfl, fun x0 x1 x6 x9 => by kernel_rfl, fun x0 x1 x6 x9 x11 K => by kernel_rfl⟩
theorem qn_10_28 : QN 10 28 := ⟨.int (-1), by kernel_rfl, fun x0 x1 x6 x9 => by kernel_rfl, fun x0 x1 x6 x9 x11 K => by kernel_rfl⟩
theorem qn_10_29 : QN 10 29 := ⟨.int (1), by kernel_rfl, fun x0 x1 x6 x9 => by kernel_rfl, fun x0 x1 x6 x9 x11 K => by kernel_rfl⟩
theorem qn_10 : ∀ n, n < 30 → QN 10 n
  | 0, _ => qn_10_0
  | 1, _ => qn_10_1
  | 2, _ => qn_10_2
  | 3, _ => qn_10_3
  | 4, _ => qn_10_4
  | 5, _ => qn_10_5
  | 6, _ => qn_10_6
  | 7, _ => qn_10_7
  | 8, _ => qn_10_8
  | 9, _ => qn_10_9
  | 10, _ => qn_10_10
  | 11, _ => qn_10_11
  | 12, _ => qn_10_12
  | 13, _ => qn_10_13
  | 14, _ => qn_10_14
  | 15, _ => qn_10_15
  | 16, _ => qn_10_16
  | 17, _ => qn_10_17
  | 18, _ => qn_10_18
  | 19, _ => qn_10_19
  | 20, _ => qn_10_20
  | 21, _ => qn_10_21
  | 22, _ => qn_10_22
  | 23, _ => qn_10_23
  | 24, _ => qn_10_24
  | 25, _ => qn_10_25
  | 26, _ => qn_10_26
  | 27, _ => qn_10_27
  | 28, _ => qn_10_28
  | 29, _ => qn_10_29
  | n + 30, h => absurd h (by omega)
theorem qn_11_0 : QN 11 0 := ⟨.int (10), by kernel_rfl, fun x0 x1 x6 x9 => by kernel_rfl, fun x0 x1 x6 x9 x11 K => by kernel_rfl⟩
theorem qn_11_1 : QN 11 1 := ⟨.int (-1), by kernel_rfl, fun x0 x1 x6 x9 => by kernel_rfl, fun x0 x1 x6 x9 x11 K => by kernel_rfl⟩
theorem qn_11_2 : QN 11 2 := ⟨.int (-1), by kernel_rfl, fun x0 x1 x6 x9 => by kernel_rfl, fun x0 x1 x6 x9 x11 K => by kernel_rfl⟩
theorem qn_11_3 : QN 11 3 := ⟨.int (-1), by kernel_rfl, fun x0 x1 x6 x9 => by kernel_rfl, fun x0 x1 x6 x9 x11 K => by kernel_rfl⟩
theorem qn_11_4 : QN 11 4 := ⟨.int (-1), by kernel_rfl, fun x0 x1 x6 x9 => by kernel_rfl, fun x0 x1 x6 x9 x11 K => by kernel_rfl⟩
theorem qn_11_5 : QN 11 5 := ⟨.int (-1), by kernel_rfl, fun x0 x1 x6 x9 => by kernel_rfl, fun x0 x1 x6 x9 x11 K => by kernel_rfl⟩
theorem qn_11_6 : QN 11 6 := ⟨.int (-1), by kernel_rfl, fun x0 x1 x6 x9 => by kernel_rfl, fun x0 x1 x6 x9 x11 K => by kernel_rfl⟩
theorem qn_11_7 : QN 11 7 := ⟨.int (-1), by kernel_rfl, fun x0 x1 x6 x9 => by kernel_rfl, fun x0 x1 x6 x9 x11 K => by kernel_rfl⟩
theorem qn_11_8 : QN 11 8 := ⟨.int (-1), by kernel_rfl, fun x0 x1 x6 x9 => by kernel_rfl, fun x0 x1 x6 x9 x11 K => by kernel_rfl⟩
theorem qn_11_9 : QN 11 9 := ⟨.int (-1), by kernel_rfl, fun x0 x1 x6 x9 => by kernel_rfl, fun x0 x1 x6 x9 x11 K => by kernel_rfl⟩
theorem qn_11_10 : QN 11 10 := ⟨.int (-1), by kernel_rfl, fun x0 x1 x6 x9 => by kernel_rfl, fun x0 x1 x6 x9 x11 K => by kernel_rfl⟩
theorem qn_11_11 : QN 11 11 := ⟨.int (10), by kernel_rfl, fun x0 x1 x6 x9 => by kernel_rfl, fun x0 x1 x6 x9 x11 K => by kernel_rfl⟩
theorem qn_11_12 : QN 11 12 := ⟨.int (-1), by kernel_rfl, fun x0 x1 x6 x9 => by kernel_rfl, fun x0 x1 x6 x9 x11 K => by kernel_rfl⟩
theorem qn_11_13 : QN 11 13 := ⟨.int (-1), by kernel_rfl, fun x0 x1 x6 x9 => by kernel_rfl, fun x0 x1 x6 x9 x11 K => by kernel_rfl⟩
theorem qn_11_14 : QN 11 14 := ⟨.int (-1), by kernel_rfl, fun x0 x1 x6 x9 => by kernel_rfl, fun x0 x1 x6 x9 x11 K => by kernel_rfl⟩
theorem qn_11_15 : QN 11 15 := ⟨.int (-1), by kernel_rfl, fun x0 x1 x6 x9 => by kernel_rfl, fun x0 x1 x6 x9 x11 K => by kernel_rfl⟩
theorem qn_11_16 : QN 11 16 := ⟨.int (-1), by kernel_rfl, fun x0 x1 x6 x9 => by kernel_rfl, fun x0 x1 x6 x9 x11 K => by kernel_rfl⟩
theorem qn_11_17 : QN 11 17 := ⟨.int (-1), by kernel_rfl, fun x0 x1 x6 x9 => by kernel_rfl, fun x0 x1 x6 x9 x11 K => by kernel_rfl⟩
theorem qn_11_18 : QN 11 18 := ⟨.int (-1), by kernel_rfl, fun x0 x1 x6 x9 => by kernel_rfl, fun x0 x1 x6 x9 x11 K => by kernel_rfl⟩
theorem qn_11_19 : QN 11 19 := ⟨.int (-1), by kernel_rfl, fun x0 x1 x6 x9 => by kernel_rfl, fun x0 x1 x6 x9 x11 K => by kernel_rfl⟩
theorem qn_11_20 : QN 11 20 := ⟨.int (-1), by kernel_rfl, fun x0 x1 x6 x9 => by kernel_rfl, fun x0 x1 x6 x9 x11 K => by kernel_rfl⟩
theorem qn_11_21 : QN 11 21 := ⟨.int (-1), by kernel_rfl, fun x0 x1 x6 x9 => by kernel_rfl, fun x0 x1 x6 x9 x11 K => by kernel_rfl⟩
theorem qn_11_22 : QN 11 22 := ⟨.int (10), by kernel_rfl, fun x0 x1 x6 x9 => by kernel_rfl, fun x0 x1 x6 x9 x11 K => by kernel_rfl⟩
theorem qn_11_23 : QN 11 23 := ⟨.int (-1), by kernel_rfl, fun x0 x1 x6 x9 => by kernel_rfl, fun x0 x1 x6 x9 x11 K => by kernel_rfl⟩
theorem qn_11_24 : QN 11 24 := ⟨.int (-1), by kernel_rfl, fun x0 x1 x6 x9 => by kernel_rfl, fun x0 x1 x6 x9 x11 K => by kernel_rfl⟩
theorem qn_11_25 : QN 11 25 := ⟨.int (-1), by kernel_rfl, fun x0 x1 x6 x9 => by kernel_rfl, fun x0 x1 x6 x9 x11 K => by kernel_rfl⟩
theorem qn_11_26 : QN 11 26 := ⟨.int (-1), by kernel_rfl, fun x0 x1 x6 x9 => by kernel_rfl, fun x0 x1 x6 x9 x11 K => by kernel_rfl⟩
theorem qn_11_27 : QN 11 27 := ⟨.int (-1), by kernel_rfl, fun x0 x1 x6 x9 => by kernel_rfl, fun x0 x1 x6 x9 x11 K => by kernel_rfl⟩
theorem qn_11_28 : QN 11 28 := ⟨.int (-1), by kernel_rfl, fun x0 x1 x6 x9 => by kernel_rfl, fun x0 x1 x6 x9 x11 K => by kernel_rfl⟩
theorem qn_11_29 : QN 11 29 := ⟨.int (-1), by kernel_rfl, fun x0 x1 x6 x9 => by kernel_rfl, fun x0 x1 x6 x9 x11 K => by kernel_rfl⟩
theorem qn_11 : ∀ n, n < 30 → QN 11 n
  | 0, _ => qn_11_0
  | 1, _ => qn_11_1
  | 2, _ => qn_11_2
  | 3, _ => qn_11_3
  | 4, _ => qn_11_4
  | 5, _ => qn_11_5
  | 6, _ => qn_11_6
  | 7, _ => qn_11_7
  | 8, _ => qn_11_8
  | 9, _ => qn_11_9
  | 10, _ => qn_11_10
  | 11, _ => qn_11_11
  | 12, _ => qn_11_12
  | 13, _ => qn_11_13
  | 14, _ => qn_11_14
  | 15, _ => qn_11_15
  | 16, _ => qn_11_16
  | 17, _ => qn_11_17
  | 18, _ => qn_11_18
  | 19, _ => qn_11_19
  | 20, _ => qn_11_20
  | 21, _ => qn_11_21
  | 22, _ => qn_11_22
  | 23, _ => qn_11_23
  | 24, _ => qn_11_24
  | 25, _ => qn_11_25
  | 26, _ => qn_11_26
  | 27, _ => qn_11_27
  | 28, _ => qn_11_28
  | 29, _ => qn_11_29
  | n + 30, h => absurd h (by omega)
theorem qn_12_0 : QN 12 0 := ⟨.int (4), by kernel_rfl, fun x0 x1 x6 x9 => by kernel_rfl, fun x0 x1 x6 x9 x11 K => by kernel_rfl⟩
theorem qn_12_1 : QN 12 1 := ⟨.int (0), by kernel_rfl, fun x0 x1 x6 x9 => by kernel_rfl, fun x0 x1 x6 x9 x11 K => by kernel_rfl⟩
theorem qn_12_2 : QN 12 2 := ⟨.int (2), by kernel_rfl, fun x0 x1 x6 x9 => by kernel_rfl, fun x0 x1 x6 x9 x11 K => by kernel_rfl⟩
theorem qn_12_3 : QN 12 3 := ⟨.int (0), by kernel_rfl, fun x0 x1 x6 x9 => by kernel_rfl, fun x0 x1 x6 x9 x11 K => by kernel_rfl⟩
theorem qn_12_4 : QN 12 4 := ⟨.int (-2), by kernel_rfl, fun x0 x1 x6 x9 => by kernel_rfl, fun x0 x1 x6 x9 x11 K => by kernel_rfl⟩
theorem qn_12_5 : QN 12 5 := ⟨.int (0), by kernel_rfl, fun x0 x1 x6 x9 => by kernel_rfl, fun x0 x1 x6 x9 x11 K => by kernel_rfl⟩
theorem qn_12_6 : QN 12 6 := ⟨.int (-4), by kernel_rfl, fun x0 x1 x6 x9 => by kernel_rfl, fun x0 x1 x6 x9 x11 K => by kernel_rfl⟩
theorem qn_12_7 : QN 12 7 := ⟨.int (0), by kernel_rfl, fun x0 x1 x6 x9 => by kernel_rfl, fun x0 x1 x6 x9 x11 K => by kernel_rfl⟩
theorem qn_12_8 : QN 12 8 := ⟨.int (-2), by kernel_rfl, fun x0 x1 x6 x9 => by kernel_rfl, fun x0 x1 x6 x9 x11 K => by kernel_rfl⟩
theorem qn_12_9 : QN 12 9 := ⟨.int (0), by kernel_rfl, fun x0 x1 x6 x9 => by kernel_rfl, fun x0 x1 x6 x9 x11 K => by kernel_rfl⟩
theorem qn_12_10 : QN 12 10 := ⟨.int (2), by kernel_rfl, fun x0 x1 x6 x9 => by kernel_rfl, fun x0 x1 x6 x9 x11 K => by kernel_rfl⟩
theorem qn_12_11 : QN 12 11 := ⟨.int (0), by kernel_rfl, fun x0 x1 x6 x9 => by kernel_rfl, fun x0 x1 x6 x9 x11 K => by kernel_rfl⟩
theorem qn_12_12 : QN 12 12 := ⟨.int (4), by kernel_rfl, fun x0 x1 x6 x9 => by kernel_rfl, fun x0 x1 x6 x9 x11 K => by kernel_rfl⟩
theorem qn_12_13 : QN 12 13 := ⟨.int (0), by kernel_rfl, fun x0 x1 x6 x9 => by kernel_rfl, fun x0 x1 x6 x9 x11 K => by kernel_rfl⟩
theorem qn_12_14 : QN 12 14 := ⟨.int (2), by kernel_rfl, fun x0 x1 x6 x9 => by kernel_rfl, fun x0 x1 x6 x9 x11 K => by kernel_rfl⟩
theorem qn_12_15 : QN 12 15 := ⟨.int (0), by kernel_rfl, fun x0 x1 x6 x9 => by kernel_rfl, fun x0 x1 x6 x9 x11 K => by kernel_rfl⟩
theorem qn_12_16 : QN 12 16 := ⟨.int (-2), by kernel_rfl, fun x0 x1 x6 x9 => by kernel_rfl, fun x0 x1 x6 x9 x11 K => by kernel_rfl⟩
theorem qn_12_17 : QN 12 17 := ⟨.int (0), by kernel_rfl, fun x0 x1 x6 x9 => by kernel_rfl, fun x0 x1 x6 x9 x11 K => by kernel_rfl⟩
theorem qn_12_18 : QN 12 18 := ⟨.int (-4), by kernel_rfl, fun x0 x1 x6 x9 => by kernel_rfl, fun x0 x1 x6 x9 x11 K => by kernel_rfl⟩
theorem qn_12_19 : QN 12 19 := ⟨.int (0), by kernel_rfl, fun x0 x1 x6 x9 => by kernel_rfl, fun x0 x1 x6 x9 x11 K => by kernel_rfl⟩
theorem qn_12_20 : QN 12 20 := ⟨.int (-2), by kernel_rfl, fun x0 x1 x6 x9 => by kernel_rfl, fun x0 x1 x6 x9 x11 K => by kernel_rfl⟩
theorem qn_12_21 : QN 12 21 := ⟨.int (0), by kernel_rfl, fun x0 x1 x6 x9 => by kernel_rfl, fun x0 x1 x6 x9 x11 K => by kernel_rfl⟩
theorem qn_12_22 : QN 12 22 := ⟨.int (2), by kernel_rfl, fun x0 x1 x6 x9 => by kernel_rfl, fun x0 x1 x6 x9 x11 K => by kernel_rfl⟩
theorem qn_12_23 : QN 12 23 := ⟨.int (0), by kernel_rfl, fun x0 x1 x6 x9 => by kernel_rfl, fun x0 x1 x6 x9 x11 K => by kernel_rfl⟩
theorem qn_12_24 : QN 12 24 := ⟨.int (4), by kernel_rfl, fun x0 x1 x6 x9 => by kernel_rfl, fun x0 x1 x6 x9 x11 K => by kernel_rfl⟩
theorem qn_12_25 : QN 12 25 := ⟨.int (0), by kernel_rfl, fun x0 x1 x6 x9 => by kernel_rfl, fun x0 x1 x6 x9 x11 K => by kernel_rfl⟩
theorem qn_12_26 : QN 12 26 := ⟨.int (2), by kernel_rfl, fun x0 x1 x6 x9 => by kernel_rfl, fun x0 x1 x6 x9 x11 K => by kernel_rfl⟩
theorem qn_12_27 : QN 12 27 := ⟨.int (0), by kernel_rfl, fun x0 x1 x6 x9 => by kernel_rfl, fun x0 x1 x6 x9 x11 K => by kernel_rfl⟩
theorem qn_12_28 : QN 12 28 := ⟨.int (-2), by kernel_rfl, fun x0 x1 x6 x9 => by kernel_rfl, fun x0 x1 x6 x9 x11 K => by kernel_rfl⟩
theorem qn_12_29 : QN 12 29 := ⟨.int (0), by kernel_rfl, fun x0 x1 x6 x9 => by kernel_rfl, fun x0 x1 x6 x9 x11 K => by kernel_rfl⟩
theorem qn_12 : ∀ n, n < 30 → QN 12 n
  | 0, _ => qn_12_0
  | 1, _ => qn_12_1
  | 2, _ => qn_12_2
  | 3, _ => qn_12_3
  | 4, _ => qn_12_4
  | 5, _ => qn_12_5
  | 6, _ => qn_12_6
  | 7, _ => qn_12_7
  | 8, _ => qn_12_8
  | 9, _ => qn_12_9
  | 10, _ => qn_12_10
  | 11, _ => qn_12_11
  | 12, _ => qn_12_12
  | 13, _ => qn_12_13
  | 14, _ => qn_12_14
  | 15, _ => qn_12_15
  | 16, _ => qn_12_16
  | 17, _ => qn_12_17
  | 18, _ => qn_12_18
  | 19, _ => qn_12_19
  | 20, _ => qn_12_20
  | 21, _ => qn_12_21
  | 22, _ => qn_12_22
  | 23, _ => qn_12_23
  | 24, _ => qn_12_24
  | 25, _ => qn_12_25
  | 26, _ => qn_12_26
  | 27, _ => qn_12_27
  | 28, _ => qn_12_28
  | 29, _ => qn_12_29
  | n + 30, h => absurd h (by omega)
theorem all_QN : ∀ q n, 1 ≤ q → q ≤ 12 → n < 30 → QN q n
  | 0, _, h, _, _ => absurd h (by omega)
  | 1, n, _, _, h => qn_1 n h
  | 2, n, _, _, h => qn_2 n h
  | 3, n, _, _, h => qn_3 n h
  | 4, n, _, _, h => qn_4 n h
  | 5, n, _, _, h => qn_5 n h
  | 6, n, _, _, h => qn_6 n h
  | 7, n, _, _, h => qn_7 n h
  | 8, n, _, _, h => qn_8 n h
  | 9, n, _, _, h => qn_9 n h
  | 10, n, _, _, h => qn_10 n h
  | 11, n, _, _, h => qn_11 n h
  | 12, n, _, _, h => qn_12 n h
  | q + 13, _, _, h, _ => absurd h (by omega)
theorem qr_1_1 : QR 1 1 := ⟨fun x0 x1 x7 K => by kernel_rfl, fun x0 x1 x7 x8 x9 => by kernel_rfl, by decide +kernel, fun x0 x1 x2 x3 x7 x10 => by kernel_rfl⟩
theorem qr_1_2 : QR 1 2 := ⟨fun x0 x1 x7 K => by kernel_rfl, fun x0 x1 x7 x8 x9 => by kernel_rfl, by decide +kernel, fun x0 x1 x2 x3 x7 x10 => by kernel_rfl⟩
theorem qr_1_3 : QR 1 3 := ⟨fun x0 x1 x7 K => by kernel_rfl, fun x0 x1 x7 x8 x9 => by kernel_rfl, by decide +kernel, fun x0 x1 x2 x3 x7 x10 => by kernel_rfl⟩
theorem qr_1_4 : QR 1 4 := ⟨fun x0 x1 x7 K => by kernel_rfl, fun x0 x1 x7 x8 x9 => by kernel_rfl, by decide +kernel, fun x0 x1 x2 x3 x7 x10 => by kernel_rfl⟩
theorem qr_1_5 : QR 1 5 := ⟨fun x0 x1 x7 K => by kernel_rfl, fun x0 x1 x7 x8 x9 => by kernel_rfl, by decide +kernel, fun x0 x1 x2 x3 x7 x10 => by kernel_rfl⟩
theorem qr_1_6 : QR 1 6 := ⟨fun x0 x1 x7 K => by kernel_rfl, fun x0 x1 x7 x8 x9 => by kernel_rfl, by decide +kernel, fun x0 x1 x2 x3 x7 x10 => by kernel_rfl⟩
theorem qr_1_7 : QR 1 7 := ⟨fun x0 x1 x7 K => by kernel_rfl, fun x0 x1 x7 x8 x9 => by kernel_rfl, by decide +kernel, fun x0 x1 x2 x3 x7 x10 => by kernel_rfl⟩
theorem qr_1_8 : QR 1 8 := ⟨fun x0 x1 x7 K => by kernel_rfl, fun x0 x1 x7 x8 x9 => by kernel_rfl, by decide +kernel, fun x0 x1 x2 x3 x7 x10 => by kernel_rfl⟩
theorem qr_1_9 : QR 1 9 := ⟨fun x0 x1 x7 K => by kernel_rfl, fun x0 x1 x7 x8 x9 => by kernel_rfl, by decide +kernel, fun x0 x1 x2 x3 x7 x10 => by kernel_rfl⟩
theorem qr_1_10 : QR 1 10 := ⟨fun x0 x1 x7 K => by kernel_rfl, fun x0 x1 x7 x8 x9 => by kernel_rfl, by decide +kernel, fun x0 x1 x2 x3 x7 x10 => by kernel_rfl⟩
theorem qr_1_11 : QR 1 11 := ⟨fun x0 x1 x7 K => by kernel_rfl, fun x0 x1 x7 x8 x9 => by kernel_rfl, by decide +kernel, fun x0 x1 x2 x3 x7 x10 => by kernel_rfl⟩
theorem qr_1_12 : QR 1 12 := ⟨fun x0 x1 x7 K => by kernel_rfl, fun x0 x1 x7 x8 x9 => by kernel_rfl, by decide +kernel, fun x0 x1 x2 x3 x7 x10 => by kernel_rfl⟩
theorem qr_1 : ∀ r, 1 ≤ r → r ≤ 12 → QR 1 r
  | 0, h, _ => absurd h (by omega)
  | 1, _, _ => qr_1_1
  | 2, _, _ => qr_1_2
  | 3, _, _ => qr_1_3
  | 4, _, _ => qr_1_4
  | 5, _, _ => qr_1_5
  | 6, _, _ => qr_1_6
  | 7, _, _ => qr_1_7
  | 8, _, _ => qr_1_8
  | 9, _, _ => qr_1_9
  | 10, _, _ => qr_1_10
  | 11, _, _ => qr_1_11
  | 12, _, _ => qr_1_12
  | r + 13, _, h => absurd h (by omega)
theorem qr_2_1 : QR 2 1 := ⟨fun x0 x1 x7 K => by kernel_rfl, fun x0 x1 x7 x8 x9 => by kernel_rfl, by decide +kernel, fun x0 x1 x2 x3 x7 x10 => by kernel_rfl⟩
theorem qr_2_2 : QR 2 2 := ⟨fun x0 x1 x7 K => by kernel_rfl, fun x0 x1 x7 x8 x9 => by kernel_rfl, by decide +kernel, fun x0 x1 x2 x3 x7 x10 => by kernel_rfl⟩
theorem qr_2_3 : QR 2 3 := ⟨fun x0 x1 x7 K => by kernel_rfl, fun x0 x1 x7 x8 x9 => by kernel_rfl, by decide +kernel, fun x0 x1 x2 x3 x7 x10 => by kernel_rfl⟩
theorem qr_2_4 : QR 2 4 := ⟨fun x0 x1 x7 K => by kernel_rfl, fun x0 x1 x7 x8 x9 => by kernel_rfl, by decide +kernel, fun x0 x1 x2 x3 x7 x10 => by kernel_rfl⟩
theorem qr_2_5 : QR 2 5 := ⟨fun x0 x1 x7 K => by kernel_rfl, fun x0 x1 x7 x8 x9 => by kernel_rfl, by decide +kernel, fun x0 x1 x2 x3 x7 x10 => by kernel_rfl⟩
theorem qr_2_6 : QR 2 6 := ⟨fun x0 x1 x7 K => by kernel_rfl, fun x0 x1 x7 x8 x9 => by kernel_rfl, by decide +kernel, fun x0 x1 x2 x3 x7 x10 => by kernel_rfl⟩
theorem qr_2_7 : QR 2 7 := ⟨fun x0 x1 x7 K => by kernel_rfl, fun x0 x1 x7 x8 x9 => by kernel_rfl, by decide +kernel, fun x0 x1 x2 x3 x7 x10 => by kernel_rfl⟩
theorem qr_2_8 : QR 2 8 := ⟨fun x0 x1 x7 K => by kernel_rfl, fun x0 x1 x7 x8 x9 => by kernel_rfl, by decide +kernel, fun x0 x1 x2 x3 x7 x10 => by kernel_rfl⟩
theorem qr_2_9 : QR 2 9 := ⟨fun x0 x1 x7 K => by kernel_rfl, fun x0 x1 x7 x8 x9 => by kernel_rfl, by decide +kernel, fun x0 x1 x2 x3 x7 x10 => by kernel_rfl⟩
theorem qr_2_10 : QR 2 10 := ⟨fun x0 x1 x7 K => by kernel_rfl, fun x0 x1 x7 x8 x9 => by kernel_rfl, by decide +kernel, fun x0 x1 x2 x3 x7 x10 => by kernel_rfl⟩
theorem qr_2_11 : QR 2 11 := ⟨fun x0 x1 x7 K => by kernel_rfl, fun x0 x1 x7 x8 x9 => by kernel_rfl, by decide +kernel, fun x0 x1 x2 x3 x7 x10 => by kernel_rfl⟩
theorem qr_2_12 : QR 2 12 := ⟨fun x0 x1 x7 K => by kernel_rfl, fun x0 x1 x7 x8 x9 => by kernel_rfl, by decide +kernel, fun x0 x1 x2 x3 x7 x10 => by kernel_rfl⟩
theorem qr_2 : ∀ r, 1 ≤ r → r ≤ 12 → QR 2 r
  | 0, h, _ => absurd h (by omega)
  | 1, _, _ => qr_2_1
  | 2, _, _ => qr_2_2
  | 3, _, _ => qr_2_3
  | 4, _, _ => qr_2_4
  | 5, _, _ => qr_2_5
  | 6, _, _ => qr_2_6
  | 7, _, _ => qr_2_7
  | 8, _, _ => qr_2_8
  | 9, _, _ => qr_2_9
  | 10, _, _ => qr_2_10
  | 11, _, _ => qr_2_11
  | 12, _, _ => qr_2_12
  | r + 13, _, h => absurd h (by omega)
theorem qr_3_1 : QR 3 1 := ⟨fun x0 x1 x7 K => by kernel_rfl, fun x0 x1 x7 x8 x9 => by kernel_rfl, by decide +kernel, fun x0 x1 x2 x3 x7 x10 => by kernel_rfl⟩
theorem qr_3_2 : QR 3 2 := ⟨fun x0 x1 x7 K => by kernel_rfl, fun x0 x1 x7 x8 x9 => by kernel_rfl, by decide +kernel, fun x0 x1 x2 x3 x7 x10 => by kernel_rfl⟩
theorem qr_3_3 : QR 3 3 := ⟨fun x0 x1 x7 K => by kernel_rfl, fun x0 x1 x7 x8 x9 => by kernel_rfl, by decide +kernel, fun x0 x1 x2 x3 x7 x10 => by kernel_rfl⟩
theorem qr_3_4 : QR 3 4 := ⟨fun x0 x1 x7 K => by kernel_rfl, fun x0 x1 x7 x8 x9 => by kernel_rfl, by decide +kernel, fun x0 x1 x2 x3 x7 x10 => by kernel_rfl⟩
theorem qr_3_5 : QR 3 5 := ⟨fun x0 x1 x7 K => by kernel_rfl, fun x0 x1 x7 x8 x9 => by kernel_rfl, by decide +kernel, fun x0 x1 x2 x3 x7 x10 => by kernel_rfl⟩
theorem qr_3_6 : QR 3 6 := ⟨fun x0 x1 x7 K => by kernel_rfl, fun x0 x1 x7 x8 x9 => by kernel_rfl, by decide +kernel, fun x0 x1 x2 x3 x7 x10 => by kernel_rfl⟩
theorem qr_3_7 : QR 3 7 := ⟨fun x0 x1 x7 K => by kernel_rfl, fun x0 x1 x7 x8 x9 => by kernel_rfl, by decide +kernel, fun x0 x1 x2 x3 x7 x10 => by kernel_rfl⟩
theorem qr_3_8 : QR 3 8 := ⟨fun x0 x1 x7 K => by kernel_rfl, fun x0 x1 x7 x8 x9 => by kernel_rfl, by decide +kernel, fun x0 x1 x2 x3 x7 x10 => by kernel_rfl⟩
theorem qr_3_9 : QR 3 9 := ⟨fun x0 x1 x7 K => by kernel_rfl, fun x0 x1 x7 x8 x9 => by kernel_rfl, by decide +kernel, fun x0 x1 x2 x3 x7 x10 => by kernel_rfl⟩
theorem qr_3_10 : QR 3 10 := ⟨fun x0 x1 x7 K => by kernel_rfl, fun x0 x1 x7 x8 x9 => by kernel_rfl, by decide +kernel, fun x0 x1 x2 x3 x7 x10 => by kernel_rfl⟩
theorem qr_3_11 : QR 3 11 := ⟨fun x0 x1 x7 K => by kernel_rfl, fun x0 x1 x7 x8 x9 => by kernel_rfl, by decide +kernel, fun x0 x1 x2 x3 x7 x10 => by kernel_rfl⟩
theorem qr_3_12 : QR 3 12 := ⟨fun x0 x1 x7 K => by kernel_rfl, fun x0 x1 x7 x8 x9 => by kernel_rfl, by decide +kernel, fun x0 x1 x2 x3 x7 x10 => by kernel_rfl⟩
theorem qr_3 : ∀ r, 1 ≤ r → r ≤ 12 → QR 3 r
  | 0, h, _ => absurd h (by omega)
  | 1, _, _ => qr_3_1
  | 2, _, _ => qr_3_2
  | 3, _, _ => qr_3_3
  | 4, _, _ => qr_3_4
  | 5, _, _ => qr_3_5
  | 6, _, _ => qr_3_6
  | 7, _, _ => qr_3_7
  | 8, _, _ => qr_3_8
  | 9, _, _ => qr_3_9
  | 10, _, _ => qr_3_10
  | 11, _, _ => qr_3_11
  | 12, _, _ => qr_3_12
  | r + 13, _, h => absurd h (by omega)
theorem qr_4_1 : QR 4 1 := ⟨fun x0 x1 x7 K => by kernel_rfl, fun x0 x1 x7 x8 x9 => by kernel_rfl, by decide +kernel, fun x0 x1 x2 x3 x7 x10 => by kernel_rfl⟩
theorem qr_4_2 : QR 4 2 := ⟨fun x0 x1 x7 K => by kernel_rfl, fun x0 x1 x7 x8 x9 => by kernel_rfl, by decide +kernel, fun x0 x1 x2 x3 x7 x10 => by kernel_rfl⟩
theorem qr_4_3 : QR 4 3 := ⟨fun x0 x1 x7 K => by kernel_rfl, fun x0 x1 x7 x8 x9 => by kernel_rfl, by decide +kernel, fun x0 x1 x2 x3 x7 x10 => by kernel_rfl⟩
theorem qr_4_4 : QR 4 4 := ⟨fun x0 x1 x7 K => by kernel_rfl, fun x0 x1 x7 x8 x9 => by kernel_rfl, by decide +kernel, fun x0 x1 x2 x3 x7 x10 => by kernel_rfl⟩
theorem qr_4_5 : QR 4 5 := ⟨fun x0 x1 x7 K => by kernel_rfl, fun x0 x1 x7 x8 x9 => by kernel_rfl, by decide +kernel, fun x0 x1 x2 x3 x7 x10 => by kernel_rfl⟩
theorem qr_4_6 : QR 4 6 := ⟨fun x0 x1 x7 K => by kernel_rfl, fun x0 x1 x7 x8 x9 => by kernel_rfl, by decide +kernel, fun x0 x1 x2 x3 x7 x10 => by kernel_rfl⟩
theorem qr_4_7 : QR 4 7 := ⟨fun x0 x1 x7 K => by kernel_rfl, fun x0 x1 x7 x8 x9 => by kernel_rfl, by decide +kernel, fun x0 x1 x2 x3 x7 x10 => by kernel_rfl⟩
theorem qr_4_8 : QR 4 8 := ⟨fun x0 x1 x7 K => by kernel_rfl, fun x0 x1 x7 x8 x9 => by kernel_rfl, by decide +kernel, fun x0 x1 x2 x3 x7 x10 => by kernel_rfl⟩
theorem qr_4_9 : QR 4 9 := ⟨fun x0 x1 x7 K => by kernel_rfl, fun x0 x1 x7 x8 x9 => by kernel_rfl, by decide +kernel, fun x0 x1 x2 x3 x7 x10 => by kernel_rfl⟩
theorem qr_4_10 : QR 4 10 := ⟨fun x0 x1 x7 K => by kernel_rfl, fun x0 x1 x7 x8 x9 => by kernel_rfl, by decide +kernel, fun x0 x1 x2 x3 x7 x10 => by kernel_rfl⟩
theorem qr_4_11 : QR 4 11 := ⟨fun x0 x1 x7 K => by kernel_rfl, fun x0 x1 x7 x8 x9 => by kernel_rfl, by decide +kernel, fun x0 x1 x2 x3 x7 x10 => by kernel_rfl⟩
theorem qr_4_12 : QR 4 12 := ⟨fun x0 x1 x7 K => by kernel_rfl, fun x0 x1 x7 x8 x9 => by kernel_rfl, by decide +kernel, fun x0 x1 x2 x3 x7 x10 => by kernel_rfl⟩
theorem qr_4 : ∀ r, 1 ≤ r → r ≤ 12 → QR 4 r
  | 0, h, _ => absurd h (by omega)
  | 1, _, _ => qr_4_1
  | 2, _, _ => qr_4_2
  | 3, _, _ => qr_4_3
  | 4, _, _ => qr_4_4
  | 5, _, _ => qr_4_5
  | 6, _, _ => qr_4_6
  | 7, _, _ => qr_4_7
  | 8, _, _ => qr_4_8
  | 9, _, _ => qr_4_9
  | 10, _, _ => qr_4_10
  | 11, _, _ => qr_4_11
  | 12, _, _ => qr_4_12
  | r + 13, _, h => absurd h (by omega)
theorem qr_5_1 : QR 5 1 := ⟨fun x0 x1 x7 K => by kernel_rfl, fun x0 x1 x7 x8 x9 => by kernel_rfl, by decide +kernel, fun x0 x1 x2 x3 x7 x10 => by kernel_rfl⟩
theorem qr_5_2 : QR 5 2 := ⟨fun x0 x1 x7 K => by kernel_rfl, fun x0 x1 x7 x8 x9 => by kernel_rfl, by decide +kernel, fun x0 x1 x2 x3 x7 x10 => by kernel_rfl⟩
theorem qr_5_3 : QR 5 3 := ⟨fun x0 x1 x7 K => by kernel_rfl, fun x0 x1 x7 x8 x9 => by kernel_rfl, by decide +kernel, fun x0 x1 x2 x3 x7 x10 => by kernel_rfl⟩
theorem qr_5_4 : QR 5 4 := ⟨fun x0 x1 x7 K => by kernel_rfl, fun x0 x1 x7 x8 x9 => by kernel_rfl, by decide +kernel, fun x0 x1 x2 x3 x7 x10 => by kernel_rfl⟩
theorem qr_5_5 : QR 5 5 := ⟨fun x0 x1 x7 K => by kernel_rfl, fun x0 x1 x7 x8 x9 => by kernel_rfl, by decide +kernel, fun x0 x1 x2 x3 x7 x10 => by kernel_rfl⟩
theorem qr_5_6 : QR 5 6 := ⟨fun x0 x1 x7 K => by kernel_rfl, fun x0 x1 x7 x8 x9 => by kernel_rfl, by decide +kernel, fun x0 x1 x2 x3 x7 x10 => by kernel_rfl⟩
theorem qr_5_7 : QR 5 7 := ⟨fun x0 x1 x7 K => by kernel_rfl, fun x0 x1 x7 x8 x9 => by kernel_rfl, by decide +kernel, fun x0 x1 x2 x3 x7 x10 => by kernel_rfl⟩
theorem qr_5_8 : QR 5 8 := ⟨fun x0 x1 x7 K => by kernel_rfl, fun x0 x1 x7 x8 x9 => by kernel_rfl, by decide +kernel, fun x0 x1 x2 x3 x7 x10 => by kernel_rfl⟩
theorem qr_5_9 : QR 5 9 := ⟨fun x0 x1 x7 K => by kernel_rfl, fun x0 x1 x7 x8 x9 => by kernel_rfl, by decide +kernel, fun x0 x1 x2 x3 x7 x10 => by kernel_rfl⟩
theorem qr_5_10 : QR 5 10 := ⟨fun x0 x1 x7 K => by kernel_rfl, fun x0 x1 x7 x8 x9 => by kernel_rfl, by decide +kernel, fun x0 x1 x2 x3 x7 x10 => by kernel_rfl⟩
theorem qr_5_11 : QR 5 11 := ⟨fun x0 x1 x7 K => by kernel_rfl, fun x0 x1 x7 x8 x9 => by kernel_rfl, by decide +kernel, fun x0 x1 x2 x3 x7 x10 => by kernel_rfl⟩
theorem qr_5_12 : QR 5 12 := ⟨fun x0 x1 x7 K => by kernel_rfl, fun x0 x1 x7 x8 x9 => by kernel_rfl, by decide +kernel, fun x0 x1 x2 x3 x7 x10 => by kernel_rfl⟩
theorem qr_5 : ∀ r, 1 ≤ r → r ≤ 12 → QR 5 r
  | 0, h, _ => absurd h (by omega)
  | 1, _, _ => qr_5_1
  | 2, _, _ => qr_5_2
  | 3, _, _ => qr_5_3
  | 4, _, _ => qr_5_4
  | 5, _, _ => qr_5_5
  | 6, _, _ => qr_5_6
  | 7, _, _ => qr_5_7
  | 8, _, _ => qr_5_8
  | 9, _, _ => qr_5_9
  | 10, _, _ => qr_5_10
  | 11, _, _ => qr_5_11
  | 12, _, _ => qr_5_12
  | r + 13, _, h => absurd h (by omega)
theorem qr_6_1 : QR 6 1 := ⟨fun x0 x1 x7 K => by kernel_rfl, fun x0 x1 x7 x8 x9 => by kernel_rfl, by decide +kernel, fun x0 x1 x2 x3 x7 x10 => by kernel_rfl⟩
theorem qr_6_2 : QR 6 2 := ⟨fun x0 x1 x7 K => by kernel_rfl, fun x0 x1 x7 x8 x9 => by kernel_rfl, by decide +kernel, fun x0 x1 x2 x3 x7 x10 => by kernel_rfl⟩
theorem qr_6_3 : QR 6 3 := ⟨fun x0 x1 x7 K => by kernel_rfl, fun x0 x1 x7 x8 x9 => by kernel_rfl, by decide +kernel, fun x0 x1 x2 x3 x7 x10 => by kernel_rfl⟩
theorem qr_6_4 : QR 6 4 := ⟨fun x0 x1 x7 K => by kernel_rfl, fun x0 x1 x7 x8 x9 => by kernel_rfl, by decide +kernel, fun x0 x1 x2 x3 x7 x10 => by kernel_rfl⟩
theorem qr_6_5 : QR 6 5 := ⟨fun x0 x1 x7 K => by kernel_rfl, fun x0 x1 x7 x8 x9 => by kernel_rfl, by decide +kernel, fun x0 x1 x2 x3 x7 x10 => by kernel_rfl⟩
theorem qr_6_6 : QR 6 6 := ⟨fun x0 x1 x7 K => by kernel_rfl, fun x0 x1 x7 x8 x9 => by kernel_rfl, by decide +kernel, fun x0 x1 x2 x3 x7 x10 => by kernel_rfl⟩
theorem qr_6_7 : QR 6 7 := ⟨fun x0 x1 x7 K => by kernel_rfl, fun x0 x1 x7 x8 x9 => by kernel_rfl, by decide +kernel, fun x0 x1 x2 x3 x7 x10 => by kernel_rfl⟩
theorem qr_6_8 : QR 6 8 := ⟨fun x0 x1 x7 K => by kernel_rfl, fun x0 x1 x7 x8 x9 => by kernel_rfl, by decide +kernel, fun x0 x1 x2 x3 x7 x10 => by kernel_rfl⟩
theorem qr_6_9 : QR 6 9 := ⟨fun x0 x1 x7 K => by kernel_rfl, fun x0 x1 x7 x8 x9 => by kernel_rfl, by decide +kernel, fun x0 x1 x2 x3 x7 x10 => by kernel_rfl⟩
theorem qr_6_10 : QR 6 10 := ⟨fun x0 x1 x7 K => by kernel_rfl, fun x0 x1 x7 x8 x9 => by kernel_rfl, by decide +kernel, fun x0 x1 x2 x3 x7 x10 => by kernel_rfl⟩
theorem qr_6_11 : QR 6 11 := ⟨fun x0 x1 x7 K => by kernel_rfl, fun x0 x1 x7 x8 x9 => by kernel_rfl, by decide +kernel, fun x0 x1 x2 x3 x7 x10 => by kernel_rfl⟩
theorem qr_6_12 : QR 6 12 := ⟨fun x0 x1 x7 K => by kernel_rfl, fun x0 x1 x7 x8 x9 => by kernel_rfl, by decide +kernel, fun x0 x1 x2 x3 x7 x10 => by kernel_rfl⟩
theorem qr_6 : ∀ r, 1 ≤ r → r ≤ 12 → QR 6 r
  | 0, h, _ => absurd h (by omega)
  | 1, _, _ => qr_6_1
  | 2, _, _ => qr_6_2
  | 3, _, _ => qr_6_3
  | 4, _, _ => qr_6_4
  | 5, _, _ => qr_6_5
  | 6, _, _ => qr_6_6
  | 7, _, _ => qr_6_7
  | 8, _, _ => qr_6_8
  | 9, _, _ => qr_6_9
  | 10, _, _ => qr_6_10
  | 11, _, _ => qr_6_11
  | 12, _, _ => qr_6_12
  | r + 13, _, h => absurd h (by omega)
theorem qr_7_1 : QR 7 1 := ⟨fun x0 x1 x7 K => by kernel_rfl, fun x0 x1 x7 x8 x9 => by kernel_rfl, by decide +kernel, fun x0 x1 x2 x3 x7 x10 => by kernel_rfl⟩
theorem qr_7_2 : QR 7 2 := ⟨fun x0 x1 x7 K => by kernel_rfl, fun x0 x1 x7 x8 x9 => by kernel_rfl, by decide +kernel, fun x0 x1 x2 x3 x7 x10 => by kernel_rfl⟩
theorem qr_7_3 : QR 7 3 := ⟨fun x0 x1 x7 K => by kernel_rfl, fun x0 x1 x7 x8 x9 => by kernel_rfl, by decide +kernel, fun x0 x1 x2 x3 x7 x10 => by kernel_rfl⟩
theorem qr_7_4 : QR 7 4 := ⟨fun x0 x1 x7 K => by kernel_rfl, fun x0 x1 x7 x8 x9 => by kernel_rfl, by decide +kernel, fun x0 x1 x2 x3 x7 x10 => by kernel_rfl⟩
theorem qr_7_5 : QR 7 5 := ⟨fun x0 x1 x7 K => by kernel_rfl, fun x0 x1 x7 x8 x9 => by kernel_rfl, by decide +kernel, fun x0 x1 x2 x3 x7 x10 => by kernel_rfl⟩
theorem qr_7_6 : QR 7 6 := ⟨fun x0 x1 x7 K => by kernel_rfl, fun x0 x1 x7 x8 x9 => by kernel_rfl, by decide +kernel, fun x0 x1 x2 x3 x7 x10 => by kernel_rfl⟩
theorem qr_7_7 : QR 7 7 := ⟨fun x0 x1 x7 K => by kernel_rfl, fun x0 x1 x7 x8 x9 => by kernel_rfl, by decide +kernel, fun x0 x1 x2 x3 x7 x10 => by kernel_rfl⟩
theorem qr_7_8 : QR 7 8 := ⟨fun x0 x1 x7 K => by kernel_rfl, fun x0 x1 x7 x8 x9 => by kernel_rfl, by decide +kernel, fun x0 x1 x2 x3 x7 x10 => by kernel_rfl⟩
theorem qr_7_9 : QR 7 9 := ⟨fun x0 x1 x7 K => by kernel_rfl, fun x0 x1 x7 x8 x9 => by kernel_rfl, by decide +kernel, fun x0 x1 x2 x3 x7 x10 => by kernel_rfl⟩
theorem qr_7_10 : QR 7 10 := ⟨fun x0 x1 x7 K => by kernel_rfl, fun x0 x1 x7 x8 x9 => by kernel_rfl, by decide +kernel, fun x0 x1 x2 x3 x7 x10 => by kernel_rfl⟩
theorem qr_7_11 : QR 7 11 := ⟨fun x0 x1 x7 K => by kernel_rfl, fun x0 x1 x7 x8 x9 => by kernel_rfl, by decide +kernel, fun x0 x1 x2 x3 x7 x10 => by kernel_rfl⟩
theorem qr_7_12 : QR 7 12 := ⟨fun x0 x1 x7 K => by kernel_rfl, fun x0 x1 x7 x8 x9 => by kernel_rfl, by decide +kernel, fun x0 x1 x2 x3 x7 x10 => by kernel_rfl⟩
theorem qr_7 : ∀ r, 1 ≤ r → r ≤ 12 → QR 7 r
  | 0, h, _ => absurd h (by omega)
  | 1, _, _ => qr_7_1
  | 2, _, _ => qr_7_2
  | 3, _, _ => qr_7_3
  | 4, _, _ => qr_7_4
  | 5, _, _ => qr_7_5
  | 6, _, _ => qr_7_6
  | 7, _, _ => qr_7_7
  | 8, _, _ => qr_7_8
  | 9, _, _ => qr_7_9
  | 10, _, _ => qr_7_10
  | 11, _, _ => qr_7_11
  | 12, _, _ => qr_7_12
  | r + 13, _, h => absurd h (by omega)
theorem qr_8_1 : QR 8 1 := ⟨fun x0 x1 x7 K => by kernel_rfl, fun x0 x1 x7 x8 x9 => by kernel_rfl, by decide +kernel, fun x0 x1 x2 x3 x7 x10 => by kernel_rfl⟩
theorem qr_8_2 : QR 8 2 := ⟨fun x0 x1 x7 K => by kernel_rfl, fun x0 x1 x7 x8 x9 => by kernel_rfl, by decide +kernel, fun x0 x1 x2 x3 x7 x10 => by kernel_rfl⟩
theorem qr_8_3 : QR 8 3 := ⟨fun x0 x1 x7 K => by kernel_rfl, fun x0 x1 x7 x8 x9 => by kernel_rfl, by decide +kernel, fun x0 x1 x2 x3 x7 x10 => by kernel_rfl⟩
theorem qr_8_4 : QR 8 4 := ⟨fun x0 x1 x7 K => by kernel_rfl, fun x0 x1 x7 x8 x9 => by kernel_rfl, by decide +kernel, fun x0 x1 x2 x3 x7 x10 => by kernel_rfl⟩
theorem qr_8_5 : QR 8 5 := ⟨fun x0 x1 x7 K => by kernel_rfl, fun x0 x1 x7 x8 x9 => by kernel_rfl, by decide +kernel, fun x0 x1 x2 x3 x7 x10 => by kernel_rfl⟩
theorem qr_8_6 : QR 8 6 := ⟨fun x0 x1 x7 K => by kernel_rfl, fun x0 x1 x7 x8 x9 => by kernel_rfl, by decide +kernel, fun x0 x1 x2 x3 x7 x10 => by kernel_rfl⟩
theorem qr_8_7 : QR 8 7 := ⟨fun x0 x1 x7 K => by kernel_rfl, fun x0 x1 x7 x8 x9 => by kernel_rfl, by decide +kernel, fun x0 x1 x2 x3 x7 x10 => by kernel_rfl⟩
theorem qr_8_8 : QR 8 8 := ⟨fun x0 x1 x7 K => by kernel_rfl, fun x0 x1 x7 x8 x9 => by kernel_rfl, by decide +kernel, fun x0 x1 x2 x3 x7 x10 => by kernel_rfl⟩
theorem qr_8_9 : QR 8 9 := ⟨fun x0 x1 x7 K => by kernel_rfl, fun x0 x1 x7 x8 x9 => by kernel_rfl, by decide +kernel, fun x0 x1 x2 x3 x7 x10 => by kernel_rfl⟩
theorem qr_8_10 : QR 8 10 := ⟨fun x0 x1 x7 K => by kernel_rfl, fun x0 x1 x7 x8 x9 => by kernel_rfl, by decide +kernel, fun x0 x1 x2 x3 x7 x10 => by kernel_rfl⟩
theorem qr_8_11 : QR 8 11 := ⟨fun x0 x1 x7 K => by kernel_rfl, fun x0 x1 x7 x8 x9 => by kernel_rfl, by decide +kernel, fun x0 x1 x2 x3 x7 x10 => by kernel_rfl⟩
theorem qr_8_12 : QR 8 12 := ⟨fun x0 x1 x7 K => by kernel_rfl, fun x0 x1 x7 x8 x9 => by kernel_rfl, by decide +kernel, fun x0 x1 x2 x3 x7 x10 => by kernel_rfl⟩
theorem qr_8 : ∀ r, 1 ≤ r → r ≤ 12 → QR 8 r
  | 0, h, _ => absurd h (by omega)
  | 1, _, _ => qr_8_1
  | 2, _, _ => qr_8_2
  | 3, _, _ => qr_8_3
  | 4, _, _ => qr_8_4
  | 5, _, _ => qr_8_5
  | 6, _, _ => qr_8_6
  | 7, _, _ => qr_8_7
  | 8, _, _ => qr_8_8
  | 9, _, _ => qr_8_9
  | 10, _, _ => qr_8_10
  | 11, _, _ => qr_8_11
  | 12, _, _ => qr_8_12
  | r + 13, _, h => absurd h (by omega)
theorem qr_9_1 : QR 9 1 := ⟨fun x0 x1 x7 K => by kernel_rfl, fun x0 x1 x7 x8 x9 => by kernel_rfl, by decide +kernel, fun x0 x1 x2 x3 x7 x10 => by kernel_rfl⟩
theorem qr_9_2 : QR 9 2 := ⟨fun x0 x1 x7 K => by kernel_rfl, fun x0 x1 x7 x8 x9 => by kernel_rfl, by decide +kernel, fun x0 x1 x2 x3 x7 x10 => by kernel_rfl⟩
theorem qr_9_3 : QR 9 3 := ⟨fun x0 x1 x7 K => by kernel_rfl, fun x0 x1 x7 x8 x9 => by kernel_rfl, by decide +kernel, fun x0 x1 x2 x3 x7 x10 => by kernel_rfl⟩
theorem qr_9_4 : QR 9 4 := ⟨fun x0 x1 x7 K => by kernel_rfl, fun x0 x1 x7 x8 x9 => by kernel_rfl, by decide +kernel, fun x0 x1 x2 x3 x7 x10 => by kernel_rfl⟩
theorem qr_9_5 : QR 9 5 := ⟨fun x0 x1 x7 K => by kernel_rfl, fun x0 x1 x7 x8 x9 => by kernel_rfl, by decide +kernel, fun x0 x1 x2 x3 x7 x10 => by kernel_rfl⟩
theorem qr_9_6 : QR 9 6 := ⟨fun x0 x1 x7 K => by kernel_rfl, fun x0 x1 x7 x8 x9 => by kernel_rfl, by decide +kernel, fun x0 x1 x2 x3 x7 x10 => by kernel_rfl⟩
theorem qr_9_7 : QR 9 7 := ⟨fun x0 x1 x7 K => by kernel_rfl, fun x0 x1 x7 x8 x9 => by kernel_rfl, by decide +kernel, fun x0 x1 x2 x3 x7 x10 => by kernel_rfl⟩
theorem qr_9_8 : QR 9 8 := ⟨fun x0 x1 x7 K => by kernel_rfl, fun x0 x1 x7 x8 x9 => by kernel_rfl, by decide +kernel, fun x0 x1 x2 x3 x7 x10 => by kernel_rfl⟩
theorem qr_9_9 : QR 9 9 := ⟨fun x0 x1 x7 K => by kernel_rfl, fun x0 x1 x7 x8 x9 => by kernel_rfl, by decide +kernel, fun x0 x1 x2 x3 x7 x10 => by kernel_rfl⟩
theorem qr_9_10 : QR 9 10 := ⟨fun x0 x1 x7 K => by kernel_rfl, fun x0 x1 x7 x8 x9 => by kernel_rfl, by decide +kernel, fun x0 x1 x2 x3 x7 x10 => by kernel_rfl⟩
theorem qr_9_11 : QR 9 11 := ⟨fun x0 x1 x7 K => by kernel_rfl, fun x0 x1 x7 x8 x9 => by kernel_rfl, by decide +kernel, fun x0 x1 x2 x3 x7 x10 => by kernel_rfl⟩
theorem qr_9_12 : QR 9 12 := ⟨fun x0 x1 x7 K => by kernel_rfl, fun x0 x1 x7 x8 x9 => by kernel_rfl, by decide +kernel, fun x0 x1 x2 x3 x7 x10 => by kernel_rfl⟩
theorem qr_9 : ∀ r, 1 ≤ r → r ≤ 12 → QR 9 r
  | 0, h, _ => absurd h (by omega)
  | 1, _, _ => qr_9_1
  | 2, _, _ => qr_9_2
  | 3, _, _ => qr_9_3
  | 4, _, _ => qr_9_4
  | 5, _, _ => qr_9_5
  | 6, _, _ => qr_9_6
  | 7, _, _ => qr_9_7
  | 8, _, _ => qr_9_8
  | 9, _, _ => qr_9_9
  | 10, _, _ => qr_9_10
  | 11, _, _ => qr_9_11
  | 12, _, _ => qr_9_12
  | r + 13, _, h => absurd h (by omega)
theorem qr_10_1 : QR 10 1 := ⟨fun x0 x1 x7 K => by kernel_rfl, fun x0 x1 x7 x8 x9 => by kernel_rfl, by decide +kernel, fun x0 x1 x2 x3 x7 x10 => by kernel_rfl⟩
theorem qr_10_2 : QR 10 2 := ⟨fun x0 x1 x7 K => by kernel_rfl, fun x0 x1 x7 x8 x9 => by kernel_rfl, by decide +kernel, fun x0 x1 x2 x3 x7 x10 => by kernel_rfl⟩
theorem qr_10_3 : QR 10 3 := ⟨fun x0 x1 x7 K => by kernel_rfl, fun x0 x1 x7 x8 x9 => by kernel_rfl, by decide +kernel, fun x0 x1 x2 x3 x7 x10 => by kernel_rfl⟩
theorem qr_10_4 : QR 10 4 := ⟨fun x0 x1 x7 K => by kernel_rfl, fun x0 x1 x7 x8 x9 => by kernel_rfl, by decide +kernel, fun x0 x1 x2 x3 x7 x10 => by kernel_rfl⟩
theorem qr_10_5 : QR 10 5 := ⟨fun x0 x1 x7 K => by kernel_rfl, fun x0 x1 x7 x8 x9 => by kernel_rfl, by decide +kernel, fun x0 x1 x2 x3 x7 x10 => by kernel_rfl⟩
theorem qr_10_6 : QR 10 6 := ⟨fun x0 x1 x7 K => by kernel_rfl, fun x0 x1 x7 x8 x9 => by kernel_rfl, by decide +kernel, fun x0 x1 x2 x3 x7 x10 => by kernel_rfl⟩
theorem qr_10_7 : QR 10 7 := ⟨fun x0 x1 x7 K => by kernel_rfl, fun x0 x1 x7 x8 x9 => by kernel_rfl, by decide +kernel, fun x0 x1 x2 x3 x7 x10 => by kernel_rfl⟩
theorem qr_10_8 : QR 10 8 := ⟨fun x0 x1 x7 K => by kernel_rfl, fun x0 x1 x7 x8 x9 => by kernel_rfl, by decide +kernel, fun x0 x1 x2 x3 x7 x10 => by kernel_rfl⟩
theorem qr_10_9 : QR 10 9 := ⟨fun x0 x1 x7 K => by kernel_rfl, fun x0 x1 x7 x8 x9 => by kernel_rfl, by decide +kernel, fun x0 x1 x2 x3 x7 x10 => by kernel_rfl⟩
theorem qr_10_10 : QR 10 10 := ⟨fun x0 x1 x7 K => by kernel_rfl, fun x0 x1 x7 x8 x9 => by kernel_rfl, by decide +kernel, fun x0 x1 x2 x3 x7 x10 => by kernel_rfl⟩
theorem qr_10_11 : QR 10 11 := ⟨fun x0 x1 x7 K => by kernel_rfl, fun x0 x1 x7 x8 x9 => by kernel_rfl, by decide +kernel, fun x0 x1 x2 x3 x7 x10 => by kernel_rfl⟩
theorem qr_10_12 : QR 10 12 := ⟨fun x0 x1 x7 K => by kernel_rfl, fun x0 x1 x7 x8 x9 => by kernel_rfl, by decide +kernel, fun x0 x1 x2 x3 x7 x10 => by kernel_rfl⟩
theorem qr_10 : ∀ r, 1 ≤ r → r ≤ 12 → QR 10 r
  | 0, h, _ => absurd h (by omega)
  | 1, _, _ => qr_10_1
  | 2, _, _ => qr_10_2
  | 3, _, _ => qr_10_3
  | 4, _, _ => qr_10_4
  | 5, _, _ => qr_10_5
  | 6, _, _ => qr_10_6
  | 7, _, _ => qr_10_7
  | 8, _, _ => qr_10_8
  | 9, _, _ => qr_10_9
  | 10, _, _ => qr_10_10
  | 11, _, _ => qr_10_11
  | 12, _, _ => qr_10_12
  | r + 13, _, h => absurd h (by omega)
theorem qr_11_1 : QR 11 1 := ⟨fun x0 x1 x7 K => by kernel_rfl, fun x0 x1 x7 x8 x9 => by kernel_rfl, by decide +kernel, fun x0 x1 x2 x3 x7 x10 => by kernel_rfl⟩
theorem qr_11_2 : QR 11 2 := ⟨fun x0 x1 x7 K => by kernel_rfl, fun x0 x1 x7 x8 x9 => by kernel_rfl, by decide +kernel, fun x0 x1 x2 x3 x7 x10 => by kernel_rfl⟩
theorem qr_11_3 : QR 11 3 := ⟨fun x0 x1 x7 K => by kernel_rfl, fun x0 x1 x7 x8 x9 => by kernel_rfl, by decide +kernel, fun x0 x1 x2 x3 x7 x10 => by kernel_rfl⟩
theorem qr_11_4 : QR 11 4 := ⟨fun x0 x1 x7 K => by kernel_rfl, fun x0 x1 x7 x8 x9 => by kernel_rfl, by decide +kernel, fun x0 x1 x2 x3 x7 x10 => by kernel_rfl⟩
theorem qr_11_5 : QR 11 5 := ⟨fun x0 x1 x7 K => by kernel_rfl, fun x0 x1 x7 x8 x9 => by kernel_rfl, by decide +kernel, fun x0 x1 x2 x3 x7 x10 => by kernel_rfl⟩
theorem qr_11_6 : QR 11 6 := ⟨fun x0 x1 x7 K => by kernel_rfl, fun x0 x1 x7 x8 x9 => by kernel_rfl, by decide +kernel, fun x0 x1 x2 x3 x7 x10 => by kernel_rfl⟩
theorem qr_11_7 : QR 11 7 := ⟨fun x0 x1 x7 K => by kernel_rfl, fun x0 x1 x7 x8 x9 => by kernel_rfl, by decide +kernel, fun x0 x1 x2 x3 x7 x10 => by kernel_rfl⟩
theorem qr_11_8 : QR 11 8 := ⟨fun x0 x1 x7 K => by kernel_rfl, fun x0 x1 x7 x8 x9 => by kernel_rfl, by decide +kernel, fun x0 x1 x2 x3 x7 x10 => by kernel_rfl⟩
theorem qr_11_9 : QR 11 9 := ⟨fun x0 x1 x7 K => by kernel_rfl, fun x0 x1 x7 x8 x9 => by kernel_rfl, by decide +kernel, fun x0 x1 x2 x3 x7 x10 => by kernel_rfl⟩
theorem qr_11_10 : QR 11 10 := ⟨fun x0 x1 x7 K => by kernel_rfl, fun x0 x1 x7 x8 x9 => by kernel_rfl, by decide +kernel, fun x0 x1 x2 x3 x7 x10 => by kernel_rfl⟩
theorem qr_11_11 : QR 11 11 := ⟨fun x0 x1 x7 K => by kernel_rfl, fun x0 x1 x7 x8 x9 => by kernel_rfl, by decide +kernel, fun x0 x1 x2 x3 x7 x10 => by kernel_rfl⟩
theorem qr_11_12 : QR 11 12 := ⟨fun x0 x1 x7 K => by kernel_rfl, fun x0 x1 x7 x8 x9 => by kernel_rfl, by decide +kernel, fun x0 x1 x2 x3 x7 x10 => by kernel_rfl⟩
theorem qr_11 : ∀ r, 1 ≤ r → r ≤ 12 → QR 11 r
  | 0, h, _ => absurd h (by omega)
  | 1, _, _ => qr_11_1
  | 2, _, _ => qr_11_2
  | 3, _, _ => qr_11_3
  | 4, _, _ => qr_11_4
  | 5, _, _ => qr_11_5
  | 6, _, _ => qr_11_6
  | 7, _, _ => qr_11_7
  | 8, _, _ => qr_11_8
  | 9, _, _ => qr_11_9
  | 10, _, _ => qr_11_10
  | 11, _, _ => qr_11_11
  | 12, _, _ => qr_11_12
  | r + 13, _, h => absurd h (by omega)
theorem qr_12_1 : QR 12 1 := ⟨fun x0 x1 x7 K => by kernel_rfl, fun x0 x1 x7 x8 x9 => by kernel_rfl, by decide +kernel, fun x0 x1 x2 x3 x7 x10 => by kernel_rfl⟩
theorem qr_12_2 : QR 12 2 := ⟨fun x0 x1 x7 K => by kernel_rfl, fun x0 x1 x7 x8 x9 => by kernel_rfl, by decide +kernel, fun x0 x1 x2 x3 x7 x10 => by kernel_rfl⟩
theorem qr_12_3 : QR 12 3 := ⟨fun x0 x1 x7 K => by kernel_rfl, fun x0 x1 x7 x8 x9 => by kernel_rfl, by decide +kernel, fun x0 x1 x2 x3 x7 x10 => by kernel_rfl⟩
theorem qr_12_4 : QR 12 4 := ⟨fun x0 x1 x7 K => by kernel_rfl, fun x0 x1 x7 x8 x9 => by kernel_rfl, by decide +kernel, fun x0 x1 x2 x3 x7 x10 => by kernel_rfl⟩
theorem qr_12_5 : QR 12 5 := ⟨fun x0 x1 x7 K => by kernel_rfl, fun x0 x1 x7 x8 x9 => by kernel_rfl, by decide +kernel, fun x0 x1 x2 x3 x7 x10 => by kernel_rfl⟩
theorem qr_12_6 : QR 12 6 := ⟨fun x0 x1 x7 K => by kernel_rfl, fun x0 x1 x7 x8 x9 => by kernel_rfl, by decide +kernel, fun x0 x1 x2 x3 x7 x10 => by kernel_rfl⟩
theorem qr_12_7 : QR 12 7 := ⟨fun x0 x1 x7 K => by kernel_rfl, fun x0 x1 x7 x8 x9 => by kernel_rfl, by decide +kernel, fun x0 x1 x2 x3 x7 x10 => by kernel_rfl⟩
theorem qr_12_8 : QR 12 8 := ⟨fun x0 x1 x7 K => by kernel_rfl, fun x0 x1 x7 x8 x9 => by kernel_rfl, by decide +kernel, fun x0 x1 x2 x3 x7 x10 => by kernel_rfl⟩
theorem qr_12_9 : QR 12 9 := ⟨fun x0 x1 x7 K => by kernel_rfl, fun x0 x1 x7 x8 x9 => by kernel_rfl, by decide +kernel, fun x0 x1 x2 x3 x7 x10 => by kernel_rfl⟩
theorem qr_12_10 : QR 12 10 := ⟨fun x0 x1 x7 K => by kernel_rfl, fun x0 x1 x7 x8 x9 => by kernel_rfl, by decide +kernel, fun x0 x1 x2 x3 x7 x10 => by kernel_rfl⟩
theorem qr_12_11 : QR 12 11 := ⟨fun x0 x1 x7 K => by kernel_rfl, fun x0 x1 x7 x8 x9 => by kernel_rfl, by decide +kernel, fun x0 x1 x2 x3 x7 x10 => by kernel_rfl⟩
theorem qr_12_12 : QR 12 12 := ⟨fun x0 x1 x7 K => by kernel_rfl, fun x0 x1 x7 x8 x9 => by kernel_rfl, by decide +kernel, fun x0 x1 x2 x3 x7 x10 => by kernel_rfl⟩
theorem qr_12 : ∀ r, 1 ≤ r → r ≤ 12 → QR 12 r
  | 0, h, _ => absurd h (by omega)
  | 1, _, _ => qr_12_1
  | 2, _, _ => qr_12_2
  | 3, _, _ => qr_12_3
  | 4, _, _ => qr_12_4
  | 5, _, _ => qr_12_5
  | 6, _, _ => qr_12_6
  | 7, _, _ => qr_12_7
  | 8, _, _ => qr_12_8
  | 9, _, _ => qr_12_9
  | 10, _, _ => qr_12_10
  | 11, _, _ => qr_12_11
  | 12, _, _ => qr_12_12
  | r + 13, _, h => absurd h (by omega)
theorem all_QR : ∀ q r, 1 ≤ q → q ≤ 12 → 1 ≤ r → r ≤ 12 → QR q r
  | 0, _, h, _, _, _ => absurd h (by omega)
  | 1, r, _, _, h, k => qr_1 r h k
  | 2, r, _, _, h, k => qr_2 r h k
  | 3, r, _, _, h, k => qr_3 r h k
  | 4, r, _, _, h, k => qr_4 r h k
  | 5, r, _, _, h, k => qr_5 r h k
  | 6, r, _, _, h, k => qr_6 r h k
  | 7, r, _, _, h, k => qr_7 r h k
  | 8, r, _, _, h, k => qr_8 r h k
  | 9, r, _, _, h, k => qr_9 r h k
  | 10, r, _, _, h, k => qr_10 r h k
  | 11, r, _, _, h, k => qr_11 r h k
  | 12, r, _, _, h, k => qr_12 r h k
  | q + 13, _, _, h, _, _ => absurd h (by omega)
end Mine
end

/- part P4 -/
section
open PySem PySem.Calls PyProof.Rows
namespace Mine

theorem chk10_at {q r : Nat} : ∀ {N : Nat}, chk10 q r N = true → ∀ n, n < N → T10 (R none none none none none (qv q) (qv r) (qv n) none (rowF r) (dueF q n) (gF q r)) = some false
  | 0, _, n, h => absurd h (Nat.not_lt_zero _)
  | N + 1, hc, n, h => by
    unfold chk10 at hc
    rw [Bool.and_eq_true] at hc
    rcases Nat.lt_succ_iff_lt_or_eq.mp h with q | rfl
    · exact chk10_at hc.2 n q
    · have h1 := hc.1
      split at h1
      · rename_i e; exact e
      · cases h1
theorem T10_irr (x0 x1 x2 x3 a b c d e f g : Option V) : T10 (R x0 x1 x2 x3 none a b c d e f g) = T10 (R none none none none none a b c none e f g) := by kernel_rfl

theorem tail_run {q r n : Nat} (hqn : QN q n) (hqr : QR q r) (hn : n < 30) (x0 x1 : Option V) :
    dSeq s3 (dSeq s4 (dSeq s5 (dSeq s6 (dSeq s7 (dSeq s8 (dSeq s9 (dSeq s10 (dSeq s11 (dSeq s12 dNil))))))))) (R x0 x1 none none none (qv q) (qv r) (qv n) none none none none) = some (.ret (.bool true), []) := by
  obtain ⟨u, hu, ha, hp⟩ := hqn
  obtain ⟨c1, c2, c3, c4⟩ := hqr
  have e4 : ∀ K, dSeq s4 K (R x0 x1 none none none (qv q) (qv r) (qv n) (rowF q) (rowF r) none none) = K (R x0 x1 none none none (qv q) (qv r) (qv n) (rowF q) (rowF r) (dueF q n) (gF q r)) := fun K => by
    rw [s4_split]
    unfold dSeq dTupR lCons
    rw [ha, c2, hu]
    rfl
  have e10 : ∀ K, dSeq s10 K (R x0 x1 (restF q n) (partF q n) none (qv q) (qv r) (qv n) (rowF q) (rowF r) (dueF q n) (gF q r)) = K (R x0 x1 (restF q n) (partF q n) none (qv q) (qv r) (qv n) (rowF q) (rowF r) (dueF q n) (gF q r)) := fun K => by
    rw [s10_split]
    unfold dSeq dIf
    rw [T10_irr, chk10_at c3 n hn]
    rfl
  rw [c1, e4, hp, e10, c4]

theorem drT_run (C : List V) (k c : Nat) (hC : C.length ≤ 3) : drT [some (.list [.list C, .int (Int.ofNat k + 1)]), some (.int c), some (.int (.ofNat k))] = some (decide ((Int.ofNat k) < (C.length : Int))) := by
  have hb : Nat.ble C.length 100000 = true := Nat.ble_eq_true_of_le (by omega)
  have e1 : muIdx 0 (eI 0) [some (.list [.list C, .int (Int.ofNat k + 1)]), some (.int c), some (.int (.ofNat k))] = some (.list C) := rfl
  unfold drT tCmp eCall lCons
  rw [e1]
  show ((if Nat.ble C.length 100000 then some (V.int C.length) else none).bind fun b => cmpV .Lt (.int (.ofNat k)) b) = _
  rw [hb]
  rfl
theorem fmod_nat {a : Int} {c : Nat} (hc : 0 < c) : ∃ v : Nat, a.fmod (c : Int) = .ofNat v ∧ v < c := by
  have h1 : 0 ≤ a.fmod (c : Int) := Int.fmod_nonneg_of_pos a (by omega)
  have h2 : a.fmod (c : Int) < c := Int.fmod_lt_of_pos a (by omega)
  obtain ⟨v, hv⟩ := Int.eq_ofNat_of_zero_le h1
  exact ⟨v, hv, by omega⟩
theorem mod_run {a : Int} {c : Nat} (hc : 0 < c) : binV .Mod (.int a) (.int (c : Int)) = some (.int (a.fmod c)) := by
  have : ((c : Int) == 0) = false := by rw [beq_eq_false_iff_ne]; omega
  show (if ((c : Int) == 0) = true then none else some (V.int (a.fmod c))) = _
  rw [this]; rfl
theorem drawN_spec (cells : List Int) (hl : cells.length ≤ 3) (k c : Nat) (hk : k ≤ 2) (hc : 0 < c) : ∃ v : Nat, drawN (cells.map V.int) k c = some (.ofNat v) ∧ v < c := by
  have hT := drT_run (cells.map V.int) k c (by simpa using hl)
  have key : ∃ a : Int, eIf drT drA drB [some (.list [.list (cells.map V.int), .int (Int.ofNat k + 1)]), some (.int c), some (.int (.ofNat k))] = some (.int (a.fmod c)) := by
    unfold eIf
    rw [hT]
    by_cases hlt : k < cells.length
    · have e0 : decide ((Int.ofNat k) < ((cells.map V.int).length : Int)) = true := by simp; omega
      rw [e0]
      have e1 : eIdx (muIdx 0 (eI 0)) (eV 2) [some (.list [.list (cells.map V.int), .int (Int.ofNat k + 1)]), some (.int c), some (.int (.ofNat k))] = some (.int cells[k]) := by
        show idxL (cells.map V.int) (.int (.ofNat k)) = _
        have hb : Nat.ble k 100000 = true := Nat.ble_eq_true_of_le (by omega)
        show (if Nat.ble k 100000 then (cells.map V.int)[k]? else none) = _
        rw [hb]; simp [hlt]
      refine ⟨if cells[k] < 0 then -cells[k] else cells[k], ?_⟩
      show drA _ = _
      unfold drA eBin eCall lCons
      rw [e1]
      exact mod_run hc
    · have e0 : decide ((Int.ofNat k) < ((cells.map V.int).length : Int)) = false := by simp; omega
      rw [e0]
      have hk3 : k = 0 ∨ k = 1 ∨ k = 2 := by omega
      rcases hk3 with rfl | rfl | rfl
      · exact ⟨5, mod_run hc⟩
      · exact ⟨3, mod_run hc⟩
      · exact ⟨1, mod_run hc⟩
  obtain ⟨a, ha⟩ := key
  obtain ⟨v, hv, hvc⟩ := fmod_nat (a := a) hc
  refine ⟨v, ?_, hvc⟩
  unfold drawN
  rw [ha, hv]

theorem comp_run {U : St → Option V} {ρ : St} {L : List V} {asg : V → St → Option St} {dt : St → Option Bool} {db : St → Option (List V × St)} (h : U ρ = some (.list L)) : dComp [12] [] (iList U) asg dt db ρ = (lenOK L).bind fun vs => (loopM asg dt db vs (clr [12] ρ)).bind fun r => lenOK r.1 := by
  unfold dComp iList frOK
  rw [h]
  rfl
theorem s1_run (ns : List Int) (h : ns.length ≤ 63) : ∃ cells : List Int, cells.length ≤ 3 ∧ s1 ([some (.list (ns.map V.int))] ++ List.replicate 14 none) = some (.next, R (some (.list (ns.map V.int))) (some (poolV (cells.map V.int) 0)) none none none none none none none none none none) := by
  have hb : Nat.ble (ns.map V.int).length 100000 = true := Nat.ble_eq_true_of_le (by simp; omega)
  have hU : eUpto (eV 0) (eI 3) ([some (.list (ns.map V.int))] ++ List.replicate 14 none) = some (.list ((ns.map V.int).take 3)) := by
    show ((if Nat.ble (ns.map V.int).length 100000 then some ((ns.map V.int).take 3) else none).bind fun l => some (V.list l)) = _
    rw [hb]; rfl
  have fin : ∀ (cells : List Int), (ns.map V.int).take 3 = cells.map V.int → dComp [12] [] (iList (eUpto (eV 0) (eI 3))) (aName 12) tT (mEmit (eCall intV (lCons (eV 12) lNil))) ([some (.list (ns.map V.int))] ++ List.replicate 14 none) = some (cells.map V.int) →
      s1 ([some (.list (ns.map V.int))] ++ List.replicate 14 none) = some (.next, R (some (.list (ns.map V.int))) (some (poolV (cells.map V.int) 0)) none none none none none none none none none none) := fun cells _ hD => by
    have g : ∀ D : St → Option (List V), D ([some (.list (ns.map V.int))] ++ List.replicate 14 none) = some (cells.map V.int) → dAsgN 1 (nList (lCons (eN D) (lCons (eI 0) lNil))) ([some (.list (ns.map V.int))] ++ List.replicate 14 none) = some (.next, R (some (.list (ns.map V.int))) (some (poolV (cells.map V.int) 0)) none none none none none none none none none none) := fun D h => by
      unfold dAsgN nList lCons eN
      rw [h]
      rfl
    exact g _ hD
  match ns, hU, fin with
  | [], hU, fin => exact ⟨[], by simp, fin [] rfl ((comp_run hU).trans (by kernel_rfl))⟩
  | [a], hU, fin => exact ⟨[a], by simp, fin [a] rfl ((comp_run hU).trans (by kernel_rfl))⟩
  | [a, b], hU, fin => exact ⟨[a, b], by simp, fin [a, b] rfl ((comp_run hU).trans (by kernel_rfl))⟩
  | a :: b :: c :: r, hU, fin => exact ⟨[a, b, c], by simp, fin [a, b, c] rfl ((comp_run hU).trans (by kernel_rfl))⟩

theorem dSeq_next {a b : St → Option (Fl × St)} {ρ ρ' : St} (h : a ρ = some (.next, ρ')) : dSeq a b ρ = b ρ' := by
  unfold dSeq
  rw [h]
  rfl
theorem fnV_run {d : St → Option (Fl × St)} {v x : V} {ρ' : St} (h : d ([some v] ++ List.replicate 14 none) = some (.ret x, ρ')) : fnV 1 14 d [v] = some x := by
  unfold fnV
  show (Option.bind (d ([some v] ++ List.replicate 14 none)) _) = _
  rw [h]
  rfl
theorem s2_run {L : V} {c : List V} {v₁ v₂ v₃ : Nat} (d1 : drawN c 0 12 = some (.ofNat v₁)) (d2 : drawN c 1 12 = some (.ofNat v₂)) (d3 : drawN c 2 30 = some (.ofNat v₃)) :
    s2 (R (some L) (some (poolV c 0)) none none none none none none none none none none) = some (.next, R (some L) (some (poolV c 3)) none none none (qv (1 + v₁)) (qv (1 + v₂)) (qv v₃) none none none none) := by
  unfold s2 dDraws
  show ((drawN c 0 12).bind fun v₁ => (drawN c 1 12).bind fun v₂ => (drawN c 2 30).bind fun v₃ => _) = _
  rw [d1, d2, d3]
  rfl
theorem plain_law (ns : List Int) (h : ns.length ≤ 63) : D_law [.list (ns.map V.int)] = some (.bool true) := by
  obtain ⟨cells, hl, e1⟩ := s1_run ns h
  obtain ⟨v₁, d1, b1⟩ := drawN_spec cells hl 0 12 (by omega) (by omega)
  obtain ⟨v₂, d2, b2⟩ := drawN_spec cells hl 1 12 (by omega) (by omega)
  obtain ⟨v₃, d3, b3⟩ := drawN_spec cells hl 2 30 (by omega) (by omega)
  have tail := tail_run (all_QN (1 + v₁) v₃ (by omega) (by omega) b3) (all_QR (1 + v₁) (1 + v₂) (by omega) (by omega) (by omega) (by omega)) b3 (some (.list (ns.map V.int))) (some (poolV (cells.map V.int) 3))
  refine fnV_run (ρ' := []) ?_
  rw [d_law_split]
  exact (dSeq_next e1).trans ((dSeq_next (s2_run d1 d2 d3)).trans tail)
end Mine
end

/- part H4 -/
section
open PySem PySem.W PySem.Calls PyProof.Rows
set_option maxHeartbeats 8000000
namespace Mine
theorem plain_of {P : Params} {h : Heap} {a : Addr} {d : WData} {xs : List WData} {vs : List Value} (W : Well P h (.ref a) d) (hd : d = .list xs) (hl : h.IsList a vs.toArray) : h.PlainList a (List.toArray vs) := by
  subst hd
  cases W with
  | list hg _ =>
    rename_i us hw
    obtain ⟨o, e1, e2, m, e3⟩ := hl
    rw [hg] at e1
    cases e1
    have e4 : us.toArray = vs.toArray := by
      have := Data.seq.inj e3
      exact this.1
    rw [e4] at hg
    exact ⟨_, hg⟩
noncomputable def blts : List Str := ["len", "list", "max", "abs", "range", "sum", "sorted", "int"]
noncomputable def posOfS : Stmt → Pos
  | .FunctionDef _ _ _ _ _ _ _ _ _ pos => pos
  | _ => ⟨0, 0, 0, 0⟩
noncomputable def recAt (i : Nat) : DefRec := ⟨nameOfS (nth i), argsOfS (nth i), bodyOfS (nth i), scopeOfS (nth i), posOfS (nth i)⟩
noncomputable def recsHere : List DefRec := [recAt 3, recAt 4, recAt 5, recAt 6, recAt 7, recAt 8, recAt 9, recAt 11, recAt 12, recAt 13, recAt 15, recAt 16, recAt 17, recAt 18, recAt 20, recAt 21, recAt 22, recAt 23, recAt 24, recAt 25, recAt 26]
theorem recs_mem : ∀ i, i ∈ [3, 4, 5, 6, 7, 8, 9, 11, 12, 13, 15, 16, 17, 18, 20, 21, 22, 23, 24, 25, 26] → recAt i ∈ recsHere := fun i hi => by
  have e : recsHere = [3, 4, 5, 6, 7, 8, 9, 11, 12, 13, 15, 16, 17, 18, 20, 21, 22, 23, 24, 25, 26].map recAt := rfl
  rw [e]; exact List.mem_map_of_mem hi
theorem world0_of {p : Program} {loose : List Str} {mean : ExcName → Option Value} {mg mb : Str → Option Value} {h : Heap} (T : Top p loose mean mg mb h)
    (hr : recsOf p = recsHere)
    (hf : (blts.all fun x => decide (x ∉ startupNames) && decide (x ∉ loose) && decide (x ∉ (recsOf p).map (·.name)) && decide (x ∉ (litsOf p).map (·.1)) && decide (x ∉ (clssOf p loose).map (·.name))) = true) : World0 h mg mb := by
  have fr : ∀ x ∈ blts, mg x = none := fun x hx => by
    have := List.all_eq_true.mp hf x hx
    simp only [Bool.and_eq_true, decide_eq_true_eq] at this
    exact T.free x this.1.1.1.1 this.1.1.1.2 this.1.1.2 this.1.2 this.2
  have bl : ∀ x ∈ blts, x ≠ "__name__" := by decide +kernel
  refine ⟨⟨T.g, T.b, T.nolimit⟩, fun i hi => ?_, ⟨fr _ (by decide +kernel), (T.builtins _ (bl _ (by decide +kernel))).trans boot_len⟩, ⟨fr _ (by decide +kernel), (T.builtins _ (bl _ (by decide +kernel))).trans PyProof.Rows.boot_list⟩,
    ⟨fr _ (by decide +kernel), (T.builtins _ (bl _ (by decide +kernel))).trans boot_max⟩, ⟨fr _ (by decide +kernel), (T.builtins _ (bl _ (by decide +kernel))).trans boot_abs⟩, ⟨fr _ (by decide +kernel), (T.builtins _ (bl _ (by decide +kernel))).trans boot_range⟩,
    ⟨fr _ (by decide +kernel), (T.builtins _ (bl _ (by decide +kernel))).trans boot_sum⟩, ⟨fr _ (by decide +kernel), (T.builtins _ (bl _ (by decide +kernel))).trans boot_sorted⟩, ⟨fr _ (by decide +kernel), (T.builtins _ (bl _ (by decide +kernel))).trans PyProof.Rows.boot_int⟩⟩
  obtain ⟨a, o, pm, code, doc, h1, h2, h3, h4⟩ := T.fn (recAt i) (by rw [hr]; exact recs_mem i hi)
  exact ⟨a, o, pm, code, doc, h1, h2, h3, h4⟩
end Mine
end

/- part H5 -/
section
open PySem PySem.W PySem.Calls PyProof.Rows
set_option maxHeartbeats 8000000
namespace Mine
section
variable {prog : Program} {w : World} {hb : Heap} {mg mb : Str → Option Value}
theorem rooted0 (W : World0 hb mg mb) : SndF prog w hb mg 4 "_law_rooted" (Rt 0) := by
  obtain ⟨fa, o, pm, code, doc, h1, h2, h3, h4⟩ := W.has 24 (by decide)
  exact ⟨fa, o, _, h1, h2, h3, fun A s P args vs v Q E _ _ _ _ e _ => by cases e⟩
theorem all_law (W : World0 hb mg mb) : SndF prog w hb mg 11 "law" D_law := by
  have z1 := f_ztrim (prog := prog) (w := w) W
  have z2 := f_zlead (prog := prog) (w := w) W
  have z3 := f_zadd (prog := prog) (w := w) W z1
  have z4 := f_zneg (prog := prog) (w := w) W
  have z5 := f_zsub (prog := prog) (w := w) W z3 z4
  have z6 := f_zscale (prog := prog) (w := w) W
  have z7 := f_zraise (prog := prog) (w := w) W
  have z8 := f_check_bottom (prog := prog) (w := w) W
  have z9 := f_zexact (prog := prog) (w := w) W z8 z5 z1 z7 z6
  have z10 := f_pseudo (prog := prog) (w := w) W z8 z2 z5 z6 z7
  have z11 := f_gcd (prog := prog) (w := w) W
  have z12 := f_least_divisor (prog := prog) (w := w) W
  have z13 := t_prime_factors (f_prime_factors (prog := prog) (w := w) W z12)
  have z14 := t_divisors (f_divisors (prog := prog) (w := w) W z13)
  have z15 := t_law_phi (f_law_phi (prog := prog) (w := w) W z13)
  have z16 := t_law_sign (f_law_sign (prog := prog) (w := w) W z13)
  have z17 := t_law_sums (f_law_sums (prog := prog) (w := w) W z16 z14)
  have r1 := f_law_rooted (prog := prog) (w := w) W z14 z9 (Nat.le_refl _) (rooted0 W)
  have r2 := f_law_rooted (prog := prog) (w := w) W z14 z9 (by decide) r1
  have r3 := f_law_rooted (prog := prog) (w := w) W z14 z9 (by decide) r2
  have r4 := f_law_rooted (prog := prog) (w := w) W z14 z9 (by decide) r3
  have r5 := f_law_rooted (prog := prog) (w := w) W z14 z9 (by decide) r4
  have z18 := t_law_rooted (prog := prog) (w := w) r5
  have z19 := f_law_added (prog := prog) (w := w) W z11
  exact f_law W z17 z11 z10 z19 z18 z15 z16 z14

/-- the call, for a script of ints -/
theorem law_call (W : World0 hb mg mb) {ns : List Int} {vs : List Value} {a fa : Addr} {s : Shared} {Q : Value → Shared → Prop} {E : Value → Shared → Prop} (hs : s.heap = hb) (plain : D_law [.list (ns.map V.int)] = some (.bool true))
    (hf : mg "law" = some (.ref fa)) (hl : hb.PlainList a (List.toArray vs)) (hi : IntsAre vs ns)
    (hQ : ∀ h' tk, Ext s.heap h' → Q (.bool true) { s with heap := h', toks := tk }) : wpAny (model prog w) callerA (call (.ref fa) [.ref a]) Q E s := by
  obtain ⟨fa', o, fd, h1, _, _, h4⟩ := all_law (prog := prog) (w := w) W
  rw [hf] at h1
  cases h1
  refine h4 callerA s (fun _ => True) [.list (ns.map V.int)] [.ref a] (.bool true) Q E ⟨rfl, by decide, by decide⟩ (by rw [hs]; exact Ext.refl _) (fun _ _ => trivial) ?_ plain fun h' tk X k hX => ?_
  · simp only [VRs, VR]
    exact ⟨_, _, rfl, ⟨a, vs, rfl, trivial, by rw [hs]; exact hl, VRs.ofInts hi⟩, rfl⟩
  · simp only [VR] at hX
    subst hX
    exact hQ h' tk k
end
end Mine
end

/- the statement -/
open PySem PySem.W PySem.Calls PyProof.Rows
set_option maxHeartbeats 8000000 in
theorem PySem.Challenge.cw_xm0072_01_holds : PySem.Challenge.rw_xm0072_01.Holds := by
  w_on; o_law; k_head
  case hw => w_witness2
  k_fill
  intro w s₀ s₁ mg mb G Y fa o pm cd doc dV kV ho hd hcd hD hmg hg args vals as hpre hlay hrd hwl hlo
  clear ho hd hcd hD Y
  have T := G.T
  have W0 := Mine.world0_of T (by kernel_rfl) (by decide +kernel)
  have hlaw : mg "law" = some (.ref fa) := hmg
  clear hmg G T
  wrow_args hpre hlay hrd hwl hlo
  rename_i hL _ w1 _ hI _ hcond _
  refine Mine.law_call W0 rfl (Mine.plain_law _ (by omega)) hlaw (Mine.plain_of w1 rfl hL) hI fun h' tk k => ?_
  exact GoodW.toG ⟨.inl ⟨.bool true, .bool true, [], rfl, raisesW_false (fun ct hct => by cases hct), .bool true, postW_of rfl rfl (by first | exact same_self _ | decide +kernel), unshared_nil⟩, k, rfl, hg⟩
