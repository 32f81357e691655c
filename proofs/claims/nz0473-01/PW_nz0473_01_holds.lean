import PyProof.Rows.All
import Wide.All
import OpenK.KCell
import Wide.FinOn
import PyProof.InstStoreFacts
import PyProof.ExcInit
import PyProof.ExcAttrAll.Exception
import PyProof.ExcBaseAll.Exception
import Lean
import PySem.Challenge.RW_nz0473_01
section
open PySem PySem.W PyProof.Rows PySem.Calls
set_option Elab.async false
set_option linter.all false
set_option maxRecDepth 100000
namespace Mine

inductive V where
  | none | bool (b : Bool) | int (i : Int) | str (x : Str) | list (xs : List V) | pool | dict (pw : Program × World) (f : Str → Option V) (m : Nat)


noncomputable def V.scalar : V → Bool
  | .none | .bool _ | .int _ | .str _ => true
  | _ => false
noncomputable def V.val : V → Tok → Value
  | .none, _ => .none
  | .bool b, _ => .bool b
  | .int i, t => .int i t
  | .str x, t => .str x t
  | _, _ => .none

/-- a dict from texts to scalars -/
noncomputable def DV : Option V → Option Value → Prop
  | none, o => o = none
  | some v, o => v.scalar = true ∧ ∃ t, o = some (v.val t)
noncomputable def DAt (pw : Program × World) (h : Heap) (a : Addr) (f : Str → Option V) (m : Nat) : Prop :=
  ∃ l, h.DictOf (strKind pw.1 pw.2) a l ∧ l.length ≤ m ∧ (a == sysModules) = false ∧ ∀ k, DV (f k) (valueAt l k)
theorem DAt.at' {pw h h' a f m} (x : DAt pw h a f m) (hk : ∀ o, h.get? a = some o → h'.get? a = some o) : DAt pw h' a f m :=
  let ⟨l, ⟨o, es, ep, ho, r⟩, q⟩ := x; ⟨l, ⟨o, es, ep, hk o ho, r⟩, q⟩
theorem DAt.live {pw h a f m} (x : DAt pw h a f m) : ∃ o, h.get? a = some o ∧ o.dict = Option.none :=
  let ⟨_, ⟨o, _, _, ho, hc, _⟩, _⟩ := x; ⟨o, ho, hc.2.1⟩

mutual
noncomputable def VR (P : Option Addr) (ok : Addr → Prop) (h : Heap) : V → Value → Prop
  | .none, v => v = .none
  | .bool b, v => v = .bool b
  | .int i, v => ∃ t, v = .int i t
  | .str x, v => ∃ t, v = .str x t
  | .pool, v => ∃ a, P = some a ∧ v = .ref a
  | .dict pw f m, v => ∃ a, v = .ref a ∧ ok a ∧ DAt pw h a f m
  | .list xs, v => ∃ a vs, v = .ref a ∧ ok a ∧ h.PlainList a (vs : List Value).toArray ∧ VRs P ok h xs vs
noncomputable def VRs (P : Option Addr) (ok : Addr → Prop) (h : Heap) : List V → List Value → Prop
  | [], vs => vs = []
  | x :: xs, vs => ∃ v r, vs = v :: r ∧ VR P ok h x v ∧ VRs P ok h xs r
end

mutual
theorem VR.mono {P ok ok' h h'} (hk : ∀ a o, ok a → h.get? a = some o → h'.get? a = some o) (ho : ∀ a, ok a → ok' a) :
    ∀ {v : V} {val : Value}, VR P ok h v val → VR P ok' h' v val
  | .none, _, x => by simpa only [VR] using x
  | .bool _, _, x => by simpa only [VR] using x
  | .int _, _, x => by simpa only [VR] using x
  | .str _, _, x => by simpa only [VR] using x
  | .pool, _, x => by simpa only [VR] using x
  | .dict pw f m, _, x => by
    simp only [VR] at x ⊢
    obtain ⟨a, e, oka, d⟩ := x
    exact ⟨a, e, ho a oka, d.at' fun o e => hk a o oka e⟩
  | .list xs, _, x => by
    simp only [VR] at x ⊢
    obtain ⟨a, vs, e, oka, ⟨k, hl⟩, y⟩ := x
    exact ⟨a, vs, e, ho a oka, ⟨k, hk a _ oka hl⟩, VRs.mono hk ho y⟩
theorem VRs.mono {P ok ok' h h'} (hk : ∀ a o, ok a → h.get? a = some o → h'.get? a = some o) (ho : ∀ a, ok a → ok' a) :
    ∀ {v : List V} {val : List Value}, VRs P ok h v val → VRs P ok' h' v val
  | [], _, x => by simpa only [VRs] using x
  | y :: ys, _, x => by
    simp only [VRs] at x ⊢
    obtain ⟨v, r, e, h1, h2⟩ := x
    exact ⟨v, r, e, VR.mono hk ho h1, VRs.mono hk ho h2⟩
end

theorem VR.scalar {P ok h v val} (hs : V.scalar v = true) : VR P ok h v val ↔ ∃ t, val = v.val t := by
  cases v <;> simp only [V.scalar, Bool.false_eq_true] at hs <;> simp only [VR, V.val, exists_const]
theorem VR.of_val {P ok h v} (hs : V.scalar v = true) (t : Tok) : VR P ok h v (v.val t) := (VR.scalar hs).mpr ⟨t, rfl⟩

theorem VRs.length {P ok h} : ∀ {xs : List V} {vs : List Value}, VRs P ok h xs vs → vs.length = xs.length
  | [], _, x => by simp only [VRs] at x; rw [x]; rfl
  | _ :: ys, _, x => by
    simp only [VRs] at x
    obtain ⟨v, r, e, _, h2⟩ := x
    rw [e, List.length_cons, List.length_cons, h2.length]
theorem VRs.get {P ok h} : ∀ {xs : List V} {vs : List Value} {i : Nat} {x : V}, VRs P ok h xs vs → xs[i]? = some x → ∃ v, vs[i]? = some v ∧ VR P ok h x v
  | [], _, _, _, _, e => by simp at e
  | y :: ys, _, 0, x, r, e => by
    simp only [VRs] at r
    obtain ⟨v, r', rfl, h1, _⟩ := r
    simp at e; subst e
    exact ⟨v, rfl, h1⟩
  | y :: ys, _, i + 1, x, r, e => by
    simp only [VRs] at r
    obtain ⟨v, r', rfl, _, h2⟩ := r
    simp at e
    simpa using h2.get e
theorem VRs.append {P ok h} : ∀ {xs ys : List V} {vs us : List Value}, VRs P ok h xs vs → VRs P ok h ys us → VRs P ok h (xs ++ ys) (vs ++ us)
  | [], _, _, _, x, y => by simp only [VRs] at x; subst x; exact y
  | _ :: xs, _, _, _, x, y => by
    simp only [VRs, List.cons_append] at x ⊢
    obtain ⟨v, r, rfl, h1, h2⟩ := x
    exact ⟨v, r ++ _, rfl, h1, h2.append y⟩
theorem VRs.snoc {P ok h} {xs : List V} {vs : List Value} {x : V} {v : Value} (a : VRs P ok h xs vs) (b : VR P ok h x v) : VRs P ok h (xs ++ [x]) (vs ++ [v]) :=
  a.append (by simp only [VRs]; exact ⟨v, [], rfl, b, rfl⟩)

/-- the pool -/
noncomputable def PoolAt (P : Option Addr) (p : List Int) (h : Heap) : Prop := ∀ a, P = some a → ∃ vs, h.PlainList a (vs : List Value).toArray ∧ VRs P (fun _ => False) h (p.map V.int) vs

structure Stp (P : Option Addr) (s s' : Shared) : Prop where
  keep : ∀ b o, some b ≠ P → s.heap.get? b = some o → s'.heap.get? b = some o
  same : s' = { s with heap := s'.heap, toks := s'.toks }

theorem Stp.refl {P s} : Stp P s s := ⟨fun _ _ _ e => e, rfl⟩
theorem Stp.toks {P s} (k : Nat) : Stp P s { s with toks := k } := ⟨fun _ _ _ e => e, rfl⟩
theorem Stp.trans {P s s' s''} (x : Stp P s s') (y : Stp P s' s'') : Stp P s s'' :=
  ⟨fun b o n e => y.keep b o n (x.keep b o n e), by rw [y.same, x.same]⟩
theorem Stp.heap {P s} {h' : Heap} {k : Nat} (hk : ∀ b o, some b ≠ P → s.heap.get? b = some o → h'.get? b = some o) : Stp P s { s with heap := h', toks := k } := ⟨hk, rfl⟩
theorem Stp.fresh {P s s' p a} (st : Stp P s s') (hp : PoolAt P p s'.heap) (h : s'.heap.get? a = none) : s.heap.get? a = none := by
  cases e : s.heap.get? a with
  | none => rfl
  | some o =>
    by_cases q : some a = P
    · obtain ⟨vs, ⟨k, e2⟩, _⟩ := hp a q.symm
      rw [h] at e2; cases e2
    · rw [st.keep a o q e] at h; cases h
theorem get_size (h : Heap) : h.get? h.objs.size = none := by
  cases e : h.get? h.objs.size with
  | none => rfl
  | some o => exact absurd (Heap.lt_size e) (Nat.lt_irrefl _)

noncomputable def OkA (n : Nat) (A : Around) : Prop := A.handled = none ∧ A.depth + 8 * n ≤ 900 ∧ A.units + 400 * n ≤ 9000
theorem OkA.of_le {n m A} (x : OkA n A) (h : m ≤ n) : OkA m A := ⟨x.1, by have := x.2.1; omega, by have := x.2.2; omega⟩
theorem OkA.in1 {n A} (x : OkA (n + 1) A) : OkA n A.in1 := ⟨x.1, by have := x.2.1; show A.depth + 8 * n ≤ 900; omega, by have := x.2.2; show A.units + 1 + 400 * n ≤ 9000; omega⟩
theorem OkA.room {n A} (x : OkA n A) : A.depth < recursionLimit := by have := x.2.1; unfold recursionLimit; omega
theorem OkA.units {n A} (x : OkA n A) : A.units < cLine := by have := x.2.2; unfold cLine; omega
theorem OkA.deeper {n A env} (x : OkA (n + 1) A) : OkA n (A.deeper env) := ⟨x.1, by have := x.2.1; show A.depth + 1 + 8 * n ≤ 900; omega, by have := x.2.2; show A.units + 3 + 400 * n ≤ 9000; omega⟩

section
variable (prog : Program) (w : World) (g₀ : Heap)

/-- where a name's value lies -/
noncomputable def Rd (P : Option Addr) (env : Env) (x : Str) (val : Value) (h : Heap) : Prop :=
  env.scope.kind = .function ∧ ((env.kindOf x = some .local ∧ some env.locals ≠ P ∧ ∃ m, h.Ns env.locals m ∧ m x = some val) ∨
    ((env.kindOf x = some .cell ∨ (env.kindOf x = some .free ∧ (x == ("__classdict__" : Str)) = false)) ∧ ∃ c, env.cells.lookup x = some c ∧ some c ≠ P ∧ h.IsCell c (some val)))

theorem Rd.keepH {P env x val} {h h' : Heap} (r : Rd P env x val h) (st : ∀ b o, some b ≠ P → h.get? b = some o → h'.get? b = some o) : Rd P env x val h' := by
  obtain ⟨hk, ⟨h1, h2, m, hn, hm⟩ | ⟨h1, c, h2, h3, o, ho, hd⟩⟩ := r
  · exact ⟨hk, .inl ⟨h1, h2, m, hn.at' fun o e => st _ o h2 e, hm⟩⟩
  · exact ⟨hk, .inr ⟨h1, c, h2, h3, o, st c o h3 ho, hd⟩⟩
theorem Rd.keep {P env x val} {s s' : Shared} (r : Rd P env x val s.heap) (st : Stp P s s') : Rd P env x val s'.heap := r.keepH st.keep
theorem Rd.ld {prog w P env x val A E} {s : Shared} {Q : Value → Shared → Prop} (r : Rd P env x val s.heap) (h : Q val s) : wpAny (model prog w) A (loadName env x) Q E s := by
  obtain ⟨hk, ⟨h1, h2, m, hn, hm⟩ | ⟨h1 | ⟨h1, hc⟩, c, h2, h3, h4⟩⟩ := r
  · exact wpAny_loadName_local hk h1 hn hm h
  · exact wpAny_loadName_cell hk h1 h2 h4 h
  · exact wpAny_loadName_free hk h1 h2 h4 h hc

structure St0 (P : Option Addr) (p : List Int) (ok : Addr → Prop) (h : Heap) : Prop where
  base : ∀ b o, g₀.get? b = some o → h.get? b = some o
  pbase : ∀ a, P = some a → g₀.get? a = none
  okP : ∀ a, ok a → some a ≠ P
  pool : PoolAt P p h
structure St (env : Env) (P : Option Addr) (ρ : Str → Option V) (p : List Int) (ok : Addr → Prop) (h : Heap) : Prop extends St0 g₀ P p ok h where
  vars : ∀ x v, ρ x = some v → ∃ val, VR P ok h v val ∧ Rd P env x val h

theorem St0.step {g₀ P p p' ok} {s s' : Shared} (x : St0 g₀ P p ok s.heap) (st : Stp P s s') (hp : PoolAt P p' s'.heap) : St0 g₀ P p' ok s'.heap where
  base := fun b o e => st.keep b o (fun q => by have := x.pbase b q.symm; rw [e] at this; cases this) (x.base b o e)
  pbase := x.pbase
  okP := x.okP
  pool := hp
theorem St.step {g₀ env P ρ p p' ok} {s s' : Shared} (x : St g₀ env P ρ p ok s.heap) (st : Stp P s s') (hp : PoolAt P p' s'.heap) : St g₀ env P ρ p' ok s'.heap where
  base := fun b o e => st.keep b o (fun q => by have := x.pbase b q.symm; rw [e] at this; cases this) (x.base b o e)
  pbase := x.pbase
  okP := x.okP
  pool := hp
  vars := fun y v e => let ⟨val, a, b⟩ := x.vars y v e; ⟨val, a.mono (fun a o oka e => st.keep a o (x.okP a oka) e) fun _ y => y, b.keep st⟩

/-- what a value may hold on to behind an evaluation from s -/
noncomputable def Out (fr : Bool) (ok : Addr → Prop) (s : Shared) (a : Addr) : Prop := s.heap.get? a = none ∨ (fr = false ∧ ok a)

noncomputable def PE0 (n : Nat) (env : Env) (P : Option Addr) (ρ : Str → Option V) (p : List Int) (e : Expr) (fr : Bool) (v : V) (p' : List Int) : Prop :=
  ∀ (A : Around) (E : Value → Shared → Prop) (Q : Value → Shared → Prop) (s : Shared) (ok : Addr → Prop), OkA n A → St g₀ env P ρ p ok s.heap →
    (∀ val s', Stp P s s' → PoolAt P p' s'.heap → VR P (Out fr ok s) s'.heap v val → Q val s') → wpAny (model prog w) A (eval e env) Q E s
structure PE (n : Nat) (env : Env) (P : Option Addr) (ρ : Str → Option V) (p : List Int) (e : Expr) (fr : Bool) (v : V) (p' : List Int) : Prop where
  run : PE0 prog w g₀ n env P ρ p e fr v p'
instance {n : Nat} {env : Env} {P : Option Addr} {ρ : Str → Option V} {p : List Int} {e : Expr} {fr : Bool} {v : V} {p' : List Int} : CoeFun (PE prog w g₀ n env P ρ p e fr v p') (fun _ => PE0 prog w g₀ n env P ρ p e fr v p') := ⟨fun x => x.run⟩

/-- a test -/
noncomputable def PT0 (n : Nat) (env : Env) (P : Option Addr) (ρ : Str → Option V) (p : List Int) (e : Expr) (b : Bool) (p' : List Int) : Prop :=
  ∀ (A : Around) (E : Value → Shared → Prop) (Q : Bool → Shared → Prop) (s : Shared) (ok : Addr → Prop), OkA n A → St g₀ env P ρ p ok s.heap →
    (∀ s', Stp P s s' → PoolAt P p' s'.heap → Q b s') → wpAny (model prog w) A (PySem.isTrue e env (eval e env)) Q E s
structure PT (n : Nat) (env : Env) (P : Option Addr) (ρ : Str → Option V) (p : List Int) (e : Expr) (b : Bool) (p' : List Int) : Prop where
  run : PT0 prog w g₀ n env P ρ p e b p'
instance {n : Nat} {env : Env} {P : Option Addr} {ρ : Str → Option V} {p : List Int} {e : Expr} {b : Bool} {p' : List Int} : CoeFun (PT prog w g₀ n env P ρ p e b p') (fun _ => PT0 prog w g₀ n env P ρ p e b p') := ⟨fun x => x.run⟩

/-- the arguments of a call or the elements of a display -/
noncomputable def PEs0 (n : Nat) (env : Env) (P : Option Addr) (ρ : Str → Option V) (p : List Int) (es : List Expr) (fr : Bool) (vs : List V) (p' : List Int) : Prop :=
  ∀ (pos : Pos) (A : Around) (E : Value → Shared → Prop) (Q : List Value → Shared → Prop) (s : Shared) (ok : Addr → Prop), OkA n A → St g₀ env P ρ p ok s.heap →
    (∀ vals s', Stp P s s' → PoolAt P p' s'.heap → VRs P (Out fr ok s) s'.heap vs vals → Q vals s') → wpAny (model prog w) A (spliced (backTo pos (starEach es env))) Q E s
structure PEs (n : Nat) (env : Env) (P : Option Addr) (ρ : Str → Option V) (p : List Int) (es : List Expr) (fr : Bool) (vs : List V) (p' : List Int) : Prop where
  run : PEs0 prog w g₀ n env P ρ p es fr vs p'
instance {n : Nat} {env : Env} {P : Option Addr} {ρ : Str → Option V} {p : List Int} {es : List Expr} {fr : Bool} {vs : List V} {p' : List Int} : CoeFun (PEs prog w g₀ n env P ρ p es fr vs p') (fun _ => PEs0 prog w g₀ n env P ρ p es fr vs p') := ⟨fun x => x.run⟩

end

section
variable {prog : Program} {w : World} {g₀ : Heap} {n : Nat} {env : Env} {P : Option Addr} {ρ : Str → Option V} {p p' p'' p₁ p₂ : List Int} {fr : Bool}

theorem PoolAt.live {h : Heap} (x : PoolAt P p h) : ∀ a, P = some a → h.get? a ≠ none := fun a e q => by
  obtain ⟨_, ⟨_, h1⟩, _⟩ := x a e
  rw [q] at h1; cases h1
theorem Out.keep {ok : Addr → Prop} {s s' s'' : Shared} {fr} (okP : ∀ a, ok a → some a ≠ P) (hp : PoolAt P p s.heap) (st' : Stp P s' s'') : ∀ a o, Out fr ok s a → s'.heap.get? a = some o → s''.heap.get? a = some o :=
  fun a o x e => st'.keep a o (fun q => by
    rcases x with x | x
    · exact hp.live a q.symm x
    · exact okP a x.2 q) e
theorem Out.after {ok : Addr → Prop} {s s' : Shared} {fr} (st : Stp P s s') (hp : PoolAt P p s'.heap) : ∀ a, Out fr ok s' a → Out fr ok s a := fun a x => x.elim (fun y => .inl (st.fresh hp y)) .inr

theorem PoolAt.toks {s : Shared} {k : Nat} (x : PoolAt P p s.heap) : PoolAt P p ({ s with toks := k } : Shared).heap := x

theorem PE.le {m e v} (x : PE prog w g₀ m env P ρ p e fr v p') (h : m ≤ n) : PE prog w g₀ n env P ρ p e fr v p' := .mk fun A E Q s ok hA S hQ => x A E Q s ok (hA.of_le h) S hQ
theorem PE.loose {e v} (x : PE prog w g₀ n env P ρ p e true v p') : PE prog w g₀ n env P ρ p e fr v p' := .mk fun A E Q s ok hA S hQ =>
  x A E Q s ok hA S fun val s' st hp r => hQ val s' st hp (r.mono (fun _ _ _ e => e) fun a x => x.elim .inl fun y => by simp at y)
theorem PE.sc {e v fr'} (x : PE prog w g₀ n env P ρ p e fr' v p') (hs : v.scalar = true := by rfl) : PE prog w g₀ n env P ρ p e fr v p' := .mk fun A E Q s ok hA S hQ =>
  x A E Q s ok hA S fun val s' st hp r => hQ val s' st hp ((VR.scalar hs).mpr ((VR.scalar hs).mp r))

/-- names -/
theorem pe_name {x pos v} (h : ρ x = some v) (hd : (x == ("__debug__" : Str)) = false := by decide) : PE prog w g₀ n env P ρ p (.Name x pos) false v p := .mk fun A E Q s ok hA S hQ => by
  obtain ⟨val, hv, r⟩ := S.vars x v h
  refine wpAny_Name (r.ld (hQ val s .refl S.pool (hv.mono (fun _ _ _ e => e) fun _ x => .inr ⟨rfl, x⟩))) hd

/-- constants -/
theorem pe_const {c k pos v} (h : ∀ (A : Around) (E : Value → Shared → Prop) (Q : Value → Shared → Prop) (s : Shared), (∀ t k, Q (v.val t) { s with toks := k }) → wpAny (model prog w) A (constValue env c) Q E s) (hs : v.scalar = true) :
    PE prog w g₀ n env P ρ p (.Constant c k pos) fr v p := .mk fun A E Q s ok hA S hQ => by
  refine h A E Q s fun t k => hQ _ _ (.toks k) S.pool (VR.of_val hs t)
theorem pe_int {i k pos} : PE prog w g₀ n env P ρ p (.Constant (.int i) k pos) fr (.int i) p := pe_const (fun A E Q s h Γ p _ => h _ _) rfl
theorem pe_str {x k pos} : PE prog w g₀ n env P ρ p (.Constant (.str x) k pos) fr (.str x) p := pe_const (fun A E Q s h Γ p _ => h _ _) rfl
theorem pe_bool {b k pos} : PE prog w g₀ n env P ρ p (.Constant (.bool b) k pos) fr (.bool b) p := pe_const (fun A E Q s h Γ p _ => h 0 s.toks) rfl
theorem pe_none {k pos} : PE prog w g₀ n env P ρ p (.Constant .none k pos) fr .none p := pe_const (fun A E Q s h Γ p _ => h 0 s.toks) rfl

/-- two values one after the other -/
theorem two {α : Type} {l r : Expr} {a b : V} (ha : PE prog w g₀ n env P ρ p l false a p₁) (hb : PE prog w g₀ n env P ρ p₁ r false b p₂)
    {A : Around} {E : Value → Shared → Prop} {Q : α → Shared → Prop} {k : Value → Value → Sem α} {s : Shared} {ok : Addr → Prop} (hA : OkA n A) (S : St g₀ env P ρ p ok s.heap)
    (h : ∀ va vb s', Stp P s s' → PoolAt P p₂ s'.heap → VR P (Out false ok s) s'.heap a va → VR P (Out false ok s) s'.heap b vb → wpAny (model prog w) A (k va vb) Q E s') :
    wpAny (model prog w) A (eval l env) (fun va s₁ => wpAny (model prog w) A (eval r env) (fun vb s₂ => wpAny (model prog w) A (k va vb) Q E s₂) E s₁) E s := by
  refine ha _ _ _ _ _ hA S fun va s₁ st₁ hp₁ ra => hb _ _ _ _ _ hA (S.step st₁ hp₁) fun vb s₂ st₂ hp₂ rb => ?_
  exact h va vb s₂ (st₁.trans st₂) hp₂ (ra.mono (Out.keep S.okP S.pool st₂) fun _ x => x)
    (rb.mono (fun _ _ _ e => e) (Out.after st₁ hp₁))

noncomputable def Bin0 (prog : Program) (w : World) (op : Operator) (a b r : V) : Prop :=
  ∀ (A : Around) (E : Value → Shared → Prop) (Q : Value → Shared → Prop) (s : Shared) (t u : Tok), (∀ t' k, Q (r.val t') { s with toks := k }) → wpAny (model prog w) A (binaryOp op (a.val t) (b.val u)) Q E s
structure Bin (prog : Program) (w : World) (op : Operator) (a b r : V) : Prop where
  run : Bin0 prog w op a b r
instance {prog : Program} {w : World} {op : Operator} {a b r : V} : CoeFun (Bin prog w op a b r) (fun _ => Bin0 prog w op a b r) := ⟨fun x => x.run⟩

theorem pe_bin {l r : Expr} {op pos} {a b c : V} (ha : PE prog w g₀ n env P ρ p l false a p₁) (hb : PE prog w g₀ n env P ρ p₁ r false b p₂) (h : Bin prog w op a b c)
    (h1 : a.scalar = true := by rfl) (h2 : b.scalar = true := by rfl) (h3 : c.scalar = true := by rfl) : PE prog w g₀ n env P ρ p (.BinOp l op r pos) fr c p₂ := .mk fun A E Q s ok hA S hQ => by
  refine wpAny_BinOp (two ha hb hA S fun va vb s' st hp ra rb => ?_)
  obtain ⟨t, rfl⟩ := (VR.scalar h1).mp ra
  obtain ⟨u, rfl⟩ := (VR.scalar h2).mp rb
  exact h A E Q s' t u fun t' k => hQ _ _ (st.trans (.toks k)) hp (VR.of_val h3 t')

theorem bin_add {a b : Int} : Bin prog w .Add (.int a) (.int b) (.int (a + b)) := .mk fun _ _ _ _ _ _ h => add_int (h _ _)
theorem bin_sub {a b : Int} : Bin prog w .Sub (.int a) (.int b) (.int (a - b)) := .mk fun _ _ _ _ _ _ h => sub_int (h _ _)
theorem bin_mod {a b : Int} (hb : b ≠ 0) : Bin prog w .Mod (.int a) (.int b) (.int (a.fmod b)) := .mk fun _ _ _ _ _ _ h => mod_int' hb (h _ _)
theorem bin_div {a b : Int} (hb : b ≠ 0) (hp : Builtin.divisionGoesByPylong a b = false) : Bin prog w .FloorDiv (.int a) (.int b) (.int (a.fdiv b)) := .mk fun _ _ _ _ _ _ h => floordiv_int hb (h _ _) (.inl hp)
end
end Mine
end

section
open PySem PySem.W PyProof.Rows PySem.Calls
set_option Elab.async false
set_option linter.all false
set_option maxRecDepth 100000
namespace Mine
section
variable {prog : Program} {w : World} {g₀ : Heap} {n : Nat} {env : Env} {P : Option Addr} {ρ : Str → Option V} {p p' p'' p₁ p₂ : List Int} {fr : Bool}

/-! truth -/
noncomputable def Truth0 (prog : Program) (w : World) (v : V) (b : Bool) : Prop :=
  ∀ (A : Around) (E : Value → Shared → Prop) (Q : Bool → Shared → Prop) (s : Shared) (t : Tok), (∀ k, Q b { s with toks := k }) → wpAny (model prog w) A (truthy (v.val t)) Q E s
structure Truth (prog : Program) (w : World) (v : V) (b : Bool) : Prop where
  run : Truth0 prog w v b
instance {prog : Program} {w : World} {v : V} {b : Bool} : CoeFun (Truth prog w v b) (fun _ => Truth0 prog w v b) := ⟨fun x => x.run⟩
theorem truth_bool {b : Bool} : Truth prog w (.bool b) b := .mk fun _ _ _ s _ h => wpAny_truthy_bool (h s.toks)
theorem truth_none : Truth prog w .none false := .mk fun _ _ _ s _ h => truthy_none (h s.toks)
theorem truth_int {i : Int} : Truth prog w (.int i) (i != 0) := .mk fun _ _ _ s _ h => P.truthy_int (h s.toks)
theorem truth_str {x : Str} (hx : x.length ≤ sizeLine) : Truth prog w (.str x) ((x.length : Int) != 0) := .mk fun _ _ _ s _ h => P.truthy_str (by unfold sizeLine at hx; omega) (h _)

theorem pt_plain {e v b} (he : PE prog w g₀ n env P ρ p e false v p') (ht : Truth prog w v b) (hs : v.scalar = true := by rfl)
    (hw : ∀ whole, PySem.isTrue e env whole = (whole >>= fun v => standAt e.pos >>= fun _ => holding [v] (truthy v)) := by intro _; rfl) : PT prog w g₀ n env P ρ p e b p' := .mk fun A E Q s ok hA S hQ => by
  refine isTrue_plain (he A E _ s ok hA S fun val s' st hp r => ?_) (hw _)
  obtain ⟨t, rfl⟩ := (VR.scalar hs).mp r
  exact ht A E Q s' t fun k => hQ _ (st.trans (.toks k)) hp

theorem pt_not {e b pos} (h : PT prog w g₀ n env P ρ p e b p') : PT prog w g₀ n env P ρ p (.UnaryOp .Not e pos) (!b) p' := .mk fun A E Q s ok hA S hQ =>
  isTrue_not (h A E _ s ok hA S hQ)

theorem pt_and_nil {pos} : PT prog w g₀ n env P ρ p (.BoolOp .And [] pos) true p := .mk fun A E Q s ok hA S hQ => isTrue_and_nil (hQ s .refl S.pool)
theorem pt_or_nil {pos} : PT prog w g₀ n env P ρ p (.BoolOp .Or [] pos) false p := .mk fun A E Q s ok hA S hQ => isTrue_or_nil (hQ s .refl S.pool)

theorem whole_irrel {op vs pos env} {a b : Sem Value} : PySem.isTrue (.BoolOp op vs pos) env a = PySem.isTrue (.BoolOp op vs pos) env b := rfl

/-- both sides, no effect on the pool in the second -/
theorem pt_and {e rest pos b c} (h : PT prog w g₀ n env P ρ p e b p₁) (hr : b = true → PT prog w g₀ n env P ρ p₁ (.BoolOp .And rest pos) c p') (h2 : b = false → c = false ∧ p' = p₁) : PT prog w g₀ n env P ρ p (.BoolOp .And (e :: rest) pos) (b && c) p' := .mk fun A E Q s ok hA S hQ => by
  refine isTrue_and (h A E _ s ok hA S fun s' st hp => ?_)
  cases b with
  | true =>
    rw [if_pos rfl]
    exact hr rfl A E _ s' ok hA (S.step st hp) fun s'' st' hp' => hQ s'' (st.trans st') hp'
  | false =>
    rw [if_neg (by decide)]
    obtain ⟨rfl, rfl⟩ := h2 rfl
    exact hQ s' st hp
theorem pt_or {e rest pos b c} (h : PT prog w g₀ n env P ρ p e b p₁) (hr : b = false → PT prog w g₀ n env P ρ p₁ (.BoolOp .Or rest pos) c p') (h2 : b = true → c = true ∧ p' = p₁) : PT prog w g₀ n env P ρ p (.BoolOp .Or (e :: rest) pos) (b || c) p' := .mk fun A E Q s ok hA S hQ => by
  refine isTrue_or (h A E _ s ok hA S fun s' st hp => ?_)
  cases b with
  | true =>
    rw [if_pos rfl]
    obtain ⟨rfl, rfl⟩ := h2 rfl
    exact hQ s' st hp
  | false =>
    rw [if_neg (by decide)]
    exact hr rfl A E _ s' ok hA (S.step st hp) fun s'' st' hp' => hQ s'' (st.trans st') hp'
/-- simple forms: the pool does not turn and every side can be asked -/
theorem pt_and' {e rest pos b c} (h : PT prog w g₀ n env P ρ p e b p) (hr : PT prog w g₀ n env P ρ p (.BoolOp .And rest pos) c p) : PT prog w g₀ n env P ρ p (.BoolOp .And (e :: rest) pos) (b && c) p := .mk fun A E Q s ok hA S hQ => by
  refine isTrue_and (h A E _ s ok hA S fun s' st hp => ?_)
  cases b with
  | true => rw [if_pos rfl]; exact hr A E _ s' ok hA (S.step st hp) fun s'' st' hp' => hQ s'' (st.trans st') hp'
  | false => rw [if_neg (by decide)]; exact hQ s' st hp
theorem pt_or' {e rest pos b c} (h : PT prog w g₀ n env P ρ p e b p) (hr : PT prog w g₀ n env P ρ p (.BoolOp .Or rest pos) c p) : PT prog w g₀ n env P ρ p (.BoolOp .Or (e :: rest) pos) (b || c) p := .mk fun A E Q s ok hA S hQ => by
  refine isTrue_or (h A E _ s ok hA S fun s' st hp => ?_)
  cases b with
  | true => rw [if_pos rfl]; exact hQ s' st hp
  | false => rw [if_neg (by decide)]; exact hr A E _ s' ok hA (S.step st hp) fun s'' st' hp' => hQ s'' (st.trans st') hp'

/-! conditional expressions -/
theorem pe_if {t b o pos c v} (ht : PT prog w g₀ n env P ρ p t c p₁) (h1 : c = true → PE prog w g₀ n env P ρ p₁ b fr v p') (h2 : c = false → PE prog w g₀ n env P ρ p₁ o fr v p') :
    PE prog w g₀ n env P ρ p (.IfExp t b o pos) fr v p' := .mk fun A E Q s ok hA S hQ => by
  refine wpAny_IfExp (ht A E _ s ok hA S fun s' st hp => ?_)
  have fin : ∀ {e}, PE prog w g₀ n env P ρ p₁ e fr v p' → wpAny (model prog w) A (eval e env) Q E s' := fun h =>
    h A E Q s' ok hA (S.step st hp) fun val s'' st' hp' r => hQ val s'' (st.trans st') hp' (r.mono (fun _ _ _ e => e) (Out.after st hp))
  cases c with
  | true => rw [if_pos rfl]; exact fin (h1 rfl)
  | false => rw [if_neg (by decide)]; exact fin (h2 rfl)

/-! comparisons -/
noncomputable def Cmp0 (prog : Program) (w : World) (op : CmpOp) (a b r : V) : Prop :=
  ∀ (A : Around) (E : Value → Shared → Prop) (Q : Value → Shared → Prop) (s : Shared) (P : Option Addr) (ok : Addr → Prop) (va vb : Value), OkA 1 A → VR P ok s.heap a va → VR P ok s.heap b vb → (∀ t' k, Q (r.val t') { s with toks := k }) → wpAny (model prog w) A (compareOp op va vb) Q E s
structure Cmp (prog : Program) (w : World) (op : CmpOp) (a b r : V) : Prop where
  run : Cmp0 prog w op a b r
instance {prog : Program} {w : World} {op : CmpOp} {a b r : V} : CoeFun (Cmp prog w op a b r) (fun _ => Cmp0 prog w op a b r) := ⟨fun x => x.run⟩
/-- scalars alone -/
noncomputable def CmpS0 (prog : Program) (w : World) (op : CmpOp) (a b r : V) : Prop :=
  ∀ (A : Around) (E : Value → Shared → Prop) (Q : Value → Shared → Prop) (s : Shared) (t u : Tok), (∀ t' k, Q (r.val t') { s with toks := k }) → wpAny (model prog w) A (compareOp op (a.val t) (b.val u)) Q E s
structure CmpS (prog : Program) (w : World) (op : CmpOp) (a b r : V) : Prop where
  run : CmpS0 prog w op a b r
instance {prog : Program} {w : World} {op : CmpOp} {a b r : V} : CoeFun (CmpS prog w op a b r) (fun _ => CmpS0 prog w op a b r) := ⟨fun x => x.run⟩
theorem CmpS.cmp {op a b r} (h : CmpS prog w op a b r) (h1 : a.scalar = true := by rfl) (h2 : b.scalar = true := by rfl) : Cmp prog w op a b r := .mk fun A E Q s P ok va vb _ ra rb hQ => by
  obtain ⟨t, rfl⟩ := (VR.scalar h1).mp ra
  obtain ⟨u, rfl⟩ := (VR.scalar h2).mp rb
  exact h A E Q s t u hQ

theorem pe_cmp {l r : Expr} {op pos} {a b c : V} (ha : PE prog w g₀ (n + 1) env P ρ p l false a p₁) (hb : PE prog w g₀ (n + 1) env P ρ p₁ r false b p₂) (h : Cmp prog w op a b c)
    (h3 : c.scalar = true := by rfl) (hm : behindInMarks op r = false := by rfl) : PE prog w g₀ (n + 1) env P ρ p (.Compare l [op] [r] pos) fr c p₂ := .mk fun A E Q s ok hA S hQ => by
  refine wpAny_Compare1 (two ha hb hA S fun va vb s' st hp ra rb => ?_) hm
  exact h A E Q s' P _ va vb (hA.of_le (by omega)) ra rb fun t' k => hQ _ _ (st.trans (.toks k)) hp (VR.of_val h3 t')
theorem pt_cmp {l r : Expr} {op pos} {a b : V} {c : Bool} (ha : PE prog w g₀ (n + 1) env P ρ p l false a p₁) (hb : PE prog w g₀ (n + 1) env P ρ p₁ r false b p₂) (h : Cmp prog w op a b (.bool c))
    (hm : behindInMarks op r = false := by rfl) : PT prog w g₀ (n + 1) env P ρ p (.Compare l [op] [r] pos) c p₂ := .mk fun A E Q s ok hA S hQ => by
  refine wpAny_isTrue_Compare1 (two ha hb hA S fun va vb s' st hp ra rb => ?_) hm
  exact h A E _ s' P _ va vb (hA.of_le (by omega)) ra rb fun t' k => wpAny_truthy_bool (hQ _ (st.trans (.toks k)) hp)

/-- a chain of two -/
theorem pt_cmp2 {l m r : Expr} {op₁ op₂ pos} {a b c : V} {x y : Bool} (ha : PE prog w g₀ (n + 1) env P ρ p l false a p) (hb : PE prog w g₀ (n + 1) env P ρ p m false b p) (hc : PE prog w g₀ (n + 1) env P ρ p r false c p)
    (h1 : CmpS prog w op₁ a b (.bool x)) (h2 : CmpS prog w op₂ b c (.bool y)) (s1 : a.scalar = true := by rfl) (s2 : b.scalar = true := by rfl) (s3 : c.scalar = true := by rfl)
    (hm : lastMarks [op₁, op₂] [m, r] = false := by rfl) : PT prog w g₀ (n + 1) env P ρ p (.Compare l [op₁, op₂] [m, r] pos) (x && y) p := .mk fun A E Q s ok hA S hQ => by
  refine isTrue_chain (ha A E _ s ok hA S fun va s₁ st₁ hp₁ ra => ?_) hm
  obtain ⟨t, rfl⟩ := (VR.scalar s1).mp ra
  show wpAny _ A (do
    let rv ← holding [a.val t] (eval m env)
    standAt pos
    let c ← holding [a.val t, rv] (compareOp op₁ (a.val t) rv)
    release [a.val t, rv] [c]
    if ← holding [c, rv] (truthy c) then testChain pos rv [op₂] [eval r env] else pure false) Q E s₁
  refine wpAny_bind (wpAny_holding (hb A E _ s₁ ok hA (S.step st₁ hp₁) fun vb s₂ st₂ hp₂ rb => ?_))
  obtain ⟨u, rfl⟩ := (VR.scalar s2).mp rb
  refine wpAny_bind (wpAny_standAt (wpAny_bind (wpAny_holding (h1 A E _ s₂ t u fun t' k => ?_))))
  refine wpAny_bind (wpAny_release (wpAny_bind (wpAny_holding (wpAny_truthy_bool ?_))))
  have S2 := (S.step st₁ hp₁).step st₂ hp₂
  cases x with
  | false => exact wpAny_pure (hQ _ ((st₁.trans st₂).trans (.toks k)) hp₂)
  | true =>
    rw [if_pos rfl]
    show wpAny _ A (do
      let rv ← holding [b.val u] (eval r env)
      standAt pos
      let c ← operate [b.val u, rv] (compareOp op₂ (b.val u) rv)
      holding [c] (truthy c)) Q E _
    refine wpAny_bind (wpAny_holding (hc A E _ _ ok hA (S2.step (.toks k) hp₂) fun vc s₃ st₃ hp₃ rc => ?_))
    obtain ⟨v, rfl⟩ := (VR.scalar s3).mp rc
    refine wpAny_bind (wpAny_standAt (wpAny_bind (wpAny_operating (h2 A E _ s₃ u v fun t'' k' => wpAny_holding (wpAny_truthy_bool ?_)))))
    exact hQ _ (((st₁.trans st₂).trans (.toks k)).trans (st₃.trans (.toks k'))) hp₃

theorem cmp_eq_int {a b : Int} : CmpS prog w .Eq (.int a) (.int b) (.bool (a == b)) := .mk fun _ _ _ s _ _ h => P.eq_int (h 0 s.toks)
theorem cmp_ne_int {a b : Int} : CmpS prog w .NotEq (.int a) (.int b) (.bool (a != b)) := .mk fun _ _ _ s _ _ h => P.ne_int (h 0 s.toks)
theorem cmp_lt_int {a b : Int} : CmpS prog w .Lt (.int a) (.int b) (.bool (decide (a < b))) := .mk fun _ _ _ s _ _ h => P.lt_int (h 0 s.toks)
theorem cmp_le_int {a b : Int} : CmpS prog w .LtE (.int a) (.int b) (.bool (decide (a ≤ b))) := .mk fun _ _ _ s _ _ h => P.le_int (h 0 s.toks)
theorem cmp_gt_int {a b : Int} : CmpS prog w .Gt (.int a) (.int b) (.bool (decide (a > b))) := .mk fun _ _ _ s _ _ h => P.gt_int (h 0 s.toks)
theorem cmp_ge_int {a b : Int} : CmpS prog w .GtE (.int a) (.int b) (.bool (decide (a ≥ b))) := .mk fun _ _ _ s _ _ h => P.ge_int (h 0 s.toks)
theorem cmp_eq_str {a b : Str} : CmpS prog w .Eq (.str a) (.str b) (.bool (a == b)) := .mk fun A E Q s t u h => by
  refine P.eq_str ?_
  have e : (a.cps.toList == b.cps.toList) = (a == b) := by
    cases a; cases b; rename_i a b
    by_cases q : a = b
    · subst q; simp
    · rw [beq_eq_false_iff_ne.mpr, beq_eq_false_iff_ne.mpr]
      · intro z; exact q (by cases z; rfl)
      · intro z; exact q (Array.toList_inj.mp z)
  rw [e]; exact h 0 s.toks
theorem cmp_ne_str {a b : Str} : CmpS prog w .NotEq (.str a) (.str b) (.bool (a != b)) := .mk fun A E Q s t u h => by
  refine P.ne_str ?_
  have e : (a.cps.toList != b.cps.toList) = (a != b) := by
    cases a; cases b; rename_i a b
    by_cases q : a = b
    · subst q; simp
    · rw [bne_iff_ne.mpr, bne_iff_ne.mpr]
      · intro z; exact q (by cases z; rfl)
      · intro z; exact q (Array.toList_inj.mp z)
  rw [e]; exact h 0 s.toks
theorem cmp_in_str {a b : Str} : CmpS prog w .In (.str a) (.str b) (.bool (Txt.contains b a)) := .mk fun _ _ _ s _ _ h => P.in_str (h 0 s.toks)
theorem cmp_notin_str {a b : Str} : CmpS prog w .NotIn (.str a) (.str b) (.bool (!Txt.contains b a)) := .mk fun _ _ _ s _ _ h => P.notIn_str (h 0 s.toks)

/-- `is None` -/
noncomputable def V.isNone : V → Bool
  | .none => true
  | _ => false
theorem cmp_is_none {a : V} (hs : a.scalar = true) : Cmp prog w .Is a .none (.bool a.isNone) := .mk fun A E Q s P ok va vb _ ra rb h => by
  obtain ⟨t, rfl⟩ := (VR.scalar hs).mp ra
  simp only [VR] at rb
  subst rb
  refine wpAny_is_plain (by cases a <;> first | rfl | cases hs) ?_
  have : ((a.val t) == Value.none) = a.isNone := by cases a <;> first | rfl | cases hs
  rw [this]; exact h 0 s.toks
theorem cmp_isnot_none {a : V} (hs : a.scalar = true) : Cmp prog w .IsNot a .none (.bool (!a.isNone)) := .mk fun A E Q s P ok va vb _ ra rb h => by
  obtain ⟨t, rfl⟩ := (VR.scalar hs).mp ra
  simp only [VR] at rb
  subst rb
  refine wpAny_isNot_plain (by cases a <;> first | rfl | cases hs) ?_
  have : ((a.val t) == Value.none) = a.isNone := by cases a <;> first | rfl | cases hs
  rw [this]; exact h 0 s.toks

/-! more arithmetic, texts -/
noncomputable def Un0 (prog : Program) (w : World) (op : UnaryOp) (a r : V) : Prop :=
  ∀ (A : Around) (E : Value → Shared → Prop) (Q : Value → Shared → Prop) (s : Shared) (t : Tok), (∀ t' k, Q (r.val t') { s with toks := k }) → wpAny (model prog w) A (unaryOp op (a.val t)) Q E s
structure Un (prog : Program) (w : World) (op : UnaryOp) (a r : V) : Prop where
  run : Un0 prog w op a r
instance {prog : Program} {w : World} {op : UnaryOp} {a r : V} : CoeFun (Un prog w op a r) (fun _ => Un0 prog w op a r) := ⟨fun x => x.run⟩
theorem pe_un {e op pos a c} (ha : PE prog w g₀ n env P ρ p e false a p') (h : Un prog w op a c) (h1 : a.scalar = true := by rfl) (h3 : c.scalar = true := by rfl) :
    PE prog w g₀ n env P ρ p (.UnaryOp op e pos) fr c p' := .mk fun A E Q s ok hA S hQ => by
  refine wpAny_UnaryOp (ha A E _ s ok hA S fun va s' st hp ra => ?_)
  obtain ⟨t, rfl⟩ := (VR.scalar h1).mp ra
  exact h A E _ s' t fun t' k => hQ _ _ (st.trans (.toks k)) hp (VR.of_val h3 t')
theorem un_neg {a : Int} : Un prog w .USub (.int a) (.int (-a)) := .mk fun _ _ _ _ _ h => P.neg_int (h _ _)
theorem un_not {a b} (h : Truth prog w a b) : Un prog w .Not a (.bool (!b)) := .mk fun A E Q s t hQ => not_of (h A E _ s t fun k => hQ 0 k)

theorem made_add {x y : Str} {t u : Tok} {s : Shared} {Q : Value → Shared → Prop} (hz : (x ++ y).length ≤ sizeLine) (h : ∀ t' k, Q (.str (x ++ y) t') { s with toks := k }) :
    (if x.length == 0 then Made.val (.str y u) else if y.length == 0 then Made.val (.str x t) else Made.str (x ++ y)).post Q s := by
  split
  · rename_i q
    rw [Str.append_left_empty q] at h
    exact h u s.toks
  · split
    · rename_i q
      rw [Str.append_right_empty q] at h
      exact h t s.toks
    · exact ⟨hz, h _ _⟩
theorem bin_cat {x y : Str} (hz : (x ++ y).length ≤ sizeLine) : Bin prog w .Add (.str x) (.str y) (.str (x ++ y)) := .mk fun _ _ _ _ _ _ h => P.add_str (made_add hz h)
theorem bin_rep {x : Str} {k : Int} (hok : MulOk x k) : Bin prog w .Mult (.str x) (.int k) (.str (Txt.mul x k)) := .mk fun _ _ _ _ _ _ h => SB.mul hok h
end
end Mine
end

section
open PySem PySem.W PyProof.Rows PySem.Calls
set_option Elab.async false
set_option linter.all false
set_option maxRecDepth 100000
namespace Mine
section
variable {prog : Program} {w : World} {g₀ : Heap} {n : Nat} {env : Env} {P : Option Addr} {ρ : Str → Option V} {p p' p'' p₁ p₂ : List Int} {fr : Bool}

/-! arguments -/
theorem pes_nil : PEs prog w g₀ n env P ρ p [] fr [] p := .mk fun pos A E Q s ok hA S hQ => spliced_nil (hQ [] s .refl S.pool (by simp only [VRs]))
theorem pes_cons {e rest v vs} (h1 : PE prog w g₀ n env P ρ p e fr v p₁) (h2 : PEs prog w g₀ n env P ρ p₁ rest fr vs p₂) (hs : starEach (e :: rest) env = (false, eval e env) :: starEach rest env := by rfl) :
    PEs prog w g₀ n env P ρ p (e :: rest) fr (v :: vs) p₂ := .mk fun pos A E Q s ok hA S hQ => by
  rw [hs]
  show wpAny _ A (spliced ((false, eval e env) :: backTo pos (starEach rest env))) Q E s
  refine spliced_cons (h1 A E _ s ok hA S fun val s₁ st₁ hp₁ r₁ => h2 pos A E _ s₁ ok hA (S.step st₁ hp₁) fun vals s₂ st₂ hp₂ r₂ => ?_)
  refine hQ _ s₂ (st₁.trans st₂) hp₂ ?_
  simp only [VRs]
  exact ⟨val, vals, rfl, r₁.mono (Out.keep S.okP S.pool st₂) fun _ x => x, r₂.mono (fun _ _ _ e => e) (Out.after st₁ hp₁)⟩

theorem PEs.loose {es vs} (x : PEs prog w g₀ n env P ρ p es true vs p') : PEs prog w g₀ n env P ρ p es fr vs p' := .mk fun pos A E Q s ok hA S hQ =>
  x pos A E Q s ok hA S fun val s' st hp r => hQ val s' st hp (r.mono (fun _ _ _ e => e) fun a x => x.elim .inl fun y => by simp at y)

noncomputable def plainArgs : List Expr → Bool
  | [] => true
  | .Starred _ _ :: _ => false
  | _ :: r => plainArgs r

/-! calls of built-ins: nothing that stands is changed -/
noncomputable def BI0 (prog : Program) (w : World) (f : Value) (vs : List V) (r : V) : Prop :=
  ∀ (A : Around) (E : Value → Shared → Prop) (Q : Value → Shared → Prop) (s : Shared) (P : Option Addr) (ok : Addr → Prop) (vals : List Value), OkA 1 A → VRs P ok s.heap vs vals →
    (∀ val s', Stp none s s' → VR none (fun a => s.heap.get? a = none) s'.heap r val → Q val s') → wpAny (model prog w) A (call f vals) Q E s
structure BI (prog : Program) (w : World) (f : Value) (vs : List V) (r : V) : Prop where
  run : BI0 prog w f vs r
instance {prog : Program} {w : World} {f : Value} {vs : List V} {r : V} : CoeFun (BI prog w f vs r) (fun _ => BI0 prog w f vs r) := ⟨fun x => x.run⟩

mutual
theorem VR.anyP {P ok h} : ∀ {v : V} {val : Value}, VR none ok h v val → VR P ok h v val
  | .none, _, x => by simpa only [VR] using x
  | .bool _, _, x => by simpa only [VR] using x
  | .int _, _, x => by simpa only [VR] using x
  | .str _, _, x => by simpa only [VR] using x
  | .pool, _, x => by simp only [VR] at x; obtain ⟨a, h, _⟩ := x; cases h
  | .dict pw f m, _, x => by simpa only [VR] using x
  | .list xs, _, x => by
    simp only [VR] at x ⊢
    obtain ⟨a, vs, e, oka, hl, y⟩ := x
    exact ⟨a, vs, e, oka, hl, VRs.anyP y⟩
theorem VRs.anyP {P ok h} : ∀ {v : List V} {val : List Value}, VRs none ok h v val → VRs P ok h v val
  | [], _, x => by simpa only [VRs] using x
  | y :: ys, _, x => by
    simp only [VRs] at x ⊢
    obtain ⟨v, r, e, h1, h2⟩ := x
    exact ⟨v, r, e, VR.anyP h1, VRs.anyP h2⟩
end

theorem Stp.weak {s s' : Shared} (x : Stp none s s') : Stp P s s' := ⟨fun b o _ e => x.keep b o (by simp) e, x.same⟩
theorem PoolAt.keep {s s' : Shared} (x : PoolAt P p s.heap) (st : Stp none s s') : PoolAt P p s'.heap := fun a e => by
  obtain ⟨vs, ⟨k, hl⟩, r⟩ := x a e
  exact ⟨vs, ⟨k, st.keep _ _ (by simp) hl⟩, r.mono (fun a o f => f.elim) fun a f => f⟩

/-- a global name's value -/
noncomputable def Glb0 (prog : Program) (w : World) (g₀ : Heap) (x : Str) (f : Value) : Prop :=
  ∀ (env : Env) (pos : Pos) (A : Around) (E : Value → Shared → Prop) (Q : Value → Shared → Prop) (s : Shared), env.scope.kind = .function → env.kindOf x = some .globalImplicit → env.globals = mainGlobals → env.builtins = builtinsNs →
    (∀ b o, g₀.get? b = some o → s.heap.get? b = some o) → Q f s → wpAny (model prog w) A (eval (.Name x pos) env) Q E s
structure Glb (prog : Program) (w : World) (g₀ : Heap) (x : Str) (f : Value) : Prop where
  run : Glb0 prog w g₀ x f
instance {prog : Program} {w : World} {g₀ : Heap} {x : Str} {f : Value} : CoeFun (Glb prog w g₀ x f) (fun _ => Glb0 prog w g₀ x f) := ⟨fun x => x.run⟩

theorem h_nil {pos : Pos} {first : List Value} {A : Around} {E : Value → Shared → Prop} {Q : Value → Shared → Prop} {s : Shared} {f : Value} (h : wpAny (model prog w) A (spliced (backTo pos (starEach [] env))) (fun vs s₁ => wpAny (model prog w) A (call f (first ++ vs)) Q E s₁) E s) :
    wpAny (model prog w) A (call f (first ++ [])) Q E s := fun Γ p hΓ => (h Γ p hΓ : wpAny (model prog w) A (call f (first ++ [])) Q E s) Γ p hΓ

theorem call_plain_value {pos : Pos} {f : Value} {first : List Value} {args : List Expr} {A : Around} {E : Value → Shared → Prop} {Q : Value → Shared → Prop} {s : Shared} (hf : ∀ a, f ≠ .ref a)
    (hpl : (backTo pos (starEach args env)).any (·.1) = false)
    (h : wpAny (model prog w) A (spliced (backTo pos (starEach args env))) (fun vs s₁ => wpAny (model prog w) A (call f (first ++ vs)) Q E s₁) E s)
    (hne : args = [] ∨ ∃ x rest, backTo pos (starEach args env) = (false, x) :: rest := by first | exact .inl rfl | exact .inr ⟨_, _, rfl⟩) :
    wpAny (model prog w) A (callWith pos f first (backTo pos (starEach args env)) []) Q E s := by
  refine callWith_of (P := fun _ => True) (by rw [hpl]; rfl) (fun h _ => ⟨.machine, .inr (.inl rfl), ?_⟩) ?_
  · refine Looks.of_pure ?_
    cases f <;> first | rfl | exact absurd rfl (hf _)
  · rcases hne with rfl | ⟨x, rest, e⟩
    · refine evalArgs_nil3 ⟨trivial, ?_⟩
      exact h_nil h
    · rw [e] at h ⊢
      exact evalArgs_plain (wpAny_mono h (fun vs s₁ h₁ => ⟨trivial, h₁⟩) fun _ _ x => x)

theorem pe_bi {x : Str} {px pos args} {f : Value} {vs r} (hg : Glb prog w g₀ x f) (ha : PEs prog w g₀ (n + 1) env P ρ p args false vs p') (hb : BI prog w f vs r)
    (hf : ∀ a, f ≠ .ref a := by intro _ h; cases h) (hk : env.scope.kind = .function := by rfl) (hx : env.kindOf x = some .globalImplicit := by rfl) (h1 : env.globals = mainGlobals := by rfl) (h2 : env.builtins = builtinsNs := by rfl)
    (hpl : (backTo pos (starEach args env)).any (·.1) = false := by rfl)
    (hne : args = [] ∨ ∃ x rest, backTo pos (starEach args env) = (false, x) :: rest := by first | exact .inl rfl | exact .inr ⟨_, _, rfl⟩) :
    PE prog w g₀ (n + 1) env P ρ p (.Call (.Name x px) args [] pos) fr r p' := .mk fun A E Q s ok hA S hQ => by
  refine wpAny_Call_Name_kw (hg env px A E _ s hk hx h1 h2 S.base ?_)
  show wpAny _ A (callWith pos f [] (backTo pos (starEach args env)) []) Q E s
  refine call_plain_value hf hpl (ha pos A E _ s ok hA S fun vals s₁ st₁ hp₁ r₁ => ?_) hne
  refine hb A E Q s₁ P _ vals (hA.of_le (by omega)) r₁ fun val s₂ st₂ r₂ => ?_
  exact hQ val s₂ (st₁.trans st₂.weak) (hp₁.keep st₂) (r₂.anyP.mono (fun _ _ _ e => e) fun a x => .inl (st₁.fresh hp₁ x))

/-! methods of texts and lists -/
noncomputable def SelfIs (T : String) (a : V) : Prop := ∀ (P : Option Addr) (ok : Addr → Prop) (s : Shared) (val : Value), VR P ok s.heap a val → s.TypeIs val T ∧ ∀ x, val = .ref x → ∃ ob, s.heap.get? x = some ob ∧ ob.dict = none
theorem self_str {x : Str} : SelfIs "str" (.str x) := fun P ok s val r => by
  simp only [VR] at r; obtain ⟨t, rfl⟩ := r; exact ⟨typeIs_str _ _ _, fun _ e => nomatch e⟩
theorem self_list {xs : List V} : SelfIs "list" (.list xs) := fun P ok s val r => by
  simp only [VR] at r; obtain ⟨a, vs, rfl, _, ⟨k, e⟩, _⟩ := r; exact ⟨⟨_, e, rfl⟩, fun x q => by cases q; exact ⟨_, e, rfl⟩⟩

theorem pe_meth {o name apos args pos} {T id : String} {a : V} {vs : List V} {r : V} (ho : PE prog w g₀ (n + 1) env P ρ p o false a p₁) (ha : PEs prog w g₀ (n + 1) env P ρ p₁ args false vs p₂)
    (hT : SelfIs T a) (pa : PlainAttrs T) (slot : Slot T name id) (ty : typeOf (.builtin id) = pure (.type "method_descriptor")) (hb : BI prog w (.builtin id) (a :: vs) r)
    (hbase : attributeBase o name env (eval o env) = eval o env := by rfl)
    (hfew : ((backTo pos (starEach args env)).all (fun x => !x.1) && (backToKw pos (keywordEach [] env)).all (fun x => x.1.isSome)
      && decide (args.length + ([] : List Keyword).length + (if ([] : List Keyword).isEmpty then 0 else 1) < 30)) = true := by rfl)
    (hline : (apos.endLine == pos.line) = true := by rfl)
    (hpl : (backTo pos (starEach args env)).any (·.1) = false := by rfl)
    (hne : args = [] ∨ ∃ x rest, backTo pos (starEach args env) = (false, x) :: rest := by first | exact .inl rfl | exact .inr ⟨_, _, rfl⟩) :
    PE prog w g₀ (n + 1) env P ρ p (.Call (.Attribute o name apos) args [] pos) fr r p₂ := .mk fun A E Q s ok hA S hQ => by
  refine wpAny_Call_method_lateS hbase hfew hline (ho A E _ s ok hA S fun va s₁ st₁ hp₁ ra => ?_)
  obtain ⟨h1, h2⟩ := hT P _ s₁ va ra
  refine ⟨T, id, pa, slot, ty, h1, h2, ?_⟩
  refine call_plain_value (fun _ h => by cases h) hpl (ha pos A E _ s₁ ok hA (S.step st₁ hp₁) fun vals s₂ st₂ hp₂ rs => ?_) hne
  refine hb A E Q s₂ P _ _ (hA.of_le (by omega)) (by simp only [VRs]; exact ⟨va, vals, rfl, ra.mono (Out.keep S.okP S.pool st₂) fun _ x => x, rs.mono (fun _ _ _ e => e) (Out.after st₁ hp₁)⟩) fun val s₃ st₃ r₃ => ?_
  exact hQ val s₃ ((st₁.trans st₂).trans st₃.weak) (hp₂.keep st₃) (r₃.anyP.mono (fun _ _ _ e => e) fun a x => .inl ((st₁.trans st₂).fresh hp₂ x))

/-! displays -/
theorem pe_list {es pos vs} (h : PEs prog w g₀ n env P ρ p es fr vs p') (hz : vs.length ≤ sizeLine) : PE prog w g₀ n env P ρ p (.List es pos) fr (.list vs) p' := .mk fun A E Q s ok hA S hQ => by
  refine List_ (h pos A E _ s ok hA S fun vals s₁ st₁ hp₁ r₁ => wpAny_newList ?_ (by rw [r₁.length]; exact hz))
  have st₂ : Stp none s₁ { s₁ with heap := s₁.heap.push { cls := .type "list", data := .seq vals.toArray } } := ⟨fun b o _ e => Heap.get?_push_of_some _ e, rfl⟩
  refine hQ _ _ (st₁.trans st₂.weak) (hp₁.keep st₂) ?_
  simp only [VR]
  exact ⟨_, vals, rfl, .inl (st₁.fresh hp₁ (get_size _)), ⟨0, Heap.get?_push_size _ rfl⟩, r₁.mono (fun a o _ e => Heap.get?_push_of_some _ e) fun _ x => x⟩
end
end Mine
end

section
open PySem PySem.W PyProof.Rows PySem.Calls Builtin.Str
set_option autoImplicit false
set_option Elab.async false
set_option linter.all false
set_option maxRecDepth 100000
namespace Mine
section
variable {prog : Program} {w : World} {g₀ : Heap} {n : Nat} {env : Env} {P : Option Addr} {ρ : Str → Option V} {p p' p'' p₁ p₂ p₃ p₄ : List Int} {fr : Bool}

theorem wpAny_Sub {A : Around} {E : Value → Shared → Prop} {s : Shared} {value slice : Expr} {pos : Pos} {T id : String} {Q : Value → Shared → Prop}
    (hl : typeLookup (.type T) "__getitem__" = pure (some (.builtin id)))
    (h : wpAny (model prog w) A (eval value env) (fun o s₁ => wpAny (model prog w) A (eval slice env) (fun i s₂ => s₂.TypeIs o T ∧ wpAny (model prog w) A (getItem o i) Q E s₂) E s₁) E s) :
    wpAny (model prog w) A (eval (.Subscript value slice pos) env) Q E s := by
  rw [eval_Subscript]
  refine wpAny_bind (wpAny_mono h (fun o s₁ h₁ => wpAny_bind (wpAny_holding (wpAny_mono h₁ (fun i s₂ h₂ => wpAny_bind (wpAny_standAt ?_)) fun _ _ x => x)))
    fun _ _ x => x)
  have fin : ∀ vs, wpAny (model prog w) A (operate vs (getItem o i)) (fun r s₃ => wpAny (model prog w) A (letTemporaryGo value o r >>= fun _ => pure r) Q E s₃) E s₂ := fun vs =>
    wpAny_operating (wpAny_mono h₂.2 (fun r s₃ h₃ => wpAny_bind (wpAny_letTemporaryGo (wpAny_pure h₃))) fun _ _ x => x)
  refine wpAny_bind ?_
  rw [getitemInPython_of_ne h₂.1.not_modules]
  refine wpAny_bind (wpAny_specialOf h₂.1 hl ?_)
  refine wpAny_pure (wpAny_bind ?_)
  unfold subscripted
  split
  · exact fin _
  · rename_i q; cases q
  · exact fin _

/-! a place -/
noncomputable def Itm0 (prog : Program) (w : World) (T : String) (a i r : V) : Prop :=
  ∀ (A : Around) (E : Value → Shared → Prop) (Q : Value → Shared → Prop) (s : Shared) (P : Option Addr) (ok : Addr → Prop) (va vi : Value), VR P ok s.heap a va → VR P ok s.heap i vi →
    s.TypeIs va T ∧ ((∀ val k, VR P ok s.heap r val → Q val { s with toks := k }) → wpAny (model prog w) A (getItem va vi) Q E s)
structure Itm (prog : Program) (w : World) (T : String) (a i r : V) : Prop where
  run : Itm0 prog w T a i r
instance {prog : Program} {w : World} {T : String} {a i r : V} : CoeFun (Itm prog w T a i r) (fun _ => Itm0 prog w T a i r) := ⟨fun x => x.run⟩

theorem pe_item {o i pos} {T id : String} {a k r : V} (hl : typeLookup (.type T) "__getitem__" = pure (some (.builtin id))) (ho : PE prog w g₀ n env P ρ p o false a p₁) (hi : PE prog w g₀ n env P ρ p₁ i false k p₂) (h : Itm prog w T a k r) :
    PE prog w g₀ n env P ρ p (.Subscript o i pos) false r p₂ := .mk fun A E Q s ok hA S hQ => by
  refine wpAny_Sub hl (ho A E _ s ok hA S fun va s₁ st₁ hp₁ ra => hi A E _ s₁ ok hA (S.step st₁ hp₁) fun vi s₂ st₂ hp₂ ri => ?_)
  have ra' := ra.mono (Out.keep S.okP S.pool st₂) fun _ x => x
  have ri' := ri.mono (fun _ _ _ e => e) (Out.after st₁ hp₁)
  obtain ⟨h1, h2⟩ := h A E Q s₂ P _ va vi ra' ri'
  exact ⟨h1, h2 fun val k r => hQ val _ ((st₁.trans st₂).trans (.toks k)) hp₂ r⟩

theorem itm_list {xs : List V} {k : Int} {r : V} (h0 : 0 ≤ k) (hfit : k < 2 ^ 63) (hx : xs[k.toNat]? = some r) : Itm prog w "list" (.list xs) (.int k) r := .mk fun A E Q s P ok va vi ra ri => by
  simp only [VR] at ra ri
  obtain ⟨a, vs, rfl, _, hl, rs⟩ := ra
  obtain ⟨t, rfl⟩ := ri
  obtain ⟨v, hv, rv⟩ := rs.get hx
  exact ⟨hl.isList.typeIs, fun hQ => wpAny_getItem_list hl.isList h0 hfit (by simpa using hv) (hQ v s.toks rv)⟩
theorem itm_list_neg {xs : List V} {k : Int} {r : V} (h0 : k < 0) (h1 : -(xs.length : Int) ≤ k) (hfit : -(2 ^ 63) ≤ k) (hx : xs[(k + xs.length).toNat]? = some r) : Itm prog w "list" (.list xs) (.int k) r := .mk fun A E Q s P ok va vi ra ri => by
  simp only [VR] at ra ri
  obtain ⟨a, vs, rfl, _, hl, rs⟩ := ra
  obtain ⟨t, rfl⟩ := ri
  obtain ⟨v, hv, rv⟩ := rs.get hx
  have e := rs.length
  exact ⟨hl.isList.typeIs, fun hQ => wpAny_getItem_list_neg hl.isList h0 (by simpa [e] using h1) hfit (by simpa [e] using hv) (hQ v s.toks rv)⟩
theorem itm_str {x : Str} {k : Int} {c : Nat} (h0 : 0 ≤ k) (hfit : k < 2 ^ 63) (hx : x.cps[k.toNat]? = some c) : Itm prog w "str" (.str x) (.int k) (.str ⟨#[c]⟩) := .mk fun A E Q s P ok va vi ra ri => by
  simp only [VR] at ra ri
  obtain ⟨t, rfl⟩ := ra
  obtain ⟨u, rfl⟩ := ri
  refine ⟨typeIs_str _ _ _, fun hQ => PySem.P.getItem_str (c := c) (by simp only [Bool.or_eq_false_iff, decide_eq_false_iff_not]; omega) ?_ (hQ _ _ (by simp only [VR]; exact ⟨_, rfl⟩))⟩
  have hlt : k.toNat < x.length := (Array.getElem?_eq_some_iff.mp hx).1
  rw [seqIndex_of h0 (by omega)]
  exact hx

/-! slices -/
noncomputable def PO0 (prog : Program) (w : World) (g₀ : Heap) (n : Nat) (env : Env) (P : Option Addr) (ρ : Str → Option V) (p : List Int) (e : Option Expr) (k : Option Int) (p' : List Int) : Prop :=
  ∀ (A : Around) (E : Value → Shared → Prop) (Q : Value → Shared → Prop) (s : Shared) (ok : Addr → Prop), OkA n A → St g₀ env P ρ p ok s.heap →
    (∀ kt s', Stp P s s' → PoolAt P p' s'.heap → kt.map (·.1) = k → Q (partValue kt) s') → wpAny (model prog w) A (evalPart e env) Q E s
structure PO (prog : Program) (w : World) (g₀ : Heap) (n : Nat) (env : Env) (P : Option Addr) (ρ : Str → Option V) (p : List Int) (e : Option Expr) (k : Option Int) (p' : List Int) : Prop where
  run : PO0 prog w g₀ n env P ρ p e k p'
instance {prog : Program} {w : World} {g₀ : Heap} {n : Nat} {env : Env} {P : Option Addr} {ρ : Str → Option V} {p : List Int} {e : Option Expr} {k : Option Int} {p' : List Int} : CoeFun (PO prog w g₀ n env P ρ p e k p') (fun _ => PO0 prog w g₀ n env P ρ p e k p') := ⟨fun x => x.run⟩
theorem po_none : PO prog w g₀ n env P ρ p none none p := .mk fun A E Q s ok hA S hQ => evalPart_none_step (hQ none s .refl S.pool rfl)
theorem po_some {e k} (h : PE prog w g₀ n env P ρ p e false (.int k) p') : PO prog w g₀ n env P ρ p (some e) (some k) p' := .mk fun A E Q s ok hA S hQ =>
  evalPart_some_step (h A E _ s ok hA S fun val s' st hp r => by
    simp only [VR] at r
    obtain ⟨t, rfl⟩ := r
    exact hQ (some (k, t)) s' st hp rfl)
theorem isPart_of (kt : Option (Int × Tok)) : IsPart (partValue kt) (kt.map (·.1)) := by
  cases kt with
  | none => exact .none
  | some x => obtain ⟨i, t⟩ := x; exact .int i t

noncomputable def rev (x : Str) : Str := ⟨x.cps.reverse⟩
/-- the signs that a slice picks -/
noncomputable def cut (x : Str) (lo hi st : Option Int) : Str := ⟨((strSliceIndices lo hi (st.getD 1) x.length).filterMap (x.cps[·]?)).toArray⟩
theorem sliceIx_full {a b n : Nat} (h : (List.range (b - a)).length = n) (hb : b ≤ n) : a = 0 ∨ n = 0 := by
  rw [List.length_range] at h; omega
theorem filterMap_range {α : Type} (xs : Array α) : (List.range xs.size).filterMap (xs[·]?) = xs.toList := by
  have h := pick_run xs 0 xs.size
  rw [show (List.range xs.size).map (0 + ·) = List.range xs.size by rw [show (fun x : Nat => 0 + x) = id from funext Nat.zero_add, List.map_id]] at h
  rw [h, List.drop_zero, List.take_of_length_le (by simp)]
theorem rangeFull {a b n : Nat} (hb : b ≤ n) (h : (sliceRange a b 1).length = n) : sliceRange a b 1 = List.range n := by
  rw [sliceRange_one] at h ⊢
  simp only [List.length_map, List.length_range] at h
  by_cases hn : n = 0
  · subst hn; rw [h]; rfl
  · have : a = 0 := by omega
    subst this
    have : b = n := by omega
    subst this
    simp
theorem strIx_one (lo hi : Option Int) (n : Nat) : ∃ a b : Nat, b ≤ n ∧ strSliceIndices lo hi 1 n = sliceRange a b 1 := by
  have clip : ∀ (v : Option Int) (d : Nat), d ≤ n → ∃ c : Nat, c ≤ n ∧ ((match v with
    | none => (d : Int)
    | some i => let i := if i < 0 then i + n else i; if (1 : Int) > 0 then max 0 (min i n) else max (-1) (min i ((n : Int) - 1))) = (c : Int)) := fun v d hd => by
    cases v with
    | none => exact ⟨d, hd, rfl⟩
    | some i =>
      refine ⟨(max 0 (min (if i < 0 then i + n else i) (n : Int))).toNat, by omega, ?_⟩
      simp only [show (1 : Int) > 0 by decide, if_true]
      omega
  obtain ⟨a, _, ea⟩ := clip lo 0 (by omega)
  obtain ⟨b, hb, eb⟩ := clip hi n (by omega)
  refine ⟨a, b, hb, ?_⟩
  exact congr (congrArg (fun x y => sliceRange x y 1) ea) eb
theorem cut_same {x : Str} {lo hi : Option Int} (h : (strSliceIndices lo hi 1 x.length).length = x.length) : cut x lo hi none = x := by
  obtain ⟨a, b, hb, e⟩ := strIx_one lo hi x.length
  unfold cut
  simp only [Option.getD_none]
  rw [e] at h ⊢
  rw [rangeFull hb h]
  have : x.length = x.cps.size := rfl
  rw [this, filterMap_range]
theorem made_cut {x : Str} {t : Tok} {l u st : Option (Int × Tok)} {s : Shared} {Q : Value → Shared → Prop} (hst : st.map (·.1) = none ∨ st.map (·.1) = some (-1)) (hz : x.length ≤ sizeLine)
    (h : ∀ t' k, Q (.str (cut x (l.map (·.1)) (u.map (·.1)) (st.map (·.1))) t') { s with toks := k }) (hlen : (strSliceIndices (l.map (·.1)) (u.map (·.1)) ((st.map (·.1)).getD 1) x.length).length ≤ x.length) : (sliceMade x t l u st).post Q s := by
  unfold sliceMade
  split
  · rename_i q
    simp only [Bool.and_eq_true, beq_iff_eq] at q
    rcases hst with e | e
    · rw [e] at h
      have q2 : (strSliceIndices (l.map (·.1)) (u.map (·.1)) ((st.map (·.1)).getD 1) x.length).length = x.length := q.2
      rw [e] at q2
      rw [cut_same q2] at h
      exact h t s.toks
    · rw [e] at q
      exact absurd q.1 (by decide)
  · refine ⟨?_, h _ _⟩
    show (List.filterMap _ _).toArray.size ≤ sizeLine
    rw [List.size_toArray]
    exact Nat.le_trans (List.length_filterMap_le _ _) (Nat.le_trans hlen hz)

theorem revIx (n : Nat) : strSliceIndices none none (-1) n = (List.range n).map fun k => n - 1 - k := by
  unfold strSliceIndices sliceRange
  simp only [show ¬ ((-1 : Int) > 0) by decide, if_false]
  by_cases h : n = 0
  · subst h; rfl
  · rw [if_pos (by omega)]
    rw [show ((n : Int) - 1 - -1 - -1 - 1) / (- -1) = n by simp]
    simp only [Int.toNat_natCast]
    refine List.map_congr_left fun k hk => ?_
    have := List.mem_range.mp hk
    omega
theorem cut_rev (x : Str) : cut x none none (some (-1)) = rev x := by
  unfold cut rev
  simp only [Option.getD_some, revIx]
  congr 1
  apply Array.ext'
  rw [Array.toList_reverse]
  show List.filterMap _ _ = _
  apply List.ext_getElem?
  intro i
  have hf : ∀ l : List Nat, (∀ k ∈ l, k < x.length) → l.filterMap (x.cps[·]?) = l.map fun k => x.cps.getD k 0 := by
    intro l hl
    induction l with
    | nil => rfl
    | cons a l ih =>
      have ha : a < x.cps.size := hl a (.head _)
      rw [List.filterMap_cons, Array.getElem?_eq_getElem ha]
      simp only [List.map_cons]
      rw [ih fun k hk => hl k (.tail _ hk)]
      congr 1
      simp [Array.getD, ha]
  rw [hf _ (fun k hk => by
    obtain ⟨j, hj, rfl⟩ := List.mem_map.mp hk
    have := List.mem_range.mp hj
    omega)]
  rw [List.map_map, List.getElem?_map]
  by_cases hi : i < x.length
  · rw [List.getElem?_range hi]
    have hs : x.cps.toList.length = x.length := by simp; rfl
    rw [List.getElem?_reverse (by rw [hs]; exact hi), hs]
    simp only [Option.map_some, Function.comp]
    have h2 : x.length - 1 - i < x.cps.size := by show x.length - 1 - i < x.length; omega
    simp [Array.getD, h2]
  · rw [List.getElem?_eq_none (by simp; omega), List.getElem?_eq_none (by simp; exact Nat.not_lt.mp hi)]
    rfl
theorem revLen (n : Nat) : (strSliceIndices none none (-1) n).length ≤ n := by rw [revIx]; simp

theorem pe_cut {o lo hi ps pos} {x : Str} {l u : Option Int} (ho : PE prog w g₀ n env P ρ p o false (.str x) p₁) (hl : PO prog w g₀ n env P ρ p₁ lo l p₂) (hu : PO prog w g₀ n env P ρ p₂ hi u p₃) (hz : x.length ≤ sizeLine) :
    PE prog w g₀ n env P ρ p (.Subscript o (.Slice lo hi none ps) pos) fr (.str (cut x l u none)) p₃ := .mk fun A E Q s ok hA S hQ => by
  refine wpAny_Sub F.slot_str_getitem.lookup (ho A E _ s ok hA S fun va s₁ st₁ hp₁ ra => wpAny_Slice (hl A E _ s₁ ok hA (S.step st₁ hp₁) fun lt s₂ st₂ hp₂ el => hu A E _ s₂ ok hA ((S.step st₁ hp₁).step st₂ hp₂) fun ut s₃ st₃ hp₃ eu => ?_))
  simp only [VR] at ra
  obtain ⟨t, rfl⟩ := ra
  rw [evalPart_none]
  refine wpAny_pure ⟨typeIs_str _ x t, ?_⟩
  have st₄ : Stp none s₃ { s₃ with heap := s₃.heap.push { cls := .type "slice", data := .fields #[partValue lt, partValue ut, .none] } } := ⟨fun b o _ e => Heap.get?_push_of_some _ e, rfl⟩
  refine wpAny_getItem_str_slice (l := lt) (u := ut) (st := none) ⟨_, Heap.get?_push_size _ rfl, rfl, rfl⟩ rfl (made_cut (.inl rfl) hz (fun t' k => ?_) (sliceIndices_le _ _ _))
  rw [el, eu]
  exact hQ _ _ (((st₁.trans st₂).trans st₃).trans (st₄.weak.trans (.toks k))) (show PoolAt P p₃ (s₃.heap.push _) from hp₃.keep st₄) (by simp only [VR]; exact ⟨_, rfl⟩)

theorem pe_rev {o st ps pos} {x : Str} (ho : PE prog w g₀ n env P ρ p o false (.str x) p₁) (hs : PO prog w g₀ n env P ρ p₁ (some st) (some (-1)) p₂) (hz : x.length ≤ sizeLine) :
    PE prog w g₀ n env P ρ p (.Subscript o (.Slice none none (some st) ps) pos) fr (.str (rev x)) p₂ := .mk fun A E Q s ok hA S hQ => by
  refine wpAny_Sub F.slot_str_getitem.lookup (ho A E _ s ok hA S fun va s₁ st₁ hp₁ ra => wpAny_Slice (evalPart_none_step (evalPart_none_step (hs A E _ s₁ ok hA (S.step st₁ hp₁) fun kt s₂ st₂ hp₂ ek => ?_))))
  simp only [VR] at ra
  obtain ⟨t, rfl⟩ := ra
  refine ⟨typeIs_str _ x t, ?_⟩
  have st₄ : Stp none s₂ { s₂ with heap := s₂.heap.push { cls := .type "slice", data := .fields #[.none, .none, partValue kt] } } := ⟨fun b o _ e => Heap.get?_push_of_some _ e, rfl⟩
  refine wpAny_getItem_str_slice (l := none) (u := none) (st := kt) ⟨_, Heap.get?_push_size _ rfl, rfl, rfl⟩ (by rw [ek]; rfl) (made_cut (.inr ek) hz (fun t' k => ?_) (by rw [ek]; exact revLen _))
  rw [ek]
  rw [show cut x (Option.map (·.1) (none : Option (Int × Tok))) (Option.map (·.1) (none : Option (Int × Tok))) (some (-1)) = rev x from cut_rev x]
  exact hQ _ _ ((st₁.trans st₂).trans (st₄.weak.trans (.toks k))) (show PoolAt P p₂ (s₂.heap.push _) from hp₂.keep st₄) (by simp only [VR]; exact ⟨_, rfl⟩)

/-- lists -/
noncomputable def pick (xs : List V) (lo hi st : Option Int) : List V := (sliceRange (sliceBounds lo hi st xs.length).1 (sliceBounds lo hi st xs.length).2.1 (sliceBounds lo hi st xs.length).2.2).filterMap (xs[·]?)
theorem VRs.pickR {P ok h} {xs : List V} {vs : List Value} (r : VRs P ok h xs vs) : ∀ l : List Nat, VRs P ok h (l.filterMap (xs[·]?)) (l.filterMap (vs[·]?))
  | [] => by simp only [List.filterMap_nil, VRs]
  | i :: l => by
    rw [List.filterMap_cons, List.filterMap_cons]
    cases e : xs[i]? with
    | none =>
      have : vs[i]? = none := by rw [List.getElem?_eq_none_iff] at e ⊢; rw [r.length]; exact e
      rw [this]; exact r.pickR l
    | some x =>
      obtain ⟨v, ev, rv⟩ := r.get e
      rw [ev]
      simp only [VRs]
      exact ⟨v, _, rfl, rv, r.pickR l⟩
theorem VRs.pick {P ok h} {xs : List V} {vs : List Value} (r : VRs P ok h xs vs) (lo hi st : Option Int) : VRs P ok h (pick xs lo hi st) (slicePick vs.toArray lo hi st).toList := by
  unfold Mine.pick slicePick
  have e := r.length
  simp only [List.size_toArray, e]
  have := r.pickR (sliceRange (sliceBounds lo hi st xs.length).1 (sliceBounds lo hi st xs.length).2.1 (sliceBounds lo hi st xs.length).2.2)
  simpa using this

theorem pe_pick {o lo hi st ps pos} {xs : List V} {l u d : Option Int} (ho : PE prog w g₀ n env P ρ p o fr (.list xs) p₁) (hl : PO prog w g₀ n env P ρ p₁ lo l p₂) (hu : PO prog w g₀ n env P ρ p₂ hi u p₃) (hd : PO prog w g₀ n env P ρ p₃ st d p₄) (h0 : d ≠ some 0) (hz : xs.length ≤ sizeLine) :
    PE prog w g₀ n env P ρ p (.Subscript o (.Slice lo hi st ps) pos) fr (.list (pick xs l u d)) p₄ := .mk fun A E Q s ok hA S hQ => by
  refine wpAny_Sub list_getitem_lookup (ho A E _ s ok hA S fun va s₁ st₁ hp₁ ra => wpAny_Slice (hl A E _ s₁ ok hA (S.step st₁ hp₁) fun lt s₂ st₂ hp₂ el => hu A E _ s₂ ok hA ((S.step st₁ hp₁).step st₂ hp₂) fun ut s₃ st₃ hp₃ eu =>
    hd A E _ s₃ ok hA (((S.step st₁ hp₁).step st₂ hp₂).step st₃ hp₃) fun dt s₄ st₄ hp₄ ed => ?_))
  have st := (st₂.trans st₃).trans st₄
  have ra' := ra.mono (Out.keep S.okP S.pool st) fun _ x => x
  simp only [VR] at ra'
  obtain ⟨a, vs, rfl, oka, ⟨k, hla⟩, rs⟩ := ra'
  have e := rs.length
  have st₅ : Stp none s₄ { s₄ with heap := s₄.heap.push { cls := .type "slice", data := .fields #[partValue lt, partValue ut, partValue dt] } } := ⟨fun b o _ e => Heap.get?_push_of_some _ e, rfl⟩
  have hl5 : ({ s₄ with heap := s₄.heap.push { cls := .type "slice", data := .fields #[partValue lt, partValue ut, partValue dt] } } : Shared).heap.PlainList a vs.toArray := ⟨k, st₅.keep _ _ (by simp) hla⟩
  refine ⟨hl5.isList.typeIs, ?_⟩
  refine wpAny_getItem_list_slice hl5.isList (Heap.IsSliceOf.new ..) (isPart_of lt) (isPart_of ut) (isPart_of dt) (by rw [ed]; exact h0) ?_ (by rw [List.size_toArray, e]; exact hz)
  rw [el, eu, ed]
  have st₆ : Stp none _ { s₄ with heap := (s₄.heap.push { cls := .type "slice", data := .fields #[partValue lt, partValue ut, partValue dt] }).push { cls := .type "list", data := .seq (slicePick vs.toArray l u d) } } := st₅.trans ⟨fun b o _ e => Heap.get?_push_of_some _ e, rfl⟩
  refine hQ _ _ ((st₁.trans st).trans st₆.weak) (hp₄.keep st₆) ?_
  simp only [VR]
  refine ⟨_, (slicePick vs.toArray l u d).toList, rfl, .inl ?_, ⟨0, ?_⟩, (rs.pick l u d).mono (fun a o _ e => st₆.keep _ _ (by simp) e) fun _ x => x⟩
  · exact ((st₁.trans st).trans st₅.weak).fresh (show PoolAt P p₄ (s₄.heap.push _) from hp₄.keep st₅) (get_size _)
  · rw [Heap.get?_push_size _ rfl]
end
end Mine
end

section
open PySem PySem.W PyProof.Rows PySem.Calls Builtin.Str
set_option autoImplicit false
set_option Elab.async false
set_option linter.all false
set_option maxRecDepth 100000
namespace Mine
section
variable {prog : Program} {w : World} {g₀ : Heap} {n : Nat} {env : Env} {P : Option Addr} {ρ : Str → Option V} {p p' p'' p₁ p₂ p₃ p₄ : List Int} {fr : Bool}

mutual
theorem VR.alloc {P ok h} : ∀ {v : V} {val : Value}, VR P ok h v val → VR P (fun a => ok a ∧ h.get? a ≠ none) h v val
  | .none, _, x => by simpa only [VR] using x
  | .bool _, _, x => by simpa only [VR] using x
  | .int _, _, x => by simpa only [VR] using x
  | .str _, _, x => by simpa only [VR] using x
  | .pool, _, x => by simpa only [VR] using x
  | .dict pw f m, _, x => by
    simp only [VR] at x ⊢
    obtain ⟨a, e, oka, d⟩ := x
    exact ⟨a, e, ⟨oka, by obtain ⟨o, e, _⟩ := d.live; rw [e]; exact fun q => nomatch q⟩, d⟩
  | .list xs, _, x => by
    simp only [VR] at x ⊢
    obtain ⟨a, vs, e, oka, hl, y⟩ := x
    exact ⟨a, vs, e, ⟨oka, by obtain ⟨k, e⟩ := hl; rw [e]; exact fun q => nomatch q⟩, hl, VRs.alloc y⟩
theorem VRs.alloc {P ok h} : ∀ {v : List V} {val : List Value}, VRs P ok h v val → VRs P (fun a => ok a ∧ h.get? a ≠ none) h v val
  | [], _, x => by simpa only [VRs] using x
  | y :: ys, _, x => by
    simp only [VRs] at x ⊢
    obtain ⟨v, r, e, h1, h2⟩ := x
    exact ⟨v, r, e, VR.alloc h1, VRs.alloc h2⟩
end

/-! iteration -/
noncomputable def PI0 (prog : Program) (w : World) (g₀ : Heap) (n : Nat) (env : Env) (P : Option Addr) (ρ : Str → Option V) (p : List Int) (e : Expr) (items : List V) (p' : List Int) : Prop :=
  ∀ (A : Around) (E : Value → Shared → Prop) (Q : Value → Shared → Prop) (s : Shared) (ok : Addr → Prop), OkA n A → St g₀ env P ρ p ok s.heap →
    (∀ I fp wr (Pw : Nat → Value → Prop) (Sw : Nat → Heap → Prop) s', Stp P s s' → PoolAt P p' s'.heap → Walks prog w A I fp wr items.length Pw Sw →
      (∀ i v, i < items.length → Pw i v → ∃ x, items[i]? = some x ∧ VR P (fun a => Out false ok s a ∧ a ∉ wr) s'.heap x v) → Sw 0 s'.heap → (∀ i h, Sw i h → ∀ b ∈ wr, h.get? b ≠ none) → (∀ b ∈ wr, s.heap.get? b = none) → (∀ b ∈ fp, b < s'.heap.objs.size ∧ some b ≠ P ∧ Out false ok s b ∧ s'.heap.get? b ≠ none) → Q (.ref I) s') →
    wpAny (model prog w) A (eval e env) (fun x s₁ => wpAny (model prog w) A (pyIter x) Q E s₁) E s
structure PI (prog : Program) (w : World) (g₀ : Heap) (n : Nat) (env : Env) (P : Option Addr) (ρ : Str → Option V) (p : List Int) (e : Expr) (items : List V) (p' : List Int) : Prop where
  run : PI0 prog w g₀ n env P ρ p e items p'
instance {prog : Program} {w : World} {g₀ : Heap} {n : Nat} {env : Env} {P : Option Addr} {ρ : Str → Option V} {p : List Int} {e : Expr} {items : List V} {p' : List Int} : CoeFun (PI prog w g₀ n env P ρ p e items p') (fun _ => PI0 prog w g₀ n env P ρ p e items p') := ⟨fun x => x.run⟩

theorem pi_list {e xs} (h : PE prog w g₀ n env P ρ p e false (.list xs) p') : PI prog w g₀ n env P ρ p e xs p' := .mk fun A E Q s ok hA S hQ => by
  refine h A E _ s ok hA S fun val s₁ st₁ hp₁ r => ?_
  simp only [VR] at r
  obtain ⟨a, vs, rfl, oka, hl, rs⟩ := r
  refine wpAny_pyIter_list hl.isList ?_
  have st₂ : Stp none s₁ { s₁ with heap := s₁.heap.push { cls := .type "list_iterator", data := .fields #[.ref a, .int 0 0] } } := ⟨fun b o _ e => Heap.get?_push_of_some _ e, rfl⟩
  have hlt : a < s₁.heap.objs.size := by obtain ⟨k, e⟩ := hl; exact Heap.lt_size e
  have haP : some a ≠ P := fun q => by
    rcases oka with x | x
    · exact S.pool.live a q.symm x
    · exact S.okP a x.2 q
  have e := rs.length
  have W := Walks.list (prog := prog) (w := w) (A := A) hA.1 s₁.heap.objs.size a (Nat.ne_of_lt hlt) vs.toArray
  rw [show vs.toArray.size = xs.length by rw [List.size_toArray]; exact e] at W
  refine hQ _ _ _ _ _ _ (st₁.trans st₂.weak) (hp₁.keep st₂) W (fun i v hi hv => ?_) ⟨⟨_, Heap.get?_push_size _ rfl, rfl, rfl⟩, hl.isList.push _⟩ (fun i h x b hb => ?_) (fun b hb => ?_) fun b hb => ?_
  · have hv' : vs[i]? = some v := by simpa using hv
    obtain ⟨v', h1, h2⟩ := rs.get (i := i) (x := xs[i]) (List.getElem?_eq_getElem hi)
    rw [hv'] at h1; cases h1
    exact ⟨xs[i], List.getElem?_eq_getElem hi, h2.alloc.mono (fun a o _ e => Heap.get?_push_of_some _ e) fun a x => ⟨x.1, fun q => x.2 (by simp at q; rw [q]; exact get_size _)⟩⟩
  · simp at hb; subst hb
    obtain ⟨⟨o, ho, _⟩, _⟩ := x
    rw [ho]; exact fun q => nomatch q
  · simp at hb; subst hb
    exact st₁.fresh hp₁ (get_size _)
  · rw [Heap.size_push]
    simp at hb
    rcases hb with rfl | rfl
    · refine ⟨Nat.lt_succ_self _, fun q => ?_, .inl (st₁.fresh hp₁ (get_size _)), by rw [Heap.get?_push_size _ rfl]; exact fun q => nomatch q⟩
      exact hp₁.live _ q.symm (get_size _)
    · exact ⟨Nat.lt_succ_of_lt hlt, haP, oka, by obtain ⟨k, e⟩ := hl; rw [Heap.get?_push_of_some _ e]; exact fun q => nomatch q⟩

noncomputable def signs (x : Str) : List V := x.cps.toList.map fun c => V.str ⟨#[c]⟩
theorem pi_str {e x} (h : PE prog w g₀ n env P ρ p e false (.str x) p') : PI prog w g₀ n env P ρ p e (signs x) p' := .mk fun A E Q s ok hA S hQ => by
  refine h A E _ s ok hA S fun val s₁ st₁ hp₁ r => ?_
  simp only [VR] at r
  obtain ⟨t, rfl⟩ := r
  have e : x.cps.size = (signs x).length := by simp [signs]
  have fin : ∀ (T : String) (o : Obj), o.isFreed = false → Walks prog w A s₁.heap.objs.size [s₁.heap.objs.size] [s₁.heap.objs.size] x.cps.size (SignAt x) (fun i h => h.IsStrIter s₁.heap.objs.size T x t i) →
      (s₁.heap.push o).IsStrIter s₁.heap.objs.size T x t 0 → Q (.ref s₁.heap.objs.size) { s₁ with heap := s₁.heap.push o } := fun T o hfree W' h0 => by
    have st₂ : Stp none s₁ { s₁ with heap := s₁.heap.push o } := ⟨fun b o _ e => Heap.get?_push_of_some _ e, rfl⟩
    rw [e] at W'
    refine hQ _ _ _ _ _ _ (st₁.trans st₂.weak) (hp₁.keep st₂) W' (fun i v hi hv => ?_) h0 (fun i h x b hb => ?_) (fun b hb => ?_) fun b hb => ?_
    · obtain ⟨c, u, hc, rfl⟩ := hv
      refine ⟨.str ⟨#[c]⟩, ?_, by simp only [VR]; exact ⟨_, rfl⟩⟩
      simp [signs, hc]
    · simp at hb; subst hb
      obtain ⟨o, ho, _⟩ := x
      rw [ho]; exact fun q => nomatch q
    · simp at hb; subst hb; exact st₁.fresh hp₁ (get_size _)
    · rw [Heap.size_push]
      simp at hb; subst hb
      refine ⟨Nat.lt_succ_self _, fun q => ?_, .inl (st₁.fresh hp₁ (get_size _)), by rw [Heap.get?_push_size _ hfree]; exact fun q => nomatch q⟩
      exact hp₁.live _ q.symm (get_size _)
  cases ha : x.cps.all (· < 128) with
  | true => exact wpAny_pyIter_ascii ha (fin _ _ rfl (Walks.strAscii hA.1 _ x t) ⟨_, Heap.get?_push_size _ rfl, rfl, rfl⟩)
  | false => exact wpAny_pyIter_wide ha (fin _ _ rfl (Walks.strWide hA.1 _ x t) ⟨_, Heap.get?_push_size _ rfl, rfl, rfl⟩)

/-- whole numbers from a, k of them -/
noncomputable def intsFrom (a : Int) (k : Nat) : List V := (List.range k).map fun (i : Nat) => V.int (a + i)
theorem range_iter {A : Around} {E : Value → Shared → Prop} {Q : Value → Shared → Prop} {s s₁ : Shared} {ok : Addr → Prop} {a b : Int} {t u v : Tok} {k : Nat} {r : Addr} (hA : A.handled = none) (S : St0 g₀ P p ok s.heap) (st₁ : Stp P s s₁) (hp₁ : PoolAt P p' s₁.heap)
    (hk : (if a < b then b - a else 0) = (k : Int)) (hs : -(2 ^ 60) ≤ a ∧ a ≤ 2 ^ 60 ∧ b ≤ 2 ^ 60 ∧ -(2 ^ 60) ≤ b)
    (hQ : ∀ I fp wr (Pw : Nat → Value → Prop) (Sw : Nat → Heap → Prop) s', Stp P s s' → PoolAt P p' s'.heap → Walks prog w A I fp wr (intsFrom a k).length Pw Sw →
      (∀ i v, i < (intsFrom a k).length → Pw i v → ∃ x, (intsFrom a k)[i]? = some x ∧ VR P (fun a => Out false ok s a ∧ a ∉ wr) s'.heap x v) → Sw 0 s'.heap → (∀ i h, Sw i h → ∀ b ∈ wr, h.get? b ≠ none) → (∀ b ∈ wr, s.heap.get? b = none) → (∀ b ∈ fp, b < s'.heap.objs.size ∧ some b ≠ P ∧ Out false ok s b ∧ s'.heap.get? b ≠ none) → Q (.ref I) s')
    (hr : IsRange s₁.heap r a b 1 t u v) : wpAny (model prog w) A (pyIter (.ref r)) Q E s₁ := by
  have hsz : Builtin.Range.rangeSize a b 1 = k := by rw [rangeSize_one]; exact hk
  refine wpAny_pyIter_range hr ?_ ?_
  · unfold Builtin.Range.small Builtin.Range.rangeFitsLong
    rw [hsz]
    have hk' : (k : Int) ≤ 2 ^ 63 - 1 := by rw [← hk]; split <;> omega
    simp only [Bool.and_eq_true, Bool.or_eq_true, decide_eq_true_eq]
    refine ⟨⟨⟨⟨?_, ?_⟩, ?_⟩, ?_⟩, .inr ?_⟩ <;> first | (constructor <;> omega) | (rw [if_pos (by decide)]; simp only [Bool.and_eq_true, decide_eq_true_eq]; constructor <;> omega) | skip
  have st₂ : Stp none s₁ { s₁ with heap := s₁.heap.push { cls := .type "range_iterator", data := .fields #[rawInt a, rawInt (Builtin.Range.rangeSize a b 1), rawInt 1] } } := ⟨fun b o _ e => Heap.get?_push_of_some _ e, rfl⟩
  have W := Walks.range (prog := prog) (w := w) hA s₁.heap.objs.size a 1 k
  have e : (intsFrom a k).length = k := by simp [intsFrom]
  rw [← e] at W
  refine hQ _ _ _ _ _ _ (st₁.trans st₂.weak) (hp₁.keep st₂) W (fun i v hi hv => ?_) ?_ (fun i h x b hb => ?_) (fun b hb => ?_) fun b hb => ?_
  · obtain ⟨t, rfl⟩ := hv
    rw [e] at hi
    refine ⟨.int (a + i), ?_, by simp only [VR]; exact ⟨t, by rw [Int.mul_one]⟩⟩
    simp [intsFrom, hi]
  · show IsRangeIter _ _ _ _ _
    rw [show a + ((0 : Nat) : Int) * 1 = a by simp, e, hsz, show (k : Int) - ((0 : Nat) : Int) = k by simp]
    exact Heap.get?_push_size _ rfl
  · simp at hb; subst hb
    rw [show h.get? s₁.heap.objs.size = _ from x]; exact fun q => nomatch q
  · simp at hb; subst hb; exact st₁.fresh hp₁ (get_size _)
  · rw [Heap.size_push]
    simp at hb; subst hb
    refine ⟨Nat.lt_succ_self _, fun q => ?_, .inl (st₁.fresh hp₁ (get_size _)), by rw [Heap.get?_push_size _ rfl]; exact fun q => nomatch q⟩
    exact hp₁.live _ q.symm (get_size _)

/-- what a call of range is -/
theorem pi_range {x : Str} {px pos args} {vs : List V} {a b : Int} {k : Nat} (hg : Glb prog w g₀ x (.type "range")) (ha : PEs prog w g₀ n env P ρ p args false vs p')
    (hv : vs = [.int b] ∧ a = 0 ∨ vs = [.int a, .int b]) (hk' : (if a < b then b - a else 0) = (k : Int)) (hs : -(2 ^ 60) ≤ a ∧ a ≤ 2 ^ 60 ∧ b ≤ 2 ^ 60 ∧ -(2 ^ 60) ≤ b)
    (hk : env.scope.kind = .function := by rfl) (hx : env.kindOf x = some .globalImplicit := by rfl) (h1 : env.globals = mainGlobals := by rfl) (h2 : env.builtins = builtinsNs := by rfl)
    (hpl : (backTo pos (starEach args env)).any (·.1) = false := by rfl)
    (hne : args = [] ∨ ∃ x rest, backTo pos (starEach args env) = (false, x) :: rest := by first | exact .inl rfl | exact .inr ⟨_, _, rfl⟩) :
    PI prog w g₀ n env P ρ p (.Call (.Name x px) args [] pos) (intsFrom a k) p' := .mk fun A E Q s ok hA S hQ => by
  refine wpAny_Call_Name_kw (hg env px A E _ s hk hx h1 h2 S.base ?_)
  show wpAny _ A (callWith pos (.type "range") [] (backTo pos (starEach args env)) []) _ E s
  refine call_plain_value (fun _ h => by cases h) hpl (ha pos A E _ s ok hA S fun vals s₁ st₁ hp₁ r₁ => ?_) hne
  rcases hv with ⟨rfl, rfl⟩ | rfl
  · simp only [VRs, VR] at r₁
    obtain ⟨v, r, rfl, ⟨t, rfl⟩, rfl⟩ := r₁
    refine call_range_1 ?_
    have st₂ : Stp none s₁ { s₁ with heap := s₁.heap.push { cls := .type "range", data := .fields #[.int 0 s₁.toks, .int b t, .int 1 (s₁.toks + 1)] }, toks := s₁.toks + 1 + 1 } := ⟨fun b o _ e => Heap.get?_push_of_some _ e, rfl⟩
    exact range_iter hA.1 S.toSt0 (st₁.trans st₂.weak) (hp₁.keep st₂) hk' hs hQ (Heap.get?_push_size _ rfl)
  · simp only [VRs, VR] at r₁
    obtain ⟨v, r, rfl, ⟨t, rfl⟩, v2, r2, rfl, ⟨u, rfl⟩, rfl⟩ := r₁
    refine call_range_2 ?_
    have st₂ : Stp none s₁ { s₁ with heap := s₁.heap.push { cls := .type "range", data := .fields #[.int a t, .int b u, .int 1 s₁.toks] }, toks := s₁.toks + 1 } := ⟨fun b o _ e => Heap.get?_push_of_some _ e, rfl⟩
    exact range_iter hA.1 S.toSt0 (st₁.trans st₂.weak) (hp₁.keep st₂) hk' hs hQ (Heap.get?_push_size _ rfl)

/-! calls of the text's own functions -/
noncomputable def Fn0 (prog : Program) (w : World) (g₀ : Heap) (n : Nat) (P : Option Addr) (f : Addr) (args : List V) (p : List Int) (r : V) (p' : List Int) : Prop :=
  ∀ (A : Around) (R : Result → Shared → Prop) (s : Shared) (ok : Addr → Prop) (vals : List Value), OkA n A → St0 g₀ P p ok s.heap → VRs P ok s.heap args vals →
    (∀ val s', Stp P s s' → PoolAt P p' s'.heap → VR P (fun a => s.heap.get? a = none) s'.heap r val → R (.ok (.ret val)) s') → codeAny (model prog w) A (.call (.ref f) ⟨vals, []⟩) R s
structure Fn (prog : Program) (w : World) (g₀ : Heap) (n : Nat) (P : Option Addr) (f : Addr) (args : List V) (p : List Int) (r : V) (p' : List Int) : Prop where
  run : Fn0 prog w g₀ n P f args p r p'
instance {prog : Program} {w : World} {g₀ : Heap} {n : Nat} {P : Option Addr} {f : Addr} {args : List V} {p : List Int} {r : V} {p' : List Int} : CoeFun (Fn prog w g₀ n P f args p r p') (fun _ => Fn0 prog w g₀ n P f args p r p') := ⟨fun x => x.run⟩

theorem OutP {ok : Addr → Prop} {s : Shared} (okP : ∀ a, ok a → some a ≠ P) (hp : PoolAt P p s.heap) : ∀ a, Out fr ok s a → some a ≠ P := fun a x q => by
  rcases x with x | x
  · exact hp.live a q.symm x
  · exact okP a x.2 q

theorem pe_call {x : Str} {px pos args} {f : Addr} {fd : FuncData} {fo : Obj} {vs : List V} {r : V} (hg : Glb prog w g₀ x (.ref f)) (hf : g₀.get? f = some fo ∧ fo.data = .func fd) (ha : PEs prog w g₀ n env P ρ p args false vs p₁) (hb : Fn prog w g₀ n P f vs p₁ r p')
    (hk : env.scope.kind = .function := by rfl) (hx : env.kindOf x = some .globalImplicit := by rfl) (h1 : env.globals = mainGlobals := by rfl) (h2 : env.builtins = builtinsNs := by rfl)
    (hpl : (backTo pos (starEach args env)).any (·.1) = false := by rfl)
    (hne : ∃ x rest, backTo pos (starEach args env) = (false, x) :: rest := by exact ⟨_, _, rfl⟩) :
    PE prog w g₀ n env P ρ p (.Call (.Name x px) args [] pos) fr r p' := .mk fun A E Q s ok hA S hQ => by
  refine wpAny_Call_Name_kw (hg env px A E _ s hk hx h1 h2 S.base ?_)
  show wpAny _ A (callWith pos (.ref f) [] (backTo pos (starEach args env)) []) Q E s
  refine callWith_of (P := fun h => h.get? f = some fo) (by rw [hpl]; rfl) (fun h e => ⟨.frame, .inl rfl, ?_⟩) ?_
  · refine (Looks.ld (part := none) e).andThen ?_
    rw [hf.2]
    exact .now
  · obtain ⟨x', rest, e⟩ := hne
    have := ha pos A E (fun vs s' => s'.heap.get? f = some fo ∧ wpAny (model prog w) A (call (.ref f) ([] ++ vs)) Q E s') s ok hA S fun vals s₁ st₁ hp₁ r₁ => ?_
    · rw [e] at this ⊢
      exact evalArgs_plain this
    · have S1 := S.toSt0.step st₁ hp₁
      refine ⟨S1.base _ _ hf.1, wpAny_call ?_⟩
      refine hb A _ s₁ (Out false ok s) vals hA { S1 with okP := OutP S.okP S.pool } r₁ fun val s₂ st₂ hp₂ r₂ => ?_
      exact hQ val s₂ (st₁.trans st₂) hp₂ (r₂.mono (fun _ _ _ e => e) fun a x => .inl (st₁.fresh hp₁ x))
end
end Mine
end

section
open PySem PySem.W PyProof.Rows PySem.Calls Builtin.Str
set_option autoImplicit false
set_option Elab.async false
set_option linter.all false
set_option maxRecDepth 100000
namespace Mine
section
variable {prog : Program} {w : World} {g₀ : Heap} {n : Nat} {env : Env} {P : Option Addr} {ρ : Str → Option V} {p p' p'' p₁ p₂ p₃ p₄ : List Int} {fr : Bool}

theorem closure_go (env : Env) (f : Str × NameKind → List (Str × Addr) → Sem (ForInStep (List (Str × Addr))))
    (hf : ∀ n k cs, f (n, k) cs = (if k == NameKind.free then (do let a ← cellOf env n; pure (ForInStep.yield ((n, a) :: cs))) else pure (ForInStep.yield cs) : Sem (ForInStep (List (Str × Addr))))) : ∀ (names : List (Str × NameKind)) (acc : List (Str × Addr)), (∀ y ∈ names, y.2 = .free → ∃ c, env.cells.lookup y.1 = some c) →
    ∃ cl, forIn names acc f = pure cl ∧
      ∀ y, ((y, NameKind.free) ∈ names → cl.lookup y = env.cells.lookup y) ∧ ((y, NameKind.free) ∉ names → cl.lookup y = acc.lookup y)
  | [], acc, _ => ⟨acc, rfl, fun y => ⟨fun h => (nomatch h), fun _ => rfl⟩⟩
  | (m, k) :: r, acc, h => by
    by_cases hk : k = .free
    · subst hk
      obtain ⟨c, hc⟩ := h (m, .free) (.head _) rfl
      obtain ⟨cl, e, hl⟩ := closure_go env f hf r ((m, c) :: acc) fun y hy => h y (.tail _ hy)
      refine ⟨cl, ?_, fun y => ⟨fun hy => ?_, fun hy => ?_⟩⟩
      · rw [List.forIn_cons, hf]
        have : cellOf env m = pure c := by unfold cellOf; rw [hc]
        simp only [beq_self_eq_true, if_true, this]
        exact e
      · by_cases hr : (y, NameKind.free) ∈ r
        · exact (hl y).1 hr
        · rw [(hl y).2 hr]
          have : y = m := by
            cases hy with
            | head => rfl
            | tail _ q => exact absurd q hr
          subst this
          rw [List.lookup_cons, beq_self_eq_true, hc]
      · have hr : (y, NameKind.free) ∉ r := fun q => hy (.tail _ q)
        have hne : (y == m) = false := beq_eq_false_iff_ne.mpr fun q => hy (q ▸ .head _)
        rw [(hl y).2 hr, List.lookup_cons, hne]
    · obtain ⟨cl, e, hl⟩ := closure_go env f hf r acc fun y hy => h y (.tail _ hy)
      have hb : (k == NameKind.free) = false := by simpa using hk
      refine ⟨cl, ?_, fun y => ⟨fun hy => ?_, fun hy => ?_⟩⟩
      · rw [List.forIn_cons, hf]
        simp only [hb, Bool.false_eq_true, if_false]
        exact e
      · refine (hl y).1 ?_
        cases hy with
        | head => exact absurd rfl hk
        | tail _ q => exact q
      · exact (hl y).2 fun q => hy (.tail _ q)
theorem closure_some {scope : Scope} (h : ∀ y ∈ scope.names, y.2 = .free → ∃ c, env.cells.lookup y.1 = some c) :
    ∃ cl, closureFor scope env = pure cl ∧ ∀ y, (y, NameKind.free) ∈ scope.names → cl.lookup y = env.cells.lookup y := by
  obtain ⟨cl, e, hl⟩ := closure_go env (fun x cs => match x with | (name, kind) => if (kind == NameKind.free) = true then (do let a ← cellOf env name; pure (.yield ((name, a) :: cs))) else pure (.yield cs)) (fun _ _ _ => rfl) scope.names [] h
  refine ⟨cl, ?_, fun y hy => (hl y).1 hy⟩
  unfold closureFor
  exact (congrArg (· >>= fun cs => pure cs) e).trans rfl

theorem PoolAt.of {h h' : Heap} (x : PoolAt P p h) (hk : ∀ a o, P = some a → h.get? a = some o → h'.get? a = some o) : PoolAt P p h' := fun a e => by
  obtain ⟨vs, ⟨k, hl⟩, r⟩ := x a e
  exact ⟨vs, ⟨k, hk a _ e hl⟩, r.mono (fun a o f => f.elim) fun a f => f⟩

noncomputable def ρC (scope : Scope) (ρ : Str → Option V) (x : Str) (v : V) : Str → Option V := fun y => if y = x then some v else if scope.names.lookup y = some .free then ρ y else none

noncomputable def PTs0 (prog : Program) (w : World) (g₀ : Heap) (n : Nat) (env : Env) (P : Option Addr) (ρ : Str → Option V) (p : List Int) (ifs : List Expr) (b : Bool) (p' : List Int) : Prop :=
  ∀ (A : Around) (E : Value → Shared → Prop) (Q : Bool → Shared → Prop) (s : Shared) (ok : Addr → Prop), OkA n A → St g₀ env P ρ p ok s.heap →
    (∀ s', Stp P s s' → PoolAt P p' s'.heap → Q b s') →
      wpAny (model prog w) A (forIn ifs true fun c r => if r = true then do let ok ← PySem.isTrue c env (eval c env); pure (ForInStep.yield ok) else pure (ForInStep.yield r)) Q E s
structure PTs (prog : Program) (w : World) (g₀ : Heap) (n : Nat) (env : Env) (P : Option Addr) (ρ : Str → Option V) (p : List Int) (ifs : List Expr) (b : Bool) (p' : List Int) : Prop where
  run : PTs0 prog w g₀ n env P ρ p ifs b p'
instance {prog : Program} {w : World} {g₀ : Heap} {n : Nat} {env : Env} {P : Option Addr} {ρ : Str → Option V} {p : List Int} {ifs : List Expr} {b : Bool} {p' : List Int} : CoeFun (PTs prog w g₀ n env P ρ p ifs b p') (fun _ => PTs0 prog w g₀ n env P ρ p ifs b p') := ⟨fun x => x.run⟩
theorem pts_nil : PTs prog w g₀ n env P ρ p [] true p := .mk fun A E Q s ok hA S hQ => wpAny_tests_nil (prog := prog) (w := w) (hQ s .refl S.pool)
theorem pts_one {c b} (h : PT prog w g₀ n env P ρ p c b p') : PTs prog w g₀ n env P ρ p [c] b p' := .mk fun A E Q s ok hA S hQ => wpAny_tests_one (prog := prog) (w := w) (h A E Q s ok hA S hQ)

noncomputable def CompR (T : V → List Int → Bool → List Int → Prop) (El : V → List Int → V → List Int → Prop) : List V → List Int → List V → List Int → Prop
  | [], p, out, p' => out = [] ∧ p' = p
  | v :: vs, p, out, p' => (∃ p₁ p₂ r out', T v p true p₁ ∧ El v p₁ r p₂ ∧ CompR T El vs p₂ out' p' ∧ out = r :: out') ∨ (∃ p₁, T v p false p₁ ∧ CompR T El vs p₁ out p')

theorem mem_of_lookup_free {x : Str} {k : NameKind} : ∀ {l : List (Str × NameKind)}, l.lookup x = some k → (x, k) ∈ l
  | [], h => by simp at h
  | (y, j) :: r, h => by
    rw [List.lookup_cons] at h
    cases e : x == y with
    | true => rw [e] at h; cases h; rw [beq_iff_eq.mp e]; exact .head _
    | false => rw [e] at h; exact .tail _ (mem_of_lookup_free h)

theorem relabel_free {scope : Scope} {x : Str} (h : scope.names.lookup x = some .free) : (relabel scope env).names.lookup x = some .cell ∨ (relabel scope env).names.lookup x = some .free := by
  unfold relabel
  show List.lookup x (scope.names.map fun (n, k) => if (k == .free && env.scope.kind == .function && env.kindOf n == some .cell) then (n, NameKind.cell) else (n, k)) = _ ∨ List.lookup x (scope.names.map fun (n, k) => if (k == .free && env.scope.kind == .function && env.kindOf n == some .cell) then (n, NameKind.cell) else (n, k)) = _
  generalize scope.names = l at h
  induction l with
  | nil => simp at h
  | cons a l ih =>
    obtain ⟨m, k⟩ := a
    rw [List.lookup_cons] at h
    rw [List.map_cons]
    cases e : x == m with
    | true =>
      rw [e] at h; cases h
      by_cases hc : (NameKind.free == .free && env.scope.kind == .function && env.kindOf m == some .cell) = true
      · left; simp only [hc, if_true, List.lookup_cons, e]
      · right; simp only [hc, if_false, List.lookup_cons, e, Bool.false_eq_true]
    | false =>
      rw [e] at h
      have := ih h
      by_cases hc : (k == .free && env.scope.kind == .function && env.kindOf m == some .cell) = true
      · simp only [hc, if_true, List.lookup_cons, e]; exact this
      · simp only [hc, if_false, List.lookup_cons, e, Bool.false_eq_true]; exact this

/-- a captured name's cell -/
noncomputable def Cap (env : Env) (scope : Scope) : Prop := ∀ y, (y, NameKind.free) ∈ scope.names → (y == ("__classdict__" : Str)) = false ∧ (∃ c, env.cells.lookup y = some c) ∧ env.kindOf y ≠ some .local

theorem comp_block {A : Around} {E : Value → Shared → Prop} {s s₁ : Shared} {ok : Addr → Prop} {elt iter : Expr} {x : Str} {px : Pos} {ifs : List Expr} {scope : Scope} {pos : Pos} {cl : List (Str × Addr)} {I : Addr} {fp wr : List Addr}
    {Pw : Nat → Value → Prop} {Sw : Nat → Heap → Prop} {items out : List V} {RR : Value → Addr → Result → Shared → Prop}
    (hA : OkA n A) (S : St g₀ env P ρ p ok s.heap) (st₁ : Stp P s s₁) (hp₁ : PoolAt P p₁ s₁.heap) (W : Walks prog w A I fp wr items.length Pw Sw)
    (hit : ∀ i v, i < items.length → Pw i v → ∃ x, items[i]? = some x ∧ VR P (fun a => Out false ok s a ∧ a ∉ wr) s₁.heap x v) (hS0 : Sw 0 s₁.heap) (hal : ∀ i h, Sw i h → ∀ b ∈ wr, h.get? b ≠ none)
    (hwr : ∀ b ∈ wr, s.heap.get? b = none) (hfp : ∀ b ∈ fp, b < s₁.heap.objs.size ∧ some b ≠ P ∧ Out false ok s b ∧ s₁.heap.get? b ≠ none)
    (hc : CompR (fun v p b p' => ∀ C, PTs prog w g₀ n (compEnvC scope cl C env) P (ρC scope ρ x v) p ifs b p') (fun v p r p' => ∀ C, PE prog w g₀ n (compEnvC scope cl C env) P (ρC scope ρ x v) p elt fr r p') items p₁ out p')
    (hz : items.length ≤ sizeLine) (hkind : scope.kind = .function) (hcell : ∀ y ∈ scope.names, y.2 ≠ .cell) (hx : scope.names.lookup x = some .local)
    (hcap : Cap env scope) (hcl : ∀ y, (y, NameKind.free) ∈ scope.names → cl.lookup y = env.cells.lookup y)
    (hRR : ∀ D C s', Stp P s s' → PoolAt P p' s'.heap → VR P (fun a => Out fr ok s a ∧ a ≠ C) s'.heap (.list out) (.ref D) → s.heap.get? C = none → (∃ m, s'.heap.Ns C m) → RR (.ref D) C (.ok .next) s') :
    wpAny (model prog w) A (newList []) (fun acc s₃ => wpAny (model prog w) A (newFunctionEnv scope env.globals cl [] env.qual none .none (some env)) (fun cenv s₄ =>
      codeAny (model prog w) A (.compStart (.ListComp elt [⟨.Name x px, iter, ifs, 0⟩] scope pos) 0 (.ref I) acc { cenv with scope := relabel scope env }) (RR acc cenv.locals) s₄) E s₃) E s₁ := by
  refine wpAny_newList (wpAny_newFunctionEnv hcell (by intro y hy; simp at hy) (fun h₁ hns₁ hsb₁ => ?_) hkind)
  dsimp only at hns₁ hsb₁ ⊢
  generalize hH2 : s₁.heap.push { cls := .type "list", dict := none, data := .seq ([] : List Value).toArray } = H2 at hns₁ hsb₁ ⊢
  generalize hDe : s₁.heap.objs.size = D
  generalize hCe : H2.objs.size = C at hns₁ hsb₁ ⊢
  have hC : C = D + 1 := by rw [← hCe, ← hH2, Heap.size_push, hDe]
  have hDC : D ≠ C := by rw [hC]; exact Nat.ne_of_lt (Nat.lt_succ_self _)
  have nD : s₁.heap.get? D = none := hDe ▸ get_size _
  have nC : s₁.heap.get? C = none := by
    cases e : s₁.heap.get? C with
    | none => rfl
    | some o => have := Heap.lt_size e; rw [hDe, hC] at this; exact absurd this (Nat.not_lt.mpr (Nat.le_succ _))
  have bne : ∀ b o, s₁.heap.get? b = some o → b ≠ C ∧ b ≠ D := fun b o e => ⟨fun q => by (rw [q, nC] at e; cases e), fun q => by (rw [q, nD] at e; cases e)⟩
  have old : ∀ b o, s₁.heap.get? b = some o → h₁.get? b = some o := fun b o e => hsb₁.extBut b o (bne b o e).1 (Heap.get?_push_of_some _ (hH2 ▸ Heap.get?_push_of_some _ e))
  have hacc : h₁.PlainList D ([] : List Value).toArray := ⟨0, hsb₁.extBut _ _ hDC (Heap.get?_push_of_some _ (by rw [← hH2, ← hDe]; exact Heap.get?_push_size _ rfl))⟩
  have hDf : D ∉ fp := fun hm => Nat.lt_irrefl _ (hDe ▸ (hfp _ hm).1)
  have hCf : C ∉ fp := fun hm => by have := (hfp _ hm).1; rw [hDe, hC] at this; exact Nat.lt_irrefl _ (Nat.lt_of_succ_lt this)
  have hDw : D ∉ wr := fun h => hDf (W.sub _ h)
  have hCw : C ∉ wr := fun h => hCf (W.sub _ h)
  have hPC : some C ≠ P := fun q => hp₁.live _ q.symm nC
  have hPD : some D ≠ P := fun q => hp₁.live _ q.symm nD
  have hPw : ∀ b ∈ wr, some b ≠ P := fun b hb => (hfp b (W.sub b hb)).2.1
  -- what stands from s on
  have keepS : ∀ {h' : Heap}, (∀ b o, some b ≠ P → b ≠ C → b ≠ D → b ∉ wr → s₁.heap.get? b = some o → h'.get? b = some o) → ∀ b o, some b ≠ P → s.heap.get? b = some o → h'.get? b = some o := fun hk b o hb e => by
    have e1 := st₁.keep b o hb e
    exact hk b o hb (bne b o e1).1 (bne b o e1).2 (fun hm => by rw [hwr b hm] at e; cases e) e1
  have hloop : ∀ s₃ : Shared, s₃ = { s₁ with heap := h₁, toks := s₁.toks + ([] : List (Str × Value)).length } →
      codeAny (model prog w) A (.compLoop (.ListComp elt [⟨.Name x px, iter, ifs, 0⟩] scope pos) 0 (.ref I) (.ref D) (compEnvC scope cl C env)) (RR (.ref D) C) s₃ := by
    rintro s₃ rfl
    refine codeAny_compLoop_tests
      (fun k s' => ∃ h' tk m' ys outs i pk rest, s' = { s₁ with heap := h', toks := tk } ∧ i ≤ items.length ∧ k = items.length + 1 - i ∧ Sw i h' ∧ h'.PlainList D (ys : List Value).toArray ∧ h'.Ns C m' ∧ PoolAt P pk h' ∧
        VRs P (fun a => Out fr ok s a ∧ a ≠ C ∧ a ≠ D ∧ a ∉ wr) h' outs ys ∧ outs.length ≤ i ∧ CompR (fun v p b p' => ∀ C, PTs prog w g₀ n (compEnvC scope cl C env) P (ρC scope ρ x v) p ifs b p') (fun v p r p' => ∀ C, PE prog w g₀ n (compEnvC scope cl C env) P (ρC scope ρ x v) p elt fr r p') (items.drop i) pk rest p' ∧ out = outs ++ rest ∧
        (∀ b o, some b ≠ P → b ≠ C → b ≠ D → b ∉ wr → s₁.heap.get? b = some o → h'.get? b = some o)) ?_ (items.length + 1)
      ⟨h₁, _, _, [], [], 0, p₁, out, rfl, Nat.zero_le _, rfl, W.frame _ _ _ hS0 (fun b _ o e => old b o e), hacc, hns₁, hp₁.of fun a o _ e => old a o e, by simp only [VRs], Nat.le_refl _, hc, rfl, fun b o _ _ _ _ e => old b o e⟩
    rintro k s' ⟨h', tk, m', ys, outs, i, pk, rest, rfl, hi, rfl, hSw, hD, hN, hpk, hR, hlen, hcr, hout, hk⟩
    by_cases hlt : i < items.length
    · refine W.item i _ _ _ hlt hSw fun v h₂ tk₂ hPv hS₂ hk₂ => ?_
      obtain ⟨itm, hitm, hvr⟩ := hit i v hlt hPv
      refine wpAny_assign_Name (wpAny_storeName_local (lookup_relabel_local hx) (hN.at' fun o e => hk₂ _ o hCw e) (fun h₃ hn₃ hs₃ => ?_) (by simp [compEnvC, relabel, hkind]))
      have up₃ : ∀ b o, b ≠ C → b ∉ wr → h'.get? b = some o → h₃.get? b = some o := fun b o hbC hbw e => hs₃.extBut b o hbC (hk₂ b o hbw e)
      have hk₃ : ∀ b o, some b ≠ P → b ≠ C → b ≠ D → b ∉ wr → s₁.heap.get? b = some o → h₃.get? b = some o := fun b o hb hbC hbD hbw e => up₃ b o hbC hbw (hk b o hb hbC hbD hbw e)
      have hp₃ : PoolAt P pk h₃ := hpk.of fun a o e => up₃ a o (fun q => hPC (by rw [← q, e])) (fun hm => hPw a hm e.symm)
      have hS₃ : Sw (i + 1) h₃ := W.frame _ _ _ hS₂ fun b hb o e => hs₃.extBut b o (fun q => hCf (by rw [← show b = C from q]; exact hb)) e
      have hD₃ : h₃.PlainList D ys.toArray := hD.at fun o e => up₃ D o hDC hDw e
      have hR₃ := hR.mono (ok' := fun a => Out fr ok s a ∧ a ≠ C ∧ a ≠ D ∧ a ∉ wr) (fun a o h e => up₃ a o h.2.1 h.2.2.2 e) fun _ x => x
      let okE : Addr → Prop := fun a => Out false ok s a ∧ a ≠ C ∧ a ≠ D ∧ a ∉ wr
      have okEP : ∀ a, okE a → some a ≠ P := fun a x => OutP S.okP S.pool a x.1
      have S₃ : St g₀ (compEnvC scope cl C env) P (ρC scope ρ x itm) pk okE h₃ := by
        refine ⟨⟨fun b o e => keepS hk₃ b o (fun q => by have := S.pbase b q.symm; rw [e] at this; cases this) (S.base b o e), S.pbase, okEP, hp₃⟩, fun y u hy => ?_⟩
        unfold ρC at hy
        by_cases hyx : y = x
        · subst hyx
          rw [if_pos rfl] at hy
          cases hy
          refine ⟨v, hvr.alloc.mono (fun a o q e => hk₃ a o (OutP S.okP S.pool a q.1.1) (bne a o e).1 (bne a o e).2 q.1.2 e) (fun a q => ?_), by simp [compEnvC, relabel, hkind], .inl ⟨lookup_relabel_local hx, hPC, _, hn₃, by simp⟩⟩
          cases e : s₁.heap.get? a with
          | none => exact absurd e q.2
          | some o => exact ⟨q.1.1, (bne a o e).1, (bne a o e).2, q.1.2⟩
        · rw [if_neg hyx] at hy
          by_cases hyf : scope.names.lookup y = some .free
          · rw [if_pos hyf] at hy
            have hmem := mem_of_lookup_free hyf
            obtain ⟨hd, ⟨c, hcl'⟩, hnl⟩ := hcap y hmem
            obtain ⟨val, hval, hrd⟩ := S.vars y u hy
            refine ⟨val, hval.alloc.mono (fun a o q e => keepS hk₃ a o (S.okP a q.1) e) (fun a q => ?_), by simp [compEnvC, relabel, hkind], .inr ⟨?_, ?_⟩⟩
            · cases e : s.heap.get? a with
              | none => exact absurd e q.2
              | some o =>
                have e1 := st₁.keep a o (S.okP a q.1) e
                exact ⟨.inr ⟨rfl, q.1⟩, (bne a o e1).1, (bne a o e1).2, fun hm => by rw [hwr a hm] at e; cases e⟩
            · rcases relabel_free (env := env) hyf with h | h
              · exact .inl h
              · exact .inr ⟨h, hd⟩
            · obtain ⟨_, ⟨h1, _⟩ | ⟨_, c', h2, h3, o, ho, hd'⟩⟩ := hrd
              · exact absurd h1 hnl
              · exact ⟨c', (hcl y hmem).trans h2, h3, o, keepS hk₃ c' o h3 ho, hd'⟩
          · rw [if_neg hyf] at hy; cases hy
      have hdrop : items.drop i = itm :: items.drop (i + 1) := by
        obtain ⟨hi', he⟩ := List.getElem?_eq_some_iff.mp hitm
        rw [List.drop_eq_getElem_cons hi', he]
      rw [hdrop] at hcr
      -- what an elt may leave
      have frameS : ∀ {sa sb : Shared}, Stp P sa sb → sa.heap.get? C ≠ none → True := fun _ _ => trivial
      rcases hcr with ⟨q₁, q₂, r, out', hT, hEl, hcr', rfl⟩ | ⟨q₁, hT, hcr'⟩
      · refine hT C A _ _ _ okE hA S₃ fun s₄ st₄ hp₄ => ?_
        rw [if_pos rfl]
        have k₄ : ∀ b o, some b ≠ P → h₃.get? b = some o → s₄.heap.get? b = some o := st₄.keep
        refine hEl C A _ _ s₄ okE hA (S₃.step st₄ hp₄) fun val s₅ st₅ hp₅ rv => ?_
        have k₅ : ∀ b o, some b ≠ P → h₃.get? b = some o → s₅.heap.get? b = some o := fun b o hb e => st₅.keep b o hb (k₄ b o hb e)
        have hD₅ : s₅.heap.PlainList D ys.toArray := hD₃.at fun o e => k₅ D o hPD e
        have hys : ys.toArray.size ≤ sizeLine := by
          have e1 := hR.length
          rw [List.size_toArray]; omega
        refine wpAny_list_append_plain (hsz := hys) hD₅ fun h₆ hl₆ hs₆ => ?_
        have k₆ : ∀ b o, some b ≠ P → b ≠ D → h₃.get? b = some o → h₆.get? b = some o := fun b o hb hbD e => hs₆.extBut b o hbD (k₅ b o hb e)
        have eo : s₅ = { s₁ with heap := s₅.heap, toks := s₅.toks } := by rw [st₅.same, st₄.same]
        have nC₄ : s₄.heap.get? C ≠ none := by obtain ⟨o, _, _, ho, _⟩ := hn₃; rw [k₄ C o hPC ho]; exact fun q => nomatch q
        have nD₄ : s₄.heap.get? D ≠ none := by obtain ⟨kk, ho⟩ := hD₃; rw [k₄ D _ hPD ho]; exact fun q => nomatch q
        have nw₄ : ∀ b ∈ wr, s₄.heap.get? b ≠ none := fun b hb => by
          cases e : h₃.get? b with
          | none => exact absurd e (hal _ _ hS₃ b hb)
          | some o => rw [k₄ b o (hPw b hb) e]; exact fun q => nomatch q
        refine ⟨items.length + 1 - (i + 1), by omega, h₆, s₅.toks, _, ys ++ [val], outs ++ [r], i + 1, q₂, out', by rw [eo], hlt, rfl, ?_, by simpa using hl₆, (hn₃.at' fun o e => k₆ C o hPC (Ne.symm hDC) e), ?_, ?_, by rw [List.length_append]; simp; exact hlen, hcr', by simp [hout], fun b o hb hbC hbD hbw e => k₆ b o hb hbD (hk₃ b o hb hbC hbD hbw e)⟩
        · exact W.frame _ _ _ hS₃ fun b hb o e => k₆ b o (hfp b hb).2.1 (fun q => hDf (q ▸ hb)) e
        · exact hp₅.of fun a o e h => hs₆.extBut a o (fun q => hPD (by rw [← q, e])) h
        · refine VRs.snoc (hR₃.mono (fun a o h e => k₆ a o (OutP S.okP S.pool a h.1) h.2.2.1 e) fun _ x => x) ?_
          have rv' := rv.alloc
          refine rv'.mono (ok' := fun a => Out fr ok s a ∧ a ≠ C ∧ a ≠ D ∧ a ∉ wr) (fun a o h e => hs₆.extBut a o (fun q => ?_) e) fun a h => ?_
          · rcases h.1 with h1 | h1
            · exact nD₄ (q ▸ h1)
            · exact h1.2.2.2.1 q
          · rcases h.1 with h1 | h1
            · refine ⟨.inl ?_, fun q => nC₄ (q ▸ h1), fun q => nD₄ (q ▸ h1), fun q => nw₄ a q h1⟩
              cases e : s.heap.get? a with
              | none => rfl
              | some o =>
                by_cases q : some a = P
                · exact absurd h1 ((S₃.step st₄ hp₄).pool.live a q.symm)
                · rw [k₄ a o q (keepS hk₃ a o q e)] at h1; cases h1
            · refine ⟨?_, h1.2.2⟩
              rw [h1.1]; exact h1.2.1
      · refine hT C A _ _ _ okE hA S₃ fun s₄ st₄ hp₄ => ?_
        rw [if_neg (by decide)]
        have k₄ : ∀ b o, some b ≠ P → h₃.get? b = some o → s₄.heap.get? b = some o := st₄.keep
        have eo : s₄ = { s₁ with heap := s₄.heap, toks := s₄.toks } := by rw [st₄.same]
        refine ⟨items.length + 1 - (i + 1), by omega, s₄.heap, s₄.toks, _, ys, outs, i + 1, q₁, rest, eo, hlt, rfl, ?_, hD₃.at fun o e => k₄ D o hPD e, (hn₃.at' fun o e => k₄ C o hPC e), hp₄, ?_, Nat.le_succ_of_le hlen, hcr', hout, fun b o hb hbC hbD hbw e => k₄ b o hb (hk₃ b o hb hbC hbD hbw e)⟩
        · exact W.frame _ _ _ hS₃ fun b hb o e => k₄ b o (hfp b hb).2.1 e
        · exact hR₃.mono (fun a o h e => k₄ a o (OutP S.okP S.pool a h.1) e) fun _ x => x
    · have hie : i = items.length := by omega
      subst hie
      rw [List.drop_length] at hcr
      obtain ⟨rfl, rfl⟩ := hcr
      refine W.done _ _ _ hSw fun h₂ tk₂ hk₂ => ?_
      have e0 : ({ s₁ with heap := h₂, toks := tk₂ } : Shared) = { s with heap := h₂, toks := tk₂ } := by rw [st₁.same]
      refine hRR D C _ ⟨fun b o hb e => hk₂ b o (fun hm => by rw [hwr b hm] at e; cases e) (keepS hk b o hb e), e0⟩ (hpk.of fun a o e h => hk₂ a o (fun hm => hPw a hm e.symm) h) ?_ (st₁.fresh hp₁ nC) ⟨_, hN.at' fun o e => hk₂ _ o hCw e⟩
      rw [hout, List.append_nil]
      simp only [VR]
      exact ⟨D, ys, rfl, ⟨.inl (st₁.fresh hp₁ nD), hDC⟩, hD.at fun o e => hk₂ _ o hDw e, hR.mono (fun a o h e => hk₂ a o h.2.2.2 e) fun a h => ⟨h.1, h.2.1⟩⟩
  exact codeAny_compStart_list (hloop _ rfl) (W.self 0 _ _ _ (W.frame _ _ _ hS0 fun b _ o e => old b o e) (hloop _ rfl))

/-- the clauses that a comprehension's scope must meet: all are decided by looking -/
structure ScopeOk (env : Env) (scope : Scope) (x : Str) : Prop where
  kind : scope.kind = .function
  cell : ∀ y ∈ scope.names, y.2 ≠ .cell
  names : ∀ y ∈ scope.names, y.2 = .local → scope.names.lookup y.1 = some .local
  has : scope.names.lookup x = some .local
  cap : Cap env scope

theorem pe_comp {elt iter : Expr} {x : Str} {px : Pos} {ifs : List Expr} {scope : Scope} {pos : Pos} {items out : List V} (hsc : ScopeOk env scope x) (hi : PI prog w g₀ n env P ρ p iter items p₁) (hz : items.length ≤ sizeLine)
    (hc : ∀ cl, (∀ y, (y, NameKind.free) ∈ scope.names → cl.lookup y = env.cells.lookup y) → CompR (fun v p b p' => ∀ C, PTs prog w g₀ n (compEnvC scope cl C env) P (ρC scope ρ x v) p ifs b p') (fun v p r p' => ∀ C, PE prog w g₀ n (compEnvC scope cl C env) P (ρC scope ρ x v) p elt fr r p') items p₁ out p')
    (hs : ∀ x, foldedSetIterable iter env x = pure x := by intro _; rfl) :
    PE prog w g₀ n env P ρ p (.ListComp elt [⟨.Name x px, iter, ifs, 0⟩] scope pos) fr (.list out) p' := .mk fun A E Q s ok hA S hQ => by
  obtain ⟨cl, hclos, hcl⟩ := closure_some (env := env) (scope := scope) fun y hy he => (hsc.cap y.1 (by rw [← he]; exact hy)).2.1
  rw [eval_ListComp]
  refine wpAny_comprehension_free (use := none) rfl hs hclos hsc.kind hsc.names ?_
  refine hi A E _ s ok hA S fun I fp wr Pw Sw s₁ st₁ hp₁ W hit hS0 hal hwr hfp => ?_
  refine comp_block (RR := fun acc C => compPost (model prog w) A E none Q acc C) hA S st₁ hp₁ W hit hS0 hal hwr hfp (hc cl hcl) hz hsc.kind hsc.cell hsc.has hsc.cap hcl fun D C s' st hp r hC hN => ?_
  obtain ⟨m, hN⟩ := hN
  refine ⟨m, hN, fun h' hs' => ?_⟩
  have hPC : some C ≠ P := fun q => S.pool.live C q.symm hC
  refine hQ _ { s' with heap := h' } ⟨fun b o hb e => hs'.extBut b o (fun q => by rw [q, hC] at e; cases e) (st.keep b o hb e), by rw [st.same]⟩ (hp.of fun a o e h => hs'.extBut a o (fun q => hPC (by rw [← q, e])) h) ?_
  exact r.mono (fun a o x e => hs'.extBut a o x.2 e) fun a x => x.1
end
end Mine
end

section
open PySem PySem.W PyProof.Rows PySem.Calls Builtin.Str
set_option autoImplicit false
set_option Elab.async false
set_option linter.all false
set_option maxRecDepth 100000
namespace Mine

/-- what a name may own: a list or a dict that nothing else holds -/
inductive Ow where
  | list (xs : List V)
  | dict (pw : Program × World) (f : Str → Option V) (m : Nat)

noncomputable abbrev Own := List (Str × Addr × Ow)
noncomputable def priv (env : Env) (own : Own) : List Addr := env.locals :: (env.cells.map (·.2) ++ own.map fun x => x.2.1)

section
variable (prog : Program) (w : World) (g₀ : Heap)

noncomputable def OwAt (_ : Program) (_ : World) (P : Option Addr) (ok : Addr → Prop) (h : Heap) (a : Addr) : Ow → Prop
  | .list xs => ∃ vs, h.PlainList a (vs : List Value).toArray ∧ VRs P ok h xs vs
  | .dict pw f m => DAt pw h a f m

noncomputable def okp (env : Env) (P : Option Addr) (own : Own) (ex : Addr → Prop) (a : Addr) : Prop := some a ≠ P ∧ a ∉ priv env own ∧ ¬ ex a

structure RepV (env : Env) (P : Option Addr) (H : Shared) (ex : Addr → Prop) (vars : Str → Option Value) (ρ : Str → Option V) (own : Own) (p : List Int) (s : Shared) : Prop where
  hk : env.scope.kind = .function
  loc : ∃ m, s.heap.Ns env.locals m ∧ ∀ y, env.kindOf y = some .local → m y = vars y
  cel : ∀ y c, env.cells.lookup y = some c → env.kindOf y = some .cell ∧ s.heap.IsCell c (vars y)
  celn : (env.cells.map (·.1)).Nodup
  nod : (priv env own).Nodup
  pf : ∀ a ∈ priv env own, some a ≠ P ∧ H.heap.get? a = none ∧ s.heap.get? a ≠ none
  ow : ∀ x ∈ own, vars x.1 = some (.ref x.2.1) ∧ OwAt prog w P (okp env P own ex) s.heap x.2.1 x.2.2
  vr : ∀ y v, ρ y = some v → ∃ val, vars y = some val ∧ VR P (okp env P own ex) s.heap v val
  kd : ∀ y, vars y ≠ none → env.kindOf y = some .local ∨ (env.kindOf y = some .cell ∧ ∃ c, env.cells.lookup y = some c)
  keep : ∀ b o, some b ≠ P → H.heap.get? b = some o → s.heap.get? b = some o
  same : s = { H with heap := s.heap, toks := s.toks }
  base : ∀ b o, g₀.get? b = some o → H.heap.get? b = some o
  pbase : ∀ a, P = some a → g₀.get? a = none
  pool : PoolAt P p s.heap
  exl : ∀ a, ex a → some a ≠ P ∧ s.heap.get? a ≠ none

noncomputable def Rep (env : Env) (P : Option Addr) (H : Shared) (ex : Addr → Prop) (ρ : Str → Option V) (own : Own) (p : List Int) (s : Shared) : Prop := ∃ vars, RepV prog w g₀ env P H ex vars ρ own p s

/-- flows as the walk sees them -/
inductive Fl where
  | next | brk | cont | ret (v : V)
noncomputable def FlR (P : Option Addr) (H s : Shared) : Fl → Flow → Prop
  | .next, f => f = .next
  | .brk, f => f = .brk
  | .cont, f => f = .cont
  | .ret v, f => ∃ val, f = .ret val ∧ VR P (fun a => H.heap.get? a = none) s.heap v val

noncomputable def WS0 (n : Nat) (env : Env) (P : Option Addr) (ρ : Str → Option V) (own : Own) (p : List Int) (ss : List Stmt) (Q : Fl → (Str → Option V) → Own → List Int → Prop) : Prop :=
  ∀ (A : Around) (H : Shared) (ex : Addr → Prop) (s : Shared) (R : Flow → Shared → Prop), OkA n A → Rep prog w g₀ env P H ex ρ own p s →
    (∀ fl flow ρ' own' p' s', Q fl ρ' own' p' → FlR P H s' fl flow → Rep prog w g₀ env P H ex ρ' own' p' s' → R flow s') → wpAny (model prog w) A (execs ss env) R (fun _ _ => False) s
structure WS (n : Nat) (env : Env) (P : Option Addr) (ρ : Str → Option V) (own : Own) (p : List Int) (ss : List Stmt) (Q : Fl → (Str → Option V) → Own → List Int → Prop) : Prop where
  run : WS0 prog w g₀ n env P ρ own p ss Q
instance {n : Nat} {env : Env} {P : Option Addr} {ρ : Str → Option V} {own : Own} {p : List Int} {ss : List Stmt} {Q : Fl → (Str → Option V) → Own → List Int → Prop} : CoeFun (WS prog w g₀ n env P ρ own p ss Q) (fun _ => WS0 prog w g₀ n env P ρ own p ss Q) := ⟨fun x => x.run⟩
end

section
variable {prog : Program} {w : World} {g₀ : Heap} {n : Nat} {env : Env} {P : Option Addr} {ρ : Str → Option V} {own : Own} {p p' p'' p₁ p₂ p₃ p₄ : List Int} {fr : Bool} {H s s' : Shared} {ex : Addr → Prop}

theorem OwAt.mono {ok ok' : Addr → Prop} {h h' : Heap} {a : Addr} {o : Ow} (x : OwAt prog w P ok h a o) (ha : ∀ ob, h.get? a = some ob → h'.get? a = some ob) (hk : ∀ a o, ok a → h.get? a = some o → h'.get? a = some o) (ho : ∀ a, ok a → ok' a) : OwAt prog w P ok' h' a o := by
  cases o with
  | list xs =>
    obtain ⟨vs, hl, r⟩ := x
    exact ⟨vs, hl.at fun o e => ha _ e, r.mono hk ho⟩
  | dict pw f m => exact DAt.at' x ha

theorem RepV.stp {vars} (R : RepV prog w g₀ env P H ex vars ρ own p s) (st : Stp P s s') (hp : PoolAt P p' s'.heap) : RepV prog w g₀ env P H ex vars ρ own p' s' where
  hk := R.hk
  loc := let ⟨m, h1, h2⟩ := R.loc; ⟨m, h1.at' fun o e => st.keep _ o (R.pf _ (.head _)).1 e, h2⟩
  cel := fun y c e => let ⟨h1, o, ho, hd⟩ := R.cel y c e; ⟨h1, o, st.keep c o (R.pf c (.tail _ (List.mem_append_left _ (List.mem_map.mpr ⟨_, mem_of_lookup e, rfl⟩)))).1 ho, hd⟩
  celn := R.celn
  nod := R.nod
  pf := fun a ha => by
    obtain ⟨h1, h2, h3⟩ := R.pf a ha
    refine ⟨h1, h2, ?_⟩
    cases e : s.heap.get? a with
    | none => exact absurd e h3
    | some o => rw [st.keep a o h1 e]; exact fun q => nomatch q
  ow := fun x hx => by
    obtain ⟨h1, h2⟩ := R.ow x hx
    have hm : x.2.1 ∈ priv env own := .tail _ (List.mem_append_right _ (List.mem_map.mpr ⟨x, hx, rfl⟩))
    exact ⟨h1, h2.mono (fun o e => st.keep _ o (R.pf _ hm).1 e) (fun a o q e => st.keep a o q.1 e) fun _ q => q⟩
  vr := fun y v e => let ⟨val, h1, h2⟩ := R.vr y v e; ⟨val, h1, h2.mono (fun a o q e => st.keep a o q.1 e) fun _ q => q⟩
  kd := R.kd
  keep := fun b o hb e => st.keep b o hb (R.keep b o hb e)
  same := by rw [st.same, R.same]
  base := R.base
  pbase := R.pbase
  pool := hp
  exl := fun a ha => by
    obtain ⟨h1, h2⟩ := R.exl a ha
    refine ⟨h1, ?_⟩
    cases e : s.heap.get? a with
    | none => exact absurd e h2
    | some o => rw [st.keep a o h1 e]; exact fun q => nomatch q

theorem RepV.rd {vars y val} (R : RepV prog w g₀ env P H ex vars ρ own p s) (h : vars y = some val) : Rd P env y val s.heap := by
  refine ⟨R.hk, ?_⟩
  rcases R.kd y (by rw [h]; exact fun q => nomatch q) with h1 | ⟨h1, c, h2⟩
  · obtain ⟨m, h3, h4⟩ := R.loc
    exact .inl ⟨h1, (R.pf _ (.head _)).1, m, h3, (h4 y h1).trans h⟩
  · have := (R.cel y c h2).2
    rw [h] at this
    exact .inr ⟨.inl h1, c, h2, (R.pf c (.tail _ (List.mem_append_left _ (List.mem_map.mpr ⟨_, mem_of_lookup h2, rfl⟩)))).1, this⟩

theorem RepV.base' {vars} (R : RepV prog w g₀ env P H ex vars ρ own p s) : ∀ b o, g₀.get? b = some o → s.heap.get? b = some o := fun b o e =>
  R.keep b o (fun q => by have := R.pbase b q.symm; rw [e] at this; cases this) (R.base b o e)

/-- names that hold what nothing turns -/
theorem RepV.st {vars} (R : RepV prog w g₀ env P H ex vars ρ own p s) : St g₀ env P ρ p (okp env P own ex) s.heap :=
  ⟨⟨R.base', R.pbase, fun a x => x.1, R.pool⟩, fun y v e => let ⟨val, h1, h2⟩ := R.vr y v e; ⟨val, h2, R.rd h1⟩⟩

/-- all names, for reading alone -/
noncomputable def ρo (ρ : Str → Option V) : Own → Str → Option V
  | [], y => ρ y
  | (x, _, .list xs) :: r, y => if y = x then some (.list xs) else ρo ρ r y
  | (x, _, .dict pw f m) :: r, y => if y = x then some (.dict pw f m) else ρo ρ r y

theorem ρo_or {ρ : Str → Option V} : ∀ {own : Own} {y v}, ρo ρ own y = some v → (∃ a xs, (y, a, Ow.list xs) ∈ own ∧ v = .list xs) ∨ (∃ a pw f m, (y, a, Ow.dict pw f m) ∈ own ∧ v = .dict pw f m) ∨ ρ y = some v
  | [], _, _, h => .inr (.inr h)
  | (x, a, .list xs) :: r, y, v, h => by
    unfold ρo at h
    by_cases q : y = x
    · rw [if_pos q] at h; cases h; subst q; exact .inl ⟨a, xs, .head _, rfl⟩
    · rw [if_neg q] at h
      rcases ρo_or h with ⟨a', xs', hm, e⟩ | ⟨a', pw', f', m', hm, e⟩ | h
      · exact .inl ⟨a', xs', .tail _ hm, e⟩
      · exact .inr (.inl ⟨a', pw', f', m', .tail _ hm, e⟩)
      · exact .inr (.inr h)
  | (x, a, .dict pw f m) :: r, y, v, h => by
    unfold ρo at h
    by_cases q : y = x
    · rw [if_pos q] at h; cases h; subst q; exact .inr (.inl ⟨a, pw, f, m, .head _, rfl⟩)
    · rw [if_neg q] at h
      rcases ρo_or h with ⟨a', xs', hm, e⟩ | ⟨a', pw', f', m', hm, e⟩ | h
      · exact .inl ⟨a', xs', .tail _ hm, e⟩
      · exact .inr (.inl ⟨a', pw', f', m', .tail _ hm, e⟩)
      · exact .inr (.inr h)

theorem RepV.stAll {vars} (R : RepV prog w g₀ env P H ex vars ρ own p s) : St g₀ env P (ρo ρ own) p (fun a => some a ≠ P) s.heap :=
  ⟨⟨R.base', R.pbase, fun a x => x, R.pool⟩, fun y v e => by
    rcases ρo_or e with ⟨a, xs, hm, rfl⟩ | ⟨a, pw, f, m, hm, rfl⟩ | e
    · obtain ⟨h1, vs, hl, r⟩ := R.ow _ hm
      have hp : a ∈ priv env own := .tail _ (List.mem_append_right _ (List.mem_map.mpr ⟨_, hm, rfl⟩))
      refine ⟨.ref a, ?_, R.rd h1⟩
      simp only [VR]
      exact ⟨a, vs, rfl, (R.pf a hp).1, hl, r.mono (fun _ _ _ e => e) fun _ x => x.1⟩
    · obtain ⟨h1, d⟩ := R.ow _ hm
      have hp : a ∈ priv env own := .tail _ (List.mem_append_right _ (List.mem_map.mpr ⟨_, hm, rfl⟩))
      refine ⟨.ref a, ?_, R.rd h1⟩
      simp only [VR]
      exact ⟨a, rfl, (R.pf a hp).1, d⟩
    · obtain ⟨val, h1, h2⟩ := R.vr y v e
      exact ⟨val, h2.mono (fun _ _ _ e => e) fun _ x => x.1, R.rd h1⟩⟩

/-- one private object turned -/
theorem VR.turn {d : Addr} {h h' : Heap} {v val} (x : VR P (okp env P own ex) h v val) (hd : d ∈ priv env own) (hs : ∀ b o, b ≠ d → h.get? b = some o → h'.get? b = some o) : VR P (okp env P own ex) h' v val :=
  x.mono (fun a o q e => hs a o (fun z => q.2.1 (z ▸ hd)) e) fun _ q => q
end
end Mine
end

section
open PySem PySem.W PyProof.Rows PySem.Calls Builtin.Str
set_option autoImplicit false
set_option Elab.async false
set_option linter.all false
set_option maxRecDepth 100000
namespace Mine
section
variable {prog : Program} {w : World} {g₀ : Heap} {n : Nat} {env : Env} {P : Option Addr} {ρ : Str → Option V} {own : Own} {p p' p'' p₁ p₂ p₃ p₄ : List Int} {fr : Bool} {H s s' : Shared} {ex : Addr → Prop}

theorem snd_inj {l : List (Str × Addr)} (h : (l.map (·.2)).Nodup) : ∀ {x y : Str} {c : Addr}, (x, c) ∈ l → (y, c) ∈ l → x = y := by
  induction l with
  | nil => intro x y c hx; cases hx
  | cons a l ih =>
    intro x y c hx hy
    rw [List.map_cons, List.nodup_cons] at h
    cases hx with
    | head =>
      cases hy with
      | head => rfl
      | tail _ q => exact absurd (List.mem_map.mpr ⟨_, q, rfl⟩) h.1
    | tail _ q =>
      cases hy with
      | head => exact absurd (List.mem_map.mpr ⟨_, q, rfl⟩) h.1
      | tail _ q' => exact ih h.2 q q'

noncomputable def upd (ρ : Str → Option V) (x : Str) (v : V) : Str → Option V := fun y => if y = x then some v else ρ y
noncomputable def del (ρ : Str → Option V) (x : Str) : Str → Option V := fun y => if y = x then none else ρ y
noncomputable def dropO (own : Own) (x : Str) : Own := own.filter fun e => !(e.1 == x)
noncomputable def upv (vars : Str → Option Value) (x : Str) (v : Value) : Str → Option Value := fun y => if y = x then some v else vars y

noncomputable def Storable (env : Env) (x : Str) : Prop := env.kindOf x = some .local ∨ (env.kindOf x = some .cell ∧ ∃ c, env.cells.lookup x = some c)

theorem store_name {A : Around} {E : Value → Shared → Prop} {vars} {x : Str} {val : Value} {Q : Unit → Shared → Prop} (R : RepV prog w g₀ env P H ex vars ρ own p s) (hx : Storable env x)
    (hQ : ∀ d h' k, d ∈ env.locals :: env.cells.map (·.2) → Heap.SameBut d s.heap h' → (∃ m, h'.Ns env.locals m ∧ ∀ y, env.kindOf y = some .local → m y = upv vars x val y) →
      (∀ y c, env.cells.lookup y = some c → env.kindOf y = some .cell ∧ h'.IsCell c (upv vars x val y)) → Q () { s with heap := h', toks := k }) : wpAny (model prog w) A (storeName env x val) Q E s := by
  obtain ⟨m, hn, hm⟩ := R.loc
  have nodc : (env.locals :: env.cells.map (·.2)).Nodup := (List.nodup_append.mp (show (env.locals :: (env.cells.map (·.2)) ++ own.map fun x => x.2.1).Nodup from by simpa [priv] using R.nod)).1
  rcases hx with hx | ⟨hx, c, hc⟩
  · refine wpAny_storeName_local hx hn (fun h' hn' hs' => ?_) (by rw [R.hk]; rfl)
    refine hQ env.locals h' _ (.head _) hs' ⟨_, hn', fun y hy => ?_⟩ fun y c hy => ?_
    · unfold upv
      by_cases q : y = x
      · subst q; simp
      · simp only [q, if_false]; exact hm y hy
    · obtain ⟨h1, h2⟩ := R.cel y c hy
      have : y ≠ x := fun q => by rw [q, hx] at h1; cases h1
      refine ⟨h1, ?_⟩
      unfold upv
      rw [if_neg this]
      refine h2.sameBut hs' fun q => ?_
      rw [List.nodup_cons] at nodc
      exact nodc.1 (q ▸ List.mem_map.mpr ⟨_, mem_of_lookup hy, rfl⟩)
  · have hcm : c ∈ env.cells.map (·.2) := List.mem_map.mpr ⟨_, mem_of_lookup hc, rfl⟩
    rw [List.nodup_cons] at nodc
    refine wpAny_storeName_cell R.hk hx hc (R.cel x c hc).2 fun h' hv hs' => ?_
    refine hQ c h' s.toks (.tail _ hcm) hs' ⟨m, hn.sameBut hs' (fun q => nodc.1 (q ▸ hcm)), fun y hy => ?_⟩ fun y c' hy => ?_
    · have : y ≠ x := fun q => by rw [q, hx] at hy; cases hy
      unfold upv
      rw [if_neg this]
      exact hm y hy
    · obtain ⟨h1, h2⟩ := R.cel y c' hy
      refine ⟨h1, ?_⟩
      unfold upv
      by_cases q : y = x
      · subst q
        rw [hc] at hy; cases hy
        rw [if_pos rfl]; exact hv
      · rw [if_neg q]
        refine h2.sameBut hs' fun z => q ?_
        subst z
        exact snd_inj nodc.2 (mem_of_lookup hy) (mem_of_lookup hc)

theorem RepV.core {vars ρ' own' x val d h' k} (R : RepV prog w g₀ env P H ex vars ρ own p s) (hx : Storable env x) (hd : d ∈ env.locals :: env.cells.map (·.2)) (hs : Heap.SameBut d s.heap h')
    (loc : ∃ m, h'.Ns env.locals m ∧ ∀ y, env.kindOf y = some .local → m y = upv vars x val y) (cel : ∀ y c, env.cells.lookup y = some c → env.kindOf y = some .cell ∧ h'.IsCell c (upv vars x val y))
    (nod : (priv env own').Nodup) (pf : ∀ a ∈ priv env own', some a ≠ P ∧ H.heap.get? a = none ∧ s.heap.get? a ≠ none)
    (ow : ∀ e ∈ own', upv vars x val e.1 = some (.ref e.2.1) ∧ OwAt prog w P (okp env P own' ex) s.heap e.2.1 e.2.2)
    (vr : ∀ y v, ρ' y = some v → ∃ u, upv vars x val y = some u ∧ VR P (okp env P own' ex) s.heap v u) :
    RepV prog w g₀ env P H ex (upv vars x val) ρ' own' p { s with heap := h', toks := k } := by
  have hdp : d ∈ priv env own' := by
    rcases List.mem_cons.mp hd with rfl | q
    · exact .head _
    · exact .tail _ (List.mem_append_left _ q)
  have hdP : some d ≠ P := (pf d hdp).1
  have split : (env.locals :: env.cells.map (·.2) ++ own'.map fun x => x.2.1).Nodup := by simpa [priv] using nod
  have okd : ∀ a o, okp env P own' ex a → s.heap.get? a = some o → h'.get? a = some o := fun a o q e => hs.extBut a o (fun z => q.2.1 (z ▸ hdp)) e
  have alv : h'.get? d ≠ none := by
    rcases List.mem_cons.mp hd with rfl | q
    · obtain ⟨m, ⟨o, _, _, ho, _⟩, _⟩ := loc
      exact fun z => by rw [ho] at z; cases z
    · obtain ⟨y, hy, rfl⟩ := List.mem_map.mp q
      have nodc := (List.nodup_append.mp split).1
      rw [List.nodup_cons] at nodc
      have : env.cells.lookup y.1 = some y.2 := lookup_of_mem_nodup R.celn hy
      obtain ⟨_, o, ho, _⟩ := cel _ _ this
      exact fun z => by rw [ho] at z; cases z
  refine ⟨R.hk, loc, cel, R.celn, nod, fun a ha => ?_, fun e he => ?_, fun y v e => ?_, fun y hy => ?_, fun b o hb e => ?_, by rw [R.same], R.base, R.pbase, R.pool.of fun a o e h => hs.extBut a o (fun q => hdP (by rw [← q, e])) h, fun a ha => ?_⟩
  · obtain ⟨h1, h2, h3⟩ := pf a ha
    refine ⟨h1, h2, ?_⟩
    by_cases q : a = d
    · exact q ▸ alv
    · show h'.get? a ≠ none
      rw [hs.2 a q]; exact h3
  · obtain ⟨h1, h2⟩ := ow e he
    refine ⟨h1, h2.mono (fun o q => hs.extBut _ o (fun z => ?_) q) okd fun _ q => q⟩
    have := (List.nodup_append.mp split).2.2 d hd e.2.1 (List.mem_map.mpr ⟨e, he, rfl⟩)
    exact this z.symm
  · obtain ⟨u, h1, h2⟩ := vr y v e
    exact ⟨u, h1, h2.mono okd fun _ q => q⟩
  · unfold upv at hy
    by_cases q : y = x
    · subst q; exact hx
    · rw [if_neg q] at hy; exact R.kd y hy
  · have e1 := R.keep b o hb e
    refine hs.extBut b o (fun q => ?_) e1
    rw [q, (pf d hdp).2.1] at e; cases e
  · obtain ⟨h1, h2⟩ := R.exl a ha
    refine ⟨h1, ?_⟩
    by_cases q : a = d
    · exact q ▸ alv
    · show h'.get? a ≠ none
      rw [hs.2 a q]; exact h2
end
end Mine
end

section
open PySem PySem.W PyProof.Rows PySem.Calls Builtin.Str
set_option autoImplicit false
set_option Elab.async false
set_option linter.all false
set_option maxRecDepth 100000
namespace Mine
section
variable {prog : Program} {w : World} {g₀ : Heap} {n : Nat} {env : Env} {P : Option Addr} {ρ : Str → Option V} {own : Own} {p p' p'' p₁ p₂ p₃ p₄ : List Int} {fr : Bool} {H s s' : Shared} {ex : Addr → Prop} {Q : Fl → (Str → Option V) → Own → List Int → Prop}

theorem mem_dropO {x : Str} {e} (h : e ∈ dropO own x) : e ∈ own ∧ e.1 ≠ x := by
  unfold dropO at h
  rw [List.mem_filter] at h
  exact ⟨h.1, by simpa using h.2⟩
theorem priv_drop {x : Str} {a} (h : a ∈ priv env (dropO own x)) : a ∈ priv env own := by
  unfold priv at h ⊢
  rcases List.mem_cons.mp h with rfl | h
  · exact .head _
  · refine .tail _ ?_
    rcases List.mem_append.mp h with h | h
    · exact List.mem_append_left _ h
    · obtain ⟨e, he, rfl⟩ := List.mem_map.mp h
      exact List.mem_append_right _ (List.mem_map.mpr ⟨e, (mem_dropO he).1, rfl⟩)
theorem nod_drop {x : Str} (h : (priv env own).Nodup) : (priv env (dropO own x)).Nodup := by
  refine h.sublist ?_
  unfold priv dropO
  exact List.Sublist.cons_cons _ (List.Sublist.append (List.Sublist.refl _) (List.Sublist.map _ List.filter_sublist))
theorem okp_drop {x : Str} {a} (h : okp env P own ex a) : okp env P (dropO own x) ex a := ⟨h.1, fun q => h.2.1 (priv_drop q), h.2.2⟩

/-- a value that owns nothing -/
theorem RepV.s1 {vars x v val d h' k} (R : RepV prog w g₀ env P H ex vars ρ own p s) (hv : VR P (okp env P own ex) s.heap v val) (hx : Storable env x) (hd : d ∈ env.locals :: env.cells.map (·.2)) (hs : Heap.SameBut d s.heap h')
    (loc : ∃ m, h'.Ns env.locals m ∧ ∀ y, env.kindOf y = some .local → m y = upv vars x val y) (cel : ∀ y c, env.cells.lookup y = some c → env.kindOf y = some .cell ∧ h'.IsCell c (upv vars x val y)) :
    RepV prog w g₀ env P H ex (upv vars x val) (upd ρ x v) (dropO own x) p { s with heap := h', toks := k } := by
  refine R.core hx hd hs loc cel (nod_drop R.nod) (fun a ha => R.pf a (priv_drop ha)) (fun e he => ?_) fun y u e => ?_
  · obtain ⟨hm, hne⟩ := mem_dropO he
    obtain ⟨h1, h2⟩ := R.ow e hm
    refine ⟨by unfold upv; rw [if_neg hne]; exact h1, h2.mono (fun _ q => q) (fun _ _ _ e => e) fun a q => okp_drop q⟩
  · unfold upd at e
    unfold upv
    by_cases q : y = x
    · rw [if_pos q] at e; cases e
      exact ⟨val, by rw [if_pos q], hv.mono (fun _ _ _ e => e) fun a q => okp_drop q⟩
    · rw [if_neg q] at e
      obtain ⟨u', h1, h2⟩ := R.vr y u e
      exact ⟨u', by rw [if_neg q]; exact h1, h2.mono (fun _ _ _ e => e) fun a q => okp_drop q⟩

/-- a new object that the name owns; it was not there at s₀ -/
theorem RepV.s2 {s₀ : Shared} {vars x a o d h' k} (R₀ : RepV prog w g₀ env P H ex vars ρ own p' s₀) (R : RepV prog w g₀ env P H ex vars ρ own p s) (st : Stp P s₀ s) (hf : s₀.heap.get? a = none) (hl : s.heap.get? a ≠ none)
    (ho : OwAt prog w P (okp env P own ex) s.heap a o) (hsep : ∀ b, okp env P own ex b → b ≠ a → okp env P ((x, a, o) :: dropO own x) ex b) (hoa : OwAt prog w P (fun b => okp env P own ex b ∧ b ≠ a) s.heap a o)
    (hx : Storable env x) (hd : d ∈ env.locals :: env.cells.map (·.2)) (hs : Heap.SameBut d s.heap h')
    (loc : ∃ m, h'.Ns env.locals m ∧ ∀ y, env.kindOf y = some .local → m y = upv vars x (.ref a) y) (cel : ∀ y c, env.cells.lookup y = some c → env.kindOf y = some .cell ∧ h'.IsCell c (upv vars x (.ref a) y)) :
    RepV prog w g₀ env P H ex (upv vars x (.ref a)) (del ρ x) ((x, a, o) :: dropO own x) p { s with heap := h', toks := k } := by
  have haP : some a ≠ P := fun q => R₀.pool.live a q.symm hf
  have hap : a ∉ priv env own := fun q => (R₀.pf a q).2.2 hf
  have hpm : ∀ b, b ∈ priv env ((x, a, o) :: dropO own x) → b = a ∨ b ∈ priv env own := fun b hb => by
    unfold priv at hb
    rcases List.mem_cons.mp hb with rfl | hb
    · exact .inr (.head _)
    · rcases List.mem_append.mp hb with hb | hb
      · exact .inr (.tail _ (List.mem_append_left _ hb))
      · rw [List.map_cons] at hb
        rcases List.mem_cons.mp hb with rfl | hb
        · exact .inl rfl
        · exact .inr (priv_drop (.tail _ (List.mem_append_right _ hb)))
  refine R.core hx hd hs loc cel ?_ (fun b hb => ?_) (fun e he => ?_) fun y u e => ?_
  · have h1 := nod_drop (x := x) R.nod
    have h2 : a ∉ priv env (dropO own x) := fun q => hap (priv_drop q)
    unfold priv at h1 h2 ⊢
    rw [List.map_cons]
    rw [show env.locals :: (env.cells.map (·.2) ++ a :: (dropO own x).map fun x => x.2.1) = (env.locals :: env.cells.map (·.2)) ++ a :: (dropO own x).map (fun x => x.2.1) from rfl]
    rw [show env.locals :: (env.cells.map (·.2) ++ (dropO own x).map fun x => x.2.1) = (env.locals :: env.cells.map (·.2)) ++ (dropO own x).map (fun x => x.2.1) from rfl] at h1 h2
    refine (List.perm_middle.nodup_iff).mpr ?_
    exact List.nodup_cons.mpr ⟨h2, h1⟩
  · rcases hpm b hb with rfl | hb
    · refine ⟨haP, ?_, hl⟩
      cases q : H.heap.get? b with
      | none => rfl
      | some ob => rw [R₀.keep b ob haP q] at hf; cases hf
    · exact R.pf b hb
  · rcases List.mem_cons.mp he with rfl | he
    · exact ⟨by simp [upv], hoa.mono (fun _ q => q) (fun _ _ _ e => e) fun b q => hsep b q.1 q.2⟩
    · obtain ⟨hm, hne⟩ := mem_dropO he
      obtain ⟨h1, h2⟩ := R₀.ow e hm
      refine ⟨by unfold upv; rw [if_neg hne]; exact h1, ?_⟩
      have hme : e.2.1 ∈ priv env own := .tail _ (List.mem_append_right _ (List.mem_map.mpr ⟨e, hm, rfl⟩))
      obtain ⟨_, h3⟩ := R.ow e hm
      -- the elements were there at s₀
      cases ho2 : e.2.2 with
      | list xs =>
        rw [ho2] at h2
        obtain ⟨vs, hl2, r⟩ := h2
        refine ⟨vs, hl2.at fun o q => st.keep _ o (R₀.pf _ hme).1 q, r.alloc.mono (fun b o q e => st.keep b o q.1.1 e) fun b q => hsep b q.1 fun z => q.2 (z ▸ hf)⟩
      | dict pw f m =>
        rw [ho2] at h3
        exact h3
  · unfold del at e
    unfold upv
    by_cases q : y = x
    · rw [if_pos q] at e; cases e
    · rw [if_neg q] at e
      obtain ⟨u', h1, h2⟩ := R₀.vr y u e
      exact ⟨u', by rw [if_neg q]; exact h1, h2.alloc.mono (fun b o q e => st.keep b o q.1.1 e) fun b q => hsep b q.1 fun z => q.2 (z ▸ hf)⟩

theorem sep_new {x : Str} {a : Addr} {o : Ow} : ∀ b, okp env P own ex b → b ≠ a → okp env P ((x, a, o) :: dropO own x) ex b := fun b q hne => ⟨q.1, fun hb => by
  unfold priv at hb
  rcases List.mem_cons.mp hb with rfl | hb
  · exact q.2.1 (.head _)
  · rcases List.mem_append.mp hb with hb | hb
    · exact q.2.1 (.tail _ (List.mem_append_left _ hb))
    · rw [List.map_cons] at hb
      rcases List.mem_cons.mp hb with rfl | hb
      · exact hne rfl
      · exact q.2.1 (priv_drop (.tail _ (List.mem_append_right _ hb))), q.2.2⟩

/-! statements -/
theorem ws_nil (h : Q .next ρ own p) : WS prog w g₀ n env P ρ own p [] Q := .mk fun A H ex s R hA Rp hR => wpAny_execs_nil (hR _ _ _ _ _ _ h rfl Rp)

theorem ws_pass {pos rest} (h : WS prog w g₀ n env P ρ own p rest Q) : WS prog w g₀ n env P ρ own p (.Pass pos :: rest) Q := .mk fun A H ex s R hA Rp hR =>
  wpAny_execs_cons (wpAny_Pass (h A H ex s R hA Rp hR))
theorem ws_break {pos rest} (h : Q .brk ρ own p) : WS prog w g₀ n env P ρ own p (.Break pos :: rest) Q := .mk fun A H ex s R hA Rp hR =>
  wpAny_execs_cons (wpAny_Break (hR _ _ _ _ _ _ h rfl Rp))
theorem ws_continue {pos rest} (h : Q .cont ρ own p) : WS prog w g₀ n env P ρ own p (.Continue pos :: rest) Q := .mk fun A H ex s R hA Rp hR =>
  wpAny_execs_cons (wpAny_Continue (hR _ _ _ _ _ _ h rfl Rp))

/-- what follows a suite -/
noncomputable def QS (prog : Program) (w : World) (g₀ : Heap) (n : Nat) (env : Env) (P : Option Addr) (rest : List Stmt) (Q : Fl → (Str → Option V) → Own → List Int → Prop) : Fl → (Str → Option V) → Own → List Int → Prop :=
  fun fl ρ own p => match fl with
    | .next => WS prog w g₀ n env P ρ own p rest Q
    | fl => Q fl ρ own p

theorem qs_end {A : Around} {R : Flow → Shared → Prop} {rest : List Stmt} (hA : OkA n A) (hR : ∀ fl flow ρ' own' p' s', Q fl ρ' own' p' → FlR P H s' fl flow → Rep prog w g₀ env P H ex ρ' own' p' s' → R flow s') :
    ∀ fl flow ρ' own' p' s', QS prog w g₀ n env P rest Q fl ρ' own' p' → FlR P H s' fl flow → Rep prog w g₀ env P H ex ρ' own' p' s' →
      (match flow with | .next => wpAny (model prog w) A (execs rest env) R (fun _ _ => False) s' | f => R f s') := fun fl flow ρ' own' p' s' hq hf hr => by
  cases fl with
  | next => cases hf; exact WS.run hq A H ex s' R hA hr hR
  | brk => cases hf; exact hR _ _ _ _ _ _ hq rfl hr
  | cont => cases hf; exact hR _ _ _ _ _ _ hq rfl hr
  | ret v => obtain ⟨val, rfl, r⟩ := hf; exact hR _ _ _ _ _ _ hq ⟨val, rfl, r⟩ hr

theorem ws_if {t body orelse pos rest b} (ht : PT prog w g₀ n env P (ρo ρ own) p t b p₁) (h1 : b = true → WS prog w g₀ n env P ρ own p₁ body (QS prog w g₀ n env P rest Q))
    (h2 : b = false → WS prog w g₀ n env P ρ own p₁ orelse (QS prog w g₀ n env P rest Q)) : WS prog w g₀ n env P ρ own p (.If t body orelse pos :: rest) Q := .mk fun A H ex s R hA Rp hR => by
  obtain ⟨vars, Rp⟩ := Rp
  refine wpAny_execs_cons (wpAny_If (ht A _ _ s _ hA Rp.stAll fun s₁ st hp => ?_))
  have R1 : Rep prog w g₀ env P H ex ρ own p₁ s₁ := ⟨vars, Rp.stp st hp⟩
  cases b with
  | true => rw [if_pos rfl]; exact h1 rfl A H ex s₁ _ hA R1 (qs_end hA hR)
  | false => rw [if_neg (by decide)]; exact h2 rfl A H ex s₁ _ hA R1 (qs_end hA hR)

/-- a name takes a value that owns nothing; read without the owned names -/
theorem ws_let {x px e pos rest v} (he : PE prog w g₀ n env P ρ p e false v p₁) (hx : Storable env x) (h : WS prog w g₀ n env P (upd ρ x v) (dropO own x) p₁ rest Q)
    (hsw : swapsWith e (some (.Name x px)) pos.line env = pure false := by rfl) : WS prog w g₀ n env P ρ own p (.Assign [.Name x px] e pos :: rest) Q := .mk fun A H ex s R hA Rp hR => by
  obtain ⟨vars, Rp⟩ := Rp
  refine wpAny_execs_cons (wpAny_Assign_Name (he A _ _ s _ hA Rp.st fun val s₁ st hp r => ?_) hsw)
  have R1 := Rp.stp st hp
  have r' : VR P (okp env P own ex) s₁.heap v val := r.mono (fun _ _ _ e => e) fun a q => q.elim (fun z => ⟨fun q => Rp.pool.live a q.symm z, fun hm => (Rp.pf a hm).2.2 z, fun hx => (Rp.exl a hx).2 z⟩) fun z => z.2
  refine store_name R1 hx fun d h' k hd hs loc cel => ?_
  exact h A H ex _ R hA ⟨_, R1.s1 r' hx hd hs loc cel⟩ hR
/-- a scalar, all names at hand -/
theorem ws_lets {x px e pos rest v} (he : PE prog w g₀ n env P (ρo ρ own) p e false v p₁) (hx : Storable env x) (h : WS prog w g₀ n env P (upd ρ x v) (dropO own x) p₁ rest Q) (hv : v.scalar = true := by rfl)
    (hsw : swapsWith e (some (.Name x px)) pos.line env = pure false := by rfl) : WS prog w g₀ n env P ρ own p (.Assign [.Name x px] e pos :: rest) Q := .mk fun A H ex s R hA Rp hR => by
  obtain ⟨vars, Rp⟩ := Rp
  refine wpAny_execs_cons (wpAny_Assign_Name (he A _ _ s _ hA Rp.stAll fun val s₁ st hp r => ?_) hsw)
  have R1 := Rp.stp st hp
  refine store_name R1 hx fun d h' k hd hs loc cel => ?_
  exact h A H ex _ R hA ⟨_, R1.s1 ((VR.scalar hv).mpr ((VR.scalar hv).mp r)) hx hd hs loc cel⟩ hR
/-- a new list that nothing will turn -/
theorem ws_letf {x px e pos rest v} (he : PE prog w g₀ n env P (ρo ρ own) p e true v p₁) (hx : Storable env x) (h : WS prog w g₀ n env P (upd ρ x v) (dropO own x) p₁ rest Q)
    (hsw : swapsWith e (some (.Name x px)) pos.line env = pure false := by rfl) : WS prog w g₀ n env P ρ own p (.Assign [.Name x px] e pos :: rest) Q := .mk fun A H ex s R hA Rp hR => by
  obtain ⟨vars, Rp⟩ := Rp
  refine wpAny_execs_cons (wpAny_Assign_Name (he A _ _ s _ hA Rp.stAll fun val s₁ st hp r => ?_) hsw)
  have R1 := Rp.stp st hp
  have r' : VR P (okp env P own ex) s₁.heap v val := r.mono (fun _ _ _ e => e) fun a q => q.elim (fun z => ⟨fun q => Rp.pool.live a q.symm z, fun hm => (Rp.pf a hm).2.2 z, fun hx => (Rp.exl a hx).2 z⟩) fun z => by simp at z
  refine store_name R1 hx fun d h' k hd hs loc cel => ?_
  exact h A H ex _ R hA ⟨_, R1.s1 r' hx hd hs loc cel⟩ hR

theorem VRs.allSc {P : Option Addr} {ok ok' : Addr → Prop} {h : Heap} : ∀ {xs : List V} {vs : List Value}, (∀ v ∈ xs, v.scalar = true) → VRs P ok h xs vs → VRs P ok' h xs vs
  | [], _, _, r => by simpa only [VRs] using r
  | x :: xs, _, hs, r => by
    simp only [VRs] at r ⊢
    obtain ⟨v, r', e, h1, h2⟩ := r
    exact ⟨v, r', e, (VR.scalar (hs x (.head _))).mpr ((VR.scalar (hs x (.head _))).mp h1), VRs.allSc (fun v hv => hs v (.tail _ hv)) h2⟩
theorem own_core {A : Around} {R : Flow → Shared → Prop} {x : Str} {rest : List Stmt} {s₁ : Shared} {vars : Str → Option Value} {xs : List V} {val : Value} (Rp : RepV prog w g₀ env P H ex vars ρ own p s) (hA : OkA n A) (st : Stp P s s₁) (hp : PoolAt P p₁ s₁.heap)
    (r : VR P (Out true (fun a => some a ≠ P) s) s₁.heap (.list xs) val) (hsc : ∀ v ∈ xs, v.scalar = true) (hx : Storable env x) (h : ∀ a, WS prog w g₀ n env P (del ρ x) ((x, a, .list xs) :: dropO own x) p₁ rest Q)
    (hR : ∀ fl flow ρ' own' p' s', Q fl ρ' own' p' → FlR P H s' fl flow → Rep prog w g₀ env P H ex ρ' own' p' s' → R flow s') : wpAny (model prog w) A (storeName env x val) (fun _ s' => wpAny (model prog w) A (execs rest env) R (fun _ _ => False) s') (fun _ _ => False) s₁ := by
  have R1 := Rp.stp st hp
  simp only [VR] at r
  obtain ⟨a, vs, rfl, ha, hl, rs⟩ := r
  have hf : s.heap.get? a = none := ha.elim id fun z => by simp at z
  refine store_name R1 hx fun d h' k hd hs loc cel => ?_
  have go : ∀ {ok : Addr → Prop}, VRs P ok s₁.heap xs vs := fun {ok} => VRs.allSc hsc rs
  refine h a A H ex _ R hA ⟨_, Rp.s2 (o := .list xs) R1 st hf (by obtain ⟨k, e⟩ := hl; rw [e]; exact fun q => nomatch q) ⟨vs, hl, go⟩ sep_new ⟨vs, hl, go⟩ hx hd hs loc cel⟩ hR

/-- a new list of scalars that the name owns -/
theorem ws_own {x px e pos rest} {xs : List V} (he : PE prog w g₀ n env P (ρo ρ own) p e true (.list xs) p₁) (hx : Storable env x) (hsc : ∀ v ∈ xs, v.scalar = true) (h : ∀ a, WS prog w g₀ n env P (del ρ x) ((x, a, .list xs) :: dropO own x) p₁ rest Q)
    (hsw : swapsWith e (some (.Name x px)) pos.line env = pure false := by rfl) : WS prog w g₀ n env P ρ own p (.Assign [.Name x px] e pos :: rest) Q := .mk fun A H ex s R hA Rp hR => by
  obtain ⟨vars, Rp⟩ := Rp
  exact wpAny_execs_cons (wpAny_Assign_Name (he A _ _ s _ hA Rp.stAll fun val s₁ st hp r => own_core Rp hA st hp r hsc hx h hR) hsw)

/-! returns -/
theorem FlR.sc {v : V} {val : Value} {ok} (hv : v.scalar = true) (r : VR P ok s.heap v val) : FlR P H s (.ret v) (.ret val) := ⟨val, rfl, (VR.scalar hv).mpr ((VR.scalar hv).mp r)⟩
theorem ws_ret {e pos rest v} (he : PE prog w g₀ n env P (ρo ρ own) p e false v p₁) (h : Q (.ret v) ρ own p₁) (hv : v.scalar = true := by rfl) : WS prog w g₀ n env P ρ own p (.Return (some e) pos :: rest) Q := .mk fun A H ex s R hA Rp hR => by
  obtain ⟨vars, Rp⟩ := Rp
  exact wpAny_execs_cons (wpAny_Return_some (he A _ _ s _ hA Rp.stAll fun val s₁ st hp r => hR _ _ _ _ _ _ h (FlR.sc hv r) ⟨vars, Rp.stp st hp⟩))
theorem ws_retf {e pos rest v} (he : PE prog w g₀ n env P (ρo ρ own) p e true v p₁) (h : Q (.ret v) ρ own p₁) : WS prog w g₀ n env P ρ own p (.Return (some e) pos :: rest) Q := .mk fun A H ex s R hA Rp hR => by
  obtain ⟨vars, Rp⟩ := Rp
  refine wpAny_execs_cons (wpAny_Return_some (he A _ _ s _ hA Rp.stAll fun val s₁ st hp r => hR _ _ _ _ _ _ h ⟨val, rfl, r.mono (fun _ _ _ e => e) fun a q => ?_⟩ ⟨vars, Rp.stp st hp⟩))
  have hf : s.heap.get? a = none := q.elim id fun z => by simp at z
  cases e : H.heap.get? a with
  | none => rfl
  | some o =>
    by_cases q : some a = P
    · exact absurd hf (Rp.pool.live a q.symm)
    · rw [Rp.keep a o q e] at hf; cases hf
theorem ws_reto {x px pos rest} {a : Addr} {xs : List V} (hm : (x, a, Ow.list xs) ∈ own) (hsc : ∀ v ∈ xs, v.scalar = true) (h : Q (.ret (.list xs)) ρ own p) (hd : (x == ("__debug__" : Str)) = false := by decide) : WS prog w g₀ n env P ρ own p (.Return (some (.Name x px)) pos :: rest) Q := .mk fun A H ex s R hA Rp hR => by
  obtain ⟨vars, Rp⟩ := Rp
  obtain ⟨h1, vs, hl, r⟩ := Rp.ow _ hm
  have hp : a ∈ priv env own := .tail _ (List.mem_append_right _ (List.mem_map.mpr ⟨_, hm, rfl⟩))
  refine wpAny_execs_cons (wpAny_Return_some (wpAny_Name ((Rp.rd h1).ld (hR _ _ _ _ _ _ h ⟨.ref a, rfl, ?_⟩ ⟨vars, Rp⟩)) hd))
  simp only [VR]
  exact ⟨a, vs, rfl, (Rp.pf a hp).2.1, hl, VRs.allSc hsc r⟩
end
end Mine
end

section
open PySem PySem.W PyProof.Rows PySem.Calls Builtin.Str
set_option autoImplicit false
set_option Elab.async false
set_option linter.all false
set_option maxRecDepth 100000
namespace Mine
section
variable {prog : Program} {w : World} {g₀ : Heap} {n : Nat} {env : Env} {P : Option Addr} {ρ : Str → Option V} {own : Own} {p p' p'' p₁ p₂ p₃ p₄ : List Int} {fr : Bool} {H s s' : Shared} {ex : Addr → Prop} {Q : Fl → (Str → Option V) → Own → List Int → Prop}

noncomputable def Inp0 (prog : Program) (w : World) (op : Operator) (a b r : V) : Prop :=
  ∀ (A : Around) (E : Value → Shared → Prop) (Q : Value → Shared → Prop) (s : Shared) (t u : Tok), (∀ t' k, Q (r.val t') { s with toks := k }) → wpAny (model prog w) A (inplaceOp op (a.val t) (b.val u)) Q E s
structure Inp (prog : Program) (w : World) (op : Operator) (a b r : V) : Prop where
  run : Inp0 prog w op a b r
instance {prog : Program} {w : World} {op : Operator} {a b r : V} : CoeFun (Inp prog w op a b r) (fun _ => Inp0 prog w op a b r) := ⟨fun x => x.run⟩
theorem inp_add {a b : Int} : Inp prog w .Add (.int a) (.int b) (.int (a + b)) := .mk fun _ _ _ _ _ _ h => PySem.P.iadd_int (h _ _)
theorem inp_cat {x y : Str} (hz : (x ++ y).length ≤ sizeLine) : Inp prog w .Add (.str x) (.str y) (.str (x ++ y)) := .mk fun _ _ _ _ _ _ h => PySem.P.iadd_str (made_add hz h)

theorem ws_aug {x px op e pos rest a b c} (hn : ρo ρ own x = some a) (he : PE prog w g₀ n env P (ρo ρ own) p e false b p₁) (hi : Inp prog w op a b c) (hx : Storable env x) (h : WS prog w g₀ n env P (upd ρ x c) (dropO own x) p₁ rest Q)
    (h1 : a.scalar = true := by rfl) (h2 : b.scalar = true := by rfl) (h3 : c.scalar = true := by rfl) : WS prog w g₀ n env P ρ own p (.AugAssign (.Name x px) op e pos :: rest) Q := .mk fun A H ex s R hA Rp hR => by
  obtain ⟨vars, Rp⟩ := Rp
  obtain ⟨val, hv, hr⟩ := Rp.stAll.vars x a hn
  obtain ⟨t, rfl⟩ := (VR.scalar h1).mp hv
  refine wpAny_execs_cons (wpAny_AugAssign_Name (hr.ld (he A _ _ s _ hA Rp.stAll fun vb s₁ st hp r => ?_)))
  obtain ⟨u, rfl⟩ := (VR.scalar h2).mp r
  refine hi A _ _ s₁ t u fun t' k => ?_
  have R1 := (Rp.stp st hp).stp (.toks k) (show PoolAt P p₁ s₁.heap from hp)
  refine store_name R1 hx fun d h' k' hd hs loc cel => ?_
  exact h A H ex _ R hA ⟨_, R1.s1 (VR.of_val h3 t') hx hd hs loc cel⟩ hR

/-! the state seen from within a loop's turn -/
noncomputable def hideS (s : Shared) (l : List Addr) : Shared := { s with heap := hideAll s.heap l }

theorem RepV.inner {vars} (R : RepV prog w g₀ env P H ex vars ρ own p s) : RepV prog w g₀ env P (hideS s (priv env own)) ex vars ρ own p s :=
  { R with
    pf := fun a ha => ⟨(R.pf a ha).1, hideAll_none _ ha, (R.pf a ha).2.2⟩
    keep := fun b o _ e => of_hideAll _ e
    same := rfl
    base := fun b o e => by
      have h1 := R.base' b o e
      refine hideAll_get _ h1 fun q => ?_
      have h2 := R.base b o e
      rw [(R.pf b q).2.1] at h2; cases h2 }
theorem RepV.outer {vars vars' ρ' own' s''} (R : RepV prog w g₀ env P H ex vars ρ own p s) (R' : RepV prog w g₀ env P (hideS s (priv env own)) ex vars' ρ' own' p' s'') : RepV prog w g₀ env P H ex vars' ρ' own' p' s'' :=
  have up : ∀ b o, some b ≠ P → H.heap.get? b = some o → (hideS s (priv env own)).heap.get? b = some o := fun b o hb e =>
    hideAll_get _ (R.keep b o hb e) fun q => by rw [(R.pf b q).2.1] at e; cases e
  { R' with
    pf := fun a ha => by
      obtain ⟨h1, h2, h3⟩ := R'.pf a ha
      refine ⟨h1, ?_, h3⟩
      cases e : H.heap.get? a with
      | none => rfl
      | some o => rw [up a o h1 e] at h2; cases h2
    keep := fun b o hb e => R'.keep b o hb (up b o hb e)
    same := by rw [R'.same]; show _ = _; unfold hideS; dsimp only; rw [R.same]
    base := R.base }
theorem FlR.outer {vars fl flow s''} (R : RepV prog w g₀ env P H ex vars ρ own p s) (h : FlR P (hideS s (priv env own)) s'' fl flow) : FlR P H s'' fl flow := by
  cases fl with
  | ret v =>
    obtain ⟨val, e, r⟩ := h
    refine ⟨val, e, r.mono (fun _ _ _ e => e) fun a q => ?_⟩
    cases e : H.heap.get? a with
    | none => rfl
    | some o =>
      by_cases z : some a = P
      · have h1 := R.pool.live a z.symm
        have h2 : (hideS s (priv env own)).heap.get? a = none := q
        cases e2 : s.heap.get? a with
        | none => exact absurd e2 h1
        | some o' =>
          have : (hideS s (priv env own)).heap.get? a = some o' := hideAll_get _ e2 fun q => (R.pf a q).1 z
          rw [this] at h2; cases h2
      · have : (hideS s (priv env own)).heap.get? a = some o := hideAll_get _ (R.keep a o z e) fun q => by rw [(R.pf a q).2.1] at e; cases e
        rw [this] at q; cases q
  | _ => exact h

/-- the iterator turned -/
theorem RepV.iter {vars} {wr : List Addr} {h' : Heap} {k : Nat} (R : RepV prog w g₀ env P H (fun a => ex a ∨ a ∈ wr) vars ρ own p s) (hw : ∀ b ∈ wr, b ∉ priv env own ∧ H.heap.get? b = none) (hal : ∀ b ∈ wr, h'.get? b ≠ none)
    (hk : ∀ b o, b ∉ wr → s.heap.get? b = some o → h'.get? b = some o) : RepV prog w g₀ env P H (fun a => ex a ∨ a ∈ wr) vars ρ own p { s with heap := h', toks := k } where
  hk := R.hk
  loc := let ⟨m, h1, h2⟩ := R.loc; ⟨m, h1.at' fun o e => hk _ o (fun q => (hw _ q).1 (.head _)) e, h2⟩
  cel := fun y c e => let ⟨h1, o, ho, hd⟩ := R.cel y c e; ⟨h1, o, hk c o (fun q => (hw _ q).1 (.tail _ (List.mem_append_left _ (List.mem_map.mpr ⟨_, mem_of_lookup e, rfl⟩)))) ho, hd⟩
  celn := R.celn
  nod := R.nod
  pf := fun a ha => by
    obtain ⟨h1, h2, h3⟩ := R.pf a ha
    refine ⟨h1, h2, ?_⟩
    cases e : s.heap.get? a with
    | none => exact absurd e h3
    | some o => exact fun q => by rw [hk a o (fun q => (hw _ q).1 ha) e] at q; cases q
  ow := fun x hx => by
    obtain ⟨h1, h2⟩ := R.ow x hx
    have hm : x.2.1 ∈ priv env own := .tail _ (List.mem_append_right _ (List.mem_map.mpr ⟨x, hx, rfl⟩))
    exact ⟨h1, h2.mono (fun o e => hk _ o (fun q => (hw _ q).1 hm) e) (fun a o q e => hk a o (fun z => q.2.2 (.inr z)) e) fun _ q => q⟩
  vr := fun y v e => let ⟨val, h1, h2⟩ := R.vr y v e; ⟨val, h1, h2.mono (fun a o q e => hk a o (fun z => q.2.2 (.inr z)) e) fun _ q => q⟩
  kd := R.kd
  keep := fun b o hb e => hk b o (fun q => by rw [(hw b q).2] at e; cases e) (R.keep b o hb e)
  same := by rw [R.same]
  base := R.base
  pbase := R.pbase
  pool := R.pool.of fun a o e h => hk a o (fun q => (R.exl a (.inr q)).1 e.symm) h
  exl := fun a ha => by
    obtain ⟨h1, h2⟩ := R.exl a ha
    refine ⟨h1, ?_⟩
    by_cases q : a ∈ wr
    · exact hal a q
    · cases e : s.heap.get? a with
      | none => exact absurd e h2
      | some o => exact fun z => by rw [hk a o q e] at z; cases z


theorem RepV.iterEnd {vars} {wr : List Addr} {h' : Heap} {k : Nat} (R : RepV prog w g₀ env P H (fun a => ex a ∨ a ∈ wr) vars ρ own p s) (hw : ∀ b ∈ wr, b ∉ priv env own ∧ H.heap.get? b = none)
    (hne : ∀ a, ex a → a ∉ wr) (hk : ∀ b o, b ∉ wr → s.heap.get? b = some o → h'.get? b = some o) : RepV prog w g₀ env P H ex vars ρ own p { s with heap := h', toks := k } where
  hk := R.hk
  loc := let ⟨m, h1, h2⟩ := R.loc; ⟨m, h1.at' fun o e => hk _ o (fun q => (hw _ q).1 (.head _)) e, h2⟩
  cel := fun y c e => let ⟨h1, o, ho, hd⟩ := R.cel y c e; ⟨h1, o, hk c o (fun q => (hw _ q).1 (.tail _ (List.mem_append_left _ (List.mem_map.mpr ⟨_, mem_of_lookup e, rfl⟩)))) ho, hd⟩
  celn := R.celn
  nod := R.nod
  pf := fun a ha => by
    obtain ⟨h1, h2, h3⟩ := R.pf a ha
    refine ⟨h1, h2, ?_⟩
    cases e : s.heap.get? a with
    | none => exact absurd e h3
    | some o => exact fun q => by rw [hk a o (fun q => (hw _ q).1 ha) e] at q; cases q
  ow := fun x hx => by
    obtain ⟨h1, h2⟩ := R.ow x hx
    have hm : x.2.1 ∈ priv env own := .tail _ (List.mem_append_right _ (List.mem_map.mpr ⟨x, hx, rfl⟩))
    exact ⟨h1, h2.mono (fun o e => hk _ o (fun q => (hw _ q).1 hm) e) (fun a o q e => hk a o (fun z => q.2.2 (.inr z)) e) fun _ q => ⟨q.1, q.2.1, fun z => q.2.2 (.inl z)⟩⟩
  vr := fun y v e => let ⟨val, h1, h2⟩ := R.vr y v e; ⟨val, h1, h2.mono (fun a o q e => hk a o (fun z => q.2.2 (.inr z)) e) fun _ q => ⟨q.1, q.2.1, fun z => q.2.2 (.inl z)⟩⟩
  kd := R.kd
  keep := fun b o hb e => hk b o (fun q => by rw [(hw b q).2] at e; cases e) (R.keep b o hb e)
  same := by rw [R.same]
  base := R.base
  pbase := R.pbase
  pool := R.pool.of fun a o e h => hk a o (fun q => (R.exl a (.inr q)).1 e.symm) h
  exl := fun a ha => by
    obtain ⟨h1, h2⟩ := R.exl a (.inl ha)
    refine ⟨h1, ?_⟩
    cases e : s.heap.get? a with
    | none => exact absurd e h2
    | some o => exact fun z => by rw [hk a o (hne a ha) e] at z; cases z

theorem OwAt.vmono {ok ok' : Addr → Prop} {h : Heap} {a : Addr} {o : Ow} (x : OwAt prog w P ok h a o) (ho : ∀ b, ok b → h.get? b ≠ none → ok' b) : OwAt prog w P ok' h a o := by
  cases o with
  | list xs => obtain ⟨vs, hl, r⟩ := x; exact ⟨vs, hl, r.alloc.mono (fun _ _ _ e => e) fun b q => ho b q.1 q.2⟩
  | dict pw f m => exact x

theorem RepV.exMore {vars} {wr : List Addr} (R : RepV prog w g₀ env P H ex vars ρ own p s) {s₁} (st : Stp P s s₁) (hp : PoolAt P p₁ s₁.heap) (hw : ∀ b ∈ wr, s.heap.get? b = none ∧ some b ≠ P ∧ s₁.heap.get? b ≠ none) :
    RepV prog w g₀ env P H (fun a => ex a ∨ a ∈ wr) vars ρ own p₁ s₁ :=
  have R1 := R.stp st hp
  have sub : ∀ b, okp env P own ex b → s.heap.get? b ≠ none → okp env P own (fun a => ex a ∨ a ∈ wr) b := fun b q h => ⟨q.1, q.2.1, fun z => z.elim q.2.2 fun m => h (hw b m).1⟩
  { R1 with
    ow := fun x hx => by
      obtain ⟨h1, h2⟩ := R.ow x hx
      have hm : x.2.1 ∈ priv env own := .tail _ (List.mem_append_right _ (List.mem_map.mpr ⟨x, hx, rfl⟩))
      exact ⟨h1, (h2.vmono sub).mono (fun o e => st.keep _ o (R.pf _ hm).1 e) (fun a o q e => st.keep a o q.1 e) fun _ q => q⟩
    vr := fun y v e => let ⟨val, h1, h2⟩ := R.vr y v e; ⟨val, h1, h2.alloc.mono (fun a o q e => st.keep a o q.1.1 e) fun b q => sub b q.1 q.2⟩
    exl := fun a ha => ha.elim (R1.exl a) fun m => ⟨(hw a m).2.1, (hw a m).2.2⟩ }
theorem RepV.exLess {vars} {wr : List Addr} (R : RepV prog w g₀ env P H (fun a => ex a ∨ a ∈ wr) vars ρ own p s) : RepV prog w g₀ env P H ex vars ρ own p s :=
  have sub : ∀ b, okp env P own (fun a => ex a ∨ a ∈ wr) b → okp env P own ex b := fun b q => ⟨q.1, q.2.1, fun z => q.2.2 (.inl z)⟩
  { R with
    ow := fun x hx => ⟨(R.ow x hx).1, (R.ow x hx).2.vmono fun b q _ => sub b q⟩
    vr := fun y v e => let ⟨val, h1, h2⟩ := R.vr y v e; ⟨val, h1, h2.mono (fun _ _ _ e => e) sub⟩
    exl := fun a ha => R.exl a (.inl ha) }

/-- a for over what an iterator yields: a word of the state after i turns -/
theorem ws_for {x : Str} {px : Pos} {iter : Expr} {body : List Stmt} {pos : Pos} {rest : List Stmt} {items : List V} (hi : PI prog w g₀ n env P ρ p iter items p₁) (hx : Storable env x)
    (I : Nat → (Str → Option V) → Own → List Int → Prop) (h0 : I 0 ρ own p₁)
    (turn : ∀ i v ρ' own' p', items[i]? = some v → I i ρ' own' p' → WS prog w g₀ n env P (upd ρ' x v) (dropO own' x) p' body fun fl ρ'' own'' p'' => match fl with
      | .next | .cont => I (i + 1) ρ'' own'' p''
      | .brk => WS prog w g₀ n env P ρ'' own'' p'' rest Q
      | .ret v => Q (.ret v) ρ'' own'' p'')
    (last : ∀ ρ' own' p', I items.length ρ' own' p' → WS prog w g₀ n env P ρ' own' p' rest Q)
    (hs : ∀ x, foldedSetIterable iter env x = pure x := by intro _; rfl) :
    WS prog w g₀ n env P ρ own p (.For (.Name x px) iter body [] pos :: rest) Q := .mk fun A H ex s R hA Rp hR => by
  obtain ⟨vars, Rp⟩ := Rp
  refine wpAny_execs_cons (wpAny_For (hi A _ _ s _ hA Rp.st fun J fp wr Pw Sw s₁ st hp W hit hS0 hal hwr hfp => ?_) hs)
  have hPw : ∀ b ∈ wr, some b ≠ P := fun b hb => (hfp b (W.sub b hb)).2.1
  have R1 := Rp.exMore st hp (wr := wr) fun b hb => ⟨hwr b hb, hPw b hb, hal _ _ hS0 b hb⟩
  -- what the loop reads
  let K : Addr → Prop := fun a => a ∈ fp ∨ ((Out false (okp env P own ex) s a ∧ a ∉ wr) ∧ s₁.heap.get? a ≠ none)
  have hKo : ∀ a, Out false (okp env P own ex) s a → some a ≠ P ∧ a ∉ priv env own := fun a q => by
    rcases q with q | q
    · exact ⟨fun z => Rp.pool.live a z.symm q, fun hm => (Rp.pf a hm).2.2 q⟩
    · exact ⟨q.2.1, q.2.2.1⟩
  have hK0 : ∀ a, K a → some a ≠ P ∧ a ∉ priv env own ∧ s₁.heap.get? a ≠ none := fun a q => by
    rcases q with q | q
    · have h1 := hfp a q
      exact ⟨h1.2.1, (hKo a h1.2.2.1).2, h1.2.2.2⟩
    · exact ⟨(hKo a q.1.1).1, (hKo a q.1.1).2, q.2⟩
  refine codeAny_forLoop
    (fun k s' => ∃ i vars' ρ' own' p', i ≤ items.length ∧ k = items.length + 1 - i ∧ I i ρ' own' p' ∧ RepV prog w g₀ env P H (fun a => ex a ∨ a ∈ wr) vars' ρ' own' p' s' ∧ Sw i s'.heap ∧
      (∀ a, K a → a ∉ priv env own' ∧ s'.heap.get? a ≠ none) ∧ (∀ a o, (Out false (okp env P own ex) s a ∧ a ∉ wr) → s₁.heap.get? a = some o → s'.heap.get? a = some o)) ?_ (items.length + 1)
    ⟨0, vars, ρ, own, p₁, Nat.zero_le _, rfl, h0, R1, hS0, fun a q => ⟨(hK0 a q).2.1, (hK0 a q).2.2⟩, fun _ _ _ e => e⟩
  rintro k s' ⟨i, vars', ρ', own', p', hi', rfl, hI, R', hS, hK, hk⟩
  have hwp : ∀ b ∈ wr, b ∉ priv env own' ∧ H.heap.get? b = none := fun b hb => by
    refine ⟨(hK b (.inl (W.sub b hb))).1, ?_⟩
    cases e : H.heap.get? b with
    | none => rfl
    | some o => have := Rp.keep b o (hPw b hb) e; rw [hwr b hb] at this; cases this
  by_cases hlt : i < items.length
  · refine W.item i _ _ _ hlt hS fun v h₂ tk₂ hPv hS₂ hk₂ => ?_
    obtain ⟨itm, hitm, hvr⟩ := hit i v hlt hPv
    have R2 := R'.iter (k := tk₂) hwp (fun b hb => hal _ _ hS₂ b hb) hk₂
    have hk2 : ∀ a o, (Out false (okp env P own ex) s a ∧ a ∉ wr) → s₁.heap.get? a = some o → h₂.get? a = some o := fun a o q e => hk₂ a o q.2 (hk a o q e)
    have hv2 : VR P (okp env P own' (fun a => ex a ∨ a ∈ wr)) h₂ itm v := by
      refine hvr.alloc.mono (fun a o q e => hk2 a o q.1 e) fun a q => ?_
      have h1 := hK a (.inr q)
      refine ⟨(hKo a q.1.1).1, h1.1, fun z => z.elim (fun z => ?_) fun m => q.1.2 m⟩
      rcases q.1.1 with y | y
      · exact (Rp.exl a z).2 y
      · exact y.2.2.2 z
    refine wpAny_assign_Name (store_name R2 hx fun d h' k' hd hs' loc cel => ?_)
    have R3 := R2.s1 (h' := h') (k := k') hv2 hx hd hs' loc cel
    have hdp : d ∈ priv env own' := by
      rcases List.mem_cons.mp hd with rfl | q
      · exact .head _
      · exact .tail _ (List.mem_append_left _ q)
    have keepK : ∀ a o, K a → h₂.get? a = some o → h'.get? a = some o := fun a o q e => hs'.extBut a o (fun z => (hK a q).1 (z ▸ hdp)) e
    have K2 : ∀ a, K a → h₂.get? a ≠ none := fun a q => by
      by_cases m : a ∈ wr
      · exact hal _ _ hS₂ a m
      · cases e : s'.heap.get? a with
        | none => exact absurd e (hK a q).2
        | some o => rw [hk₂ a o m e]; exact fun z => nomatch z
    have K3 : ∀ a, K a → a ∉ priv env (dropO own' x) ∧ h'.get? a ≠ none := fun a q => by
      refine ⟨fun m => (hK a q).1 (priv_drop m), ?_⟩
      cases e : h₂.get? a with
      | none => exact absurd e (K2 a q)
      | some o => rw [keepK a o q e]; exact fun z => nomatch z
    have hS₃ : Sw (i + 1) h' := W.frame _ _ _ hS₂ fun b hb o e => keepK b o (.inl hb) e
    refine wpAny_mono (turn i itm ρ' own' p' hitm hI A _ _ _ _ hA ⟨_, R3.inner⟩ fun fl flow ρ'' own'' p'' s'' hq hf hr => ?_) (fun _ _ x => x) fun _ _ f => f.elim
    obtain ⟨vars'', hr⟩ := hr
    have R4 := R3.outer hr
    have hf4 : FlR P H s'' fl flow := FlR.outer R3 hf
    have kin : ∀ a o, K a → h'.get? a = some o → s''.heap.get? a = some o := fun a o q e => hr.keep a o (hK0 a q).1 (hideAll_get _ e (K3 a q).1)
    have K4 : ∀ a, K a → a ∉ priv env own'' ∧ s''.heap.get? a ≠ none := fun a q => by
      cases e : h'.get? a with
      | none => exact absurd e (K3 a q).2
      | some o =>
        refine ⟨fun m => ?_, by rw [kin a o q e]; exact fun z => nomatch z⟩
        have h1 := (hr.pf a m).2.1
        have h2 : (hideS { s' with heap := h', toks := k' } (priv env (dropO own' x))).heap.get? a = some o := hideAll_get _ e (K3 a q).1
        rw [h2] at h1; cases h1
    have nxt : I (i + 1) ρ'' own'' p'' → ∃ m, m < items.length + 1 - i ∧ ∃ i vars' ρ' own' p', i ≤ items.length ∧ m = items.length + 1 - i ∧ I i ρ' own' p' ∧ RepV prog w g₀ env P H (fun a => ex a ∨ a ∈ wr) vars' ρ' own' p' s'' ∧ Sw i s''.heap ∧
      (∀ a, K a → a ∉ priv env own' ∧ s''.heap.get? a ≠ none) ∧ (∀ a o, (Out false (okp env P own ex) s a ∧ a ∉ wr) → s₁.heap.get? a = some o → s''.heap.get? a = some o) := fun hI' =>
      ⟨items.length + 1 - (i + 1), by omega, i + 1, vars'', ρ'', own'', p'', hlt, rfl, hI', R4, W.frame _ _ _ hS₃ (fun b hb o e => kin b o (.inl hb) e), K4, fun a o q e => by
        have h1 := hk2 a o q e
        have hKa : K a := .inr ⟨q, by rw [e]; exact fun z => nomatch z⟩
        exact kin a o hKa (keepK a o hKa h1)⟩
    cases fl with
    | next => cases hf; exact nxt hq
    | cont => cases hf; exact nxt hq
    | brk => cases hf; exact hq A H ex s'' R hA ⟨_, R4.exLess⟩ hR
    | ret v =>
      obtain ⟨val, rfl, r⟩ := hf4
      exact hR _ _ _ _ _ _ hq ⟨val, rfl, r⟩ ⟨_, R4.exLess⟩
  · have hie : i = items.length := by omega
    subst hie
    refine W.done _ _ _ hS fun h₂ tk₂ hk₂ => wpAny_execs_nil ?_
    exact last ρ' own' p' hI A H ex _ R hA ⟨_, R'.iterEnd (k := tk₂) hwp (fun a ha m => (Rp.exl a ha).2 (hwr a m)) hk₂⟩ hR
end
end Mine
end

section
open PySem PySem.W PyProof.Rows PySem.Calls Builtin.Str
set_option autoImplicit false
set_option Elab.async false
set_option linter.all false
set_option maxRecDepth 100000
namespace Mine
section
variable {prog : Program} {w : World} {g₀ : Heap} {n : Nat} {env : Env} {P : Option Addr} {ρ : Str → Option V} {own : Own} {p p' p'' p₁ p₂ p₃ p₄ : List Int} {fr : Bool} {H s s' : Shared} {ex : Addr → Prop} {Q : Fl → (Str → Option V) → Own → List Int → Prop}

/-! while -/
theorem ws_while {t body pos rest} (I : Nat → (Str → Option V) → Own → List Int → Prop) (k0 : Nat) (h0 : I k0 ρ own p)
    (turn : ∀ k ρ' own' p', I k ρ' own' p' → ∃ b p₁, PT prog w g₀ n env P (ρo ρ' own') p' t b p₁ ∧
      (b = true → WS prog w g₀ n env P ρ' own' p₁ body fun fl ρ'' own'' p'' => match fl with
        | .next | .cont => ∃ k', k' < k ∧ I k' ρ'' own'' p''
        | .brk => WS prog w g₀ n env P ρ'' own'' p'' rest Q
        | .ret v => Q (.ret v) ρ'' own'' p'') ∧
      (b = false → WS prog w g₀ n env P ρ' own' p₁ rest Q)) : WS prog w g₀ n env P ρ own p (.While t body [] pos :: rest) Q := .mk fun A H ex s R hA Rp hR => by
  refine wpAny_execs_cons (wpAny_While (codeAny_whileLoop (fun k s' => ∃ ρ' own' p', I k ρ' own' p' ∧ Rep prog w g₀ env P H ex ρ' own' p' s') (fun k s' hI => ?_) k0 ⟨ρ, own, p, h0, Rp⟩))
  obtain ⟨ρ', own', p', hI, vars, R'⟩ := hI
  obtain ⟨b, p₁, ht, h1, h2⟩ := turn k ρ' own' p' hI
  refine ht A _ _ s' _ hA R'.stAll fun s₁ st hp => ?_
  have R1 : Rep prog w g₀ env P H ex ρ' own' p₁ s₁ := ⟨vars, R'.stp st hp⟩
  cases b with
  | true =>
    rw [if_pos rfl]
    refine wpAny_mono (h1 rfl A H ex s₁ _ hA R1 fun fl flow ρ'' own'' p'' s'' hq hf hr => ?_) (fun _ _ x => x) fun _ _ f => f.elim
    cases fl with
    | next => cases hf; obtain ⟨k', hk, hI'⟩ := hq; exact ⟨k', hk, ρ'', own'', p'', hI', hr⟩
    | cont => cases hf; obtain ⟨k', hk, hI'⟩ := hq; exact ⟨k', hk, ρ'', own'', p'', hI', hr⟩
    | brk => cases hf; exact hq A H ex s'' R hA hr hR
    | ret v => obtain ⟨val, rfl, r⟩ := hf; exact hR _ _ _ _ _ _ hq ⟨val, rfl, r⟩ hr
  | false =>
    rw [if_neg (by decide)]
    exact wpAny_execs_nil (h2 rfl A H ex s₁ R hA R1 hR)

/-! an owned object turned -/
noncomputable def setO (own : Own) (x : Str) (o : Ow) : Own := own.map fun e => if e.1 = x then (e.1, e.2.1, o) else e
theorem priv_setO {x o} : priv env (setO own x o) = priv env own := by
  unfold priv setO
  congr 2
  rw [List.map_map]
  refine List.map_congr_left fun e _ => ?_
  show (if e.1 = x then _ else e).2.1 = e.2.1
  split <;> rfl
theorem mem_setO {x o e} (h : e ∈ setO own x o) : ∃ e₀ ∈ own, (e₀.1 = x ∧ e = (x, e₀.2.1, o)) ∨ (e₀.1 ≠ x ∧ e = e₀) := by
  unfold setO at h
  obtain ⟨e₀, h1, rfl⟩ := List.mem_map.mp h
  refine ⟨e₀, h1, ?_⟩
  by_cases q : e₀.1 = x
  · exact .inl ⟨q, by rw [if_pos q, q]⟩
  · exact .inr ⟨q, by rw [if_neg q]⟩

theorem RepV.turnO {vars x a o o'} {h' : Heap} {k : Nat} (R : RepV prog w g₀ env P H ex vars ρ own p s) (hm : (x, a, o) ∈ own) (hs : Heap.SameBut a s.heap h') (ha : h'.get? a ≠ none) (ho : OwAt prog w P (okp env P own ex) h' a o') :
    RepV prog w g₀ env P H ex vars ρ (setO own x o') p { s with heap := h', toks := k } := by
  have hap : a ∈ priv env own := .tail _ (List.mem_append_right _ (List.mem_map.mpr ⟨_, hm, rfl⟩))
  have haP := (R.pf a hap).1
  have split : (env.locals :: env.cells.map (·.2) ++ own.map fun x => x.2.1).Nodup := by simpa [priv] using R.nod
  have hsep := (List.nodup_append.mp split).2.2
  have hne : ∀ d ∈ env.locals :: env.cells.map (·.2), d ≠ a := fun d hd => hsep d hd a (List.mem_map.mpr ⟨_, hm, rfl⟩)
  have okd : ∀ b o, okp env P own ex b → s.heap.get? b = some o → h'.get? b = some o := fun b o q e => hs.extBut b o (fun z => q.2.1 (z ▸ hap)) e
  have alive : ∀ b, s.heap.get? b ≠ none → h'.get? b ≠ none := fun b h => by
    by_cases q : b = a
    · exact q ▸ ha
    · rw [hs.2 b q]; exact h
  have hokp : okp env P (setO own x o') ex = okp env P own ex := by unfold okp; rw [priv_setO]
  refine ⟨R.hk, ?_, fun y c e => ?_, R.celn, by rw [priv_setO]; exact R.nod, fun b hb => ?_, fun e he => ?_, fun y v e => ?_, R.kd, fun b ob hb e => ?_, by rw [R.same], R.base, R.pbase, R.pool.of fun b ob e h => hs.extBut b ob (fun q => haP (by rw [← q, e])) h, fun b hb => ?_⟩
  · obtain ⟨m, h1, h2⟩ := R.loc
    exact ⟨m, h1.sameBut hs (hne _ (.head _)), h2⟩
  · obtain ⟨h1, h2⟩ := R.cel y c e
    exact ⟨h1, h2.sameBut hs (hne c (.tail _ (List.mem_map.mpr ⟨_, mem_of_lookup e, rfl⟩)))⟩
  · rw [priv_setO] at hb
    obtain ⟨h1, h2, h3⟩ := R.pf b hb
    exact ⟨h1, h2, alive b h3⟩
  · rw [hokp]
    obtain ⟨e₀, h0, ⟨hx, rfl⟩ | ⟨hx, rfl⟩⟩ := mem_setO he
    · have h1 := (R.ow e₀ h0).1
      have h2 := (R.ow _ hm).1
      rw [hx, h2] at h1
      have : e₀.2.1 = a := by cases h1; rfl
      exact ⟨by rw [this]; exact h2, by rw [this]; exact ho⟩
    · obtain ⟨h1, h2⟩ := R.ow e h0
      refine ⟨h1, h2.mono (fun ob q => hs.extBut _ ob (fun z => ?_) q) okd fun _ q => q⟩
      -- another name's object has another address
      have hnd : (own.map fun x => x.2.1).Nodup := (List.nodup_append.mp split).2.1
      exact hx (fst_of_addr hnd h0 hm z)
  · rw [hokp]
    obtain ⟨val, h1, h2⟩ := R.vr y v e
    exact ⟨val, h1, h2.mono okd fun _ q => q⟩
  · refine hs.extBut b ob (fun q => ?_) (R.keep b ob hb e)
    rw [q, (R.pf a hap).2.1] at e; cases e
  · obtain ⟨h1, h2⟩ := R.exl b hb
    exact ⟨h1, alive b h2⟩
where fst_of_addr : ∀ {l : Own}, (l.map fun x => x.2.1).Nodup → ∀ {e : Str × Addr × Ow} {x : Str} {a : Addr} {o : Ow}, e ∈ l → (x, a, o) ∈ l → e.2.1 = a → e.1 = x
  | [], _, _, _, _, _, h, _, _ => nomatch h
  | b :: l, hnd, e, x, a, o, h1, h2, q => by
    rw [List.map_cons, List.nodup_cons] at hnd
    cases h1 with
    | head =>
      cases h2 with
      | head => rfl
      | tail _ h2 => exact absurd (List.mem_map.mpr ⟨_, h2, q.symm⟩) hnd.1
    | tail _ h1 =>
      cases h2 with
      | head => exact absurd (List.mem_map.mpr ⟨_, h1, q⟩) hnd.1
      | tail _ h2 => exact fst_of_addr hnd.2 h1 h2 q

theorem plain_update {h : Heap} {a : Addr} {its : Array Value} (f : Array Value → Array Value) (x : h.PlainList a its) : (h.update a (Obj.mapSeq f)).PlainList a (f its) := by
  obtain ⟨k, e⟩ := x
  exact ⟨_, Heap.get?_update_self _ e rfl⟩

noncomputable def Mut0 (prog : Program) (w : World) (id : String) (xs vs xs' : List V) (r : V) : Prop :=
  ∀ (A : Around) (E : Value → Shared → Prop) (Q : Value → Shared → Prop) (s : Shared) (P : Option Addr) (ok : Addr → Prop) (a : Addr) (us vals : List Value), OkA 1 A → s.heap.PlainList a us.toArray → VRs P ok s.heap xs us → VRs P ok s.heap vs vals →
    (∀ us' t h' k, (h' : Heap).PlainList a (us' : List Value).toArray → VRs P ok s.heap xs' us' → Heap.SameBut a s.heap h' → Q (r.val t) { s with heap := h', toks := k }) → wpAny (model prog w) A (call (.builtin id) (.ref a :: vals)) Q E s
structure Mut (prog : Program) (w : World) (id : String) (xs vs xs' : List V) (r : V) : Prop where
  run : Mut0 prog w id xs vs xs' r
instance {prog : Program} {w : World} {id : String} {xs vs xs' : List V} {r : V} : CoeFun (Mut prog w id xs vs xs' r) (fun _ => Mut0 prog w id xs vs xs' r) := ⟨fun x => x.run⟩

theorem mut_append {xs : List V} {v : V} (hz : xs.length ≤ sizeLine) : Mut prog w "list.append" xs [v] (xs ++ [v]) .none := .mk fun A E Q s P ok a us vals hA hl r rs hQ => by
  simp only [VRs] at rs
  obtain ⟨u, _, rfl, ru, rfl⟩ := rs
  refine wpAny_list_append_plain (hsz := by rw [List.size_toArray, r.length]; exact hz) hl fun h' hl' hs' => ?_
  exact hQ (us ++ [u]) 0 h' s.toks (by simpa using hl') (r.snoc ru) hs'
theorem erase_last (ys : List Value) (y : Value) : (ys ++ [y]).toArray.eraseIdxIfInBounds ys.length = ys.toArray := by
  apply Array.toList_inj.mp
  unfold Array.eraseIdxIfInBounds
  rw [dif_pos (by simp), Array.toList_eraseIdx]
  simp [List.eraseIdx_append_of_length_le]
theorem mut_pop {xs : List V} {v : V} (hv : v.scalar = true) (hz : xs.length < sizeLine) : Mut prog w "list.pop" (xs ++ [v]) [] xs v := .mk fun A E Q s P ok a us vals hA hl r rs hQ => by
  simp only [VRs] at rs
  subst rs
  obtain ⟨ys, y, rfl, ry, rv⟩ : ∃ ys y, us = ys ++ [y] ∧ VRs P ok s.heap xs ys ∧ VR P ok s.heap v y := split_snoc r
  obtain ⟨t, rfl⟩ := (VR.scalar hv).mp rv
  have e1 := ry.length
  obtain ⟨k, e⟩ := hl
  have hk : (ys ++ [v.val t]).toArray.size - 1 = ys.length := by rw [List.size_toArray, List.length_append]; rfl
  have hy : (ys ++ [v.val t]).toArray[(ys ++ [v.val t]).toArray.size - 1]? = some (v.val t) := by rw [hk]; simp
  refine call_meets PySem.F.slot_list_pop ⟨_, e, rfl⟩ PySem.F.entry_list_pop (PySem.F.args_list_pop_1 _) (PySem.MeetsSeq.list_pop_last a _ k (v.val t) hy (by rw [List.size_toArray, List.length_append, e1]; simp; omega)) ⟨e, ?_⟩
  refine hQ ys t _ s.toks ?_ ry (Heap.SameBut.update ..)
  have := plain_update (fun its => its.eraseIdxIfInBounds ((ys ++ [v.val t]).toArray.size - 1)) ⟨k, e⟩
  rw [show (ys ++ [v.val t]).toArray.eraseIdxIfInBounds ((ys ++ [v.val t]).toArray.size - 1) = ys.toArray by rw [hk]; exact erase_last ys _] at this
  exact this
where split_snoc {P : Option Addr} {ok : Addr → Prop} {h : Heap} : ∀ {xs : List V} {v : V} {us : List Value}, VRs P ok h (xs ++ [v]) us → ∃ ys y, us = ys ++ [y] ∧ VRs P ok h xs ys ∧ VR P ok h v y
  | [], v, us, r => by
    simp only [List.nil_append, VRs] at r
    obtain ⟨y, _, rfl, h1, rfl⟩ := r
    exact ⟨[], y, rfl, by simp only [VRs], h1⟩
  | x :: xs, v, us, r => by
    simp only [List.cons_append, VRs] at r
    obtain ⟨u, r', rfl, h1, h2⟩ := r
    obtain ⟨ys, y, rfl, h3, h4⟩ := split_snoc h2
    exact ⟨u :: ys, y, rfl, by simp only [VRs]; exact ⟨u, ys, rfl, h1, h3⟩, h4⟩
theorem VRs.reverse {P : Option Addr} {ok : Addr → Prop} {h : Heap} : ∀ {xs : List V} {us : List Value}, VRs P ok h xs us → VRs P ok h xs.reverse us.reverse
  | [], us, r => by simp only [VRs] at r; subst r; simp only [List.reverse_nil, VRs]
  | x :: xs, us, r => by
    simp only [VRs] at r
    obtain ⟨u, r', rfl, h1, h2⟩ := r
    rw [List.reverse_cons, List.reverse_cons]
    exact h2.reverse.snoc h1
theorem mut_reverse {xs : List V} (hz : xs.length ≤ sizeLine) : Mut prog w "list.reverse" xs [] xs.reverse .none := .mk fun A E Q s P ok a us vals hA hl r rs hQ => by
  simp only [VRs] at rs
  subst rs
  obtain ⟨k, e⟩ := hl
  refine call_meets PySem.F.slot_list_reverse ⟨_, e, rfl⟩ PySem.F.entry_list_reverse (PySem.F.args_list_reverse_1 _) (AutoListH.list_reverse_list_0 a us.toArray k (by rw [List.size_toArray, r.length]; exact hz)) ⟨e, ?_⟩
  refine hQ us.reverse 0 _ s.toks ?_ r.reverse (Heap.SameBut.update ..)
  have := plain_update (fun its => its.reverse) ⟨k, e⟩
  simpa using this

/-- x.m(..) for an owned list -/
theorem ws_mut {x name px apos args cpos pos rest} {a : Addr} {xs vs xs' : List V} {r : V} {id : String} (hm : (x, a, Ow.list xs) ∈ own) (ha : PEs prog w g₀ (n + 1) env P (ρo ρ own) p args false vs p₁) (hvs : ∀ v ∈ vs, v.scalar = true)
    (slot : Slot "list" name id) (ty : typeOf (.builtin id) = pure (.type "method_descriptor")) (hmut : Mut prog w id xs vs xs' r) (hr : r.scalar = true)
    (h : WS prog w g₀ (n + 1) env P ρ (setO own x (.list xs')) p₁ rest Q) (hd : (x == ("__debug__" : Str)) = false := by decide)
    (hi : interactive env = false := by rfl) (hsw : swapsWith (.Call (.Attribute (.Name x px) name apos) args [] cpos) none pos.line env = pure false := by rfl)
    (hfew : ((backTo cpos (starEach args env)).all (fun x => !x.1) && (backToKw cpos (keywordEach [] env)).all (fun x => x.1.isSome)
      && decide (args.length + ([] : List Keyword).length + (if ([] : List Keyword).isEmpty then 0 else 1) < 30)) = true := by rfl)
    (hline : (apos.endLine == cpos.line) = true := by rfl)
    (hpl : (backTo cpos (starEach args env)).any (·.1) = false := by rfl)
    (hne : args = [] ∨ ∃ x rest, backTo cpos (starEach args env) = (false, x) :: rest := by first | exact .inl rfl | exact .inr ⟨_, _, rfl⟩) :
    WS prog w g₀ (n + 1) env P ρ own p (.Expr (.Call (.Attribute (.Name x px) name apos) args [] cpos) pos :: rest) Q := .mk fun A H ex s R hA Rp hR => by
  obtain ⟨vars, Rp⟩ := Rp
  obtain ⟨h1, us, hl, rs⟩ := Rp.ow _ hm
  have hap : a ∈ priv env own := .tail _ (List.mem_append_right _ (List.mem_map.mpr ⟨_, hm, rfl⟩))
  refine wpAny_execs_cons (wpAny_Expr (wpAny_Call_method_lateS rfl hfew hline (wpAny_Name ((Rp.rd h1).ld ?_) hd)) hi hsw)
  have hl0 := hl
  obtain ⟨k, e⟩ := hl0
  refine ⟨"list", id, PySem.F.plainAttrs_list, slot, ty, ⟨_, e, rfl⟩, fun z q => by cases q; exact ⟨_, e, rfl⟩, ?_⟩
  refine call_plain_value (fun _ h => by cases h) hpl (ha cpos A _ _ s _ hA Rp.stAll fun vals s₁ st hp rv => ?_) hne
  have R1 := Rp.stp st hp
  obtain ⟨_, us1, hl1, rs1⟩ := R1.ow _ hm
  refine hmut A _ _ s₁ P (okp env P own ex) a us1 vals (hA.of_le (by omega)) hl1 rs1 (VRs.allSc hvs rv) fun us' t h' k' hl' rs' hs' => ?_
  have R2 := R1.turnO (k := k') (o' := .list xs') hm hs' (by obtain ⟨_, e⟩ := hl'; rw [e]; exact fun q => nomatch q) ⟨us', hl', rs'.mono (fun b o q e => hs'.extBut b o (fun z => q.2.1 (z ▸ hap)) e) fun _ q => q⟩
  have fin := h A H ex _ R hA ⟨_, R2⟩ hR
  cases r <;> first | exact fin | cases hr
end
end Mine
end

section
open PySem PySem.W PyProof.Rows PySem.Calls Builtin.Str
set_option autoImplicit false
set_option Elab.async false
set_option linter.all false
set_option maxRecDepth 100000
namespace Mine
section
variable {prog : Program} {w : World} {g₀ : Heap} {n : Nat} {env : Env} {P : Option Addr} {ρ : Str → Option V} {own : Own} {p p' p'' p₁ p₂ p₃ p₄ : List Int} {fr : Bool} {H s s' : Shared} {ex : Addr → Prop} {Q : Fl → (Str → Option V) → Own → List Int → Prop}

/-- the arguments as the body sees them -/
noncomputable def argsρ : List Str → List V → Str → Option V
  | x :: xs, v :: vs => fun y => if y = x then some v else argsρ xs vs y
  | _, _ => fun _ => none
noncomputable def argsv : List Str → List Value → Str → Option Value
  | x :: xs, v :: vs => fun y => if y = x then some v else argsv xs vs y
  | _, _ => fun _ => none

noncomputable def QR (r : V) (p' : List Int) : Fl → (Str → Option V) → Own → List Int → Prop := fun fl _ _ q => match fl with
  | .ret v => v = r ∧ q = p'
  | .next => V.none = r ∧ q = p'
  | _ => False

theorem bindL_args {kf : Str → Option NameKind} : ∀ (names : List Str) (vals : List Value) (m : Str → Option Value) (y : Str), names.Nodup → (∀ x ∈ names, kf x = some .local) → bindL kf (names.zip vals) m y = (match argsv names vals y with | some v => some v | none => m y)
  | [], _, _, _, _, _ => rfl
  | _ :: _, [], _, _, _, _ => rfl
  | x :: xs, v :: vs, m, y, hnd, hk => by
    rw [List.nodup_cons] at hnd
    rw [List.zip_cons_cons]
    unfold bindL
    rw [if_pos (hk x (.head _)), bindL_args xs vs _ y hnd.2 fun z hz => hk z (.tail _ hz)]
    show _ = (match (if y = x then some v else argsv xs vs y) with | some v => some v | none => m y)
    by_cases q : y = x
    · subst q
      rw [if_pos rfl]
      have : argsv xs vs y = none := no_arg hnd.1 vs
      rw [this]; simp
    · rw [if_neg q]
      cases argsv xs vs y <;> simp [q]
where no_arg : ∀ {xs : List Str} {y : Str}, y ∉ xs → ∀ (vs : List Value), argsv xs vs y = none
  | [], _, _, _ => rfl
  | _ :: _, _, _, [] => rfl
  | x :: xs, y, h, v :: vs => by
    show (if y = x then some v else argsv xs vs y) = none
    rw [if_neg fun (q : y = x) => h (q ▸ List.Mem.head _), no_arg (fun q => h (.tail _ q)) vs]
theorem bindC_args {kf : Str → Option NameKind} : ∀ (names : List Str) (vals : List Value) (m : Str → Option Value), (∀ x ∈ names, kf x = some .local) → bindC kf (names.zip vals) m = m
  | [], _, _, _ => rfl
  | _ :: _, [], _, _ => rfl
  | x :: xs, v :: vs, m, hk => by
    rw [List.zip_cons_cons]
    unfold bindC
    rw [if_pos (hk x (.head _))]
    exact bindC_args xs vs m fun z hz => hk z (.tail _ hz)
theorem argsv_mem : ∀ {names : List Str} {vals : List Value} {y : Str}, argsv names vals y ≠ none → y ∈ names
  | [], _, _, h => absurd rfl h
  | _ :: _, [], _, h => absurd rfl h
  | x :: xs, v :: vs, y, h => by
    by_cases q : y = x
    · exact q ▸ .head _
    · refine .tail _ (argsv_mem (vals := vs) ?_)
      show argsv xs vs y ≠ none
      have h' : (if y = x then some v else argsv xs vs y) ≠ none := h
      rwa [if_neg q] at h'
theorem args_rel {ok : Addr → Prop} {h : Heap} : ∀ {names : List Str} {vs : List V} {vals : List Value} {y : Str} {v : V}, VRs P ok h vs vals → argsρ names vs y = some v → ∃ val, argsv names vals y = some val ∧ VR P ok h v val
  | [], _, _, _, _, _, e => by simp [argsρ] at e
  | _ :: _, [], _, _, _, _, e => by simp [argsρ] at e
  | x :: xs, u :: us, vals, y, v, r, e => by
    simp only [VRs] at r
    obtain ⟨a, r', rfl, h1, h2⟩ := r
    have e' : (if y = x then some u else argsρ xs us y) = some v := e
    show ∃ val, (if y = x then some a else argsv xs r' y) = some val ∧ _
    by_cases q : y = x
    · rw [if_pos q] at e' ⊢; cases e'; exact ⟨a, rfl, h1⟩
    · rw [if_neg q] at e' ⊢; exact args_rel h2 e'

/-- the clauses that a def must meet -/
structure DefOk (g₀ : Heap) (f : Addr) (fd : FuncData) (names : List Str) (body : List Stmt) : Prop where
  at_ : ∃ fo, g₀.get? f = some fo ∧ fo.data = .func fd
  lim : g₀.NoLimit
  cd : g₀.CodeRec fd.code fd.qualname
  body : fd.body = .stmts body
  clo : fd.closure = []
  bind : ∀ vals : List Value, vals.length = names.length → bindArgs fd ⟨vals, []⟩ = pure (names.zip vals)
  loc : ∀ x ∈ names, fd.scope.names.lookup x = some .local
  nod : names.Nodup
  celn : ((cellsFrom 0 fd.scope.names []).map (·.1)).Nodup
  celk : ∀ y, ∀ c, (cellsFrom 0 fd.scope.names []).lookup y = some c → fd.scope.names.lookup y = some .cell
  co : fd.scope.isCoroutine = false
  gen : fd.scope.isGenerator = false
  kind : fd.scope.kind = .function

theorem cells_shift : ∀ (names : List (Str × NameKind)) (k j : Nat) (a b : List (Str × Addr)), a.map (·.1) = b.map (·.1) → (cellsFrom k names a).map (·.1) = (cellsFrom j names b).map (·.1)
  | [], _, _, _, _, h => h
  | (n, kd) :: r, k, j, a, b, h => by
    unfold cellsFrom
    cases (kd == NameKind.cell) with
    | true => exact cells_shift r _ _ _ _ (by simp [h])
    | false => exact cells_shift r _ _ _ _ h
theorem lookup_isSome {l : List (Str × Addr)} {y : Str} : (l.lookup y).isSome = true ↔ y ∈ l.map (·.1) := by
  induction l with
  | nil => simp
  | cons a l ih =>
    obtain ⟨x, c⟩ := a
    rw [List.lookup_cons, List.map_cons, List.mem_cons]
    by_cases q : y = x
    · subst q; simp
    · have : (y == x) = false := beq_eq_false_iff_ne.mpr q
      rw [this]; simp only [ih]; exact ⟨.inr, fun h => h.elim (fun z => absurd z q) id⟩

/-- into a def -/
theorem enter_def {f : Addr} {fd : FuncData} {names : List Str} {body : List Stmt} {A : Around} {R : Result → Shared → Prop} {ok : Addr → Prop} {vals : List Value} (D : DefOk g₀ f fd names body) (hvl : vals.length = names.length)
    (hA : OkA (n + 1) A) (S : St0 g₀ P p ok s.heap) (hρ : ∀ y v, ρ y = some v → ∃ val, argsv names vals y = some val ∧ VR P ok s.heap v val)
    (k : ∀ s₁, RepV prog w g₀ (callEnvC fd s.heap.objs.size f) P s (fun _ => False) (argsv names vals) ρ [] p s₁ → (callEnvC fd s.heap.objs.size f).scope.kind = .function →
      wpAny (model prog w) (A.deeper (callEnvC fd s.heap.objs.size f)) (execs body (callEnvC fd s.heap.objs.size f)) (fun fl s' => R (.ok (.ret (match fl with | .ret v => v | _ => .none))) s')
        (fun e s' => wpAny (model prog w) (A.deeper (callEnvC fd s.heap.objs.size f)) (leaving (callEnvC fd s.heap.objs.size f) e) (fun _ s'' => R (.error e) s'') (fun e' s'' => R (.error e') s'') s') s₁) :
    codeAny (model prog w) A (.call (.ref f) ⟨vals, []⟩) R s := by
  obtain ⟨fo, hfo, hfd⟩ := D.at_
  refine codeAny_call_cells hA.room (S.base _ _ hfo) hfd (D.lim.keeps S.base) (D.cd.keeps S.base) D.body (D.bind vals hvl) D.clo (fun x hx => .inl (D.loc _ (List.of_mem_zip hx).1)) (fun s₁ X => ?_) D.co D.gen D.kind
  have hkl : ∀ x ∈ names, (callEnvC fd s.heap.objs.size f).kindOf x = some .local := D.loc
  replace k := k s₁
  generalize he : callEnvC fd s.heap.objs.size f = env at X hkl k ⊢
  have eL : env.locals = s.heap.objs.size := by rw [← he]; rfl
  have ec : env.cells = cellsFrom (s.heap.objs.size + 1) fd.scope.names [] := by rw [← he]; rfl
  have ek : ∀ y, env.kindOf y = fd.scope.names.lookup y := fun y => by rw [← he]; rfl
  have hn : (env.cells.map (·.1)).Nodup := by rw [ec, cells_shift _ _ 0 [] [] rfl]; exact D.celn
  have hck : ∀ y c, env.cells.lookup y = some c → env.kindOf y = some .cell := fun y c h => by
    have h1 : y ∈ env.cells.map (·.1) := lookup_isSome.mp (by rw [h]; rfl)
    rw [ec, cells_shift _ _ 0 [] [] rfl] at h1
    have h2 := lookup_isSome.mpr h1
    cases h3 : (cellsFrom 0 fd.scope.names []).lookup y with
    | none => rw [h3] at h2; cases h2
    | some c' => rw [ek]; exact D.celk y c' h3
  obtain ⟨m0, hm0⟩ : ∃ m0 : Str → Option Value, m0 = fun _ => none := ⟨_, rfl⟩
  have hL : s₁.heap.Ns env.locals (argsv names vals) := by
    have := X.toInCall.ns
    rwa [show bindL env.kindOf (names.zip vals) (fun _ => none) = argsv names vals from funext fun y => by
      rw [bindL_args names vals _ y D.nod hkl]; cases argsv names vals y <;> rfl] at this
  have hcells : ∀ y c, env.cells.lookup y = some c → s₁.heap.IsCell c none := fun y c h => by
    have := X.cell y c h
    rwa [bindC_args names vals _ hkl] at this
  have hsame : s₁ = { s with heap := s₁.heap, toks := s₁.toks } := by obtain ⟨h₁, tk, e⟩ := X.toInCall.same; rw [e]
  have st : Stp P s s₁ := ⟨fun b o _ e => X.toInCall.keep b o e, hsame⟩
  have fresh : ∀ a, s.heap.objs.size ≤ a → s.heap.get? a = none := fun a ha => by
    cases e : s.heap.get? a with
    | none => rfl
    | some o => exact absurd (Heap.lt_size e) (Nat.not_lt.mpr ha)
  have hpf : ∀ a ∈ priv env [], s.heap.get? a = none ∧ s₁.heap.get? a ≠ none := fun a ha => by
    unfold priv at ha
    rcases List.mem_cons.mp ha with rfl | ha
    · refine ⟨fresh _ (by rw [eL]; exact Nat.le_refl _), ?_⟩
      obtain ⟨o, _, _, ho, _⟩ := hL
      rw [ho]; exact fun q => nomatch q
    · rw [List.map_nil, List.append_nil] at ha
      obtain ⟨y, hy, rfl⟩ := List.mem_map.mp ha
      have h1 := X.above y.1 y.2 hy
      refine ⟨fresh _ (by rw [← eL]; exact Nat.le_of_lt h1), ?_⟩
      obtain ⟨o, ho, _⟩ := hcells y.1 y.2 (lookup_of_mem_nodup hn hy)
      rw [ho]; exact fun q => nomatch q
  have hp₁ : PoolAt P p s₁.heap := S.pool.of fun a o _ e => X.toInCall.keep a o e
  refine k ?_ (by rw [← he]; exact D.kind)
  · refine ⟨by rw [← he]; exact D.kind, ⟨_, hL, fun y _ => rfl⟩, fun y c h => ⟨hck y c h, ?_⟩, hn, ?_, fun a ha => ⟨fun q => S.pool.live a q.symm (hpf a ha).1, hpf a ha⟩, fun x hx => (nomatch hx), fun y v e => ?_, fun y hy => .inl (hkl y (argsv_mem hy)), fun b o _ e => X.toInCall.keep b o e, hsame, S.base, S.pbase, hp₁, fun a h => h.elim⟩
    · have h1 := hck y c h
      have : argsv names vals y = none := by
        cases e : argsv names vals y with
        | none => rfl
        | some u => have := hkl y (argsv_mem (by rw [e]; exact fun q => nomatch q)); rw [this] at h1; cases h1
      rw [this]; exact hcells y c h
    · unfold priv
      rw [List.map_nil, List.append_nil]
      refine List.nodup_cons.mpr ⟨fun q => ?_, ?_⟩
      · obtain ⟨y, hy, e⟩ := List.mem_map.mp q
        exact absurd (X.above y.1 y.2 hy) (by rw [e]; exact Nat.lt_irrefl _)
      · exact List.pairwise_map.mpr (X.apart.imp fun h => h)
    · obtain ⟨val, h1, h2⟩ := hρ y v e
      refine ⟨val, h1, h2.alloc.mono (fun a o _ e => X.toInCall.keep a o e) fun a q => ⟨S.okP a q.1, fun ha => q.2 (hpf a ha).1, fun f => f⟩⟩
theorem fn_of {f : Addr} {fd : FuncData} {names : List Str} {body : List Stmt} {args : List V} {r : V} (D : DefOk g₀ f fd names body) (hlen : args.length = names.length)
    (h : ∀ L, WS prog w g₀ n (callEnvC fd L f) P (argsρ names args) [] p body (QR r p')) : Fn prog w g₀ (n + 1) P f args p r p' := .mk fun A R s ok vals hA S rv hR => by
  refine enter_def (ρ := argsρ names args) D (rv.length.trans hlen) hA S (fun y v e => args_rel rv e) fun s₁ R1 _ => ?_
  have hW := h s.heap.objs.size
  generalize callEnvC fd s.heap.objs.size f = env at R1 hW ⊢
  refine wpAny_mono (hW (A.deeper env) s (fun _ => False) s₁ (fun f s' => R (.ok (.ret (match f with | .ret v => v | _ => .none))) s') hA.deeper ⟨_, R1⟩ fun fl flow ρ' own' q s' hq hf hr => ?_) (fun f s' hf => hf) fun _ _ (f : False) => f.elim
  obtain ⟨vars, hr⟩ := hr
  have st' : Stp P s s' := ⟨hr.keep, hr.same⟩
  cases fl with
  | ret v =>
    obtain ⟨rfl, rfl⟩ := hq
    obtain ⟨val, rfl, rv'⟩ := hf
    exact hR val s' st' hr.pool rv'
  | next =>
    obtain ⟨rfl, rfl⟩ := hq
    cases hf
    exact hR .none s' st' hr.pool (by simp only [VR])
  | brk => exact hq.elim
  | cont => exact hq.elim
end
end Mine
end

section
open PySem PySem.W PyProof.Rows PySem.Calls Builtin.Str
set_option autoImplicit false
set_option Elab.async false
set_option linter.all false
set_option maxRecDepth 100000
namespace Mine
section
variable {prog : Program} {w : World} {g₀ : Heap} {n : Nat} {env : Env} {P : Option Addr} {ρ : Str → Option V} {p p' p'' p₁ p₂ p₃ p₄ : List Int} {fr : Bool}

theorem vr_str {P : Option Addr} {ok : Addr → Prop} {h : Heap} {x : Str} {t : Tok} : VR P ok h (.str x) (.str x t) := by simp only [VR]; exact ⟨t, rfl⟩
theorem vr_int {P : Option Addr} {ok : Addr → Prop} {h : Heap} {x : Int} {t : Tok} : VR P ok h (.int x) (.int x t) := by simp only [VR]; exact ⟨t, rfl⟩

theorem bi_len_str {x : Str} (hx : x.length ≤ sizeLine) : BI prog w (.builtin "len") [.str x] (.int x.length) := .mk fun A E Q s P ok vals hA r hQ => by
  simp only [VRs, VR] at r
  obtain ⟨v, _, rfl, ⟨t, rfl⟩, rfl⟩ := r
  exact PySem.P.len_str (by unfold sizeLine at hx; omega) (hQ _ _ (.toks _) vr_int)
theorem bi_len_list {xs : List V} (hx : xs.length ≤ sizeLine) : BI prog w (.builtin "len") [.list xs] (.int xs.length) := .mk fun A E Q s P ok vals hA r hQ => by
  simp only [VRs, VR] at r
  obtain ⟨v, _, rfl, ⟨a, vs, rfl, _, hl, rs⟩, rfl⟩ := r
  have e := rs.length
  refine Calls.call_len_list hl.isList (by rw [List.size_toArray, e]; unfold sizeLine at hx; omega) ?_
  rw [List.size_toArray, e]
  exact hQ _ _ (.toks _) vr_int
theorem bi_ord {c : Nat} : BI prog w (.builtin "ord") [.str ⟨#[c]⟩] (.int c) := .mk fun A E Q s P ok vals hA r hQ => by
  simp only [VRs, VR] at r
  obtain ⟨v, _, rfl, ⟨t, rfl⟩, rfl⟩ := r
  exact PySem.P.ord_of_char (hQ _ _ (.toks _) vr_int)
theorem bi_chr {i : Int} (h0 : 0 ≤ i) (h1 : i ≤ 0x10FFFF) : BI prog w (.builtin "chr") [.int i] (.str ⟨#[i.toNat]⟩) := .mk fun A E Q s P ok vals hA r hQ => by
  simp only [VRs, VR] at r
  obtain ⟨v, _, rfl, ⟨t, rfl⟩, rfl⟩ := r
  exact PySem.P.chr_of_int (by simp only [Bool.or_eq_false_iff, decide_eq_false_iff_not]; omega) (hQ _ _ (.toks _) vr_str)
theorem bi_max2 {a b : Int} : BI prog w (.builtin "max") [.int a, .int b] (.int (max a b)) := .mk fun A E Q s P ok vals hA r hQ => by
  simp only [VRs, VR] at r
  obtain ⟨v, _, rfl, ⟨t, rfl⟩, v2, _, rfl, ⟨u, rfl⟩, rfl⟩ := r
  refine max_two_ints hA.1 fun h' tk hk => ?_
  have st : Stp none s { s with heap := h', toks := tk } := ⟨fun b o _ e => hk b o e, rfl⟩
  by_cases h : b > a
  · rw [if_pos h]; exact hQ _ _ st (by rw [show max a b = b by omega]; exact vr_int)
  · rw [if_neg h]; exact hQ _ _ st (by rw [show max a b = a by omega]; exact vr_int)
theorem bi_min2 {a b : Int} : BI prog w (.builtin "min") [.int a, .int b] (.int (min a b)) := .mk fun A E Q s P ok vals hA r hQ => by
  simp only [VRs, VR] at r
  obtain ⟨v, _, rfl, ⟨t, rfl⟩, v2, _, rfl, ⟨u, rfl⟩, rfl⟩ := r
  refine min_two_ints hA.1 fun h' tk hk => ?_
  have st : Stp none s { s with heap := h', toks := tk } := ⟨fun b o _ e => hk b o e, rfl⟩
  by_cases h : b < a
  · rw [if_pos h]; exact hQ _ _ st (by rw [show min a b = b by omega]; exact vr_int)
  · rw [if_neg h]; exact hQ _ _ st (by rw [show min a b = a by omega]; exact vr_int)

/-- the greatest of a list of ints -/
noncomputable def best : List Int → Nat → Nat := fun ns k => argBest (fun i j => decide (ns.getD i 0 > ns.getD j 0)) k
theorem best_spec (ns : List Int) : ∀ k, k < ns.length → best ns k ≤ k ∧ ∀ j ≤ k, ns.getD j 0 ≤ ns.getD (best ns k) 0
  | 0, _ => ⟨Nat.le_refl _, fun j hj => by rw [Nat.le_zero.mp hj]; exact Int.le_refl _⟩
  | k + 1, h => by
    obtain ⟨h1, h2⟩ := best_spec ns k (Nat.lt_of_succ_lt h)
    unfold best at h1 h2 ⊢
    unfold argBest
    by_cases q : ns.getD (k + 1) 0 > ns.getD (argBest (fun i j => decide (ns.getD i 0 > ns.getD j 0)) k) 0
    · rw [if_pos (decide_eq_true q)]
      refine ⟨Nat.le_refl _, fun j hj => ?_⟩
      rcases Nat.lt_or_ge k j with z | z
      · rw [show j = k + 1 by omega]; exact Int.le_refl _
      · have := h2 j z; omega
    · rw [if_neg (by simpa using q)]
      refine ⟨Nat.le_succ_of_le h1, fun j hj => ?_⟩
      rcases Nat.lt_or_ge k j with z | z
      · rw [show j = k + 1 by omega]; omega
      · exact h2 j z
theorem bi_max {ns : List Int} {m : Int} (hm : m ∈ ns) (hle : ∀ x ∈ ns, x ≤ m) : BI prog w (.builtin "max") [.list (ns.map .int)] (.int m) := .mk fun A E Q s P ok vals hA r hQ => by
  simp only [VRs, VR] at r
  obtain ⟨v, _, rfl, ⟨a, vs, rfl, _, hl, rs⟩, rfl⟩ := r
  have e := rs.length
  rw [List.length_map] at e
  have hn : 0 < ns.length := List.length_pos_of_mem hm
  have hlt : a < s.heap.objs.size := by obtain ⟨k, e⟩ := hl; exact Heap.lt_size e
  refine call_max_walk (wpAny_pyIter_list hl.isList ?_)
  have W := Walks.list (prog := prog) (w := w) (A := A.in1) hA.1 s.heap.objs.size a (Nat.ne_of_lt hlt) vs.toArray
  rw [show vs.toArray.size = ns.length by rw [List.size_toArray]; exact e] at W
  have at_ : ∀ i v, vs.toArray[i]? = some v → i < ns.length ∧ ∃ t, v = .int (ns.getD i 0) t := fun i v h => by
    have h' : vs[i]? = some v := by simpa using h
    have hi : i < ns.length := by rw [← e]; exact (List.getElem?_eq_some_iff.mp h').1
    obtain ⟨u, h1, h2⟩ := rs.get (i := i) (x := .int ns[i]) (by rw [List.getElem?_map, List.getElem?_eq_getElem hi]; rfl)
    rw [h'] at h1; cases h1
    simp only [VR] at h2
    obtain ⟨t, rfl⟩ := h2
    exact ⟨hi, t, by simp [List.getD, hi]⟩
  refine ⟨_, _, _, _, _, _, fun i j => decide (ns.getD i 0 > ns.getD j 0), rfl, W, ⟨⟨_, Heap.get?_push_size _ rfl, rfl, rfl⟩, hl.isList.push _⟩, fun b hb => ?_, hn, ?_, fun v h' tk hv hk => ?_⟩
  · show b < (s.heap.push _).objs.size
    rw [Heap.size_push]
    simp at hb
    rcases hb with rfl | rfl
    · exact Nat.lt_succ_self _
    · exact Nat.lt_succ_of_lt hlt
  · intro i j vi vj s' Q' E' hi hj hq
    obtain ⟨_, t, rfl⟩ := at_ i vi hi
    obtain ⟨_, u, rfl⟩ := at_ j vj hj
    exact PySem.P.gt_int hq
  · obtain ⟨hb, t, rfl⟩ := at_ _ v hv
    have hs := best_spec ns (ns.length - 1) (by omega)
    have hmm : ns.getD (best ns (ns.length - 1)) 0 = m := by
      obtain ⟨j, hj, rfl⟩ := List.mem_iff_getElem.mp hm
      have h1 := hs.2 j (by omega)
      have h2 : ns.getD (best ns (ns.length - 1)) 0 ≤ ns[j] := by
        have hbl : best ns (ns.length - 1) < ns.length := by have := hs.1; omega
        rw [List.getD, List.getElem?_eq_getElem hbl]
        exact hle _ (List.getElem_mem hbl)
      rw [List.getD, List.getElem?_eq_getElem hj] at h1
      simp only [Option.getD_some] at h1
      omega
    refine hQ _ _ ⟨fun b o _ e => hk b o (fun q => ?_) (Heap.get?_push_of_some _ e), rfl⟩ (by simp only [VR]; exact ⟨t, by rw [← hmm]; rfl⟩)
    simp at q; subst q
    rw [get_size] at e; cases e

theorem bi_str_int {i : Int} (h : i.natAbs.log2 < 1920) : BI prog w (.type "str") [.int i] (.str (toString i : String)) := .mk fun A E Q s P ok vals hA r hQ => by
  simp only [VRs, VR] at r
  obtain ⟨v, _, rfl, ⟨t, rfl⟩, rfl⟩ := r
  exact PySem.P.str_of_int h (hQ _ _ (.toks _) vr_str)
theorem of_signs {P : Option Addr} {ok : Addr → Prop} {h : Heap} : ∀ (xs : List V) (vs : List Value), vs.length = xs.length → (∀ (j : Nat) (y : Value), vs[j]? = some y → ∃ x, xs[j]? = some x ∧ VR P ok h x y) → VRs P ok h xs vs
  | [], [], _, _ => by simp only [VRs]
  | [], _ :: _, e, _ => by simp at e
  | _ :: _, [], e, _ => by simp at e
  | x :: xs, v :: vs, e, hh => by
    simp only [VRs]
    refine ⟨v, vs, rfl, ?_, of_signs xs vs (by simpa using e) fun j y hy => ?_⟩
    · obtain ⟨x', h1, h2⟩ := hh 0 v rfl
      simp at h1; subst h1; exact h2
    · obtain ⟨x', h1, h2⟩ := hh (j + 1) y (by simpa using hy)
      exact ⟨x', by simpa using h1, h2⟩
theorem bi_list_str {x : Str} (hx : x.length ≤ sizeLine) : BI prog w (.type "list") [.str x] (.list (signs x)) := .mk fun A E Q s P ok vals hA r hQ => by
  simp only [VRs, VR] at r
  obtain ⟨v, _, rfl, ⟨t, rfl⟩, rfl⟩ := r
  refine call_list_str (hn := hx) hA.1 x t fun h' tk acc c hk hS hacc => hQ _ _ ⟨fun b o _ e => hk b o e, rfl⟩ ?_
  simp only [VR]
  refine ⟨_, acc.toList, rfl, get_size _, ⟨c, by simpa using hS⟩, ?_⟩
  refine of_signs _ _ (by simp [signs]; exact hacc.1) fun j y hy => ?_
  obtain ⟨cc, u, h1, rfl⟩ := hacc.2 j y (by simpa using hy)
  refine ⟨.str ⟨#[cc]⟩, by simp [signs, h1], vr_str⟩

/-! methods of texts -/
theorem bi_find {x y : Str} : BI prog w (.builtin "str.find") [.str x, .str y] (.int (Txt.find x y)) := .mk fun A E Q s P ok vals hA r hQ => by
  simp only [VRs, VR] at r
  obtain ⟨v, _, rfl, ⟨t, rfl⟩, v2, _, rfl, ⟨u, rfl⟩, rfl⟩ := r
  exact SC.find (hQ _ _ (.toks _) vr_int)
theorem bi_find3 {x y : Str} {i : Int} : BI prog w (.builtin "str.find") [.str x, .str y, .int i] (.int (Txt.find3 x y i)) := .mk fun A E Q s P ok vals hA r hQ => by
  simp only [VRs, VR] at r
  obtain ⟨v, _, rfl, ⟨t, rfl⟩, v2, _, rfl, ⟨u, rfl⟩, v3, _, rfl, ⟨u3, rfl⟩, rfl⟩ := r
  exact SC.find3 (hQ _ _ (.toks _) vr_int)
theorem bi_starts {x y : Str} : BI prog w (.builtin "str.startswith") [.str x, .str y] (.bool (Txt.startswith x y)) := .mk fun A E Q s P ok vals hA r hQ => by
  simp only [VRs, VR] at r
  obtain ⟨v, _, rfl, ⟨t, rfl⟩, v2, _, rfl, ⟨u, rfl⟩, rfl⟩ := r
  exact SC.startswith (hQ _ _ (.toks s.toks) (by simp only [VR]))
theorem bi_ends {x y : Str} : BI prog w (.builtin "str.endswith") [.str x, .str y] (.bool (Txt.endswith x y)) := .mk fun A E Q s P ok vals hA r hQ => by
  simp only [VRs, VR] at r
  obtain ⟨v, _, rfl, ⟨t, rfl⟩, v2, _, rfl, ⟨u, rfl⟩, rfl⟩ := r
  exact SC.endswith (hQ _ _ (.toks s.toks) (by simp only [VR]))
theorem bi_strip {x y : Str} (hx : x.length ≤ sizeLine) : BI prog w (.builtin "str.strip") [.str x, .str y] (.str (Txt.stripChars x y)) := .mk fun A E Q s P ok vals hA r hQ => by
  simp only [VRs, VR] at r
  obtain ⟨v, _, rfl, ⟨t, rfl⟩, v2, _, rfl, ⟨u, rfl⟩, rfl⟩ := r
  exact SC.stripChars (fun t' k => hQ _ _ (.toks _) vr_str) hx
theorem bi_lstrip {x y : Str} (hx : x.length ≤ sizeLine) : BI prog w (.builtin "str.lstrip") [.str x, .str y] (.str (Txt.lstripChars x y)) := .mk fun A E Q s P ok vals hA r hQ => by
  simp only [VRs, VR] at r
  obtain ⟨v, _, rfl, ⟨t, rfl⟩, v2, _, rfl, ⟨u, rfl⟩, rfl⟩ := r
  exact SC.lstripChars (fun t' k => hQ _ _ (.toks _) vr_str) hx
theorem bi_rstrip {x y : Str} (hx : x.length ≤ sizeLine) : BI prog w (.builtin "str.rstrip") [.str x, .str y] (.str (Txt.rstripChars x y)) := .mk fun A E Q s P ok vals hA r hQ => by
  simp only [VRs, VR] at r
  obtain ⟨v, _, rfl, ⟨t, rfl⟩, v2, _, rfl, ⟨u, rfl⟩, rfl⟩ := r
  exact SC.rstripChars (fun t' k => hQ _ _ (.toks _) vr_str) hx
theorem bi_index {x y : Str} {i : Nat} {rest : List Nat} (ho : occurrences x y 0 x.length 1 = i :: rest) : BI prog w (.builtin "str.index") [.str x, .str y] (.int i) := .mk fun A E Q s P ok vals hA r hQ => by
  simp only [VRs, VR] at r
  obtain ⟨v, _, rfl, ⟨t, rfl⟩, v2, _, rfl, ⟨u, rfl⟩, rfl⟩ := r
  exact SC.index ho (hQ _ _ (.toks _) vr_int)

theorem strs_of {P : Option Addr} {ok : Addr → Prop} {h : Heap} : ∀ {ts : List Str} {vs : List Value}, VRs P ok h (ts.map .str) vs → ∃ l : List (Str × Tok), vs = strValues l ∧ l.map (·.1) = ts
  | [], _, r => by simp only [List.map_nil, VRs] at r; exact ⟨[], r, rfl⟩
  | x :: ts, _, r => by
    simp only [List.map_cons, VRs, VR] at r
    obtain ⟨v, r', rfl, ⟨t, rfl⟩, h2⟩ := r
    obtain ⟨l, rfl, rfl⟩ := strs_of h2
    exact ⟨(x, t) :: l, rfl, rfl⟩
theorem of_strs {P : Option Addr} {ok : Addr → Prop} {h : Heap} : ∀ (l : List (Str × Tok)), VRs P ok h ((l.map (·.1)).map .str) (strValues l)
  | [] => by simp only [List.map_nil, VRs]; rfl
  | (x, t) :: l => by
    simp only [List.map_cons, VRs]
    exact ⟨.str x t, strValues l, rfl, vr_str, of_strs l⟩
theorem bi_join {x : Str} {ts : List Str} (hok : JoinOk x ts = true) : BI prog w (.builtin "str.join") [.str x, .list (ts.map .str)] (.str (Txt.join x ts)) := .mk fun A E Q s P ok vals hA r hQ => by
  simp only [VRs] at r
  obtain ⟨v, _, rfl, hv, v2, _, rfl, hv2, rfl⟩ := r
  simp only [VR] at hv hv2
  obtain ⟨t, rfl⟩ := hv
  obtain ⟨a, vs, rfl, _, hl, rs⟩ := hv2
  obtain ⟨l, rfl, hl'⟩ := strs_of rs
  exact SC.join hl.isList hl' hok fun t' k => hQ _ _ (.toks _) vr_str
theorem bi_split {x y : Str} (hx : x.length ≤ sizeLine) (hy : (y.length == 0) = false) (hn : (partsBetween x (occurrences x y 0 x.length (x.length + 1)) y.length).length ≤ sizeLine) :
    BI prog w (.builtin "str.split") [.str x, .str y] (.list ((Txt.split x y).map .str)) := .mk fun A E Q s P ok vals hA r hQ => by
  simp only [VRs, VR] at r
  obtain ⟨v, _, rfl, ⟨t, rfl⟩, v2, _, rfl, ⟨u, rfl⟩, rfl⟩ := r
  have fin : ∀ (l : List (Str × Tok)) (k : Nat), l.map (·.1) = Txt.split x y → Q (.ref s.heap.objs.size) { s with heap := s.heap.push { cls := .type "list", data := .seq (strValues l).toArray }, toks := k } := fun l k hl => by
    refine hQ _ _ ⟨fun b o _ e => Heap.get?_push_of_some _ e, rfl⟩ ?_
    rw [← hl]
    simp only [VR]
    exact ⟨_, strValues l, rfl, get_size _, ⟨0, Heap.get?_push_size _ rfl⟩, of_strs l⟩
  cases h1 : (decide (x.length < y.length) || decide (strKind x < strKind y))
  · cases hf : (occurrences x y 0 x.length (x.length + 1)).isEmpty
    · refine call_meets F.slot_str_split (typeIs_str _ _ _) F.entry_str_split (F.args_str_split_2 _ _) (meets_str_split_sep x y t u h1 hy hf hx hn) ?_
      show wants Q E _ { s with toks := _, heap := s.heap.push { cls := .type "list", data := .seq (strsFrom s.toks (partsBetween x (occurrences x y 0 x.length (x.length + 1)) y.length)).toArray } }
      rw [strsFrom_eq]
      exact fin (numbered s.toks _) _ ((numbered_texts _ _).trans ((if_neg (ne_true_of_eq_false h1)).trans (if_neg (ne_true_of_eq_false hf))).symm)
    · exact call_meets F.slot_str_split (typeIs_str _ _ _) F.entry_str_split (F.args_str_split_2 _ _) (meets_str_split_not_found x y t u h1 hy hf)
        (fin [(x, t)] s.toks ((if_neg (ne_true_of_eq_false h1)).trans (if_pos hf)).symm)
  · exact call_meets F.slot_str_split (typeIs_str _ _ _) F.entry_str_split (F.args_str_split_2 _ _) (meets_str_split_cannot_occur x y t u h1)
      (fin [(x, t)] s.toks (if_pos h1).symm)

/-! lists -/
theorem pe_catL {l r : Expr} {pos} {xs ys : List V} (ha : PE prog w g₀ n env P ρ p l fr (.list xs) p₁) (hb : PE prog w g₀ n env P ρ p₁ r fr (.list ys) p₂) (hz : xs.length + ys.length ≤ sizeLine) :
    PE prog w g₀ n env P ρ p (.BinOp l .Add r pos) fr (.list (xs ++ ys)) p₂ := .mk fun A E Q s ok hA S hQ => by
  refine wpAny_BinOp (ha A E _ s ok hA S fun va s₁ st₁ hp₁ ra => hb A E _ s₁ ok hA (S.step st₁ hp₁) fun vb s₂ st₂ hp₂ rb => ?_)
  have ra' := ra.mono (Out.keep S.okP S.pool st₂) fun _ x => x
  have rb' := rb.mono (fun _ _ _ e => e) (Out.after st₁ hp₁)
  simp only [VR] at ra' rb'
  obtain ⟨a, vs, rfl, oka, ⟨k, hla⟩, rs⟩ := ra'
  obtain ⟨b, us, rfl, okb, ⟨k2, hlb⟩, rs2⟩ := rb'
  have e1 := rs.length
  have e2 := rs2.length
  refine PySem.P.add_list hla hlb ?_ (by rw [List.size_toArray, List.size_toArray, e1, e2]; exact hz)
  have st₃ : Stp none s₂ { s₂ with heap := s₂.heap.push { cls := .type "list", data := .seq (vs.toArray ++ us.toArray) } } := ⟨fun b o _ e => Heap.get?_push_of_some _ e, rfl⟩
  refine hQ _ _ ((st₁.trans st₂).trans st₃.weak) (hp₂.keep st₃) ?_
  simp only [VR]
  refine ⟨_, vs ++ us, rfl, .inl ((st₁.trans st₂).fresh hp₂ (get_size _)), ⟨0, ?_⟩, (rs.append rs2).mono (fun a o _ e => st₃.keep _ _ (by simp) e) fun _ x => x⟩
  rw [Heap.get?_push_size _ rfl]
  simp

noncomputable def repL (xs : List V) (k : Nat) : List V := (List.replicate k xs).flatten
theorem fold_rep (vs : List Value) : ∀ k, (List.foldl (fun x1 x2 => x1 ++ x2) #[] (List.replicate k vs.toArray)).toList = (List.replicate k vs).flatten := fun k => by
  have go : ∀ (k : Nat) (acc : Array Value), (List.foldl (fun x1 x2 => x1 ++ x2) acc (List.replicate k vs.toArray)).toList = acc.toList ++ (List.replicate k vs).flatten := fun k => by
    induction k with
    | zero => intro acc; simp
    | succ k ih => intro acc; rw [List.replicate_succ, List.foldl_cons, ih]; simp [List.replicate_succ]
  simpa using go k #[]
theorem VRs.rep {P ok h} {xs : List V} {vs : List Value} (r : VRs P ok h xs vs) : ∀ k, VRs P ok h (repL xs k) (List.replicate k vs).flatten
  | 0 => by simp only [repL, List.replicate_zero, List.flatten_nil, VRs]
  | k + 1 => by
    unfold repL
    rw [List.replicate_succ, List.flatten_cons, List.replicate_succ, List.flatten_cons]
    exact r.append (r.rep k)
theorem pe_repL {l r : Expr} {pos} {xs : List V} {k : Int} (ha : PE prog w g₀ n env P ρ p l fr (.list xs) p₁) (hb : PE prog w g₀ n env P ρ p₁ r false (.int k) p₂) (h0 : xs ≠ []) (hk : -(2 ^ 62) ≤ k ∧ k ≤ 2 ^ 20) (hz : xs.length ≤ 8) :
    PE prog w g₀ n env P ρ p (.BinOp l .Mult r pos) fr (.list (repL xs k.toNat)) p₂ := .mk fun A E Q s ok hA S hQ => by
  refine wpAny_BinOp (ha A E _ s ok hA S fun va s₁ st₁ hp₁ ra => hb A E _ s₁ ok hA (S.step st₁ hp₁) fun vb s₂ st₂ hp₂ rb => ?_)
  have ra' := ra.mono (Out.keep S.okP S.pool st₂) fun _ x => x
  simp only [VR] at ra' rb
  obtain ⟨a, vs, rfl, oka, ⟨j, hla⟩, rs⟩ := ra'
  obtain ⟨u, rfl⟩ := rb
  have e1 := rs.length
  have hz1 : vs.toArray.size * k.toNat ≤ 2 ^ 23 := by
    rw [List.size_toArray, e1]
    have : k.toNat ≤ 2 ^ 20 := by omega
    calc xs.length * k.toNat ≤ 8 * 2 ^ 20 := Nat.mul_le_mul hz this
      _ = 2 ^ 23 := by decide
  have hem : vs.toArray.isEmpty = false := by
    cases vs with
    | nil => simp at e1; exact absurd (List.length_eq_zero_iff.mp e1.symm) h0
    | cons _ _ => rfl
  refine wpAny_binaryOp_repeat_ref (T := "list") (U := "int") (by decide) ⟨_, hla, rfl⟩ (fun s' => typeIs_int s' k u) noFill_list_mul F.fills_int_mul F.slot_int_rmul repeat_list F.slot_int_index.lookup
    (call_meets F.slot_int_rmul (typeIs_int _ k u) F.entry_int_rmul (F.args_int_rmul_2 _ _) (int___rmul___int_list k u a vs.toArray j)
      ⟨hla, rfl, ⟨_, hla, rfl⟩, call_meets F.slot_list_mul ⟨_, hla, rfl⟩ F.entry_list_mul (F.args_list_mul_2 _ _)
        (AutoListH.list___mul___list_int_3 a vs.toArray j k u (by simp [Builtin.List.listFitsIndex]; omega) (by omega) (by simp [Builtin.List.listTooLong, sizeLine]; simp at hz1; omega))
        ⟨hla, ?_⟩⟩)
  have st₃ : Stp none s₂ { s₂ with heap := s₂.heap.push { cls := .type "list", data := .seq (List.foldl (fun x1 x2 => x1 ++ x2) #[] (List.replicate (if vs.toArray.isEmpty = true then 0 else k.toNat) vs.toArray)) } } := ⟨fun b o _ e => Heap.get?_push_of_some _ e, rfl⟩
  refine hQ _ _ ((st₁.trans st₂).trans st₃.weak) (hp₂.keep st₃) ?_
  simp only [VR]
  refine ⟨_, (List.replicate k.toNat vs).flatten, rfl, .inl ((st₁.trans st₂).fresh hp₂ (get_size _)), ⟨0, ?_⟩, (rs.rep k.toNat).mono (fun a o _ e => st₃.keep _ _ (by simp) e) fun _ x => x⟩
  rw [Heap.get?_push_size _ rfl, if_neg (by rw [hem]; decide), ← fold_rep]
end
end Mine
end

section
open PySem PySem.W PyProof.Rows PySem.Calls PySem.SeqAt PySem.MeetsSeq
set_option autoImplicit false
set_option Elab.async false
set_option linter.all false
set_option maxRecDepth 100000
namespace Mine
section
variable {prog : Program} {w : World} {g₀ : Heap} {n : Nat} {env : Env} {P : Option Addr} {ρ : Str → Option V} {p p' p'' p₁ p₂ p₃ p₄ : List Int} {fr : Bool}

theorem eqAt_refl {A : Around} {s : Shared} {P ok} {x : V} {v u : Value} (hs : x.scalar = true) (hv : VR P ok s.heap x v) (hu : VR P ok s.heap x u) : EqAt A s v u true := by
  obtain ⟨t, rfl⟩ := (VR.scalar hs).mp hv
  obtain ⟨t', rfl⟩ := (VR.scalar hs).mp hu
  cases x with
  | none => exact EqAt.same _
  | bool b => exact EqAt.same _
  | int a => have := EqAt.int_int (A := A) (s := s) a t a t'; rwa [beq_self_eq_true] at this
  | str a => have := EqAt.str_str (A := A) (s := s) a t a t'; rwa [show (a == a) = true from beq_iff_eq.mpr rfl] at this
  | list _ => cases hs
  | pool => cases hs
  | dict _ _ _ => cases hs

theorem VRs.get2 {P ok h} {xs : List V} {vs : List Value} {i : Nat} {v : Value} (r : VRs P ok h xs vs) (e : vs[i]? = some v) : ∃ x, xs[i]? = some x ∧ VR P ok h x v := by
  have hi : i < xs.length := by rw [← r.length]; exact (List.getElem?_eq_some_iff.mp e).1
  obtain ⟨u, h1, h2⟩ := r.get (List.getElem?_eq_getElem hi)
  rw [e] at h1; cases h1
  exact ⟨_, List.getElem?_eq_getElem hi, h2⟩

theorem all_range_true (k : Nat) : (List.range k).all (fun _ => true) = true := by simp

theorem elems_refl {A : Around} {s : Shared} {P ok} {xs : List V} {vs us : List Value} (hs : ∀ x ∈ xs, x.scalar = true) (rv : VRs P ok s.heap xs vs) (ru : VRs P ok s.heap xs us) :
    ∀ j (h1 : j < vs.toArray.size) (h2 : j < us.toArray.size), EqAt A s vs.toArray[j] us.toArray[j] true := fun j h1 h2 => by
  obtain ⟨x, hx, r1⟩ := rv.get2 (i := j) (v := vs.toArray[j]) (by simp at h1 ⊢)
  obtain ⟨x', hx', r2⟩ := ru.get2 (i := j) (v := us.toArray[j]) (by simp at h2 ⊢)
  rw [hx] at hx'; cases hx'
  exact eqAt_refl (hs x (List.mem_of_getElem? hx)) r1 r2

theorem cmp_ne_refl {xs : List V} (hs : ∀ x ∈ xs, x.scalar = true) : Cmp prog w .NotEq (.list xs) (.list xs) (.bool false) := .mk fun A E Q s P ok va vb hA ra rb h => by
  simp only [VR] at ra rb
  obtain ⟨a, vs, rfl, _, hl, rv⟩ := ra
  obtain ⟨b, us, rfl, _, hl', ru⟩ := rb
  have := RcNeAt.lists (e := fun _ => true) hl.isList hl'.isList (by simp [rv.length, ru.length]) hA.units (elems_refl hs rv ru) prog w E Q
  rw [all_range_true] at this
  exact this (h 0 s.toks)
theorem cmp_eq_refl {xs : List V} (hs : ∀ x ∈ xs, x.scalar = true) : Cmp prog w .Eq (.list xs) (.list xs) (.bool true) := .mk fun A E Q s P ok va vb hA ra rb h => by
  simp only [VR] at ra rb
  obtain ⟨a, vs, rfl, _, hl, rv⟩ := ra
  obtain ⟨b, us, rfl, _, hl', ru⟩ := rb
  have := eq_listAt (prog := prog) (w := w) (E := E) (Q := Q) (e := fun _ => true) hl.isList hl'.isList (by simp [rv.length, ru.length]) hA.units (elems_refl hs rv ru)
  rw [all_range_true] at this
  exact this (h 0 s.toks)
theorem cmp_ne_nil {xs : List V} : Cmp prog w .NotEq (.list xs) (.list []) (.bool (!xs.isEmpty)) := .mk fun A E Q s P ok va vb hA ra rb h => by
  simp only [VR, VRs] at ra rb
  obtain ⟨a, vs, rfl, _, hl, rv⟩ := ra
  obtain ⟨b, us, rfl, _, hl', rfl⟩ := rb
  have e := rv.length
  cases xs with
  | nil =>
    simp only [List.length_nil] at e
    have := RcNeAt.lists (e := fun _ => true) hl.isList hl'.isList (by simp [e]) hA.units (fun j h1 h2 => by simp at h2) prog w E Q
    rw [all_range_true] at this
    exact this (h 0 s.toks)
  | cons x xs =>
    exact RcNeAt.lists_lengths hl.isList hl'.isList (by simp [e]) hA.units prog w E Q (h 0 s.toks)

theorem any_strs {x : Str} {P ok h} : ∀ {ys : List Str} {vs : List Value}, VRs P ok h (ys.map .str) vs → vs.any (fun v => match v with | .str y _ => y == x | _ => false) = ys.contains x
  | [], vs, r => by simp only [List.map_nil, VRs] at r; subst r; rfl
  | y :: ys, vs, r => by
    simp only [List.map_cons, VRs, VR] at r
    obtain ⟨v, r', rfl, ⟨t, rfl⟩, h2⟩ := r
    rw [List.any_cons, any_strs h2, List.contains_cons]
    congr 1
    rw [Bool.eq_iff_iff, beq_iff_eq, beq_iff_eq]
    exact eq_comm
theorem elems_in {A : Around} {s : Shared} {x : Str} {u : Tok} {P ok} {ys : List Str} {vs : List Value} (r : VRs P ok s.heap (ys.map .str) vs) :
    ∀ y, y ∈ vs.toArray → EqAt A s y (.str x u) ((fun v => match v with | .str y _ => y == x | _ => false) y) := fun y hy => by
  obtain ⟨j, hj⟩ := List.mem_iff_getElem?.mp (by simpa using hy)
  obtain ⟨z, hz, rz⟩ := r.get2 hj
  rw [List.getElem?_map] at hz
  obtain ⟨q, _, rfl⟩ := Option.map_eq_some_iff.mp hz
  simp only [VR] at rz
  obtain ⟨t, rfl⟩ := rz
  exact EqAt.str_str q t x u
theorem cmp_in_strs {x : Str} {ys : List Str} : Cmp prog w .In (.str x) (.list (ys.map .str)) (.bool (ys.contains x)) := .mk fun A E Q s P ok va vb hA ra rb h => by
  simp only [VR] at ra rb
  obtain ⟨t, rfl⟩ := ra
  obtain ⟨b, us, rfl, _, hl', ru⟩ := rb
  refine in_listAt _ hl'.isList (elems_in ru) ?_
  rw [List.any_toArray, any_strs ru]
  exact h 0 s.toks
theorem cmp_notin_strs {x : Str} {ys : List Str} : Cmp prog w .NotIn (.str x) (.list (ys.map .str)) (.bool (!ys.contains x)) := .mk fun A E Q s P ok va vb hA ra rb h => by
  simp only [VR] at ra rb
  obtain ⟨t, rfl⟩ := ra
  obtain ⟨b, us, rfl, _, hl', ru⟩ := rb
  refine notIn_listAt _ hl'.isList (elems_in ru) ?_
  rw [List.any_toArray, any_strs ru]
  exact h 0 s.toks

/-- l not in (a, b) -/
theorem pt_notin_tuple {l : Expr} {es pos k pos2} {x : Str} {ys : List Str} (ha : PE prog w g₀ (n + 1) env P ρ p l false (.str x) p₁) (hb : PEs prog w g₀ (n + 1) env P ρ p₁ es false (ys.map .str) p₂) (hz : ys.length ≤ sizeLine)
    (hm : behindInMarks .NotIn (.Tuple es pos k) = false := by rfl) : PT prog w g₀ (n + 1) env P ρ p (.Compare l [.NotIn] [.Tuple es pos k] pos2) (!ys.contains x) p₂ := .mk fun A E Q s ok hA S hQ => by
  refine wpAny_isTrue_Compare1 (ha A E _ s ok hA S fun va s₁ st₁ hp₁ ra => ?_) hm
  simp only [VR] at ra
  obtain ⟨t, rfl⟩ := ra
  refine Tuple_ (hb _ A E _ s₁ ok hA (S.step st₁ hp₁) fun vals s₂ st₂ hp₂ rs => wpAny_newTuple ?_ (by rw [rs.length, List.length_map]; exact hz))
  have st₃ : Stp none s₂ { s₂ with heap := s₂.heap.push { cls := .type "tuple", data := .seq vals.toArray } } := ⟨fun b o _ e => Heap.get?_push_of_some _ e, rfl⟩
  have rs' := rs.mono (h' := s₂.heap.push { cls := .type "tuple", data := .seq vals.toArray }) (fun a o _ e => Heap.get?_push_of_some _ e) fun _ x => x
  refine notIn_tupleAt _ ⟨_, Heap.get?_push_size _ rfl, rfl, 0, rfl⟩ (elems_in rs') ?_
  rw [List.any_toArray, any_strs rs']
  exact wpAny_truthy_bool (hQ _ ((st₁.trans st₂).trans st₃.weak) (hp₂.keep st₃))

/-! and, or as values -/
theorem pe_or {e e' rest pos} {b : Bool} {c : Bool} (h : PE prog w g₀ n env P ρ p e fr (.bool b) p₁) (hr : b = false → PE prog w g₀ n env P ρ p₁ (.BoolOp .Or (e' :: rest) pos) fr (.bool c) p') (h2 : b = true → c = true ∧ p' = p₁) :
    PE prog w g₀ n env P ρ p (.BoolOp .Or (e :: e' :: rest) pos) fr (.bool c) p' := .mk fun A E Q s ok hA S hQ => by
  refine BoolOp_or (h A E _ s ok hA S fun v s₁ st₁ hp₁ ra => ?_)
  simp only [VR] at ra
  subst ra
  refine wpAny_truthy_bool ?_
  cases b with
  | true => rw [if_pos rfl]; obtain ⟨rfl, rfl⟩ := h2 rfl; exact hQ _ _ st₁ hp₁ (by simp only [VR])
  | false =>
    rw [if_neg (by decide)]
    exact hr rfl A E _ s₁ ok hA (S.step st₁ hp₁) fun v' s₂ st₂ hp₂ r₂ => hQ _ _ (st₁.trans st₂) hp₂ (by simpa only [VR] using r₂)
theorem pe_and {e e' rest pos} {b : Bool} {c : Bool} (h : PE prog w g₀ n env P ρ p e fr (.bool b) p₁) (hr : b = true → PE prog w g₀ n env P ρ p₁ (.BoolOp .And (e' :: rest) pos) fr (.bool c) p') (h2 : b = false → c = false ∧ p' = p₁) :
    PE prog w g₀ n env P ρ p (.BoolOp .And (e :: e' :: rest) pos) fr (.bool c) p' := .mk fun A E Q s ok hA S hQ => by
  refine BoolOp_and (h A E _ s ok hA S fun v s₁ st₁ hp₁ ra => ?_)
  simp only [VR] at ra
  subst ra
  refine wpAny_truthy_bool ?_
  cases b with
  | false => rw [if_neg (by decide)]; obtain ⟨rfl, rfl⟩ := h2 rfl; exact hQ _ _ st₁ hp₁ (by simp only [VR])
  | true =>
    rw [if_pos rfl]
    exact hr rfl A E _ s₁ ok hA (S.step st₁ hp₁) fun v' s₂ st₂ hp₂ r₂ => hQ _ _ (st₁.trans st₂) hp₂ (by simpa only [VR] using r₂)
theorem pe_bo1 {op e pos v} (h : PE prog w g₀ n env P ρ p e fr v p') : PE prog w g₀ n env P ρ p (.BoolOp op [e] pos) fr v p' := .mk fun A E Q s ok hA S hQ => BoolOp_one (h A E Q s ok hA S hQ)

/-! the pool -/
theorem PoolAt.set {P : Option Addr} {a : Addr} {h : Heap} {p : List Int} {vs : List Value} (e : P = some a) (hl : h.PlainList a vs.toArray) (r : VRs P (fun _ => False) h (p.map V.int) vs) : PoolAt P p h := fun b q => by
  rw [e] at q; cases q
  exact ⟨vs, hl, r⟩

theorem pt_pool_ne {e pos pos2} (he : PE prog w g₀ (n + 1) env P ρ p e false .pool p) : PT prog w g₀ (n + 1) env P ρ p (.Compare e [.NotEq] [.List [] pos] pos2) (!p.isEmpty) p := .mk fun A E Q s ok hA S hQ => by
  refine wpAny_isTrue_Compare1 (he A E _ s ok hA S fun va s₁ st₁ hp₁ ra => ?_) rfl
  simp only [VR] at ra
  obtain ⟨a, hP, rfl⟩ := ra
  refine List_ (spliced_nil (wpAny_newList ?_))
  have st₂ : Stp none s₁ { s₁ with heap := s₁.heap.push { cls := .type "list", data := .seq (#[] : Array Value) } } := ⟨fun b o _ e => Heap.get?_push_of_some _ e, rfl⟩
  obtain ⟨vs, hl, rs⟩ := (hp₁.keep st₂) a hP
  have e := rs.length
  rw [List.length_map] at e
  have hb : (s₁.heap.push { cls := .type "list", data := .seq (#[] : Array Value) }).IsList s₁.heap.objs.size #[] := ⟨_, Heap.get?_push_size _ rfl, rfl, 0, rfl⟩
  have fin := hQ _ (st₁.trans st₂.weak) (hp₁.keep st₂)
  cases p with
  | nil =>
    simp only [List.length_nil] at e
    have := RcNeAt.lists (A := A) (e := fun _ => true) hl.isList hb (by simp [e]) (hA.of_le (by omega) : OkA 1 A).units (fun j h1 h2 => by simp at h2) prog w E (fun v s₃ => wpAny (model prog w) A (truthy v) Q E s₃)
    rw [all_range_true] at this
    exact this (wpAny_truthy_bool fin)
  | cons x xs =>
    exact RcNeAt.lists_lengths (A := A) hl.isList hb (by simp [e]) (hA.of_le (by omega) : OkA 1 A).units prog w E (fun v s₃ => wpAny (model prog w) A (truthy v) Q E s₃) (wpAny_truthy_bool fin)

theorem pe_pool_pop {o apos pos} {x : Int} (ho : PE prog w g₀ (n + 1) env P ρ (p ++ [x]) o false .pool (p ++ [x])) (hz : p.length < 2 ^ 20)
    (hbase : attributeBase o "pop" env (eval o env) = eval o env := by rfl)
    (hline : (apos.endLine == pos.line) = true := by rfl) :
    PE prog w g₀ (n + 1) env P ρ (p ++ [x]) (.Call (.Attribute o "pop" apos) [] [] pos) fr (.int x) p := .mk fun A E Q s ok hA S hQ => by
  refine wpAny_Call_method_lateS hbase rfl hline (ho A E _ s ok hA S fun va s₁ st₁ hp₁ ra => ?_)
  simp only [VR] at ra
  obtain ⟨a, hP, rfl⟩ := ra
  obtain ⟨vs, hl, rs⟩ := hp₁ a hP
  have hl0 := hl
  obtain ⟨k, e⟩ := hl0
  refine ⟨"list", "list.pop", PySem.F.plainAttrs_list, PySem.F.slot_list_pop, PySem.F.type_list_pop, ⟨_, e, rfl⟩, fun z q => by cases q; exact ⟨_, e, rfl⟩, ?_⟩
  refine call_plain_value (args := []) (fun _ h => by cases h) rfl (spliced_nil ?_)
  rw [List.map_append] at rs
  refine mut_pop (prog := prog) (w := w) (xs := p.map V.int) (v := .int x) rfl (by rw [List.length_map]; unfold sizeLine; omega) A E Q s₁ P (fun _ => False) a vs [] (hA.of_le (by omega)) hl rs (by simp only [VRs]) fun us' t h' k' hl' rs' hs' => ?_
  have st₂ : Stp P s₁ { s₁ with heap := h', toks := k' } := ⟨fun b o hb e => hs'.extBut b o (fun q => hb (by rw [q, hP])) e, rfl⟩
  refine hQ _ _ (st₁.trans st₂) (PoolAt.set hP hl' (rs'.mono (fun a o f => f.elim) fun _ f => f)) (by simp only [VR, V.val]; exact ⟨_, rfl⟩)
end
end Mine
end

section
open PySem PySem.W PyProof.Rows PySem.Calls Builtin.Str
set_option autoImplicit false
set_option Elab.async false
set_option linter.all false
set_option maxRecDepth 100000
namespace Mine
section
variable {prog : Program} {w : World} {g₀ : Heap} {n : Nat} {env : Env} {P : Option Addr} {ρ : Str → Option V} {own : Own} {p p' p'' p₁ p₂ p₃ p₄ : List Int} {fr : Bool} {H s s' : Shared} {ex : Addr → Prop} {Q : Fl → (Str → Option V) → Own → List Int → Prop}

theorem asg_comp {A : Around} {vars} {y : Str} {py px : Pos} {elt iter : Expr} {x : Str} {ifs : List Expr} {scope : Scope} {pos spos : Pos} {rest : List Stmt} {items out : List V} {R : Flow → Shared → Prop} (Rp : RepV prog w g₀ env P H ex vars ρ own p s) (hA : OkA n A)
    (hsc : ScopeOk env scope x) (hi : PI prog w g₀ n env P (ρo ρ own) p iter items p₁) (hz : items.length ≤ sizeLine)
    (hc : ∀ cl, (∀ y, (y, NameKind.free) ∈ scope.names → cl.lookup y = env.cells.lookup y) → CompR (fun v p b p' => ∀ C, PTs prog w g₀ n (compEnvC scope cl C env) P (ρC scope (ρo ρ own) x v) p ifs b p') (fun v p r p' => ∀ C, PE prog w g₀ n (compEnvC scope cl C env) P (ρC scope (ρo ρ own) x v) p elt true r p') items p₁ out p')
    (hsw : swapsWith (.ListComp elt [⟨.Name x px, iter, ifs, 0⟩] scope pos) (some (.Name y py)) spos.line env = pure true)
    (hs : ∀ x, foldedSetIterable iter env x = pure x)
    (hk : ∀ D C s', Stp P s s' → PoolAt P p' s'.heap → VR P (fun a => Out true (fun a => some a ≠ P) s a ∧ a ≠ C) s'.heap (.list out) (.ref D) → s.heap.get? C = none → some C ≠ P →
      RepV prog w g₀ env P H (fun a => ex a ∨ a ∈ [C]) vars ρ own p' s' → (∃ m, s'.heap.Ns C m) →
      wpAny (model prog w) A (storeName env y (.ref D)) (fun _ s'' => (∃ m, s''.heap.Ns C m) ∧ ∀ h', Heap.SameBut C s''.heap h' → wpAny (model prog w) A (execs rest env) R (fun _ _ => False) { s'' with heap := h' }) (fun _ _ => False) s') :
    wpAny (model prog w) A (execs (.Assign [.Name y py] (.ListComp elt [⟨.Name x px, iter, ifs, 0⟩] scope pos) spos :: rest) env) R (fun _ _ => False) s := by
  have S := Rp.stAll
  refine wpAny_execs_cons ?_
  obtain ⟨cl, hclos, hcl⟩ := closure_some (env := env) (scope := scope) fun y hy he => (hsc.cap y.1 (by rw [← he]; exact hy)).2.1
  rw [exec_Assign_Name_used _ _ _ _ hsw]
  refine wpAny_bind (wpAny_standAt (wpAny_bind ?_))
  show wpAny _ A (do let _ ← comprehension (.ListComp elt [⟨.Name x px, iter, ifs, 0⟩] scope pos) scope env _ (newList []) false (eval iter env) (some (assign (.Name y py) env))) _ _ s
  refine wpAny_bind (wpAny_mono (wpAny_comprehension_free (use := some (assign (.Name y py) env)) (Q := fun _ s' => wpAny (model prog w) A (execs rest env) R (fun _ _ => False) s') rfl hs hclos hsc.kind hsc.names ?_) (fun _ s' hq => wpAny_pure (wpAny_pure hq)) fun _ _ e => e)
  refine hi A _ _ s _ hA S fun I fp wr Pw Sw s₁ st₁ hp₁ W hit hS0 hal hwr hfp => ?_
  refine comp_block (RR := fun acc C => compPost (model prog w) A _ (some (assign (.Name y py) env)) (fun _ s' => wpAny (model prog w) A (execs rest env) R (fun _ _ => False) s') acc C) hA S st₁ hp₁ W hit hS0 hal hwr hfp (hc cl hcl) hz hsc.kind hsc.cell hsc.has hsc.cap hcl fun D C s' st hp r hC hN => ?_
  have hPC : some C ≠ P := fun q => S.pool.live C q.symm hC
  have hNC : s'.heap.get? C ≠ none := by obtain ⟨m, o, _, _, ho, _⟩ := hN; rw [ho]; exact fun q => nomatch q
  have R1 := Rp.exMore (wr := [C]) st hp fun b hb => by
    rw [List.mem_singleton] at hb; subst hb
    exact ⟨hC, hPC, hNC⟩
  show wpAny _ A (assign (.Name y py) env (.ref D)) _ _ _
  refine wpAny_assign_Name (wpAny_mono (hk D C s' st hp r hC hPC R1 hN) (fun _ s'' hq => ?_) fun _ _ x => x)
  obtain ⟨⟨m, hm⟩, hq⟩ := hq
  exact ⟨m, hm, hq⟩

/-- a name takes a new list that nothing will turn -/
theorem ws_letc {y : Str} {py px : Pos} {elt iter : Expr} {x : Str} {ifs : List Expr} {scope : Scope} {pos spos : Pos} {rest : List Stmt} {items out : List V}
    (hsc : ScopeOk env scope x) (hi : PI prog w g₀ n env P (ρo ρ own) p iter items p₁) (hz : items.length ≤ sizeLine)
    (hc : ∀ cl, (∀ y, (y, NameKind.free) ∈ scope.names → cl.lookup y = env.cells.lookup y) → CompR (fun v p b p' => ∀ C, PTs prog w g₀ n (compEnvC scope cl C env) P (ρC scope (ρo ρ own) x v) p ifs b p') (fun v p r p' => ∀ C, PE prog w g₀ n (compEnvC scope cl C env) P (ρC scope (ρo ρ own) x v) p elt true r p') items p₁ out p')
    (hy : Storable env y) (h : WS prog w g₀ n env P (upd ρ y (.list out)) (dropO own y) p' rest Q)
    (hsw : swapsWith (.ListComp elt [⟨.Name x px, iter, ifs, 0⟩] scope pos) (some (.Name y py)) spos.line env = pure true := by rfl)
    (hs : ∀ x, foldedSetIterable iter env x = pure x := by intro _; rfl) :
    WS prog w g₀ n env P ρ own p (.Assign [.Name y py] (.ListComp elt [⟨.Name x px, iter, ifs, 0⟩] scope pos) spos :: rest) Q := .mk fun A H ex s R hA Rp hR => by
  obtain ⟨vars, Rp⟩ := Rp
  refine asg_comp Rp hA hsc hi hz hc hsw hs fun D C s' st hp r hC hPC R1 hN => ?_
  have r' : VR P (okp env P own (fun a => ex a ∨ a ∈ [C])) s'.heap (.list out) (.ref D) := r.mono (fun _ _ _ e => e) fun a q => by
    have z : s.heap.get? a = none := q.1.elim id fun z => by simp at z
    refine ⟨fun q => Rp.pool.live a q.symm z, fun hm => (Rp.pf a hm).2.2 z, fun hx => hx.elim (fun hx => (Rp.exl a hx).2 z) fun hx => q.2 (List.mem_singleton.mp hx)⟩
  refine store_name R1 hy fun d h' k hd hs loc cel => ?_
  have hCp : ∀ {b}, b ∈ priv env own → b ≠ C := fun hb q => (Rp.pf _ hb).2.2 (q ▸ hC)
  have hdC : C ≠ d := fun q => hCp (show d ∈ priv env own by
    rcases List.mem_cons.mp hd with rfl | q
    · exact .head _
    · exact .tail _ (List.mem_append_left _ q)) q.symm
  obtain ⟨m, hN⟩ := hN
  refine ⟨⟨m, hN.sameBut hs hdC⟩, fun h'' hs' => ?_⟩
  have R2 := R1.s1 (h' := h') (k := k) r' hy hd hs loc cel
  refine h A H ex _ R hA ⟨_, R2.iterEnd (k := k) (h' := h'') (fun b hb => ?_) (fun a ha hm => ?_) fun b o hb e => hs'.extBut b o (fun q => hb (List.mem_singleton.mpr q)) e⟩ hR
  · rw [List.mem_singleton] at hb; subst hb
    refine ⟨fun hm => hCp (priv_drop hm) rfl, ?_⟩
    cases e : H.heap.get? b with
    | none => rfl
    | some o => rw [Rp.keep b o hPC e] at hC; cases hC
  · rw [List.mem_singleton] at hm; subst hm
    exact (Rp.exl a ha).2 hC

/-- a name takes a new list of scalars that it owns -/
theorem ws_ownc {y : Str} {py px : Pos} {elt iter : Expr} {x : Str} {ifs : List Expr} {scope : Scope} {pos spos : Pos} {rest : List Stmt} {items out : List V}
    (hsc : ScopeOk env scope x) (hi : PI prog w g₀ n env P (ρo ρ own) p iter items p₁) (hz : items.length ≤ sizeLine)
    (hc : ∀ cl, (∀ y, (y, NameKind.free) ∈ scope.names → cl.lookup y = env.cells.lookup y) → CompR (fun v p b p' => ∀ C, PTs prog w g₀ n (compEnvC scope cl C env) P (ρC scope (ρo ρ own) x v) p ifs b p') (fun v p r p' => ∀ C, PE prog w g₀ n (compEnvC scope cl C env) P (ρC scope (ρo ρ own) x v) p elt true r p') items p₁ out p')
    (hy : Storable env y) (hsca : ∀ v ∈ out, v.scalar = true) (h : ∀ a, WS prog w g₀ n env P (del ρ y) ((y, a, .list out) :: dropO own y) p' rest Q)
    (hsw : swapsWith (.ListComp elt [⟨.Name x px, iter, ifs, 0⟩] scope pos) (some (.Name y py)) spos.line env = pure true := by rfl)
    (hs : ∀ x, foldedSetIterable iter env x = pure x := by intro _; rfl) :
    WS prog w g₀ n env P ρ own p (.Assign [.Name y py] (.ListComp elt [⟨.Name x px, iter, ifs, 0⟩] scope pos) spos :: rest) Q := .mk fun A H ex s R hA Rp hR => by
  obtain ⟨vars, Rp⟩ := Rp
  refine asg_comp Rp hA hsc hi hz hc hsw hs fun D C s' st hp r hC hPC R1 hN => ?_
  simp only [VR] at r
  obtain ⟨a, vs, q, ha, hl, rs⟩ := r
  cases q
  have hf : s.heap.get? D = none := ha.1.elim id fun z => by simp at z
  have go : ∀ {ok : Addr → Prop}, VRs P ok s'.heap out vs := fun {ok} => VRs.allSc hsca rs
  have hCp : ∀ {b}, b ∈ priv env own → b ≠ C := fun hb q => (Rp.pf _ hb).2.2 (q ▸ hC)
  refine store_name R1 hy fun d h' k hd hs loc cel => ?_
  have hdC : C ≠ d := fun q => hCp (show d ∈ priv env own by
    rcases List.mem_cons.mp hd with rfl | q
    · exact .head _
    · exact .tail _ (List.mem_append_left _ q)) q.symm
  obtain ⟨m, hN⟩ := hN
  refine ⟨⟨m, hN.sameBut hs hdC⟩, fun h'' hs' => ?_⟩
  -- the state before, with C set apart
  have hex : ∀ b, okp env P own ex b → s.heap.get? b ≠ none → okp env P own (fun a => ex a ∨ a ∈ [C]) b := fun b q hb => ⟨q.1, q.2.1, fun z => z.elim q.2.2 fun m => hb (by rw [List.mem_singleton.mp m]; exact hC)⟩
  have nD : s'.heap.get? D ≠ none := by obtain ⟨k, e⟩ := hl; rw [e]; exact fun q => nomatch q
  have haP : some D ≠ P := fun q => Rp.pool.live D q.symm hf
  have hap : D ∉ priv env own := fun q => (Rp.pf D q).2.2 hf
  have nodm := nod_drop (x := y) Rp.nod
  have hpm : ∀ b, b ∈ priv env ((y, D, Ow.list out) :: dropO own y) → b = D ∨ b ∈ priv env own := fun b hb => by
    unfold priv at hb
    rcases List.mem_cons.mp hb with rfl | hb
    · exact .inr (.head _)
    · rcases List.mem_append.mp hb with hb | hb
      · exact .inr (.tail _ (List.mem_append_left _ hb))
      · rw [List.map_cons] at hb
        rcases List.mem_cons.mp hb with rfl | hb
        · exact .inl rfl
        · exact .inr (priv_drop (.tail _ (List.mem_append_right _ hb)))
  have R2 : RepV prog w g₀ env P H (fun a => ex a ∨ a ∈ [C]) (upv vars y (.ref D)) (del ρ y) ((y, D, .list out) :: dropO own y) p' { s' with heap := h', toks := k } := by
    refine R1.core hy hd hs loc cel ?_ (fun b hb => ?_) (fun e he => ?_) fun z u e => ?_
    · have h2 : D ∉ priv env (dropO own y) := fun q => hap (priv_drop q)
      have h1 := nodm
      unfold priv at h1 h2 ⊢
      rw [List.map_cons]
      rw [show env.locals :: (env.cells.map (·.2) ++ D :: (dropO own y).map fun x => x.2.1) = (env.locals :: env.cells.map (·.2)) ++ D :: (dropO own y).map (fun x => x.2.1) from rfl]
      rw [show env.locals :: (env.cells.map (·.2) ++ (dropO own y).map fun x => x.2.1) = (env.locals :: env.cells.map (·.2)) ++ (dropO own y).map (fun x => x.2.1) from rfl] at h1 h2
      exact (List.perm_middle.nodup_iff).mpr (List.nodup_cons.mpr ⟨h2, h1⟩)
    · rcases hpm b hb with rfl | hb
      · refine ⟨haP, ?_, nD⟩
        cases q : H.heap.get? b with
        | none => rfl
        | some ob => rw [Rp.keep b ob haP q] at hf; cases hf
      · exact R1.pf b hb
    · rcases List.mem_cons.mp he with rfl | he
      · exact ⟨by simp [upv], ⟨vs, hl, go⟩⟩
      · obtain ⟨hm, hne⟩ := mem_dropO he
        obtain ⟨h1, h2⟩ := Rp.ow e hm
        refine ⟨by unfold upv; rw [if_neg hne]; exact h1, ?_⟩
        have hme : e.2.1 ∈ priv env own := .tail _ (List.mem_append_right _ (List.mem_map.mpr ⟨e, hm, rfl⟩))
        have h3 := h2.vmono (ok' := fun b => okp env P own ex b ∧ s.heap.get? b ≠ none) fun b q hb => ⟨q, hb⟩
        refine h3.mono (fun o q => st.keep _ o (Rp.pf _ hme).1 q) (fun b o q e => st.keep b o q.1.1 e) fun b q => sep_new b (hex b q.1 q.2) fun z => q.2 (z ▸ hf)
    · unfold del at e
      unfold upv
      by_cases q : z = y
      · rw [if_pos q] at e; cases e
      · rw [if_neg q] at e
        obtain ⟨u', h1, h2⟩ := Rp.vr z u e
        exact ⟨u', by rw [if_neg q]; exact h1, h2.alloc.mono (fun b o q e => st.keep b o q.1.1 e) fun b q => sep_new b (hex b q.1 q.2) fun z => q.2 (z ▸ hf)⟩
  refine h D A H ex _ R hA ⟨_, R2.iterEnd (k := k) (h' := h'') (fun b hb => ?_) (fun c hc hm => ?_) fun b o hb e => hs'.extBut b o (fun q => hb (List.mem_singleton.mpr q)) e⟩ hR
  · rw [List.mem_singleton] at hb; subst hb
    refine ⟨fun hm => (hpm b hm).elim (fun q => ha.2 q.symm) fun q => hCp q rfl, ?_⟩
    cases e : H.heap.get? b with
    | none => rfl
    | some o => rw [Rp.keep b o hPC e] at hC; cases hC
  · rw [List.mem_singleton] at hm; subst hm
    exact (Rp.exl c hc).2 hC
end
end Mine
end

section
open PySem PySem.W PyProof.Rows PySem.Calls Builtin.Str
set_option autoImplicit false
set_option Elab.async false
set_option linter.all false
set_option maxRecDepth 100000
namespace Mine
section
variable {prog : Program} {w : World} {g₀ : Heap} {n : Nat} {env : Env} {P : Option Addr} {ρ : Str → Option V} {own : Own} {p p' p'' p₁ p₂ p₃ p₄ : List Int} {fr : Bool} {H s s' : Shared} {ex : Addr → Prop} {Q : Fl → (Str → Option V) → Own → List Int → Prop}

theorem DV.some_iff {o : Option V} {u : Option Value} (h : DV o u) : u.isSome = o.isSome := by
  cases o with
  | none => simp only [DV] at h; subst h; rfl
  | some v => simp only [DV] at h; obtain ⟨_, t, rfl⟩ := h; rfl

theorem cmp_in_dict {k : Str} {f : Str → Option V} {m : Nat} : Cmp prog w .In (.str k) (.dict (prog, w) f m) (.bool (f k).isSome) := .mk fun A E Q s P ok va vb hA ra rb h => by
  simp only [VR] at ra rb
  obtain ⟨t, rfl⟩ := ra
  obtain ⟨a, rfl, _, l, hd, _, hs, hv⟩ := rb
  refine wpAny_in_of (strKind_is prog w k t) hs hd.mapOf ?_
  rw [(hv k).some_iff]
  exact h 0 _
theorem cmp_notin_dict {k : Str} {f : Str → Option V} {m : Nat} : Cmp prog w .NotIn (.str k) (.dict (prog, w) f m) (.bool (!(f k).isSome)) := .mk fun A E Q s P ok va vb hA ra rb h => by
  simp only [VR] at ra rb
  obtain ⟨t, rfl⟩ := ra
  obtain ⟨a, rfl, _, l, hd, _, hs, hv⟩ := rb
  refine wpAny_notIn_of (strKind_is prog w k t) hs hd.mapOf ?_
  rw [(hv k).some_iff]
  exact h 0 _
theorem self_dict {pw f m} : SelfIs "dict" (.dict pw f m) := fun P ok s val r => by
  simp only [VR] at r; obtain ⟨a, rfl, _, l, hd, _⟩ := r
  exact ⟨hd.typeIs, hd.mapOf.noDict⟩
theorem bi_dget {k : Str} {f : Str → Option V} {m : Nat} {v : V} (hv : v.scalar = true) : BI prog w (.builtin "dict.get") [.dict (prog, w) f m, .str k, v] ((f k).getD v) := .mk fun A E Q s P ok vals hA r hQ => by
  simp only [VRs, VR] at r
  obtain ⟨_, _, rfl, ⟨a, rfl, _, l, hd, _, hs, hf⟩, _, _, rfl, ⟨t, rfl⟩, dv, _, rfl, rd, rfl⟩ := r
  refine call_meetsIn PySem.F.slot_dict_get hd.typeIs PySem.F.entry_dict_get (PySem.F.args_dict_get_3 _ _ _) (meets_dict_get_default (strKind prog w) a (strKind_is prog w k t) hs dv) ⟨_, hd.mapOf, ?_⟩
  refine hQ _ _ (.toks _) ?_
  have h1 := hf k
  cases e : f k with
  | none =>
    rw [e] at h1; simp only [DV] at h1
    rw [h1]
    exact (VR.scalar hv).mpr ((VR.scalar hv).mp rd)
  | some u =>
    rw [e] at h1; simp only [DV] at h1
    obtain ⟨hu, t', h1⟩ := h1
    rw [h1]
    exact VR.of_val hu t'

theorem valueAt_stored {K : Type} [DecidableEq K] (kvs : List (K × Value)) (k : K) (v : Value) (x : K) : valueAt (stored kvs k v) x = if x = k then some v else valueAt kvs x := by
  unfold stored
  by_cases h : kvs.any (fun kv => decide (kv.1 = k)) = true
  · rw [if_pos h]
    have key : ∀ l : List (K × Value), valueAt (l.map fun kv => if kv.1 = k then (kv.1, v) else kv) x = if x = k ∧ l.any (fun kv => decide (kv.1 = k)) = true then some v else valueAt l x := by
      intro l
      induction l with
      | nil => simp [valueAt]
      | cons a l ih =>
        unfold valueAt at ih ⊢
        rw [List.map_cons, List.find?_cons, List.find?_cons, List.any_cons]
        by_cases q : a.1 = k
        · rw [if_pos q]
          by_cases z : x = k
          · subst z; simp [q]
          · have : ¬ a.1 = x := fun e => z (e ▸ q)
            simp only [this, decide_false]
            rw [ih]; simp [z]
        · rw [if_neg q]
          by_cases z : a.1 = x
          · have : ¬ x = k := fun e => q (z.trans e)
            simp [z, this]
          · have hz : (decide (a.1 = x)) = false := decide_eq_false z
            rw [hz]
            show Option.map _ (List.find? _ _) = _
            rw [ih, decide_eq_false q, Bool.false_or]
    rw [key]
    by_cases z : x = k
    · rw [if_pos ⟨z, h⟩, if_pos z]
    · rw [if_neg fun q => z q.1, if_neg z]
  · rw [if_neg h]
    have hn : ∀ kv ∈ kvs, ¬ kv.1 = k := fun kv hm e => h (List.any_eq_true.mpr ⟨kv, hm, by simpa using e⟩)
    unfold valueAt
    rw [List.find?_append]
    by_cases z : x = k
    · subst z
      rw [if_pos rfl, List.find?_eq_none.mpr (fun kv hm => by simpa using hn kv hm)]
      simp
    · rw [if_neg z]
      have : ¬ k = x := fun e => z e.symm
      simp [this]

noncomputable def fset (f : Str → Option V) (k : Str) (v : V) : Str → Option V := fun x => if x = k then some v else f x

/-- x = {} -/
theorem ws_dict0 {x px dpos pos rest} (hx : Storable env x) (hmod : g₀.get? cStatics ≠ none) (h : ∀ a, WS prog w g₀ n env P (del ρ x) ((x, a, .dict (prog, w) (fun _ => none) 0) :: dropO own x) p rest Q)
    (hsw : swapsWith (.Dict [] [] dpos) (some (.Name x px)) pos.line env = pure false := by rfl) : WS prog w g₀ n env P ρ own p (.Assign [.Name x px] (.Dict [] [] dpos) pos :: rest) Q := .mk fun A H ex s R hA Rp hR => by
  obtain ⟨vars, Rp⟩ := Rp
  refine wpAny_execs_cons (wpAny_Assign_Name (wpAny_Dict_empty ?_) hsw)
  have st : Stp none s { s with heap := s.heap.push { cls := .type "dict", data := .dict #[] } } := ⟨fun b o _ e => Heap.get?_push_of_some _ e, rfl⟩
  have R1 := Rp.stp (p' := p) st.weak (Rp.pool.keep st)
  have hlive : (s.heap.push { cls := .type "dict", data := .dict #[] }).get? s.heap.objs.size = some { cls := .type "dict", data := .dict #[] } := Heap.get?_push_size _ rfl
  have D : DAt (prog, w) (s.heap.push { cls := .type "dict", data := .dict #[] }) s.heap.objs.size (fun _ => none) 0 := by
    refine ⟨[], Heap.DictOf.new _, Nat.le_refl _, beq_eq_false_iff_ne.mpr fun q => ?_, fun k => rfl⟩
    cases e : g₀.get? cStatics with
    | none => exact hmod e
    | some o =>
      have := Heap.lt_size (Rp.base' _ _ e)
      rw [show s.heap.objs.size = sysModules from q] at this; exact absurd this (by decide)
  refine store_name R1 hx fun d h' k hd hs loc cel => ?_
  exact h s.heap.objs.size A H ex _ R hA ⟨_, Rp.s2 (o := .dict (prog, w) (fun _ => none) 0) R1 st.weak (get_size _) (by show (s.heap.push _).get? s.heap.objs.size ≠ none; rw [hlive]; exact fun q => nomatch q) D sep_new D hx hd hs loc cel⟩ hR

/-- x[k] = v for an owned dict -/
theorem ws_setd {x px ke ve spos pos rest} {a : Addr} {f : Str → Option V} {m : Nat} {k : Str} {v : V} (hm : (x, a, Ow.dict (prog, w) f m) ∈ own) (hv : PE prog w g₀ n env P (ρo ρ own) p ve false v p₁) (hk : PE prog w g₀ n env P (ρo ρ own) p₁ ke false (.str k) p₂)
    (hsz : m ≤ 2 ^ 20) (h : WS prog w g₀ n env P ρ (setO own x (.dict (prog, w) (fset f k v) (m + 1))) p₂ rest Q) (hsc : v.scalar = true := by rfl) (hd : (x == ("__debug__" : Str)) = false := by decide)
    (hs : swapsWith ve (some (.Subscript (.Name x px) ke spos)) pos.line env = pure false := by rfl) :
    WS prog w g₀ n env P ρ own p (.Assign [.Subscript (.Name x px) ke spos] ve pos :: rest) Q := .mk fun A H ex s R hA Rp hR => by
  obtain ⟨vars, Rp⟩ := Rp
  refine wpAny_execs_cons (wpAny_Assign_Subscript (hv A _ _ s _ hA Rp.stAll fun vv s₁ st₁ hp₁ rv => ?_) hs)
  have R1 := Rp.stp st₁ hp₁
  obtain ⟨h1, _⟩ := R1.ow _ hm
  refine wpAny_Name ((R1.rd h1).ld (hk A _ _ s₁ _ hA R1.stAll fun kv s₂ st₂ hp₂ rk => ?_)) hd
  have R2 := R1.stp st₂ hp₂
  simp only [VR] at rk
  obtain ⟨t, rfl⟩ := rk
  obtain ⟨u, rfl⟩ := (VR.scalar hsc).mp rv
  obtain ⟨_, l, hdo, hl, hms, hf⟩ := R2.ow _ hm
  refine wpAny_setItem_pairs (hsz := by unfold sizeLine; omega) (strKind_is prog w k t) hdo fun h' hd' hs' => ?_
  have D : DAt (prog, w) h' a (fset f k v) (m + 1) := by
    refine ⟨_, hd', Nat.le_trans (stored_length_le _ _ _) (by omega), hms, fun x => ?_⟩
    rw [valueAt_stored]
    unfold fset
    by_cases q : x = k
    · rw [if_pos q, if_pos q]; exact ⟨hsc, u, rfl⟩
    · rw [if_neg q, if_neg q]; exact hf x
  exact h A H ex _ R hA ⟨_, R2.turnO (k := s₂.toks + 1) hm hs' (by obtain ⟨o, e, _⟩ := D.live; rw [e]; exact fun q => nomatch q) D⟩ hR

theorem VRs.set {ok : Addr → Prop} {h : Heap} {v : V} {u : Value} (r : VR P ok h v u) : ∀ {xs : List V} {us : List Value} (i : Nat), VRs P ok h xs us → VRs P ok h (xs.set i v) (us.set i u)
  | [], us, i, rs => by simp only [VRs] at rs; subst rs; simp only [List.set_nil, VRs]
  | x :: xs, us, 0, rs => by
    simp only [VRs] at rs
    obtain ⟨y, r', rfl, h1, h2⟩ := rs
    simp only [List.set_cons_zero, VRs]
    exact ⟨u, r', rfl, r, h2⟩
  | x :: xs, us, i + 1, rs => by
    simp only [VRs] at rs
    obtain ⟨y, r', rfl, h1, h2⟩ := rs
    simp only [List.set_cons_succ, VRs]
    exact ⟨y, _, rfl, h1, VRs.set r i h2⟩

theorem setPlain {A : Around} {E : Value → Shared → Prop} {l : Addr} {items : Array Value} {c : Nat} {k : Int} {t : Tok} {v : Value} {Q : Unit → Shared → Prop} (ho : s.heap.get? l = some { cls := .type "list", data := .seq items c }) (h0 : 0 ≤ k) (h1 : k < 2 ^ 63) (hn : k < items.size)
    (hQ : Q () { s with heap := s.heap.update l (Obj.mapSeq (·.setIfInBounds k.toNat v)) }) : wpAny (model prog w) A (setItem (.ref l) (.int k t) v) Q E s := by
  have hT : s.TypeIs (.ref l) "list" := ⟨_, ho, rfl⟩
  unfold setItem
  try with_reducible refine wpAny_holding ?_
  first | refine wpAny_bind (wpAny_pure ?_) | skip
  refine wpAny_bind (wpAny_sequenceKey hT (by decide) ?_)
  refine wpAny_bind (wpAny_callSpecial?_slot (name := Str.ofString "__setitem__") hT slot_list_setitem (wpAny_call_entry slot_list_setitem hT entry_list_setitem ?_ (args_list_setitem _ _ _)))
  show wpAny _ _ (Builtin.List.listSubscript? (.int k t) >>= _) _ _ s
  refine wpAny_bind (wpAny_listSubscript_int (fitsIndex_of h0 h1) ?_)
  clear h1
  obtain ⟨j, rfl⟩ := Int.eq_ofNat_of_zero_le h0
  have hjl : j < items.size := by omega
  have hj : items[j]? = some items[j] := Array.getElem?_eq_getElem hjl
  show wpAny _ _ ((seqItemAt l j >>= fun r => pure (r.map (j, ·))) >>= _) _ _ s
  refine wpAny_bind (wpAny_bind (wpAny_seqItemAt ho rfl (wpAny_pure ?_)))
  rw [hj]
  show wpAny _ _ (setSeqItemAt l j v >>= _) _ _ s
  refine wpAny_bind (wpAny_setSeqItemAt ho rfl ?_)
  first | exact wpAny_bind (wpAny_pure (wpAny_pure ⟨.none, rfl, wpAny_pure hQ⟩)) | exact wpAny_pure ⟨.none, rfl, wpAny_pure hQ⟩

/-- x[i] = v for an owned list -/
theorem ws_setl {x px ke ve spos pos rest} {a : Addr} {xs : List V} {k : Int} {v : V} (hm : (x, a, Ow.list xs) ∈ own) (hv : PE prog w g₀ n env P (ρo ρ own) p ve false v p₁) (hk : PE prog w g₀ n env P (ρo ρ own) p₁ ke false (.int k) p₂)
    (h0 : 0 ≤ k) (hk1 : k < xs.length) (hsz : xs.length ≤ sizeLine) (h : WS prog w g₀ n env P ρ (setO own x (.list (xs.set k.toNat v))) p₂ rest Q) (hsc : v.scalar = true := by rfl) (hd : (x == ("__debug__" : Str)) = false := by decide)
    (hs : swapsWith ve (some (.Subscript (.Name x px) ke spos)) pos.line env = pure false := by rfl) :
    WS prog w g₀ n env P ρ own p (.Assign [.Subscript (.Name x px) ke spos] ve pos :: rest) Q := .mk fun A H ex s R hA Rp hR => by
  obtain ⟨vars, Rp⟩ := Rp
  refine wpAny_execs_cons (wpAny_Assign_Subscript (hv A _ _ s _ hA Rp.stAll fun vv s₁ st₁ hp₁ rv => ?_) hs)
  have R1 := Rp.stp st₁ hp₁
  obtain ⟨h1, _⟩ := R1.ow _ hm
  refine wpAny_Name ((R1.rd h1).ld (hk A _ _ s₁ _ hA R1.stAll fun kv s₂ st₂ hp₂ rk => ?_)) hd
  have R2 := R1.stp st₂ hp₂
  simp only [VR] at rk
  obtain ⟨t, rfl⟩ := rk
  obtain ⟨_, us, ⟨j, hl⟩, rs⟩ := R2.ow _ hm
  have e1 := rs.length
  unfold sizeLine at hsz
  refine setPlain hl h0 (by omega) (by rw [List.size_toArray]; omega) ?_
  have hl' := plain_update (fun its => its.setIfInBounds k.toNat vv) ⟨j, hl⟩
  have hs' : Heap.SameBut a s₂.heap (s₂.heap.update a (Obj.mapSeq (·.setIfInBounds k.toNat vv))) := Heap.SameBut.update ..
  have ap : a ∈ priv env own := .tail _ (List.mem_append_right _ (List.mem_map.mpr ⟨_, hm, rfl⟩))
  refine h A H ex _ R hA ⟨_, R2.turnO (k := s₂.toks) (o' := .list (xs.set k.toNat v)) hm hs' (by obtain ⟨_, e⟩ := hl'; rw [e]; exact fun q => nomatch q) ⟨us.set k.toNat vv, by rw [← List.setIfInBounds_toArray]; exact hl', ?_⟩⟩ hR
  exact (VRs.set ((VR.scalar hsc).mpr ((VR.scalar hsc).mp rv)) _ rs).mono (fun b o q e => hs'.extBut b o (fun z => q.2.1 (z ▸ ap)) e) fun _ q => q
end
end Mine
end

section
open PySem PySem.W PyProof.Rows PySem.Calls Builtin.Str
set_option autoImplicit false
set_option Elab.async false
set_option linter.all false
set_option maxRecDepth 100000
namespace Mine
section
variable {prog : Program} {w : World} {A : Around} {E : Value → Shared → Prop} {s : Shared}

/-- the parts of a zip lie apart -/
structure ZA (z TI TO i1 i2 : Addr) (fp1 fp2 : List Addr) : Prop where
  m1 : i1 ∈ fp1
  m2 : i2 ∈ fp2
  z1 : z ∉ fp1
  z2 : z ∉ fp2
  o1 : TO ∉ fp1
  o2 : TO ∉ fp2
  c1 : i1 ∉ fp2
  c2 : i2 ∉ fp1
  t1 : TI ≠ i1
  t2 : TI ≠ i2
  tz : TI ≠ z
  to : TI ≠ TO
  oz : TO ≠ z

variable {z TI TO i1 i2 : Addr} {fp1 fp2 : List Addr} {n1 n2 i : Nat} {P1 P2 : Nat → Value → Prop} {S1 S2 : Nat → Heap → Prop} {a b : Value}

theorem zip_itemD {Q : Value → Shared → Prop} (D1 : Draws prog w A i1 fp1 n1 P1 S1) (D2 : Draws prog w A i2 fp2 n2 P2 S2) (h1n : i < n1) (h2n : i < n2) (ap : ZA z TI TO i1 i2 fp1 fp2)
    (hz : IsZip s.heap z TI TO .none) (hTI : IsPair s.heap TI (.ref i1) (.ref i2)) (hTO : IsPair s.heap TO a b) (s1 : S1 i s.heap) (s2 : S2 i s.heap)
    (hQ : ∀ x y h' tk, P1 i x → P2 i y → IsZip h' z TI TO (rawInt s.heap.objs.size) → IsPair h' TO x y → S1 (i + 1) h' → S2 (i + 1) h' → IsPair h' s.heap.objs.size x y → h'.objs.size = s.heap.objs.size + 1 →
      (∀ c o, c ≠ z → c ≠ TO → c ≠ i1 → c ≠ i2 → s.heap.get? c = some o → h'.get? c = some o) → Q (.ref s.heap.objs.size) { s with heap := h', toks := tk }) :
    wpAny (model prog w) A (Builtin.«zip.__next__» ⟨[.ref z], []⟩) (fun fin s' => ∃ v, fin = .done (.ret v) ∧ Q v s') E s := by
  have n1z : i1 ≠ z := fun q => ap.z1 (q ▸ ap.m1)
  have n2z : i2 ≠ z := fun q => ap.z2 (q ▸ ap.m2)
  have n1o : i1 ≠ TO := fun q => ap.o1 (q ▸ ap.m1)
  have n2o : i2 ≠ TO := fun q => ap.o2 (q ▸ ap.m2)
  have n12 : i1 ≠ i2 := fun q => ap.c1 (q ▸ ap.m2)
  have ne_of : ∀ {l : List Addr} {x y : Addr}, x ∉ l → y ∈ l → y ≠ x := fun h1 h2 q => h1 (q ▸ h2)
  show wpAny _ _ (field (.ref z) 2 >>= _) _ _ _
  refine wpAny_bind (wpAny_field hz rfl (x := .bool false) rfl ?_)
  show wpAny _ _ (field (.ref z) 3 >>= _) _ _ _
  refine wpAny_bind (wpAny_field hz rfl (x := .ref TI) rfl ?_)
  refine wpAny_bind (wpAny_seqItems hTI rfl ?_)
  show wpAny _ _ (Builtin.SmallTypes.ownedTupleIsFree (.ref z) >>= _) _ _ _
  refine wpAny_bind ?_
  unfold Builtin.SmallTypes.ownedTupleIsFree
  refine wpAny_bind (wpAny_field hz rfl (x := .none) rfl (wpAny_pure ?_))
  simp only [if_true]
  refine wpAny_bind (wpAny_rule ?_)
  refine wpAny_bind (wpAny_field hz rfl (x := .ref TO) rfl ?_)
  refine wpAny_bind (wpAny_setField_rec hz (by simp) fun h₁ hz₁ hs₁ => ?_)
  replace hz₁ : IsZip h₁ z TI TO .ellipsis := hz₁
  refine wpAny_bind ?_
  simp only [List.zipIdx_cons, List.zipIdx_nil, List.forIn_cons, List.forIn_nil]
  refine wpAny_bind (wpAny_bind (wpAny_onRaise ?_))
  show wpAny _ _ (Builtin.SmallTypes.nextOf (.ref i1) >>= _) _ _ _
  have s1₁ : S1 i h₁ := D1.frame _ _ _ s1 fun b hb o e => hs₁.extBut b o (ne_of ap.z1 hb) e
  refine wpAny_bind (D1.item i _ _ _ h1n s1₁ fun x h₂ tk₂ hx s1₂ hs₂ => wpAny_pure ?_)
  have hTO₂ : IsPair h₂ TO a b := hs₂.extBut _ _ n1o.symm (hs₁.extBut _ _ ap.oz hTO)
  refine wpAny_bind (wpAny_seqItems hTO₂ rfl ?_)
  refine wpAny_bind (wpAny_updateSeq_pair hTO₂ fun h₃ hTO₃ hs₃ => ?_)
  replace hTO₃ : IsPair h₃ TO x b := hTO₃
  refine wpAny_bind (wpAny_letGo (wpAny_pure ?_))
  refine wpAny_bind (wpAny_bind (wpAny_onRaise ?_))
  show wpAny _ _ (Builtin.SmallTypes.nextOf (.ref i2) >>= _) _ _ _
  have s2₃ : S2 i h₃ := D2.frame _ _ _ s2 fun b hb o e => hs₃.extBut b o (ne_of ap.o2 hb) (hs₂.extBut b o (ne_of ap.c1 hb) (hs₁.extBut b o (ne_of ap.z2 hb) e))
  refine wpAny_bind (D2.item i _ _ _ h2n s2₃ fun y h₄ tk₄ hy s2₄ hs₄ => wpAny_pure ?_)
  have hTO₄ : IsPair h₄ TO x b := hs₄.extBut _ _ n2o.symm hTO₃
  refine wpAny_bind (wpAny_seqItems hTO₄ rfl ?_)
  refine wpAny_bind (wpAny_updateSeq_pair hTO₄ fun h₅ hTO₅ hs₅ => ?_)
  replace hTO₅ : IsPair h₅ TO x y := hTO₅
  refine wpAny_bind (wpAny_letGo (wpAny_pure (wpAny_pure ?_)))
  refine wpAny_bind (wpAny_seqItems hTO₅ rfl ?_)
  refine wpAny_bind (wpAny_newTuple ?_)
  have hsz : h₅.objs.size = s.heap.objs.size := by rw [hs₅.1, hs₄.1, hs₃.1, hs₂.1, hs₁.1]
  have hz₅ : IsZip h₅ z TI TO .ellipsis := hs₅.extBut _ _ ap.oz.symm (hs₄.extBut _ _ n2z.symm (hs₃.extBut _ _ ap.oz.symm (hs₂.extBut _ _ n1z.symm hz₁)))
  have hk₅ : ∀ c o, c ≠ z → c ≠ TO → c ≠ i1 → c ≠ i2 → s.heap.get? c = some o → h₅.get? c = some o := fun c o c1 c2 c3 c4 e =>
    hs₅.extBut _ _ c2 (hs₄.extBut _ _ c4 (hs₃.extBut _ _ c2 (hs₂.extBut _ _ c3 (hs₁.extBut _ _ c1 e))))
  have s1₅ : S1 (i + 1) h₅ := D1.frame _ _ _ s1₂ fun b hb o e => hs₅.extBut b o (ne_of ap.o1 hb) (hs₄.extBut b o (ne_of ap.c2 hb) (hs₃.extBut b o (ne_of ap.o1 hb) e))
  have s2₅ : S2 (i + 1) h₅ := D2.frame _ _ _ s2₄ fun b hb o e => hs₅.extBut b o (ne_of ap.o2 hb) e
  have hzlt : z < h₅.objs.size := Heap.lt_size hz₅
  show wpAny _ _ (Builtin.SmallTypes.ownedTupleHandOut (.ref z) (.ref h₅.objs.size) >>= _) _ _ _
  refine wpAny_bind ?_
  unfold Builtin.SmallTypes.ownedTupleHandOut
  have hz₆ : IsZip (h₅.push { cls := .type "tuple", data := .seq #[x, y] }) z TI TO .ellipsis := Heap.get?_push_of_some _ hz₅
  refine wpAny_bind (wpAny_setField_rec hz₆ (by simp) fun h₇ hz₇ hs₇ => ?_)
  replace hz₇ : IsZip h₇ z TI TO (rawInt h₅.objs.size) := hz₇
  refine wpAny_setField_rec hz₇ (by simp) fun h₈ hz₈ hs₈ => ?_
  replace hz₈ : IsZip h₈ z TI TO (rawInt h₅.objs.size) := hz₈
  have up : ∀ c o, c ≠ z → h₅.get? c = some o → h₈.get? c = some o := fun c o c1 e => hs₈.extBut _ _ c1 (hs₇.extBut _ _ c1 (Heap.get?_push_of_some _ e))
  have hT₈ : IsPair h₈ h₅.objs.size x y := hs₈.extBut _ _ (Nat.ne_of_gt hzlt) (hs₇.extBut _ _ (Nat.ne_of_gt hzlt) (Heap.get?_push_size _ rfl))
  have hz8 : h₈.objs.size = h₅.objs.size + 1 := by rw [hs₈.1, hs₇.1, Heap.size_push]
  rw [hsz] at hz₈ hT₈ hz8
  refine wpAny_pure ⟨_, rfl, ?_⟩
  show Q (.ref h₅.objs.size) _
  rw [hsz]
  exact hQ x y h₈ tk₄ hx hy hz₈ (up _ _ ap.oz hTO₅) (D1.frame _ _ _ s1₅ fun b hb o e => up b o (ne_of ap.z1 hb) e) (D2.frame _ _ _ s2₅ fun b hb o e => up b o (ne_of ap.z2 hb) e) hT₈ hz8 fun c o c1 c2 c3 c4 e => up c o c1 (hk₅ c o c1 c2 c3 c4 e)

theorem zip_endD {Q : Fin → Shared → Prop} (D1 : Draws prog w A i1 fp1 n1 P1 S1) (D2 : Draws prog w A i2 fp2 n2 P2 S2) (ap : ZA z TI TO i1 i2 fp1 fp2)
    (hz : IsZip s.heap z TI TO .none) (hTI : IsPair s.heap TI (.ref i1) (.ref i2)) (hTO : IsPair s.heap TO a b) (s1 : S1 i s.heap) (s2 : S2 i s.heap) (hend : i = n1 ∨ (i < n1 ∧ i = n2))
    (hE : ∀ h' tk e, (∀ c o, c ≠ z → c ≠ TO → c ≠ i1 → c ≠ i2 → s.heap.get? c = some o → h'.get? c = some o) → (∃ o, h'.get? e = some o ∧ o.cls = .type "StopIteration") → E (.ref e) { s with heap := h', toks := tk }) :
    wpAny (model prog w) A (Builtin.«zip.__next__» ⟨[.ref z], []⟩) Q E s := by
  have n1z : i1 ≠ z := fun q => ap.z1 (q ▸ ap.m1)
  have n2z : i2 ≠ z := fun q => ap.z2 (q ▸ ap.m2)
  have n1o : i1 ≠ TO := fun q => ap.o1 (q ▸ ap.m1)
  have n2o : i2 ≠ TO := fun q => ap.o2 (q ▸ ap.m2)
  have n12 : i1 ≠ i2 := fun q => ap.c1 (q ▸ ap.m2)
  have ne_of : ∀ {l : List Addr} {x y : Addr}, x ∉ l → y ∈ l → y ≠ x := fun h1 h2 q => h1 (q ▸ h2)
  show wpAny _ _ (field (.ref z) 2 >>= _) _ _ _
  refine wpAny_bind (wpAny_field hz rfl (x := .bool false) rfl ?_)
  show wpAny _ _ (field (.ref z) 3 >>= _) _ _ _
  refine wpAny_bind (wpAny_field hz rfl (x := .ref TI) rfl ?_)
  refine wpAny_bind (wpAny_seqItems hTI rfl ?_)
  show wpAny _ _ (Builtin.SmallTypes.ownedTupleIsFree (.ref z) >>= _) _ _ _
  refine wpAny_bind ?_
  unfold Builtin.SmallTypes.ownedTupleIsFree
  refine wpAny_bind (wpAny_field hz rfl (x := .none) rfl (wpAny_pure ?_))
  simp only [if_true]
  refine wpAny_bind (wpAny_rule ?_)
  refine wpAny_bind (wpAny_field hz rfl (x := .ref TO) rfl ?_)
  refine wpAny_bind (wpAny_setField_rec hz (by simp) fun h₁ hz₁ hs₁ => ?_)
  replace hz₁ : IsZip h₁ z TI TO .ellipsis := hz₁
  refine wpAny_bind ?_
  simp only [List.zipIdx_cons, List.zipIdx_nil, List.forIn_cons, List.forIn_nil]
  refine wpAny_bind (wpAny_bind (wpAny_onRaise ?_))
  show wpAny _ _ (Builtin.SmallTypes.nextOf (.ref i1) >>= _) _ _ _
  have s1₁ : S1 i h₁ := D1.frame _ _ _ s1 fun b hb o e => hs₁.extBut b o (ne_of ap.z1 hb) e
  rcases hend with rfl | ⟨hlt, rfl⟩
  · refine wpAny_bind (D1.done _ _ _ s1₁ fun h₂ e hs₂ he => ?_)
    obtain ⟨oe, hoe, hce⟩ := he
    have hz₂ : IsZip h₂ z TI TO .ellipsis := hs₂ _ _ n1z.symm hz₁
    have hez : e ≠ z := fun x => by subst x; rw [hz₂] at hoe; cases hoe; simp at hce
    refine wpAny_setField_rec hz₂ (by simp) fun h₃ _ hs₃ => hE h₃ _ e (fun c o c1 _ c3 _ x => hs₃.extBut _ _ c1 (hs₂ _ _ c3 (hs₁.extBut _ _ c1 x))) ⟨oe, hs₃.extBut _ _ hez hoe, hce⟩
  · refine wpAny_bind (D1.item i _ _ _ hlt s1₁ fun x h₂ tk₂ hx s1₂ hs₂ => wpAny_pure ?_)
    have hTO₂ : IsPair h₂ TO a b := hs₂.extBut _ _ n1o.symm (hs₁.extBut _ _ ap.oz hTO)
    refine wpAny_bind (wpAny_seqItems hTO₂ rfl ?_)
    refine wpAny_bind (wpAny_updateSeq_pair hTO₂ fun h₃ hTO₃ hs₃ => ?_)
    refine wpAny_bind (wpAny_letGo (wpAny_pure ?_))
    refine wpAny_bind (wpAny_bind (wpAny_onRaise ?_))
    show wpAny _ _ (Builtin.SmallTypes.nextOf (.ref i2) >>= _) _ _ _
    have s2₃ : S2 i h₃ := D2.frame _ _ _ s2 fun b hb o e => hs₃.extBut b o (ne_of ap.o2 hb) (hs₂.extBut b o (ne_of ap.c1 hb) (hs₁.extBut b o (ne_of ap.z2 hb) e))
    refine wpAny_bind (D2.done _ _ _ s2₃ fun h₄ e hs₄ he => ?_)
    obtain ⟨oe, hoe, hce⟩ := he
    have hz₄ : IsZip h₄ z TI TO .ellipsis := hs₄ _ _ n2z.symm (hs₃.extBut _ _ ap.oz.symm (hs₂.extBut _ _ n1z.symm hz₁))
    have hez : e ≠ z := fun x => by subst x; rw [hz₄] at hoe; cases hoe; simp at hce
    refine wpAny_setField_rec hz₄ (by simp) fun h₅ _ hs₅ => hE h₅ _ e (fun c o c1 c2 c3 c4 x => hs₅.extBut _ _ c1 (hs₄ _ _ c4 (hs₃.extBut _ _ c2 (hs₂.extBut _ _ c3 (hs₁.extBut _ _ c1 x))))) ⟨oe, hs₅.extBut _ _ hez hoe, hce⟩

theorem next_itemD {Q : Option Value → Shared → Prop} (D1 : Draws prog w A.in1 i1 fp1 n1 P1 S1) (D2 : Draws prog w A.in1 i2 fp2 n2 P2 S2) (h1n : i < n1) (h2n : i < n2) (ap : ZA z TI TO i1 i2 fp1 fp2)
    (hz : IsZip s.heap z TI TO .none) (hTI : IsPair s.heap TI (.ref i1) (.ref i2)) (hTO : IsPair s.heap TO a b) (s1 : S1 i s.heap) (s2 : S2 i s.heap)
    (hQ : ∀ x y h' tk, P1 i x → P2 i y → IsZip h' z TI TO (rawInt s.heap.objs.size) → IsPair h' TO x y → S1 (i + 1) h' → S2 (i + 1) h' → IsPair h' s.heap.objs.size x y → h'.objs.size = s.heap.objs.size + 1 →
      (∀ c o, c ≠ z → c ≠ TO → c ≠ i1 → c ≠ i2 → s.heap.get? c = some o → h'.get? c = some o) → Q (some (.ref s.heap.objs.size)) { s with heap := h', toks := tk }) :
    wpAny (model prog w) A (pyNext (.ref z)) Q E s := by
  have hT : s.TypeIs (.ref z) "zip" := ⟨_, hz, rfl⟩
  unfold pyNext
  exact wpAny_bind (wpAny_attempt (wpAny_callSpecial?_slot (name := Str.ofString "__next__") hT PySem.F.slot_zip_next
    (wpAny_call_entry PySem.F.slot_zip_next hT PySem.F.entry_zip_next
      (zip_itemD D1 D2 h1n h2n ap hz hTI hTO s1 s2 fun x y h' tk a0 a0' a1 a2 a3 a4 a5 a6 a7 => wpAny_pure (hQ x y h' tk a0 a0' a1 a2 a3 a4 a5 a6 a7)) (PySem.F.args_zip_next_1 _))))

theorem next_endD {Q : Option Value → Shared → Prop} (D1 : Draws prog w A.in1 i1 fp1 n1 P1 S1) (D2 : Draws prog w A.in1 i2 fp2 n2 P2 S2) (ap : ZA z TI TO i1 i2 fp1 fp2)
    (hz : IsZip s.heap z TI TO .none) (hTI : IsPair s.heap TI (.ref i1) (.ref i2)) (hTO : IsPair s.heap TO a b) (s1 : S1 i s.heap) (s2 : S2 i s.heap) (hend : i = n1 ∨ (i < n1 ∧ i = n2))
    (hQ : ∀ h' tk, (∀ c o, c ≠ z → c ≠ TO → c ≠ i1 → c ≠ i2 → s.heap.get? c = some o → h'.get? c = some o) → Q none { s with heap := h', toks := tk }) : wpAny (model prog w) A (pyNext (.ref z)) Q E s := by
  have hT : s.TypeIs (.ref z) "zip" := ⟨_, hz, rfl⟩
  unfold pyNext
  refine wpAny_bind (wpAny_attempt (wpAny_callSpecial?_slot (name := Str.ofString "__next__") hT PySem.F.slot_zip_next
    (wpAny_call_entry PySem.F.slot_zip_next hT PySem.F.entry_zip_next (zip_endD D1 D2 ap hz hTI hTO s1 s2 hend fun h' tk e hk he => ?_) (PySem.F.args_zip_next_1 _))))
  obtain ⟨o, ho, hc⟩ := he
  refine wpAny_bind (wpAny_isInstance (T := "StopIteration") (b := true) ⟨o, ho, hc⟩ isSubtype_stop ?_)
  exact wpAny_pure (hQ _ _ hk)
end
end Mine
end

section
open PySem PySem.W PyProof.Rows PySem.Calls Builtin.Str
set_option autoImplicit false
set_option Elab.async false
set_option linter.all false
set_option maxRecDepth 100000
namespace Mine

noncomputable abbrev zH1 (h : Heap) (l1 : Addr) : Heap := h.push { cls := .type "list_iterator", data := .fields #[.ref l1, .int 0 0] }
noncomputable abbrev zH2 (h : Heap) (l1 : Addr) (T : String) (x : Str) (t : Tok) : Heap := (zH1 h l1).push { cls := .type T, data := .fields #[.str x t, .int 0 0] }
noncomputable abbrev zH3 (h : Heap) (l1 : Addr) (T : String) (x : Str) (t : Tok) : Heap := (zH2 h l1 T x t).push { cls := .type "tuple", data := .seq #[.ref h.objs.size, .ref (zH1 h l1).objs.size] }
noncomputable abbrev zH4 (h : Heap) (l1 : Addr) (T : String) (x : Str) (t : Tok) : Heap := (zH3 h l1 T x t).push { cls := .type "tuple", data := .seq #[.none, .none] }
noncomputable abbrev zH5 (h : Heap) (l1 : Addr) (T : String) (x : Str) (t : Tok) : Heap := (zH4 h l1 T x t).push { cls := .type "zip", data := .fields #[.none, .bool false, .bool false, .ref (zH2 h l1 T x t).objs.size, .ref (zH3 h l1 T x t).objs.size] }

set_option maxHeartbeats 4000000 in
theorem meets_zip_a (l1 : Addr) (xs : Array Value) (x : Str) (t : Tok) (ha : x.cps.all (· < 128) = true) :
    Meets (Builtin.«zip.__new__» ⟨[.type "zip", .ref l1, .str x t], []⟩) (fun _ R s => s.heap.IsList l1 xs ∧
      R (.ok (.ret (.ref (zH4 s.heap l1 "str_ascii_iterator" x t).objs.size))) { s with heap := zH5 s.heap l1 "str_ascii_iterator" x t }) :=
  .of_wp fun prog w A R s h => by
    obtain ⟨hp, g, d, tk, os⟩ := s; obtain ⟨hl1, h⟩ := h
    have hsub := sub_zip
    have hL1 : Heap.IsList (Shared.heap ⟨hp, g, d, tk, os⟩) l1 xs := hl1
    wp_walk using wpAny_pyIter_list hL1, wpAny_pyIter_ascii ha
    exact ⟨_, rfl, h⟩
set_option maxHeartbeats 4000000 in
theorem meets_zip_w (l1 : Addr) (xs : Array Value) (x : Str) (t : Tok) (ha : x.cps.all (· < 128) = false) :
    Meets (Builtin.«zip.__new__» ⟨[.type "zip", .ref l1, .str x t], []⟩) (fun _ R s => s.heap.IsList l1 xs ∧
      R (.ok (.ret (.ref (zH4 s.heap l1 "str_iterator" x t).objs.size))) { s with heap := zH5 s.heap l1 "str_iterator" x t }) :=
  .of_wp fun prog w A R s h => by
    obtain ⟨hp, g, d, tk, os⟩ := s; obtain ⟨hl1, h⟩ := h
    have hsub := sub_zip
    have hL1 : Heap.IsList (Shared.heap ⟨hp, g, d, tk, os⟩) l1 xs := hl1
    wp_walk using wpAny_pyIter_list hL1, wpAny_pyIter_wide ha
    exact ⟨_, rfl, h⟩

section
variable {prog : Program} {w : World} {A : Around} {E : Value → Shared → Prop} {s : Shared}

theorem call_zip_core {l1 : Addr} {xs : Array Value} {T : String} {x : Str} {t : Tok} {Q : Value → Shared → Prop} (hl1 : s.heap.IsList l1 xs) (M : Meets (Builtin.«zip.__new__» ⟨[.type "zip", .ref l1, .str x t], []⟩) (fun _ R s => s.heap.IsList l1 xs ∧
      R (.ok (.ret (.ref (zH4 s.heap l1 T x t).objs.size))) { s with heap := zH5 s.heap l1 T x t }))
    (h : ∀ h', IsZip h' (s.heap.objs.size + 4) (s.heap.objs.size + 2) (s.heap.objs.size + 3) .none → IsPair h' (s.heap.objs.size + 2) (.ref s.heap.objs.size) (.ref (s.heap.objs.size + 1)) →
      IsPair h' (s.heap.objs.size + 3) .none .none → h'.IsListIter s.heap.objs.size l1 0 → h'.get? (s.heap.objs.size + 1) = some { cls := .type T, data := .fields #[.str x t, .int 0 0] } → h'.objs.size = s.heap.objs.size + 5 →
      (∀ c o, s.heap.get? c = some o → h'.get? c = some o) → Q (.ref (s.heap.objs.size + 4)) { s with heap := h' }) :
    wpAny (model prog w) A (call (.type "zip") [.ref l1, .str x t]) Q E s := by
  refine callType_new PySem.F.called_zip (by decide) (PySem.F.typeCall_zip_2 _ _) (PySem.F.newCall_zip_2 _ _) (fun obj => PySem.F.args_object_init_3 obj _ _) PySem.F.entry_zip_new
    M ⟨hl1, ?_⟩
  have z1 : (zH1 s.heap l1).objs.size = s.heap.objs.size + 1 := Heap.size_push ..
  have z2 : (zH2 s.heap l1 T x t).objs.size = s.heap.objs.size + 2 := by rw [Heap.size_push, z1]
  have z3 : (zH3 s.heap l1 T x t).objs.size = s.heap.objs.size + 3 := by rw [Heap.size_push, z2]
  have z4 : (zH4 s.heap l1 T x t).objs.size = s.heap.objs.size + 4 := by rw [Heap.size_push, z3]
  have z5 : (zH5 s.heap l1 T x t).objs.size = s.heap.objs.size + 5 := by rw [Heap.size_push, z4]
  have g5 : (zH5 s.heap l1 T x t).get? (zH4 s.heap l1 T x t).objs.size = some _ := Heap.get?_push_size _ rfl
  have g4 : (zH5 s.heap l1 T x t).get? (zH3 s.heap l1 T x t).objs.size = some _ := Heap.get?_push_of_some _ (Heap.get?_push_size _ rfl)
  have g3 : (zH5 s.heap l1 T x t).get? (zH2 s.heap l1 T x t).objs.size = some _ := Heap.get?_push_of_some _ (Heap.get?_push_of_some _ (Heap.get?_push_size _ rfl))
  have g2 : (zH5 s.heap l1 T x t).get? (zH1 s.heap l1).objs.size = some _ := Heap.get?_push_of_some _ (Heap.get?_push_of_some _ (Heap.get?_push_of_some _ (Heap.get?_push_size _ rfl)))
  have g1 : (zH5 s.heap l1 T x t).get? s.heap.objs.size = some _ := Heap.get?_push_of_some _ (Heap.get?_push_of_some _ (Heap.get?_push_of_some _ (Heap.get?_push_of_some _ (Heap.get?_push_size _ rfl))))
  show _ ∧ _
  rw [z2, z3, z4] at g5
  rw [z1, z2] at g3
  rw [z3] at g4
  rw [z1] at g2
  rw [z4]
  exact ⟨⟨_, g5, rfl⟩, h _ g5 g3 g4 ⟨_, g1, rfl, rfl⟩ g2 z5 fun c o x =>
    Heap.get?_push_of_some _ (Heap.get?_push_of_some _ (Heap.get?_push_of_some _ (Heap.get?_push_of_some _ (Heap.get?_push_of_some _ x))))⟩

noncomputable def SignP (x : Str) (i : Nat) (v : Value) : Prop := ∃ c u, x.cps[i]? = some c ∧ v = .str ⟨#[c]⟩ u

/-- zip(a list, a text) -/
theorem call_zip_ls {l1 : Addr} {xs : Array Value} {x : Str} {t : Tok} {Q : Value → Shared → Prop} (hA : A.handled = none) (hl1 : s.heap.IsList l1 xs)
    (h : ∀ h' S2, IsZip h' (s.heap.objs.size + 4) (s.heap.objs.size + 2) (s.heap.objs.size + 3) .none → IsPair h' (s.heap.objs.size + 2) (.ref s.heap.objs.size) (.ref (s.heap.objs.size + 1)) →
      IsPair h' (s.heap.objs.size + 3) .none .none → h'.IsListIter s.heap.objs.size l1 0 → Draws prog w A.in1 (s.heap.objs.size + 1) [s.heap.objs.size + 1] x.cps.size (SignP x) S2 → S2 0 h' → h'.objs.size = s.heap.objs.size + 5 →
      (∀ c o, s.heap.get? c = some o → h'.get? c = some o) → Q (.ref (s.heap.objs.size + 4)) { s with heap := h' }) :
    wpAny (model prog w) A (call (.type "zip") [.ref l1, .str x t]) Q E s := by
  cases ha : x.cps.all (· < 128) with
  | true => exact call_zip_core hl1 (meets_zip_a l1 xs x t ha) fun h' a1 a2 a3 a4 a5 a6 a7 => h h' _ a1 a2 a3 a4 (Draws.strAscii (A := A.in1) hA _ x t) ⟨_, a5, rfl, rfl⟩ a6 a7
  | false => exact call_zip_core hl1 (meets_zip_w l1 xs x t ha) fun h' a1 a2 a3 a4 a5 a6 a7 => h h' _ a1 a2 a3 a4 (Draws.strWide (A := A.in1) hA _ x t) ⟨_, a5, rfl, rfl⟩ a6 a7
end
end Mine
end

section
open PySem PySem.W PyProof.Rows PySem.Calls Builtin.Str
set_option autoImplicit false
set_option Elab.async false
set_option linter.all false
set_option maxRecDepth 100000
namespace Mine
section
variable {prog : Program} {w : World} {g₀ : Heap} {n : Nat} {env : Env} {P : Option Addr} {ρ : Str → Option V} {own : Own} {p p' p'' p₁ p₂ p₃ p₄ : List Int} {fr : Bool} {H s s' : Shared} {ex : Addr → Prop} {Q : Fl → (Str → Option V) → Own → List Int → Prop}

theorem ap_new {l1 n : Nat} (h : l1 < n) : ZA (n + 4) (n + 2) (n + 3) n (n + 1) [n, l1] [n + 1] := by
  have key : ∀ {a b : Nat}, a ≠ b → (a : Addr) ≠ b := fun h => h
  have m2 : ∀ {a b c : Nat}, a ≠ b → a ≠ c → (a : Addr) ∉ [b, c] := fun h1 h2 hm => by
    simp only [List.mem_cons, List.not_mem_nil, or_false] at hm
    exact hm.elim h1 h2
  have m1 : ∀ {a b : Nat}, a ≠ b → (a : Addr) ∉ [b] := fun h1 hm => by
    simp only [List.mem_cons, List.not_mem_nil, or_false] at hm
    exact h1 hm
  exact ⟨.head _, .head _, m2 (by omega) (by omega), m1 (by omega), m2 (by omega) (by omega), m1 (by omega), m1 (by omega), m2 (by omega) (by omega), key (by omega), key (by omega), key (by omega), key (by omega), key (by omega)⟩

/-- for x, y in zip(a list of scalars, a text) -/
theorem ws_zip {x y : Str} {px py pz pc : Pos} {k : Nat} {pt : Pos} {e1 e2 : Expr} {body : List Stmt} {pos : Pos} {rest : List Stmt} {xs : List V} {z : Str}
    (hg : Glb prog w g₀ "zip" (.type "zip")) (h1 : PE prog w g₀ n env P ρ p e1 false (.list xs) p₁) (h2 : PE prog w g₀ n env P ρ p₁ e2 false (.str z) p₂) (hsc : ∀ v ∈ xs, v.scalar = true) (hx : Storable env x) (hy : Storable env y)
    (I : Nat → (Str → Option V) → Own → List Int → Prop) (h0 : I 0 ρ own p₂)
    (turn : ∀ i u c ρ' own' p', xs[i]? = some u → z.cps[i]? = some c → I i ρ' own' p' → WS prog w g₀ n env P (upd (upd ρ' x u) y (.str ⟨#[c]⟩)) (dropO (dropO own' x) y) p' body fun fl ρ'' own'' p'' => match fl with
      | .next | .cont => I (i + 1) ρ'' own'' p''
      | .brk => WS prog w g₀ n env P ρ'' own'' p'' rest Q
      | .ret v => Q (.ret v) ρ'' own'' p'')
    (last : ∀ ρ' own' p', I (min xs.length z.cps.size) ρ' own' p' → WS prog w g₀ n env P ρ' own' p' rest Q)
    (hk : env.scope.kind = .function := by rfl) (hkx : env.kindOf "zip" = some .globalImplicit := by rfl) (hg1 : env.globals = mainGlobals := by rfl) (hg2 : env.builtins = builtinsNs := by rfl)
    (hpl : (backTo pc (starEach [e1, e2] env)).any (·.1) = false := by rfl)
    (hst1 : starEach [e1, e2] env = [(false, eval e1 env), (false, eval e2 env)] := by rfl)
    (has : (assignEach [.Name x px, .Name y py] env).map (·.2) = [assign (.Name x px) env, assign (.Name y py) env] := by rfl)
    (hals : (assignEach [.Name x px, .Name y py] env).findIdx? (·.1) = none := by rfl)
    (hs : ∀ v, foldedSetIterable (.Call (.Name "zip" pz) [e1, e2] [] pc) env v = pure v := by intro _; rfl) :
    WS prog w g₀ n env P ρ own p (.For (.Tuple [.Name x px, .Name y py] k pt) (.Call (.Name "zip" pz) [e1, e2] [] pc) body [] pos :: rest) Q := .mk fun A H ex s R hA Rp hR => by
  obtain ⟨vars, Rp⟩ := Rp
  refine wpAny_execs_cons (wpAny_For (wpAny_Call_Name_kw (hg env pz A _ _ s hk hkx hg1 hg2 Rp.base' ?_)) hs)
  show wpAny _ A (callWith pc (.type "zip") [] (backTo pc (starEach [e1, e2] env)) []) _ _ s
  refine call_plain_value (fun _ h => by cases h) hpl ?_ (.inr ⟨_, _, by rw [hst1]; rfl⟩)
  rw [hst1]
  show wpAny _ A (spliced [(false, eval e1 env), (false, eval e2 env)]) _ _ s
  refine spliced_cons (h1 A _ _ s _ hA Rp.st fun v1 sa sta hpa r1 => spliced_cons (h2 A _ _ sa _ hA (Rp.st.step sta hpa) fun v2 sb stb hpb r2 => spliced_nil ?_))
  simp only [VR] at r1 r2
  obtain ⟨l1, us, rfl, hl1o, hl1, rs1⟩ := r1
  obtain ⟨t, rfl⟩ := r2
  have stab := sta.trans stb
  -- the list stands at sb
  have hl1P : some l1 ≠ P ∧ l1 ∉ priv env own ∧ ¬ ex l1 := by
    rcases hl1o with q | q
    · exact ⟨fun z => Rp.pool.live l1 z.symm q, fun hm => (Rp.pf l1 hm).2.2 q, fun z => (Rp.exl l1 z).2 q⟩
    · exact q.2
  have hl1b : sb.heap.PlainList l1 us.toArray := by obtain ⟨j, e⟩ := hl1; exact ⟨j, stb.keep _ _ hl1P.1 e⟩
  refine call_zip_ls hA.1 hl1b.isList fun h' S2 hz hTI hTO hi1 D2 hS2 hsz hkp => ?_
  refine wpAny_pyIter_zip hz ?_
  have e1 := rs1.length
  generalize hN : sb.heap.objs.size = N at hz hTI hTO hi1 D2 hS2 hsz
  have hlt : l1 < N := by obtain ⟨j, e⟩ := hl1b; exact hN ▸ Heap.lt_size e
  have ap := ap_new hlt
  have D1 := Draws.list (prog := prog) (w := w) (A := A.in1) (show A.in1.handled = none from hA.1) N l1 (Nat.ne_of_lt hlt) us.toArray
  have st3 : Stp none sb { sb with heap := h' } := ⟨fun b o _ e => hkp b o e, rfl⟩
  have hp3 := hpb.keep st3
  let wr : List Addr := [N + 4, N + 3, N, N + 1]
  have nw : ∀ j, sb.heap.get? (N + j) = none := fun j => by
    cases e : sb.heap.get? (N + j) with
    | none => rfl
    | some o => have := Heap.lt_size e; rw [hN] at this; exact absurd this (Nat.not_lt.mpr (Nat.le_add_right _ _))
  have hwn : ∀ b ∈ wr, sb.heap.get? b = none := fun b hb => by
    simp only [wr, List.mem_cons, List.not_mem_nil, or_false] at hb
    rcases hb with rfl | rfl | rfl | rfl
    · exact nw 4
    · exact nw 3
    · exact nw 0
    · exact nw 1
  have nws : ∀ {b}, sb.heap.get? b = none → s.heap.get? b = none := fun h => stab.fresh hpb h
  have hwP : ∀ b ∈ wr, some b ≠ P := fun b hb q => Rp.pool.live b q.symm (nws (hwn b hb))
  let Sw : Nat → Heap → Prop := fun i h => IsZip h (N + 4) (N + 2) (N + 3) .none ∧ IsPair h (N + 2) (.ref N) (.ref (N + 1)) ∧ (∃ a b, IsPair h (N + 3) a b) ∧ (h.IsListIter N l1 i ∧ h.IsList l1 us.toArray) ∧ S2 i h
  have hSw0 : Sw 0 h' := ⟨hz, hTI, ⟨_, _, hTO⟩, ⟨hi1, hl1b.isList.at fun o e => hkp _ o e⟩, hS2⟩
  have hal : ∀ i h, Sw i h → ∀ b ∈ wr, h.get? b ≠ none := fun i h q b hb => by
    obtain ⟨q1, q2, ⟨a, b', q3⟩, ⟨⟨o, q4, _⟩, _⟩, q5⟩ := q
    simp only [wr, List.mem_cons, List.not_mem_nil, or_false] at hb
    rcases hb with rfl | rfl | rfl | rfl
    · rw [q1]; exact fun z => nomatch z
    · rw [q3]; exact fun z => nomatch z
    · rw [q4]; exact fun z => nomatch z
    · obtain ⟨o', e⟩ := D2.live _ _ q5; rw [e]; exact fun z => nomatch z
  let fp : List Addr := [N + 4, N + 2, N + 3, N, N + 1, l1]
  have frame : ∀ i h h', Sw i h → (∀ b ∈ fp, ∀ o, h.get? b = some o → h'.get? b = some o) → Sw i h' := fun i h h' q hk => by
    obtain ⟨q1, q2, ⟨a, b', q3⟩, q4, q5⟩ := q
    exact ⟨hk _ (by simp [fp]) _ q1, hk _ (by simp [fp]) _ q2, ⟨a, b', hk _ (by simp [fp]) _ q3⟩, D1.frame _ _ _ q4 fun b hb o e => hk b (by simp only [List.mem_cons, List.not_mem_nil, or_false] at hb; rcases hb with rfl | rfl <;> simp [fp]) o e, D2.frame _ _ _ q5 fun b hb o e => hk b (by simp only [List.mem_cons, List.not_mem_nil, or_false] at hb; subst hb; simp [fp]) o e⟩
  have R1 := Rp.exMore (wr := wr) (stab.trans st3.weak) hp3 fun b hb => ⟨nws (hwn b hb), hwP b hb, hal _ _ hSw0 b hb⟩
  have hfp : ∀ a ∈ fp, some a ≠ P ∧ a ∉ priv env own ∧ h'.get? a ≠ none := fun a ha => by
    simp only [fp, List.mem_cons, List.not_mem_nil, or_false] at ha
    have new : ∀ j, some (N + j) ≠ P ∧ (N + j) ∉ priv env own := fun j => ⟨fun q => Rp.pool.live _ q.symm (nws (nw j)), fun hm => (Rp.pf _ hm).2.2 (nws (nw j))⟩
    rcases ha with rfl | rfl | rfl | rfl | rfl | rfl
    · exact ⟨(new 4).1, (new 4).2, hal _ _ hSw0 _ (by simp [wr])⟩
    · exact ⟨(new 2).1, (new 2).2, by rw [hTI]; exact fun z => nomatch z⟩
    · exact ⟨(new 3).1, (new 3).2, hal _ _ hSw0 _ (by simp [wr])⟩
    · exact ⟨(new 0).1, (new 0).2, hal _ _ hSw0 _ (by simp [wr])⟩
    · exact ⟨(new 1).1, (new 1).2, hal _ _ hSw0 _ (by simp [wr])⟩
    · refine ⟨hl1P.1, hl1P.2.1, ?_⟩
      obtain ⟨j, e⟩ := hl1b
      rw [hkp _ _ e]; exact fun z => nomatch z
  have hmin : min xs.length z.cps.size ≤ us.length ∧ min xs.length z.cps.size ≤ z.cps.size := by rw [e1]; exact ⟨Nat.min_le_left .., Nat.min_le_right ..⟩
  refine codeAny_forLoop_any
    (fun k s' => ∃ i vars' ρ' own' p', i ≤ min xs.length z.cps.size ∧ k = min xs.length z.cps.size + 1 - i ∧ I i ρ' own' p' ∧ RepV prog w g₀ env P H (fun a => ex a ∨ a ∈ wr) vars' ρ' own' p' s' ∧ Sw i s'.heap ∧
      (∀ a ∈ fp, a ∉ priv env own' ∧ s'.heap.get? a ≠ none)) ?_ (min xs.length z.cps.size + 1)
    ⟨0, vars, ρ, own, p₂, Nat.zero_le _, rfl, h0, R1, hSw0, fun a q => ⟨(hfp a q).2.1, (hfp a q).2.2⟩⟩
  rintro kk s' ⟨i, vars', ρ', own', p', hi', rfl, hI, R', hS, hK⟩
  have hwp : ∀ b ∈ wr, b ∉ priv env own' ∧ H.heap.get? b = none := fun b hb => by
    refine ⟨(hK b (by simp only [wr, List.mem_cons, List.not_mem_nil, or_false] at hb; rcases hb with rfl | rfl | rfl | rfl <;> simp [fp])).1, ?_⟩
    cases e : H.heap.get? b with
    | none => rfl
    | some o => have := Rp.keep b o (hwP b hb) e; rw [nws (hwn b hb)] at this; cases this
  obtain ⟨q1, q2, ⟨qa, qb, q3⟩, q4, q5⟩ := hS
  by_cases hlt' : i < min xs.length z.cps.size
  · refine next_itemD D1 D2 (by rw [List.size_toArray]; omega) (by omega) ap q1 q2 q3 q4 q5 fun v1 v2 h₂ tk₂ hv1 hv2 a1 a2 a3 a4 a5 a6 a7 => ?_
    generalize hT : s'.heap.objs.size = T at a1 a5 a6
    have nT : s'.heap.get? T = none := hT ▸ get_size _
    have q2' : IsPair h₂ (N + 2) (.ref N) (.ref (N + 1)) := a7 _ _ ap.tz ap.to ap.t1 ap.t2 q2
    -- the tuple goes
    refine wpAny_letOwnedTupleGo_zip a1 fun h₃ hz₃ hs₃ => ?_
    have k₃ : ∀ b o, b ∉ wr → s'.heap.get? b = some o → h₃.get? b = some o := fun b o hb e => by
      simp only [wr, List.mem_cons, List.not_mem_nil, or_false, not_or] at hb
      exact hs₃.extBut b o hb.1 (a7 b o hb.1 hb.2.1 hb.2.2.1 hb.2.2.2 e)
    have ne4 : ∀ {b}, b ∈ [N, l1] → b ≠ N + 4 := fun hb q => ap.z1 (q ▸ hb)
    have ne4' : ∀ {b}, b ∈ [N + 1] → b ≠ N + 4 := fun hb q => ap.z2 (q ▸ hb)
    have hSw3 : Sw (i + 1) h₃ := ⟨hz₃, hs₃.extBut _ _ ap.tz q2', ⟨_, _, hs₃.extBut _ _ ap.oz a2⟩, D1.frame _ _ _ a3 fun b hb o e => hs₃.extBut b o (ne4 hb) e, D2.frame _ _ _ a4 fun b hb o e => hs₃.extBut b o (ne4' hb) e⟩
    have Tz : T ≠ N + 4 := fun q => by rw [q, q1] at nT; cases nT
    have hTt : h₃.IsTuple T #[v1, v2] := ⟨_, hs₃.extBut _ _ Tz a5, rfl, _, rfl⟩
    refine wpAny_assign_Tuple hA.1 hTt (by have := congrArg List.length has; simpa using this) hals fun h₄ he₄ => ?_
    have k₄ : ∀ b o, h₃.get? b = some o → h₄.get? b = some o := fun b o e => he₄ b o (fun q => by rw [q, get_size] at e; cases e) e
    rw [has]
    have R2 := R'.iter (k := tk₂) hwp (fun b hb => hal _ _ (frame _ _ h₄ hSw3 fun b _ o e => k₄ b o e) b hb) (fun b o hb e => k₄ b o (k₃ b o hb e))
    have hSw4 : Sw (i + 1) h₄ := frame _ _ _ hSw3 fun b _ o e => k₄ b o e
    -- the two values
    have hv1' : us[i]? = some v1 := by simpa using hv1
    obtain ⟨u, hu, ru⟩ := rs1.get2 hv1'
    have hus := hsc u (List.mem_of_getElem? hu)
    obtain ⟨tu, rfl⟩ := (VR.scalar hus).mp ru
    obtain ⟨c, tc, hc, rfl⟩ := hv2
    refine wpAny_assignInOrder_more (wpAny_assign_Name (store_name R2 hx fun d h₅ k₅ hd hs₅ loc cel => ?_))
    have R3 := R2.s1 (h' := h₅) (k := k₅) (VR.of_val hus tu) hx hd hs₅ loc cel
    refine wpAny_assignInOrder_more (wpAny_assign_Name (store_name R3 hy fun d' h₆ k₆ hd' hs₆ loc' cel' => wpAny_assignInOrder_none ?_))
    have R4 := R3.s1 (h' := h₆) (k := k₆) (VR.of_val (v := .str ⟨#[c]⟩) rfl tc) hy hd' hs₆ loc' cel'
    have dpv : ∀ {d own}, d ∈ env.locals :: env.cells.map (·.2) → d ∈ priv env own := fun hd => by
      rcases List.mem_cons.mp hd with rfl | q
      · exact .head _
      · exact .tail _ (List.mem_append_left _ q)
    have K4 : ∀ a ∈ fp, h₄.get? a ≠ none := fun a ha => by
      by_cases m : a ∈ wr
      · exact hal _ _ hSw4 a m
      · cases e : s'.heap.get? a with
        | none => exact absurd e (hK a ha).2
        | some o => rw [k₄ a o (k₃ a o m e)]; exact fun z => nomatch z
    have keepK : ∀ a o, a ∈ fp → h₄.get? a = some o → h₆.get? a = some o := fun a o q e =>
      hs₆.extBut a o (fun z => (hK a q).1 (z ▸ dpv hd')) (hs₅.extBut a o (fun z => (hK a q).1 (z ▸ dpv hd)) e)
    have K6 : ∀ a ∈ fp, a ∉ priv env (dropO (dropO own' x) y) ∧ h₆.get? a ≠ none := fun a q => by
      refine ⟨fun m => (hK a q).1 (priv_drop (priv_drop m)), ?_⟩
      cases e : h₄.get? a with
      | none => exact absurd e (K4 a q)
      | some o => rw [keepK a o q e]; exact fun z => nomatch z
    have hSw6 : Sw (i + 1) h₆ := frame _ _ _ hSw4 fun b hb o e => keepK b o hb e
    refine wpAny_mono (turn i u c ρ' own' p' hu hc hI A _ _ _ _ hA ⟨_, R4.inner⟩ fun fl flow ρ'' own'' p'' s'' hq hf hr => ?_) (fun _ _ x => x) fun _ _ f => f.elim
    obtain ⟨vars'', hr⟩ := hr
    have R5 := R4.outer hr
    have hf5 : FlR P H s'' fl flow := FlR.outer R4 hf
    have kin : ∀ a o, a ∈ fp → h₆.get? a = some o → s''.heap.get? a = some o := fun a o q e => hr.keep a o (hfp a q).1 (hideAll_get _ e (K6 a q).1)
    have K7 : ∀ a ∈ fp, a ∉ priv env own'' ∧ s''.heap.get? a ≠ none := fun a q => by
      cases e : h₆.get? a with
      | none => exact absurd e (K6 a q).2
      | some o =>
        refine ⟨fun m => ?_, by rw [kin a o q e]; exact fun z => nomatch z⟩
        have h1 := (hr.pf a m).2.1
        unfold hideS at h1
        dsimp only at h1
        rw [hideAll_get _ e (K6 a q).1] at h1; cases h1
    have nxt : I (i + 1) ρ'' own'' p'' → ∃ m, m < min xs.length z.cps.size + 1 - i ∧ ∃ i vars' ρ' own' p', i ≤ min xs.length z.cps.size ∧ m = min xs.length z.cps.size + 1 - i ∧ I i ρ' own' p' ∧ RepV prog w g₀ env P H (fun a => ex a ∨ a ∈ wr) vars' ρ' own' p' s'' ∧ Sw i s''.heap ∧
      (∀ a ∈ fp, a ∉ priv env own' ∧ s''.heap.get? a ≠ none) := fun hI' =>
      ⟨min xs.length z.cps.size + 1 - (i + 1), by omega, i + 1, vars'', ρ'', own'', p'', hlt', rfl, hI', R5, frame _ _ _ hSw6 (fun b hb o e => kin b o hb e), K7⟩
    cases fl with
    | next => cases hf; exact nxt hq
    | cont => cases hf; exact nxt hq
    | brk => cases hf; exact hq A H ex s'' R hA ⟨_, R5.exLess⟩ hR
    | ret v =>
      obtain ⟨val, rfl, r⟩ := hf5
      exact hR _ _ _ _ _ _ hq ⟨val, rfl, r⟩ ⟨_, R5.exLess⟩
  · have hie : i = min xs.length z.cps.size := by omega
    refine next_endD D1 D2 ap q1 q2 q3 q4 q5 (by rw [List.size_toArray]; omega) fun h₂ tk₂ hk₂ => wpAny_execs_nil ?_
    subst hie
    refine last ρ' own' p' hI A H ex _ R hA ⟨_, R'.iterEnd (k := tk₂) hwp (fun a ha m => (Rp.exl a ha).2 (nws (hwn a m))) fun b o hb e => ?_⟩ hR
    simp only [wr, List.mem_cons, List.not_mem_nil, or_false, not_or] at hb
    exact hk₂ b o hb.1 hb.2.1 hb.2.2.1 hb.2.2.2 e
end
end Mine
end

section
open PySem PySem.W PyProof.Rows PySem.Calls Builtin.Str
set_option autoImplicit false
set_option Elab.async false
set_option linter.all false
set_option maxRecDepth 100000
namespace Mine

/-- part of a list between places -/
noncomputable def seg {α : Type} (l : List α) (a b : Nat) : List α := (l.drop a).take (b - a)
noncomputable def sseg (x : Str) (a b : Nat) : Str := ⟨(seg x.cps.toList a b).toArray⟩
theorem pick_eq (xs : List V) (lo hi : Option Int) : pick xs lo hi none = seg xs (lo.elim 0 (clipAt xs.length)) (hi.elim xs.length (clipAt xs.length)) := by
  unfold pick seg
  rw [sliceBounds_plain]
  show List.filterMap _ (sliceRange _ _ 1) = _
  rw [sliceRange_one]
  have := pick_run xs.toArray (lo.elim 0 (clipAt xs.length)) (hi.elim xs.length (clipAt xs.length) - lo.elim 0 (clipAt xs.length))
  simpa using this
theorem cut_eq (x : Str) (lo hi : Option Int) : cut x lo hi none = sseg x (lo.elim 0 (clipAt x.length)) (hi.elim x.length (clipAt x.length)) := by
  unfold cut sseg seg
  have e : strSliceIndices lo hi 1 x.length = sliceRange (sliceBounds lo hi none x.length).1 (sliceBounds lo hi none x.length).2.1 1 := rfl
  show Str.mk (List.toArray (List.filterMap _ (strSliceIndices lo hi 1 x.length))) = _
  rw [e, sliceBounds_plain]
  show Str.mk (List.toArray (List.filterMap _ (sliceRange _ _ 1))) = _
  rw [sliceRange_one, pick_run]
theorem seg_map {α β : Type} (f : α → β) (l : List α) (a b : Nat) : seg (l.map f) a b = (seg l a b).map f := by
  unfold seg; rw [← List.map_drop, ← List.map_take]
theorem clip_nn {n k : Nat} : clipAt n (k : Int) = min k n := by
  unfold clipAt; omega
theorem pick_take (xs : List V) (k : Nat) : pick xs none (some (k : Int)) none = xs.take k := by
  rw [pick_eq]
  show seg xs 0 (clipAt xs.length k) = _
  unfold seg
  rw [clip_nn, List.drop_zero, Nat.sub_zero]
  rcases Nat.le_total k xs.length with h | h
  · rw [Nat.min_eq_left h]
  · rw [Nat.min_eq_right h, List.take_of_length_le (Nat.le_refl _), List.take_of_length_le h]
theorem pick_mem {xs : List V} {l u d : Option Int} {v : V} (h : v ∈ pick xs l u d) : v ∈ xs := by
  unfold pick at h
  obtain ⟨i, _, e⟩ := List.mem_filterMap.mp h
  exact List.mem_of_getElem? e
section
variable {prog : Program} {w : World} {g₀ : Heap} {n : Nat} {env : Env} {P : Option Addr} {ρ : Str → Option V} {p p' p'' p₁ p₂ p₃ p₄ : List Int} {fr : Bool}
theorem pe_pickS {o lo hi st ps pos} {xs : List V} {l u d : Option Int} (hsc : ∀ v ∈ xs, v.scalar = true) (ho : PE prog w g₀ n env P ρ p o false (.list xs) p₁) (hl : PO prog w g₀ n env P ρ p₁ lo l p₂) (hu : PO prog w g₀ n env P ρ p₂ hi u p₃) (hd : PO prog w g₀ n env P ρ p₃ st d p₄) (h0 : d ≠ some 0) (hz : xs.length ≤ sizeLine) :
    PE prog w g₀ n env P ρ p (.Subscript o (.Slice lo hi st ps) pos) fr (.list (pick xs l u d)) p₄ := .mk fun A E Q s ok hA S hQ => by
  refine wpAny_Sub list_getitem_lookup (ho A E _ s ok hA S fun va s₁ st₁ hp₁ ra => wpAny_Slice (hl A E _ s₁ ok hA (S.step st₁ hp₁) fun lt s₂ st₂ hp₂ el => hu A E _ s₂ ok hA ((S.step st₁ hp₁).step st₂ hp₂) fun ut s₃ st₃ hp₃ eu =>
    hd A E _ s₃ ok hA (((S.step st₁ hp₁).step st₂ hp₂).step st₃ hp₃) fun dt s₄ st₄ hp₄ ed => ?_))
  have st := (st₂.trans st₃).trans st₄
  have ra' := ra.mono (Out.keep S.okP S.pool st) fun _ x => x
  simp only [VR] at ra'
  obtain ⟨a, vs, rfl, oka, ⟨k, hla⟩, rs⟩ := ra'
  have e := rs.length
  have st₅ : Stp none s₄ { s₄ with heap := s₄.heap.push { cls := .type "slice", data := .fields #[partValue lt, partValue ut, partValue dt] } } := ⟨fun b o _ e => Heap.get?_push_of_some _ e, rfl⟩
  have hl5 : ({ s₄ with heap := s₄.heap.push { cls := .type "slice", data := .fields #[partValue lt, partValue ut, partValue dt] } } : Shared).heap.PlainList a vs.toArray := ⟨k, st₅.keep _ _ (by simp) hla⟩
  refine ⟨hl5.isList.typeIs, ?_⟩
  refine wpAny_getItem_list_slice hl5.isList (Heap.IsSliceOf.new ..) (isPart_of lt) (isPart_of ut) (isPart_of dt) (by rw [ed]; exact h0) ?_ (by rw [List.size_toArray, e]; exact hz)
  rw [el, eu, ed]
  have st₆ : Stp none _ { s₄ with heap := (s₄.heap.push { cls := .type "slice", data := .fields #[partValue lt, partValue ut, partValue dt] }).push { cls := .type "list", data := .seq (slicePick vs.toArray l u d) } } := st₅.trans ⟨fun b o _ e => Heap.get?_push_of_some _ e, rfl⟩
  refine hQ _ _ ((st₁.trans st).trans st₆.weak) (hp₄.keep st₆) ?_
  simp only [VR]
  refine ⟨_, (slicePick vs.toArray l u d).toList, rfl, .inl ?_, ⟨0, ?_⟩, VRs.allSc (fun v hv => hsc v (pick_mem hv)) ((rs.pick l u d).mono (ok' := fun _ => True) (fun a o _ e => st₆.keep _ _ (by simp) e) fun _ x => trivial)⟩
  · exact ((st₁.trans st).trans st₅.weak).fresh (show PoolAt P p₄ (s₄.heap.push _) from hp₄.keep st₅) (get_size _)
  · rw [Heap.get?_push_size _ rfl]
end
end Mine
end

section
open PySem PySem.W PyProof.Rows
set_option autoImplicit false
set_option Elab.async false
set_option linter.all false
set_option maxRecDepth 100000
set_option maxHeartbeats 8000000
namespace Mine
noncomputable abbrev pg : Program := PySem.Challenge.pw_nz0473_01

/-! what the top's run leaves, as far as the proofs ask -/
noncomputable def stN (i : Nat) : Stmt := (pg.main.body[i]?).getD (.Pass ⟨0, 0, 0, 0⟩)
noncomputable def gE (P : Params) (x : Str) (t : Tok) (v : Value) : DictEntry := { hash := PyData.keyHash P x, key := .str x t, val := v }
noncomputable def mE : Value := .str "vectorcove.errors" 187
noncomputable def mT : Value := .str "vectorcove.texts" 234
noncomputable def mL : Value := .str "law_nz0473_01" 389
noncomputable def fnY (qual : Str → Str) (st : Stmt) (m : Value) (c : Addr) : Obj := match st with
  | .FunctionDef name args body _ _ _ scope _ _ _ =>
    { cls := .type "function", data := .func { name := name, qualname := qual name, params := args, body := .stmts body, scope := scope, globals := 3, closure := [], defaults := .none, kwdefaults := .none, pyModule := m, code := .ref c } }
  | _ => { cls := .none }
noncomputable def fnX (st : Stmt) (m : Value) (c : Addr) : Obj := fnY id st m c
noncomputable def initOf (st : Stmt) : Stmt := match st with
  | .ClassDef _ _ _ (s :: _) _ _ _ _ _ _ _ => s
  | s => s
noncomputable def codX (nm qn : Str) (t u : Tok) (line argc : Int) (c : Addr) : Obj :=
  { cls := .type "code", data := .fields #[.str nm t, .str qn (t + 1), .str "/claim/cut.py" (t + 2), .int line 0, .int argc 0, .int 0 0, .int 0 0, .int 3 0, .ref (c - 5), .bool true, .int 181 0, .ref (c - 4), .none, .ref (c - 3), .ref (c - 2), .ref (c - 1), .int u 0, .int line 0, .str "/claim/cut.py" (u + 1)] }
noncomputable def codY (nm qn : Str) (t u : Tok) (line argc : Int) (c : Addr) : Obj :=
  { cls := .type "code", data := .fields #[.str nm t, .str qn (t + 1), .str "/claim/cut.py" (t + 2), .int line 0, .int argc 0, .int 0 0, .int 0 0, .int 3 0, .ref (c - 3), .bool true, .int 181 0, .ref (c - 2), .none, .none, .none, .ref (c - 1), .int u 0, .int line 0, .str "/claim/cut.py" (u + 1)] }
noncomputable def KK (P : Params) : Frag := [
  (3, { cls := .type "dict", data := .dict #[
  gE P "__name__" 165 (.str "law_nz0473_01" 389),
  gE P "__doc__" 166 .none,
  gE P "__package__" 167 .none,
  gE P "__loader__" 168 (.builtin "__main__.__loader__#opaque"),
  gE P "__spec__" 169 .none,
  gE P "__annotations__" 170 (.ref 6),
  gE P "__builtins__" 171 (.ref 4),
  gE P "__file__" 173 (.str "/claim/cut.py" 172),
  gE P "__cached__" 174 .none,
  gE P "CoveError" 208 (.ref 24),
  gE P "Refusal" 233 (.ref 44),
  gE P "BLANKS" 237 (.str " \t\x0d\n" 236),
  gE P "paste_texts" 251 (.ref 53),
  gE P "paste_vectors" 261 (.ref 60),
  gE P "split_fixed" 270 (.ref 67),
  gE P "substr_of" 280 (.ref 74),
  gE P "substr_assign" 293 (.ref 81),
  gE P "trim" 301 (.ref 88),
  gE P "starts_with" 309 (.ref 95),
  gE P "ends_with" 317 (.ref 102),
  gE P "sub_fixed" 330 (.ref 109),
  gE P "find_fixed" 340 (.ref 116),
  gE P "spread_ranges" 352 (.ref 123),
  gE P "chartr_of" 358 (.ref 128),
  gE P "rev_text" 365 (.ref 135),
  gE P "repeat_text" 373 (.ref 142),
  gE P "make_unique" 388 (.ref 149),
  gE P "_law_row" 401 (.ref 156),
  gE P "_law_next" 408 (.ref 163),
  gE P "_law_word" 418 (.ref 170),
  gE P "_law_find" 428 (.ref 177),
  gE P "_law_replaced" 442 (.ref 184),
  gE P "_law_kept" 450 (.ref 191),
  gE P "law" 456 (.ref 196)] 34 }),
  (23, { cls := .type "dict", data := .dict #[gE P "__module__" 196 mE, gE P "__firstlineno__" 200 (.int 2 199), gE P "__static_attributes__" 201 (.ref 22), gE P "__weakref__" 203 (.ref 25), gE P "__doc__" 204 .none] 3 }),
  (24, { cls := .type "type", data := .cls { name := "CoveError", bases := [.type "Exception"], mro := [.ref 24, .type "Exception", .type "BaseException", .type "object"], ns := 23, qualname := "CoveError", subclasses := [.ref 44] }, slots := #[some (.ref 15), none, some (.str "CoveError" 189), some (.str "CoveError" 197), some (.builtin "Exception.__new__"), some (.bool true)] }),
  (41, fnY (fun _ => "Refusal.__init__") (initOf (stN 2)) mE 40),
  (43, { cls := .type "dict", data := .dict #[gE P "__module__" 216 mE, gE P "__firstlineno__" 220 (.int 4 219), gE P "__init__" 228 (.ref 41), gE P "__static_attributes__" 230 (.ref 42), gE P "__doc__" 231 .none] 2 }),
  (44, { cls := .type "type", data := .cls { name := "Refusal", bases := [.ref 24], mro := [.ref 44, .ref 24, .type "Exception", .type "BaseException", .type "object"], ns := 43, qualname := "Refusal" }, slots := #[some (.ref 28), none, some (.str "Refusal" 209), some (.str "Refusal" 217), some (.builtin "Exception.__new__"), some (.bool true)] }),
  (40, codX "__init__" "Refusal.__init__" 221 226 6 2 40),
  (52, codX "paste_texts" "paste_texts" 238 249 10 2 52),
  (53, fnX (stN 5) mT 52),
  (59, codX "paste_vectors" "paste_vectors" 252 259 25 3 59),
  (60, fnX (stN 6) mT 59),
  (66, codX "split_fixed" "split_fixed" 262 268 30 2 66),
  (67, fnX (stN 7) mT 66),
  (73, codX "substr_of" "substr_of" 271 278 39 3 73),
  (74, fnX (stN 8) mT 73),
  (80, codX "substr_assign" "substr_assign" 281 291 46 4 80),
  (81, fnX (stN 9) mT 80),
  (87, codX "trim" "trim" 294 299 55 2 87),
  (88, fnX (stN 10) mT 87),
  (94, codX "starts_with" "starts_with" 302 307 63 2 94),
  (95, fnX (stN 11) mT 94),
  (101, codX "ends_with" "ends_with" 310 315 67 2 101),
  (102, fnX (stN 12) mT 101),
  (108, codX "sub_fixed" "sub_fixed" 318 328 71 4 108),
  (109, fnX (stN 13) mT 108),
  (115, codX "find_fixed" "find_fixed" 331 338 90 2 115),
  (116, fnX (stN 14) mT 115),
  (122, codX "spread_ranges" "spread_ranges" 341 350 97 1 122),
  (123, fnX (stN 15) mT 122),
  (127, codY "chartr_of" "chartr_of" 353 356 113 3 127),
  (128, fnX (stN 16) mT 127),
  (134, codX "rev_text" "rev_text" 359 363 124 1 134),
  (135, fnX (stN 17) mT 134),
  (141, codX "repeat_text" "repeat_text" 366 371 126 2 141),
  (142, fnX (stN 18) mT 141),
  (148, codX "make_unique" "make_unique" 374 386 132 2 148),
  (149, fnX (stN 19) mT 148),
  (155, codX "_law_row" "_law_row" 391 399 154 1 155),
  (156, fnX (stN 21) mL 155),
  (162, codX "_law_next" "_law_next" 402 406 167 1 162),
  (163, fnX (stN 22) mL 162),
  (169, codX "_law_word" "_law_word" 409 416 169 2 169),
  (170, fnX (stN 23) mL 169),
  (176, codX "_law_find" "_law_find" 419 426 176 2 176),
  (177, fnX (stN 24) mL 176),
  (183, codX "_law_replaced" "_law_replaced" 429 440 186 4 183),
  (184, fnX (stN 25) mL 183),
  (190, codX "_law_kept" "_law_kept" 443 448 195 1 190),
  (191, fnX (stN 26) mL 190),
  (195, codY "law" "law" 451 454 200 1 195),
  (196, fnX (stN 27) mL 195)]
noncomputable def tabO (ps : Array Value) : Obj := { cls := .none, data := .fields ps }
noncomputable def gAddrs : List Addr := [3, 23, 24, 41, 43, 44, 40, 52, 53, 59, 60, 66, 67, 73, 74, 80, 81, 87, 88, 94, 95, 101, 102, 108, 109, 115, 116, 122, 123, 127, 128, 134, 135, 141, 142, 148, 149, 155, 156, 162, 163, 169, 170, 176, 177, 183, 184, 190, 191, 195, 196]
theorem gAddrs_eq (P : Params) : gAddrs = (KK P).map (·.1) := by kernel_rfl
noncomputable def gHook : Hook where
  α := List (Option Obj) × Option Obj
  obs := fun s => (gAddrs.map s.heap.get?, s.heap.get? 193)
  val := fun w => ((KK w.params).map fun p => some p.2, some (tabO #[]))
  says := fun w h => (KK w.params).In h ∧ h.get? 193 = some (tabO #[])
  of := fun w s x => ⟨InK.of gAddrs_eq w s (Prod.mk.inj x).1, (Prod.mk.inj x).2⟩
  keeps := fun w h h' x k => ⟨Frag.In.keeps x.1 k, k _ _ x.2⟩
end Mine
end

section
open PySem PySem.W PyProof.Rows PySem.Calls Builtin.Str
set_option autoImplicit false
set_option Elab.async false
set_option linter.all false
set_option maxRecDepth 100000
namespace Mine
noncomputable def fdAt (K : Frag) (a : Addr) : FuncData := match K.lookup a with
  | some ⟨_, _, .func fd, _⟩ => fd
  | _ => default
noncomputable def bdAt (K : Frag) (a : Addr) : List Stmt := match (fdAt K a).body with
  | .stmts b => b
  | _ => []

/-- what is known of the top -/
structure TopF (mg mb : Str → Option Value) (h : Heap) : Prop where
  g : h.Ns mainGlobals mg
  b : h.Ns builtinsNs mb
  nolimit : h.NoLimit
  builtins : ∀ x : Str, x ≠ "__name__" → mb x = bootBuiltins x
  bmain : h.BuiltinsAt mg 193
  sys : h.get? cStatics ≠ none
/-- the ground that all stands on -/
structure Gr (w : World) (mg mb : Str → Option Value) (g₀ : Heap) : Prop where
  X : (KK w.params).In g₀
  T : TopF mg mb g₀

theorem len1 {α : Type} {Q : List α → Prop} (h : ∀ a, Q [a]) : ∀ vals : List α, vals.length = 1 → Q vals
  | [a], _ => h a
theorem len2 {α : Type} {Q : List α → Prop} (h : ∀ a b, Q [a, b]) : ∀ vals : List α, vals.length = 2 → Q vals
  | [a, b], _ => h a b
theorem len3 {α : Type} {Q : List α → Prop} (h : ∀ a b c, Q [a, b, c]) : ∀ vals : List α, vals.length = 3 → Q vals
  | [a, b, c], _ => h a b c
theorem len4 {α : Type} {Q : List α → Prop} (h : ∀ a b c d, Q [a, b, c, d]) : ∀ vals : List α, vals.length = 4 → Q vals
  | [a, b, c, d], _ => h a b c d
section
variable {w : World} {mg mb : Str → Option Value} {g₀ : Heap} (G : Gr w mg mb g₀)

include G in
theorem glb_own {x : Str} {v : Value} (e : nsIn (KK w.params) mainGlobals x = some (some v)) (hd : (x == ("__debug__" : Str)) = false := by decide) : Glb pg w g₀ x v := .mk fun env pos A E Q s hk hx h1 h2 base h =>
  Name_function_global hk hx (loadGlobal_global (by rw [h1]; exact G.T.g.keeps base) (mg_of G.X G.T.g e) h) hd
include G in
theorem glb_boot {x : Str} {v : Value} (e : nsIn (KK w.params) mainGlobals x = some none) (hv : bootBuiltins x = some v) (hn : x ≠ "__name__" := by decide) (hd : (x == ("__debug__" : Str)) = false := by decide) : Glb pg w g₀ x v := .mk fun env pos A E Q s hk hx h1 h2 base h =>
  Name_function_global hk hx (loadGlobal_builtin (by rw [h1]; exact G.T.g.keeps base) (mg_none_of G.X G.T.g e) (by rw [h2]; exact G.T.b.keeps base) ((G.T.builtins x hn).trans hv) h) hd

theorem at_fd {K : Frag} {a : Addr} {fo : Obj} {fd : FuncData} (h : K.lookup a = some fo) (hd : fo.data = .func fd) : fdAt K a = fd := by
  unfold fdAt
  rw [h]
  obtain ⟨c, d, dt, sl⟩ := fo
  simp only at hd
  subst hd
  rfl

noncomputable def defCheck (K : Frag) (f : Addr) (names : List Str) : Bool := match K.lookup f with
  | some ⟨_, _, .func fd, _⟩ => codeIn K fd.code fd.qualname && (match fd.body with | .stmts _ => true | _ => false) && fd.closure.isEmpty && !fd.scope.isCoroutine && !fd.scope.isGenerator && (fd.scope.kind == .function) &&
      (names.all fun x => fd.scope.names.lookup x == some .local) && decide names.Nodup && decide ((cellsFrom 0 fd.scope.names []).map (·.1)).Nodup && ((cellsFrom 0 fd.scope.names []).all fun p => fd.scope.names.lookup p.1 == some .cell)
  | _ => false
include G in
theorem def_ok {f : Addr} {names : List Str} (h : defCheck (KK w.params) f names = true)
    (bind : ∀ vals : List Value, vals.length = names.length → bindArgs (fdAt (KK w.params) f) ⟨vals, []⟩ = pure (names.zip vals)) :
    DefOk g₀ f (fdAt (KK w.params) f) names (bdAt (KK w.params) f) := by
  unfold defCheck at h
  split at h
  · rename_i c d fd sl hl
    have e : fdAt (KK w.params) f = fd := at_fd hl rfl
    simp only [Bool.and_eq_true, Bool.not_eq_true', beq_iff_eq, List.all_eq_true, decide_eq_true_eq] at h
    obtain ⟨⟨⟨⟨⟨⟨⟨⟨⟨h1, h2⟩, h3⟩, h4⟩, h5⟩, h6⟩, h7⟩, h8⟩, h9⟩, h10⟩ := h
    refine ⟨⟨_, G.X _ _ hl, by rw [e]⟩, G.T.nolimit, by rw [e]; exact codeRec_of G.X h1, ?_, by rw [e]; exact List.isEmpty_iff.mp h3, bind, by rw [e]; exact h7, h8, by rw [e]; exact h9, fun y c q => ?_, by rw [e]; exact h4, by rw [e]; exact h5, by rw [e]; exact h6⟩
    · unfold bdAt
      rw [e]
      split at h2
      · rename_i b hb; rw [hb]
      · cases h2
    · rw [e] at q ⊢
      exact h10 (y, c) (mem_of_lookup q)
  · cases h
end
end Mine
end

section
open PySem PySem.W PyProof.Rows PySem.Calls Builtin.Str
set_option autoImplicit false
set_option Elab.async false
set_option linter.all false
set_option maxRecDepth 100000
namespace Mine
section
variable {prog : Program} {w : World} {g₀ : Heap} {n : Nat} {env : Env} {P : Option Addr} {ρ : Str → Option V} {p p' : List Int}
theorem pt_and1 {e pos b} (h : PT prog w g₀ n env P ρ p e b p') : PT prog w g₀ n env P ρ p (.BoolOp .And [e] pos) b p' := by
  have := pt_and (pos := pos) (c := b) h (fun h => h ▸ pt_and_nil) fun h => ⟨h, rfl⟩
  rwa [Bool.and_self] at this
theorem pt_or1 {e pos b} (h : PT prog w g₀ n env P ρ p e b p') : PT prog w g₀ n env P ρ p (.BoolOp .Or [e] pos) b p' := by
  have := pt_or (pos := pos) (c := b) h (fun h => h ▸ pt_or_nil) fun h => ⟨h, rfl⟩
  rwa [Bool.or_self] at this
end
section
variable {w : World} {mg mb : Str → Option Value} {g₀ : Heap} (G : Gr w mg mb g₀)
include G
theorem g_len : Glb pg w g₀ "len" (.builtin "len") := glb_boot G (by kernel_rfl) (by boot_by_name)
theorem g_max : Glb pg w g₀ "max" (.builtin "max") := glb_boot G (by kernel_rfl) (by boot_by_name)
theorem g_min : Glb pg w g₀ "min" (.builtin "min") := glb_boot G (by kernel_rfl) (by boot_by_name)
theorem g_ord : Glb pg w g₀ "ord" (.builtin "ord") := glb_boot G (by kernel_rfl) (by boot_by_name)
theorem g_chr : Glb pg w g₀ "chr" (.builtin "chr") := glb_boot G (by kernel_rfl) (by boot_by_name)
theorem g_str : Glb pg w g₀ "str" (.type "str") := glb_boot G (by kernel_rfl) (by boot_by_name)
theorem g_list : Glb pg w g₀ "list" (.type "list") := glb_boot G (by kernel_rfl) (by boot_by_name)
theorem g_range : Glb pg w g₀ "range" (.type "range") := glb_boot G (by kernel_rfl) (by boot_by_name)
theorem g_zip : Glb pg w g₀ "zip" (.type "zip") := glb_boot G (by kernel_rfl) (by boot_by_name)

theorem d_row : DefOk g₀ 156 (fdAt (KK w.params) 156) ["script"] (bdAt (KK w.params) 156) :=
  def_ok G (by kernel_rfl) (len1 fun a => by kernel_rfl)
theorem d_next : DefOk g₀ 163 (fdAt (KK w.params) 163) ["row"] (bdAt (KK w.params) 163) :=
  def_ok G (by kernel_rfl) (len1 fun a => by kernel_rfl)
theorem d_word : DefOk g₀ 170 (fdAt (KK w.params) 170) ["row", "sure"] (bdAt (KK w.params) 170) :=
  def_ok G (by kernel_rfl) (len2 fun a b => by kernel_rfl)
theorem d_find : DefOk g₀ 177 (fdAt (KK w.params) 177) ["part_x", "words"] (bdAt (KK w.params) 177) :=
  def_ok G (by kernel_rfl) (len2 fun a b => by kernel_rfl)
theorem d_repl : DefOk g₀ 184 (fdAt (KK w.params) 184) ["part_x", "new", "words", "every"] (bdAt (KK w.params) 184) :=
  def_ok G (by kernel_rfl) (len4 fun a b c d => by kernel_rfl)
theorem gl_next : Glb pg w g₀ "_law_next" (.ref 163) := glb_own G (by kernel_rfl)
theorem gl_word : Glb pg w g₀ "_law_word" (.ref 170) := glb_own G (by kernel_rfl)
theorem gl_row : Glb pg w g₀ "_law_row" (.ref 156) := glb_own G (by kernel_rfl)
theorem gl_find : Glb pg w g₀ "_law_find" (.ref 177) := glb_own G (by kernel_rfl)
theorem gl_repl : Glb pg w g₀ "_law_replaced" (.ref 184) := glb_own G (by kernel_rfl)

omit G in
noncomputable def nxt (p : List Int) : Int := p.getLastD 0
omit G in
noncomputable def rst (p : List Int) : List Int := p.dropLast
theorem f_next {n : Nat} {P : Option Addr} {p : List Int} (hz : p.length ≤ 2 ^ 20) : Fn pg w g₀ (n + 2) P 163 [.pool] p (.int (nxt p)) (rst p) := by
  refine fn_of (d_next G) rfl fun L => ?_
  rcases List.eq_nil_or_concat p with rfl | ⟨q, x, rfl⟩
  · exact ws_ret (pe_if (pt_pool_ne (pe_name rfl)) (fun h => (nomatch h)) fun _ => pe_int) ⟨rfl, rfl⟩
  · rw [List.concat_eq_append] at hz ⊢
    have e1 : nxt (q ++ [x]) = x := by simp [nxt]
    have e2 : rst (q ++ [x]) = q := by simp [rst]
    rw [e1, e2]
    refine ws_ret (pe_if (pt_pool_ne (pe_name rfl)) (fun h => pe_pool_pop (pe_name rfl) (by simp at hz; omega)) fun h => ?_) ⟨rfl, rfl⟩
    simp at h
end
end Mine
end

section
open PySem PySem.W PyProof.Rows PySem.Calls Builtin.Str
set_option autoImplicit false
set_option Elab.async false
set_option linter.all false
set_option maxRecDepth 100000
namespace Mine

noncomputable def optV : Option Str → V
  | none => .none
  | some x => .str x
noncomputable def ltrAt (i : Int) (a : Int) : Str := match i.toNat with
  | 0 => ("a" : String)
  | 1 => ("b" : String)
  | 2 => ("," : String)
  | 3 => (" " : String)
  | 4 => ("-" : String)
  | _ => ⟨#[a.toNat]⟩
/-- one letter of the pool -/
noncomputable def ltr (p : List Int) : Str × List Int := (ltrAt ((nxt (rst p)).fmod 6) (33 + (nxt p).fmod 90), rst (rst p))
noncomputable def ltrs : Nat → List Int → List Str × List Int
  | 0, p => ([], p)
  | k + 1, p => ((ltrs k p).1 ++ [(ltr (ltrs k p).2).1], (ltr (ltrs k p).2).2)
/-- the word behind its first question -/
noncomputable def wordS (p : List Int) : Str × List Int := (Txt.join ("" : String) (ltrs ((nxt p).fmod 7).toNat (rst p)).1, (ltrs ((nxt p).fmod 7).toNat (rst p)).2)
noncomputable def wordN (p : List Int) : Option Str × List Int := if (nxt p).fmod 8 == 7 then (none, rst p) else (some (wordS (rst p)).1, (wordS (rst p)).2)

theorem rst_len (p : List Int) : (rst p).length ≤ p.length := by unfold rst; rw [List.length_dropLast]; omega
theorem ltrs_len : ∀ (k : Nat) (p : List Int), (ltrs k p).2.length ≤ p.length
  | 0, _ => Nat.le_refl _
  | k + 1, p => Nat.le_trans (Nat.le_trans (rst_len _) (rst_len _)) (ltrs_len k p)
theorem ltrs_count : ∀ (k : Nat) (p : List Int), (ltrs k p).1.length = k
  | 0, _ => rfl
  | k + 1, p => by show ((ltrs k p).1 ++ [_]).length = k + 1; rw [List.length_append, ltrs_count k p]; rfl
theorem fm (a : Int) {b : Int} (h : 0 < b) : 0 ≤ a.fmod b ∧ a.fmod b < b := ⟨Int.fmod_nonneg_of_pos a h, Int.fmod_lt_of_pos a h⟩
theorem ltrAt_len {i a : Int} : (ltrAt i a).length = 1 := by unfold ltrAt; split <;> rfl
theorem ltrs_each : ∀ (k : Nat) (p : List Int), ∀ x ∈ (ltrs k p).1, x.length = 1
  | 0, _, _, h => nomatch h
  | k + 1, p, x, h => by
    have h' : x ∈ (ltrs k p).1 ++ [(ltr (ltrs k p).2).1] := h
    rcases List.mem_append.mp h' with h | h
    · exact ltrs_each k p x h
    · rw [List.mem_singleton] at h; subst h; exact ltrAt_len
theorem sum_le {xs : List Str} {m : Nat} (h : ∀ x ∈ xs, x.length ≤ m) : (xs.map (·.length)).sum ≤ xs.length * m := by
  induction xs with
  | nil => simp
  | cons x xs ih =>
    rw [List.map_cons, List.sum_cons, List.length_cons, Nat.add_mul, Nat.one_mul]
    have := h x (.head _)
    have := ih fun y hy => h y (.tail _ hy)
    omega
theorem fold_len (sep : Str) : ∀ (xs : List Str) (a : Nat), xs.foldl (fun a x => a + x.length + sep.length) a = a + (xs.map (·.length)).sum + xs.length * sep.length
  | [], a => by simp
  | x :: xs, a => by
    rw [List.foldl_cons, fold_len sep xs, List.map_cons, List.sum_cons, List.length_cons, Nat.add_mul]; omega
theorem joinOk {sep : Str} {xs : List Str} {m k : Nat} (h : ∀ x ∈ xs, x.length ≤ m) (hs : sep.length ≤ m) (hk : xs.length ≤ k) (hb : k * m ≤ 2 ^ 20) : JoinOk sep xs = true := by
  unfold JoinOk
  rw [List.foldl_toArray', fold_len] <;> try rfl
  have h1 := sum_le h
  have h2 : xs.length * m ≤ k * m := Nat.mul_le_mul_right _ hk
  have h3 : xs.length * sep.length ≤ k * m := Nat.mul_le_mul hk hs
  unfold tooLong sizeLine
  simp only [Bool.not_eq_true', decide_eq_false_iff_not]
  omega

section
variable {w : World} {mg mb : Str → Option Value} {g₀ : Heap} (G : Gr w mg mb g₀)
include G

theorem word_rest {n : Nat} {P : Option Addr} {p : List Int} {ρ : Str → Option V} {L : Addr} (hp : p.length ≤ 2 ^ 20) (hr : ρ "row" = some .pool) :
    WS pg w g₀ (n + 3) (callEnvC (fdAt (KK w.params) 170) L 170) P ρ [] p ((bdAt (KK w.params) 170).drop 1) (QR (.str (wordS p).1) (wordS p).2) := by
  obtain ⟨fo, hfo⟩ := (d_next G).at_
  have hk := fm (nxt p) (b := 7) (by decide)
  refine ws_own (pe_list pes_nil (by decide)) (.inl rfl) (fun _ h => nomatch h) fun a => ?_
  refine ws_for (items := intsFrom 0 ((nxt p).fmod 7).toNat) (pi_range (g_range G) (pes_cons (pe_bin (pe_call (gl_next G) hfo (pes_cons (pe_name hr) pes_nil) (f_next G hp)) pe_int (bin_mod (by decide))) pes_nil) (.inl ⟨rfl, rfl⟩) (by split <;> omega) (by omega)) (.inl rfl)
    (fun i ρ' own' p' => ρ' "row" = some .pool ∧ own' = ([(("letters" : Str), a, Ow.list ((ltrs i (rst p)).1.map V.str))] : Own) ∧ p' = (ltrs i (rst p)).2) ⟨hr, rfl, rfl⟩ (fun i v ρ' own' p' hi hI => ?_) fun ρ' own' p' hI => ?_
  · obtain ⟨hr', rfl, rfl⟩ := hI
    have hil : i < ((nxt p).fmod 7).toNat := by have := (List.getElem?_eq_some_iff.mp hi).1; simpa [intsFrom] using this
    have hq := Nat.le_trans (ltrs_len i (rst p)) (Nat.le_trans (rst_len p) hp)
    generalize hqe : (ltrs i (rst p)).2 = q at hq ⊢
    have h90 := fm (nxt q) (b := 90) (by decide)
    have h6 := fm (nxt (rst q)) (b := 6) (by decide)
    have hlen : (ltrs i (rst p)).1.length ≤ 7 := by rw [ltrs_count]; omega
    refine ws_mut (r := .none) (xs := (ltrs i (rst p)).1.map .str) (vs := [.str (ltr q).1]) (.head _)
      (pes_cons (pe_item slot_list_getitem.lookup (pe_list (pes_cons pe_str (pes_cons pe_str (pes_cons pe_str (pes_cons pe_str (pes_cons pe_str (pes_cons (pe_bi (g_chr G) (pes_cons (pe_bin pe_int (pe_bin (pe_call (gl_next G) hfo (pes_cons (pe_name hr') pes_nil) (f_next G hq)) pe_int (bin_mod (by decide))) bin_add) pes_nil) (bi_chr (by omega) (by omega))) pes_nil)))))) (by show (6 : Nat) ≤ sizeLine; decide))
        (pe_bin (pe_call (gl_next G) hfo (pes_cons (pe_name hr') pes_nil) (f_next G (Nat.le_trans (rst_len _) hq))) pe_int (bin_mod (by decide))) (itm_list h6.1 (by omega) ?_)) pes_nil) (fun v hv => by rw [List.mem_singleton] at hv; subst hv; rfl)
      PySem.F.slot_list_append PySem.F.type_list_append (mut_append (by rw [List.length_map]; unfold sizeLine; omega)) rfl ?_
    · unfold ltr ltrAt
      generalize (nxt (rst q)).fmod 6 = j at h6 ⊢
      obtain ⟨m, rfl⟩ := Int.eq_ofNat_of_zero_le h6.1
      have : m < 6 := by omega
      match m, this with
      | 0, _ => rfl
      | 1, _ => rfl
      | 2, _ => rfl
      | 3, _ => rfl
      | 4, _ => rfl
      | 5, _ => rfl
    · refine ws_nil ⟨hr', ?_, ?_⟩
      · show ([(("letters" : Str), a, Ow.list _)] : Own) = _
        rw [show (ltrs (i + 1) (rst p)).1 = (ltrs i (rst p)).1 ++ [(ltr q).1] by rw [← hqe]; rfl, List.map_append]; rfl
      · rw [← hqe]; rfl
  · obtain ⟨hr', rfl, rfl⟩ := hI
    have hlen : (intsFrom 0 ((nxt p).fmod 7).toNat).length = ((nxt p).fmod 7).toNat := by simp [intsFrom]
    rw [hlen]
    refine ws_ret (pe_meth pe_str (pes_cons (pe_name rfl) pes_nil) self_str PySem.F.plainAttrs_str PySem.F.slot_str_join PySem.F.type_str_join
      (bi_join (joinOk (m := 1) (k := 7) (fun x hx => by rw [ltrs_each _ _ x hx]; exact Nat.le_refl _) (by decide) (by rw [ltrs_count]; omega) (by decide)))) ⟨rfl, rfl⟩

theorem f_wordS {n : Nat} {P : Option Addr} {p : List Int} (hp : p.length ≤ 2 ^ 20) : Fn pg w g₀ (n + 4) P 170 [.pool, .bool true] p (.str (wordS p).1) (wordS p).2 := by
  refine fn_of (d_word G) rfl fun L => ?_
  refine ws_if (b := false) (pt_and (b := false) (c := false) (pt_not (b := true) (pt_plain (pe_name rfl) truth_bool)) (fun h => nomatch h) fun _ => ⟨rfl, rfl⟩) (fun h => nomatch h) fun _ => ws_nil ?_
  exact word_rest G hp rfl
theorem f_wordN {n : Nat} {P : Option Addr} {p : List Int} (hp : p.length ≤ 2 ^ 20) : Fn pg w g₀ (n + 4) P 170 [.pool, .bool false] p (optV (wordN p).1) (wordN p).2 := by
  obtain ⟨fo, hfo⟩ := (d_next G).at_
  refine fn_of (d_word G) rfl fun L => ?_
  have key : ∀ b, ((nxt p).fmod 8 == 7) = b → WS pg w g₀ (n + 3) (callEnvC (fdAt (KK w.params) 170) L 170) P (argsρ ["row", "sure"] [.pool, .bool false]) [] p (bdAt (KK w.params) 170) (QR (optV (wordN p).1) (wordN p).2) := fun b hb => by
    refine ws_if (b := b) (p₁ := rst p) (pt_and (b := true) (c := b) (p' := rst p) (pt_not (b := false) (pt_plain (pe_name rfl) truth_bool)) (fun _ => ?_) fun h => nomatch h) (fun h => ?_) fun h => ws_nil ?_
    · exact pt_and1 (by rw [← hb]; exact pt_cmp (pe_bin (pe_call (gl_next G) hfo (pes_cons (pe_name rfl) pes_nil) (f_next G hp)) pe_int (bin_mod (by decide))) pe_int cmp_eq_int.cmp)
    · unfold wordN
      rw [hb, h, if_pos rfl]
      exact ws_ret pe_none ⟨rfl, rfl⟩
    · unfold wordN
      rw [hb, h, if_neg (by decide)]
      exact word_rest G (Nat.le_trans (rst_len _) hp) rfl
  exact key _ rfl
end
end Mine
end

section
open PySem PySem.W PyProof.Rows PySem.Calls Builtin.Str
set_option autoImplicit false
set_option Elab.async false
set_option linter.all false
set_option maxRecDepth 100000
namespace Mine

noncomputable def lap1 (st : List Int × Int) : List Int × Int := if st.2 > 0 then (st.1 ++ [st.2.fmod 1024], st.2.fdiv 1024) else st
noncomputable def lapN : Nat → List Int × Int → List Int × Int
  | 0, s => s
  | k + 1, s => lap1 (lapN k s)
noncomputable def figOf (c : Int) : Int := if c ≥ 0 then c else 7 - c
noncomputable def cellR (row : List Int) (c : Int) : List Int := (lapN 30 (row ++ [(figOf c).fmod 1024], (figOf c).fdiv 1024)).1
noncomputable def rowOf (script : List Int) : List Int := (((script.take 40).foldl cellR []).take 160).reverse
theorem lapN_len : ∀ (k : Nat) (s : List Int × Int), (lapN k s).1.length ≤ s.1.length + k
  | 0, _ => Nat.le_refl _
  | k + 1, s => by
    have := lapN_len k s
    show (lap1 (lapN k s)).1.length ≤ _
    unfold lap1
    split
    · rw [List.length_append]; simp; omega
    · omega
theorem cellR_len (row : List Int) (c : Int) : (cellR row c).length ≤ row.length + 31 := by
  have := lapN_len 30 (row ++ [(figOf c).fmod 1024], (figOf c).fdiv 1024)
  rw [List.length_append] at this
  exact this
theorem foldR_len : ∀ (l : List Int) (row : List Int), (l.foldl cellR row).length ≤ row.length + 31 * l.length
  | [], _ => Nat.le_refl _
  | c :: l, row => by
    have h1 := foldR_len l (cellR row c)
    have h2 := cellR_len row c
    rw [List.foldl_cons, List.length_cons]; omega
theorem fold_snoc {α β : Type} (f : β → α → β) (b : β) (l : List α) (i : Nat) (x : α) (h : l[i]? = some x) : (l.take (i + 1)).foldl f b = f ((l.take i).foldl f b) x := by
  rw [List.take_add_one, h, List.foldl_append]; rfl

/-- places where a text stands, one behind the other, from a place on -/
noncomputable def spotsF (x y : Str) : Nat → Nat → List Nat
  | 0, _ => []
  | k + 1, at_ => if at_ + x.length ≤ y.length then (if sseg y at_ (at_ + x.length) == x then at_ :: spotsF x y k (at_ + x.length) else spotsF x y k (at_ + 1)) else []
noncomputable def spots (x y : Str) : List Nat := if x.length = 0 then [] else spotsF x y (y.length + 1) 0
noncomputable def replF (x new y : Str) : List Nat → Nat → Str → Str × Nat
  | [], at_, sh => (sh, at_)
  | s :: r, at_, sh => replF x new y r (s + x.length) (sh ++ (sseg y at_ s ++ new))
noncomputable def replaced (x new y : Str) (every : Bool) : Str :=
  let l := if every then spots x y else (spots x y).take 1
  (replF x new y l 0 ("" : String)).1 ++ sseg y (replF x new y l 0 ("" : String)).2 y.length

section
variable {w : World} {mg mb : Str → Option Value} {g₀ : Heap} (G : Gr w mg mb g₀)
include G

theorem f_row {n : Nat} {script : List Int} (hz : script.length ≤ 2 ^ 20) (p : List Int) (P : Option Addr) : Fn pg w g₀ (n + 4) P 156 [.list (script.map .int)] p (.list ((rowOf script).map .int)) p := by
  refine fn_of (d_row G) rfl fun L => ?_
  refine ws_own (pe_list pes_nil (by decide)) (.inl rfl) (fun _ h => nomatch h) fun a => ?_
  have hp40 : pick (script.map V.int) none (some 40) none = ((script.take 40).map V.int) := by rw [show (40 : Int) = ((40 : Nat) : Int) from rfl, pick_take, List.map_take]
  have hlen40 : ((script.take 40).map V.int).length ≤ 40 := by rw [List.length_map, List.length_take]; omega
  refine ws_for (items := (script.take 40).map V.int) (pi_list (by rw [← hp40]; exact pe_pick (pe_name rfl) po_none (po_some pe_int) po_none (by decide) (by rw [List.length_map]; unfold sizeLine; omega))) (.inl rfl)
    (fun i ρ' own' p' => own' = ([(("row" : Str), a, Ow.list ((((script.take 40).take i).foldl cellR []).map V.int))] : Own) ∧ p' = p) ⟨rfl, rfl⟩ (fun i v ρ' own' p' hi hI => ?_) fun ρ' own' p' hI => ?_
  · obtain ⟨rfl, rfl⟩ := hI
    rw [List.getElem?_map] at hi
    obtain ⟨c, hc, rfl⟩ := Option.map_eq_some_iff.mp hi
    have hil : i < 40 := by have := (List.getElem?_eq_some_iff.mp hc).1; rw [List.length_take] at this; omega
    have hrow := foldR_len ((script.take 40).take i) []
    have hrl : ((script.take 40).take i).length ≤ 40 := by rw [List.length_take, List.length_take]; omega
    generalize hre : ((script.take 40).take i).foldl cellR [] = row at hrow ⊢
    have hrow' : row.length ≤ 1240 := by simp at hrow; omega
    have hsc : ∀ l : List Int, ∀ v ∈ l.map V.int, v.scalar = true := fun l v hv => by obtain ⟨_, _, rfl⟩ := List.mem_map.mp hv; rfl
    refine ws_lets (p₁ := p') (v := .int (figOf c)) (pe_if (c := decide (c ≥ 0)) (pt_cmp (pe_name rfl) pe_int cmp_ge_int.cmp) (fun h => ?_) fun h => ?_) (.inl rfl) ?_
    · unfold figOf; rw [if_pos (by simpa using h)]; exact (pe_name rfl).sc
    · unfold figOf; rw [if_neg (by simpa using h)]; exact pe_bin pe_int (pe_name rfl) bin_sub
    refine ws_mut (r := .none) (xs := row.map V.int) (vs := [.int ((figOf c).fmod 1024)]) (.head _) (pes_cons (pe_bin (pe_name rfl) pe_int (bin_mod (by decide))) pes_nil) (fun v hv => by rw [List.mem_singleton] at hv; subst hv; rfl)
      PySem.F.slot_list_append PySem.F.type_list_append (mut_append (by rw [List.length_map]; unfold sizeLine; omega)) rfl ?_
    refine ws_lets (v := .int ((figOf c).fdiv 1024)) (pe_bin (pe_name rfl) pe_int (bin_div (by decide) rfl)) (.inl rfl) ?_
    generalize hf : figOf c = f
    refine ws_for (items := intsFrom 0 30) (pi_range (g_range G) (pes_cons pe_int pes_nil) (.inl ⟨rfl, rfl⟩) (by decide) (by decide)) (.inl rfl)
      (fun j ρ' own' q => ρ' "figure" = some (.int (lapN j (row ++ [f.fmod 1024], f.fdiv 1024)).2) ∧ own' = ([(("row" : Str), a, Ow.list ((lapN j (row ++ [f.fmod 1024], f.fdiv 1024)).1.map V.int))] : Own) ∧ q = p') ⟨rfl, ?_, rfl⟩ (fun j v ρ' own' p' hj hI => ?_) fun ρ' own' p' hI => ?_
    · show ([(("row" : Str), a, Ow.list (row.map V.int ++ [V.int (f.fmod 1024)]))] : Own) = _
      rw [show (lapN 0 (row ++ [f.fmod 1024], f.fdiv 1024)).1 = row ++ [f.fmod 1024] from rfl, List.map_append]; rfl
    · obtain ⟨hfig, rfl, rfl⟩ := hI
      have hjl : j < 30 := by have := (List.getElem?_eq_some_iff.mp hj).1; simpa [intsFrom] using this
      have hst := lapN_len j (row ++ [f.fmod 1024], f.fdiv 1024)
      have hnext : lapN (j + 1) (row ++ [f.fmod 1024], f.fdiv 1024) = lap1 (lapN j (row ++ [f.fmod 1024], f.fdiv 1024)) := rfl
      rw [hnext]
      generalize lapN j (row ++ [f.fmod 1024], f.fdiv 1024) = st at hfig hst ⊢
      have hst' : st.1.length ≤ 2000 := by rw [List.length_append] at hst; simp at hst; omega
      refine ws_if (b := decide (st.2 > 0)) (pt_cmp (pe_name hfig) pe_int cmp_gt_int.cmp) (fun h => ?_) fun h => ws_nil ?_
      · have h' : st.2 > 0 := by simpa using h
        refine ws_mut (r := .none) (xs := st.1.map V.int) (vs := [.int (st.2.fmod 1024)]) (.head _) (pes_cons (pe_bin (pe_name hfig) pe_int (bin_mod (by decide))) pes_nil) (fun v hv => by rw [List.mem_singleton] at hv; subst hv; rfl)
          PySem.F.slot_list_append PySem.F.type_list_append (mut_append (by rw [List.length_map]; unfold sizeLine; omega)) rfl ?_
        refine ws_lets (v := .int (st.2.fdiv 1024)) (pe_bin (pe_name hfig) pe_int (bin_div (by decide) rfl)) (.inl rfl) (ws_nil (ws_nil ?_))
        unfold lap1
        rw [if_pos h']
        refine ⟨rfl, ?_, rfl⟩
        show ([(("row" : Str), a, Ow.list (st.1.map V.int ++ [V.int (st.2.fmod 1024)]))] : Own) = _
        rw [List.map_append]; rfl
      · have h' : ¬ st.2 > 0 := by simpa using h
        unfold lap1
        rw [if_neg h']
        exact ws_nil ⟨hfig, rfl, rfl⟩
    · obtain ⟨hfig, rfl, rfl⟩ := hI
      refine ws_nil ⟨?_, rfl⟩
      rw [fold_snoc cellR [] _ i c hc, hre]
      show ([(("row" : Str), a, Ow.list _)] : Own) = [(("row" : Str), a, Ow.list ((cellR row c).map V.int))]
      unfold cellR
      rw [hf]; rfl
  · obtain ⟨rfl, rfl⟩ := hI
    have hfull : (script.take 40).take ((script.take 40).map V.int).length = script.take 40 := List.take_of_length_le (by rw [List.length_map]; exact Nat.le_refl _)
    rw [hfull]
    have hrow := foldR_len (script.take 40) []
    have hl40 : (script.take 40).length ≤ 40 := by rw [List.length_take]; omega
    unfold rowOf
    generalize (script.take 40).foldl cellR [] = row at hrow ⊢
    have hrow' : row.length ≤ 1240 := by simp at hrow; omega
    have hsc : ∀ l : List Int, ∀ v ∈ l.map V.int, v.scalar = true := fun l v hv => by obtain ⟨_, _, rfl⟩ := List.mem_map.mp hv; rfl
    have hp160 : pick (row.map V.int) none (some 160) none = ((row.take 160).map V.int) := by rw [show (160 : Int) = ((160 : Nat) : Int) from rfl, pick_take, List.map_take]
    refine ws_own (xs := (row.take 160).map V.int) (by rw [← hp160]; exact pe_pickS (hsc _) (pe_name rfl) po_none (po_some pe_int) po_none (by decide) (by rw [List.length_map]; unfold sizeLine; omega)) (.inl rfl) (hsc _) fun a' => ?_
    have hl160 : (row.take 160).length ≤ 160 := by rw [List.length_take]; omega
    refine ws_mut (r := .none) (xs := (row.take 160).map V.int) (vs := []) (.head _) pes_nil (fun v hv => nomatch hv)
      PySem.F.slot_list_reverse PySem.F.type_list_reverse (mut_reverse (by rw [List.length_map]; unfold sizeLine; omega)) rfl ?_
    rw [← List.map_reverse]
    exact ws_reto (.head _) (hsc _) ⟨rfl, rfl⟩
end
end Mine
end

section
open PySem PySem.W PyProof.Rows PySem.Calls Builtin.Str
set_option autoImplicit false
set_option Elab.async false
set_option linter.all false
set_option maxRecDepth 100000
namespace Mine

noncomputable def natV (i : Nat) : V := .int i
theorem natsSc (l : List Nat) : ∀ v ∈ l.map natV, v.scalar = true := fun v hv => by obtain ⟨_, _, rfl⟩ := List.mem_map.mp hv; rfl
theorem intsSc (l : List Int) : ∀ v ∈ l.map V.int, v.scalar = true := fun v hv => by obtain ⟨_, _, rfl⟩ := List.mem_map.mp hv; rfl
theorem strsSc (l : List Str) : ∀ v ∈ l.map V.str, v.scalar = true := fun v hv => by obtain ⟨_, _, rfl⟩ := List.mem_map.mp hv; rfl
theorem one_sc {v : V} (h : v.scalar = true) : ∀ u ∈ [v], u.scalar = true := fun u hu => by rw [List.mem_singleton] at hu; subst hu; exact h
theorem cut_nn (x : Str) (a b : Nat) (ha : a ≤ b) (hb : b ≤ x.length) : cut x (some (a : Int)) (some (b : Int)) none = sseg x a b := by
  rw [cut_eq]
  show sseg x (clipAt x.length a) (clipAt x.length b) = _
  rw [clip_nn, clip_nn, Nat.min_eq_left hb, Nat.min_eq_left (Nat.le_trans ha hb)]
theorem cut_from (x : Str) (a : Nat) (ha : a ≤ x.length) : cut x (some (a : Int)) none none = sseg x a x.length := by
  rw [cut_eq]
  show sseg x (clipAt x.length a) x.length = _
  rw [clip_nn, Nat.min_eq_left ha]
theorem sseg_len (x : Str) (a b : Nat) : (sseg x a b).length ≤ b - a := by
  show ((seg x.cps.toList a b).toArray).size ≤ _
  rw [List.size_toArray]; unfold seg; rw [List.length_take]; omega
theorem sseg_len' (x : Str) (a b : Nat) : (sseg x a b).length ≤ x.length - a := by
  show ((seg x.cps.toList a b).toArray).size ≤ x.cps.size - a
  rw [List.size_toArray]; unfold seg; rw [List.length_take, List.length_drop, Array.length_toList]; omega
theorem spotsF_len : ∀ (x y : Str) (k a : Nat), (spotsF x y k a).length ≤ k
  | _, _, 0, _ => Nat.le_refl _
  | x, y, k + 1, a => by
    unfold spotsF
    split
    · split
      · rw [List.length_cons]; have := spotsF_len x y k (a + x.length); omega
      · have := spotsF_len x y k (a + 1); omega
    · simp
theorem spotsF_le : ∀ (x y : Str) (k a : Nat), ∀ s ∈ spotsF x y k a, a ≤ s ∧ s + x.length ≤ y.length
  | _, _, 0, _, _, h => nomatch h
  | x, y, k + 1, a, s, h => by
    unfold spotsF at h
    split at h
    · rename_i hle
      split at h
      · rcases List.mem_cons.mp h with rfl | h
        · exact ⟨Nat.le_refl _, hle⟩
        · have := spotsF_le x y k (a + x.length) s h; omega
      · have := spotsF_le x y k (a + 1) s h; omega
    · cases h

section
variable {w : World} {mg mb : Str → Option Value} {g₀ : Heap} (G : Gr w mg mb g₀)
include G

theorem f_find {n : Nat} {x y : Str} (hx : x.length ≤ 2 ^ 20) (hx0 : x.length ≠ 0) (hy : y.length ≤ 2 ^ 20) (p : List Int) (P : Option Addr) : Fn pg w g₀ (n + 4) P 177 [.str x, .str y] p (.list ((spots x y).map natV)) p := by
  have sx : x.length ≤ sizeLine := by unfold sizeLine; omega
  have sy : y.length ≤ sizeLine := by unfold sizeLine; omega
  have hne : (x != (Str.ofString "")) = true := by
    rw [bne_iff_ne]; rintro rfl; exact hx0 rfl
  unfold spots
  rw [if_neg hx0]
  refine fn_of (d_find G) rfl fun L => ?_
  refine ws_own (pe_list pes_nil (by decide)) (.inl rfl) (fun _ h => nomatch h) fun a => ?_
  refine ws_lets (v := natV 0) pe_int (.inl rfl) ?_
  refine ws_while (fun k ρ' own' p' => ∃ at_ fnd, ρ' "part_x" = some (.str x) ∧ ρ' "words" = some (.str y) ∧ ρ' "spot" = some (natV at_) ∧ own' = ([(("found" : Str), a, Ow.list (fnd.map natV))] : Own) ∧ p' = p ∧
      fnd ++ spotsF x y k at_ = spotsF x y (y.length + 1) 0 ∧ y.length + 1 ≤ at_ + k ∧ at_ ≤ y.length + 1) (y.length + 1) ⟨0, [], rfl, rfl, rfl, rfl, rfl, rfl, by omega, by omega⟩ fun k ρ' own' p' hI => ?_
  obtain ⟨at_, fnd, h1, h2, h3, rfl, rfl, h4, h5, h6⟩ := hI
  have hfl : fnd.length ≤ y.length + 1 := by
    have := congrArg List.length h4
    rw [List.length_append] at this
    have := spotsF_len x y (y.length + 1) 0
    omega
  refine ⟨(x != (Str.ofString "")) && (decide (((at_ : Int) + (x.length : Int)) ≤ (y.length : Int)) && true), p', pt_and' (pt_cmp (pe_name h1) pe_str cmp_ne_str.cmp) (pt_and' (pt_cmp (pe_bin (pe_name h3) (pe_bi (g_len G) (pes_cons (pe_name h1) pes_nil) (bi_len_str sx)) bin_add) (pe_bi (g_len G) (pes_cons (pe_name h2) pes_nil) (bi_len_str sy)) cmp_le_int.cmp) pt_and_nil), fun hb => ?_, fun hb => ?_⟩
  · have hle : at_ + x.length ≤ y.length := by
      rw [hne] at hb; simp at hb; omega
    obtain ⟨k, rfl⟩ : ∃ j, k = j + 1 := ⟨k - 1, by omega⟩
    have hcut : cut y (some (at_ : Int)) (some ((at_ : Int) + (x.length : Int))) none = sseg y at_ (at_ + x.length) := by
      rw [show (at_ : Int) + (x.length : Int) = ((at_ + x.length : Nat) : Int) by omega, cut_nn _ _ _ (by omega) hle]
    have hs : spotsF x y (k + 1) at_ = if sseg y at_ (at_ + x.length) == x then at_ :: spotsF x y k (at_ + x.length) else spotsF x y k (at_ + 1) := by
      rw [spotsF, if_pos hle]
    refine ws_if (b := sseg y at_ (at_ + x.length) == x) (by rw [← hcut]; exact pt_cmp (pe_cut (pe_name h2) (po_some (pe_name h3)) (po_some (pe_bin (pe_name h3) (pe_bi (g_len G) (pes_cons (pe_name h1) pes_nil) (bi_len_str sx)) bin_add)) sy) (pe_name h1) cmp_eq_str.cmp) (fun h => ?_) fun h => ?_
    · rw [h, if_pos rfl] at hs
      refine ws_mut (r := .none) (xs := fnd.map natV) (vs := [natV at_]) (.head _) (pes_cons (pe_name h3) pes_nil) (one_sc rfl)
        PySem.F.slot_list_append PySem.F.type_list_append (mut_append (by rw [List.length_map]; unfold sizeLine; omega)) rfl ?_
      refine ws_aug (c := natV (at_ + x.length)) (a := natV at_) (b := .int x.length) h3 (pe_bi (g_len G) (pes_cons (pe_name h1) pes_nil) (bi_len_str sx)) (by rw [show natV (at_ + x.length) = V.int ((at_ : Int) + (x.length : Int)) by unfold natV; congr 1]; exact inp_add) (.inl rfl) (ws_nil (ws_nil ⟨k, by omega, at_ + x.length, fnd ++ [at_], h1, h2, rfl, ?_, rfl, by rw [← h4, hs]; simp, by omega, by omega⟩))
      show ([(("found" : Str), a, Ow.list (fnd.map natV ++ [natV at_]))] : Own) = _
      rw [List.map_append]; rfl
    · rw [h, if_neg (by decide)] at hs
      refine ws_aug (c := natV (at_ + 1)) (a := natV at_) (b := .int 1) h3 pe_int (by rw [show natV (at_ + 1) = V.int ((at_ : Int) + 1) by unfold natV; congr 1]; exact inp_add) (.inl rfl) (ws_nil (ws_nil ⟨k, by omega, at_ + 1, fnd, h1, h2, rfl, rfl, rfl, by rw [← h4, hs], by omega, by omega⟩))
  · have hle : ¬ at_ + x.length ≤ y.length := by
      rw [hne] at hb; simp at hb; omega
    have hs : spotsF x y k at_ = [] := by
      cases k with
      | zero => rfl
      | succ k => rw [spotsF, if_neg hle]
    rw [hs, List.append_nil] at h4
    rw [← h4]
    exact ws_reto (.head _) (natsSc _) ⟨rfl, rfl⟩

theorem f_repl {n : Nat} {x new y : Str} (hx : x.length ≤ 2 ^ 8) (hx0 : x.length ≠ 0) (hy : y.length ≤ 2 ^ 8) (hn : new.length ≤ 2 ^ 8) (every : Bool) (p : List Int) (P : Option Addr) : Fn pg w g₀ (n + 5) P 184 [.str x, .str new, .str y, .bool every] p (.str (replaced x new y every)) p := by
  have sx : x.length ≤ sizeLine := by unfold sizeLine; omega
  have sy : y.length ≤ sizeLine := by unfold sizeLine; omega
  obtain ⟨fo, hfo⟩ := (d_find G).at_
  have hsp : ∀ s ∈ spots x y, s + x.length ≤ y.length := fun s h => by
    unfold spots at h; rw [if_neg hx0] at h; exact (spotsF_le _ _ _ _ s h).2
  have hso : ∀ (k a : Nat), (spotsF x y k a).Pairwise (fun i j => i + x.length ≤ j) := by
    intro k
    induction k with
    | zero => intro a; exact .nil
    | succ k ih =>
      intro a
      unfold spotsF
      split
      · split
        · exact .cons (fun j hj => (spotsF_le _ _ _ _ j hj).1) (ih _)
        · exact ih _
      · exact .nil
  have hsl : (spots x y).length ≤ 257 := by
    unfold spots; rw [if_neg hx0]; exact Nat.le_trans (spotsF_len _ _ _ _) (by omega)
  refine fn_of (d_repl G) rfl fun L => ?_
  refine ws_letf (v := .list ((spots x y).map natV)) (pe_call (gl_find G) hfo (pes_cons (pe_name rfl) (pes_cons (pe_name rfl) pes_nil)) (f_find G (by omega) hx0 (by omega) p P)) (.inl rfl) ?_
  have key : ∀ l, l = (if every then spots x y else (spots x y).take 1) → (∀ s ∈ l, s + x.length ≤ y.length) → l.Pairwise (fun i j => i + x.length ≤ j) → l.length ≤ 257 →
      WS pg w g₀ (n + 4) (callEnvC (fdAt (KK w.params) 184) L 184) P (upd (argsρ ["part_x", "new", "words", "every"] [.str x, .str new, .str y, .bool every]) "spots" (.list ((spots x y).map natV))) [] p ((bdAt (KK w.params) 184).drop 1) (QR (.str (replaced x new y every)) p) := fun l hl hls hlp hll => by
    refine ws_let (v := .list (l.map natV)) (p₁ := p) (pe_if (c := every) (p' := p) (pt_plain (pe_name rfl) truth_bool) (fun h => ?_) fun h => ?_) (.inl rfl) ?_
    · rw [hl, h, if_pos rfl]; exact pe_name rfl
    · rw [hl, h, if_neg (by decide)]
      have : pick ((spots x y).map natV) none (some 1) none = ((spots x y).take 1).map natV := by rw [show (1 : Int) = ((1 : Nat) : Int) from rfl, pick_take, List.map_take]
      rw [← this]
      exact pe_pick (pe_name rfl) po_none (po_some pe_int) po_none (by decide) (by rw [List.length_map]; unfold sizeLine; omega)
    refine ws_lets (v := .str ("" : String)) pe_str (.inl rfl) ?_
    refine ws_lets (v := natV 0) pe_int (.inl rfl) ?_
    refine ws_for (items := l.map natV) (pi_list (pe_name rfl)) (.inl rfl)
      (fun i ρ' own' p' => ∃ at_ sh, ρ' "part_x" = some (.str x) ∧ ρ' "new" = some (.str new) ∧ ρ' "words" = some (.str y) ∧ ρ' "shown" = some (.str sh) ∧ ρ' "at" = some (natV at_) ∧ own' = [] ∧ p' = p ∧
        replF x new y (l.drop i) at_ sh = replF x new y l 0 ("" : String) ∧ (∀ s ∈ l.drop i, at_ ≤ s) ∧ at_ ≤ y.length ∧ sh.length ≤ i * 512) ⟨0, ("" : String), rfl, rfl, rfl, rfl, rfl, rfl, rfl, rfl, fun _ _ => Nat.zero_le _, Nat.zero_le _, by decide⟩ (fun i v ρ' own' p' hi hI => ?_) fun ρ' own' p' hI => ?_
    · obtain ⟨at_, sh, h1, h2, h3, h4, h5, rfl, rfl, h6, h7, h8, h9⟩ := hI
      rw [List.getElem?_map] at hi
      obtain ⟨s, hs, rfl⟩ := Option.map_eq_some_iff.mp hi
      obtain ⟨hil, he⟩ := List.getElem?_eq_some_iff.mp hs
      have hd : l.drop i = s :: l.drop (i + 1) := by rw [List.drop_eq_getElem_cons hil, he]
      rw [hd] at h6 h7
      have hsy := hls s (List.mem_of_getElem? hs)
      have has := h7 s (.head _)
      have hcut : cut y (some (at_ : Int)) (some (s : Int)) none = sseg y at_ s := cut_nn _ _ _ has (by omega)
      have hcl := sseg_len' y at_ s
      have hil' : i ≤ 257 := by omega
      have hz1 : (sseg y at_ s ++ new).length ≤ 512 := by
        show ((sseg y at_ s).cps ++ new.cps).size ≤ 512
        rw [Array.size_append]
        have e1 : (sseg y at_ s).cps.size ≤ 256 := Nat.le_trans hcl (by omega)
        have e2 : new.cps.size ≤ 256 := hn
        omega
      refine ws_aug (a := .str sh) (b := .str (sseg y at_ s ++ new)) (c := .str (sh ++ (sseg y at_ s ++ new))) h4
        (pe_bin (by rw [← hcut]; exact pe_cut (pe_name h3) (po_some (pe_name h5)) (po_some (pe_name rfl)) sy) (pe_name h2) (bin_cat (by unfold sizeLine; omega))) (inp_cat ?_) (.inl rfl) ?_
      · show (sh.cps ++ (sseg y at_ s ++ new).cps).size ≤ sizeLine
        rw [Array.size_append]
        have e1 : sh.cps.size ≤ i * 512 := h9
        have e2 : (sseg y at_ s ++ new).cps.size ≤ 512 := hz1
        unfold sizeLine; omega
      refine ws_lets (v := natV (s + x.length)) (by rw [show natV (s + x.length) = V.int ((s : Int) + (x.length : Int)) by unfold natV; congr 1]; exact pe_bin (pe_name rfl) (pe_bi (g_len G) (pes_cons (pe_name h1) pes_nil) (bi_len_str sx)) bin_add) (.inl rfl) (ws_nil ⟨s + x.length, sh ++ (sseg y at_ s ++ new), h1, h2, h3, rfl, rfl, rfl, rfl, h6, fun s' hs' => ?_, hsy, ?_⟩)
      · have := hlp.sublist (List.drop_sublist i l)
        rw [hd, List.pairwise_cons] at this
        exact this.1 s' hs'
      · show (sh.cps ++ (sseg y at_ s ++ new).cps).size ≤ _
        rw [Array.size_append]
        have e1 : sh.cps.size ≤ i * 512 := h9
        have e2 : (sseg y at_ s ++ new).cps.size ≤ 512 := hz1
        omega
    · obtain ⟨at_, sh, h1, h2, h3, h4, h5, rfl, rfl, h6, h7, h8, h9⟩ := hI
      rw [List.length_map, List.drop_length] at h6
      rw [List.length_map] at h9
      have hcut : cut y (some (at_ : Int)) none none = sseg y at_ y.length := cut_from _ _ h8
      have hcl := sseg_len' y at_ y.length
      have hfin : replaced x new y every = sh ++ sseg y at_ y.length := by
        unfold replaced
        rw [← hl]; dsimp only; rw [← h6]; rfl
      rw [hfin]
      refine ws_ret (pe_bin (pe_name h4) (by rw [← hcut]; exact pe_cut (pe_name h3) (po_some (pe_name h5)) po_none sy) (bin_cat ?_)) ⟨rfl, rfl⟩
      show (sh.cps ++ (sseg y at_ y.length).cps).size ≤ sizeLine
      rw [Array.size_append]
      have e1 : sh.cps.size ≤ l.length * 512 := h9
      have e2 : (sseg y at_ y.length).cps.size ≤ y.length - at_ := hcl
      unfold sizeLine; omega
  refine key _ rfl ?_ ?_ ?_
  · intro s h; split at h
    · exact hsp s h
    · exact hsp s (List.mem_of_mem_take h)
  · have := hso (y.length + 1) 0
    split
    · unfold spots; rw [if_neg hx0]; exact this
    · unfold spots; rw [if_neg hx0]; exact this.sublist (List.take_sublist ..)
  · split
    · exact hsl
    · exact Nat.le_trans (List.length_take_le _ _) (by omega)
end
end Mine
end

section
open PySem PySem.W PyProof.Rows PySem.Calls Builtin.Str
set_option autoImplicit false
set_option Elab.async false
set_option linter.all false
set_option maxRecDepth 100000
namespace Mine

theorem sub_eq (y x : Str) (i : Nat) : (sseg y i (i + x.length) == x) = subAt y x i := by
  unfold subAt sseg seg
  rw [Bool.eq_iff_iff, beq_iff_eq, beq_iff_eq]
  have e : y.cps.extract i (i + x.length) = (List.take (i + x.length - i) (List.drop i y.cps.toList)).toArray := by
    apply Array.toList_inj.mp
    simp
  rw [e]
  generalize (List.take (i + x.length - i) (List.drop i y.cps.toList)).toArray = z
  obtain ⟨c⟩ := x
  simp
theorem spotsF_nil {x y : Str} {k a : Nat} (h : ¬ a + x.length ≤ y.length) : spotsF x y k a = [] := by
  cases k with
  | zero => rfl
  | succ k => rw [spotsF, if_neg h]
theorem occ_run {x y : Str} (hx : 0 < x.length) (limit : Nat) : ∀ (m a K b : Nat) (found : Array Nat) (free : Nat), a + m = y.length + 1 → y.length + 1 ≤ b + K → found.size ≤ limit → a ≤ b → free ≤ b → (b = a ∨ b = free) →
    (forIn (List.range' a m) (found, free) (StrLaws.occBody y x y.length limit)).run.fst.toList = found.toList ++ (spotsF x y K b).take (limit - found.size)
  | 0, a, K, b, found, free, ha, hK, hl, hab, hfb, hb => by
    rw [spotsF_nil (by omega)]
    simp
  | m + 1, a, K, b, found, free, ha, hK, hl, hab, hfb, hb => by
    rw [List.range'_succ, List.forIn_cons]
    by_cases e : a < free
    · have hb' : b = free := hb.resolve_left fun q => Nat.lt_irrefl _ (Nat.lt_of_lt_of_le e (q ▸ hfb))
      rw [show StrLaws.occBody y x y.length limit a (found, free) = pure (ForInStep.yield (found, free)) from if_neg fun c => Nat.not_le_of_lt e c.1.1.2]
      exact occ_run hx limit m (a + 1) K b found free (by omega) hK hl (hb' ▸ e) hfb (.inr hb')
    · have hba : b = a := hb.elim id fun q => Nat.le_antisymm (q ▸ Nat.le_of_not_lt e) hab
      subst hba
      obtain ⟨K, rfl⟩ : ∃ j, K = j + 1 := ⟨K - 1, by omega⟩
      have hK' : y.length + 1 ≤ b + 1 + K := by omega
      have ha' : b + 1 + m = y.length + 1 := by omega
      by_cases f : b + x.length ≤ y.length
      · rw [spotsF, if_pos f, sub_eq]
        by_cases g : subAt y x b = true
        · rw [if_pos g]
          by_cases d : found.size < limit
          · rw [show StrLaws.occBody y x y.length limit b (found, free) = pure (ForInStep.yield (found.push b, b + x.length)) from if_pos ⟨⟨⟨d, Nat.le_of_not_lt e⟩, f⟩, g⟩]
            refine Eq.trans (occ_run hx limit m (b + 1) K (b + x.length) (found.push b) (b + x.length) ha' (by omega) (by rw [Array.size_push]; exact d) (Nat.add_le_add_left hx b) (Nat.le_refl _) (.inr rfl)) ?_
            rw [Array.size_push, Array.toList_push, show limit - found.size = (limit - (found.size + 1)) + 1 by omega, List.take_succ_cons]
            simp
          · rw [show StrLaws.occBody y x y.length limit b (found, free) = pure (ForInStep.yield (found, free)) from if_neg fun c => d c.1.1.1]
            refine Eq.trans (occ_run hx limit m (b + 1) K (b + 1) found free ha' hK' hl (Nat.le_refl _) (Nat.le_succ_of_le hfb) (.inl rfl)) ?_
            rw [Nat.sub_eq_zero_of_le (Nat.le_of_not_lt d), List.take_zero, List.take_zero]
        · rw [if_neg g]
          rw [show StrLaws.occBody y x y.length limit b (found, free) = pure (ForInStep.yield (found, free)) from if_neg fun c => g c.2]
          exact occ_run hx limit m (b + 1) K (b + 1) found free ha' hK' hl (Nat.le_refl _) (Nat.le_succ_of_le hfb) (.inl rfl)
      · rw [show StrLaws.occBody y x y.length limit b (found, free) = pure (ForInStep.yield (found, free)) from if_neg fun c => f c.1.2]
        refine Eq.trans (occ_run hx limit m (b + 1) K (b + 1) found free ha' hK' hl (Nat.le_refl _) (Nat.le_succ_of_le hfb) (.inl rfl)) ?_
        rw [spotsF_nil f, spotsF_nil (by omega)]
theorem occ_spots {x y : Str} (hx : 0 < x.length) (limit a K : Nat) (ha : a ≤ y.length + 1) (hK : y.length + 1 ≤ a + K) : occurrences y x a y.length limit = (spotsF x y K a).take limit := by
  rw [StrLaws.occ_eq, occ_run hx limit (y.length + 1 - a) a K a #[] a (by omega) (by omega) (Nat.zero_le _) (Nat.le_refl _) (Nat.le_refl _) (.inl rfl)]
  simp
/-- the first place, or none -/
noncomputable def hd1 : List Nat → Int
  | s :: _ => s
  | [] => -1
theorem find_spots {x y : Str} (hx : 0 < x.length) : Txt.find y x = hd1 (spotsF x y (y.length + 1) 0) := by
  unfold Txt.find
  rw [occ_spots hx 1 0 (y.length + 1) (by omega) (by omega)]
  cases spotsF x y (y.length + 1) 0 <;> rfl
theorem find3_spots {x y : Str} (hx : 0 < x.length) (a K : Nat) (ha : a ≤ y.length) (hK : y.length + 1 ≤ a + K) : Txt.find3 y x (a : Int) = hd1 (spotsF x y K a) := by
  unfold Txt.find3
  rw [show fromIndex y.length (a : Int) = a by unfold fromIndex; omega, occ_spots hx 1 a K (by omega) hK]
  cases spotsF x y K a <;> rfl
theorem contains_spots {x y : Str} (hx : 0 < x.length) : Txt.contains y x = !(spots x y).isEmpty := by
  unfold Txt.contains spots
  rw [occ_spots hx 1 0 (y.length + 1) (by omega) (by omega), if_neg (by omega)]
  cases spotsF x y (y.length + 1) 0 <;> rfl
/-- what stands behind the first place -/
theorem spotsF_step {x y : Str} (hx : 0 < x.length) : ∀ (K a s : Nat) (r : List Nat), spotsF x y K a = s :: r → y.length + 1 ≤ a + K → a ≤ s ∧ s + x.length ≤ y.length ∧ ∀ K', y.length + 1 ≤ s + x.length + K' → spotsF x y K' (s + x.length) = r
  | 0, _, _, _, h, _ => nomatch h
  | K + 1, a, s, r, h, hK => by
    rw [spotsF] at h
    split at h
    · rename_i hle
      split at h
      · cases h
        refine ⟨Nat.le_refl _, hle, fun K' hK' => ?_⟩
        exact spotsF_fuel hx _ _ _ hK' (by omega)
      · have ih := spotsF_step hx K (a + 1) s r h (by omega)
        exact ⟨by omega, ih.2⟩
    · cases h
where spotsF_fuel {x y : Str} (hx : 0 < x.length) : ∀ (K K' a : Nat), y.length + 1 ≤ a + K → y.length + 1 ≤ a + K' → spotsF x y K a = spotsF x y K' a
  | 0, K', a, h1, h2 => by rw [spotsF_nil (by omega), spotsF_nil (by omega)]
  | K + 1, 0, a, h1, h2 => by rw [spotsF_nil (by omega), spotsF_nil (by omega)]
  | K + 1, K' + 1, a, h1, h2 => by
    rw [spotsF, spotsF, spotsF_fuel hx K K' (a + x.length) (by omega) (by omega), spotsF_fuel hx K K' (a + 1) (by omega) (by omega)]
end Mine
end

section
open PySem PySem.W PyProof.Rows PySem.Calls Builtin.Str
set_option autoImplicit false
set_option Elab.async false
set_option linter.all false
set_option maxRecDepth 100000
namespace Mine
section
variable {prog : Program} {w : World} {g₀ : Heap} {n : Nat} {env : Env} {P : Option Addr} {ρ : Str → Option V} {own : Own} {p p' p'' p₁ p₂ p₃ p₄ : List Int} {fr : Bool} {H s s' : Shared} {ex : Addr → Prop} {Q : Fl → (Str → Option V) → Own → List Int → Prop}
theorem RepV.drop {vars} (R : RepV prog w g₀ env P H ex vars ρ own p s) (x : Str) : RepV prog w g₀ env P H ex vars ρ (dropO own x) p s :=
  { R with
    nod := nod_drop R.nod
    pf := fun a ha => R.pf a (priv_drop ha)
    ow := fun e he => ⟨(R.ow e (mem_dropO he).1).1, (R.ow e (mem_dropO he).1).2.mono (fun _ q => q) (fun _ _ _ e => e) fun _ q => okp_drop q⟩
    vr := fun y v e => let ⟨val, h1, h2⟩ := R.vr y v e; ⟨val, h1, h2.mono (fun _ _ _ e => e) fun _ q => okp_drop q⟩ }
theorem ws_forget {ss} (x : Str) (h : WS prog w g₀ n env P ρ (dropO own x) p ss Q) : WS prog w g₀ n env P ρ own p ss Q := .mk fun A H ex s R hA Rp hR => by
  obtain ⟨vars, Rp⟩ := Rp
  exact h A H ex s R hA ⟨vars, Rp.drop x⟩ hR
end

noncomputable def rowsV (rows : List (List (Option Str))) : List V := rows.map fun r => V.list (r.map optV)
noncomputable def widest (rows : List (List (Option Str))) : Nat := rows.foldl (fun c r => max c r.length) 0
noncomputable def cellAt (k : Nat) (r : List (Option Str)) : Str := if r.length = 0 then ("" : String) else match r[k % r.length]? with
  | some (some t) => t
  | _ => ("NA" : String)
noncomputable def pasted (rows : List (List (Option Str))) (sep : Str) : List Str := (List.range (widest rows)).map fun k => Txt.join sep (rows.map (cellAt k))
structure Small (rows : List (List (Option Str))) : Prop where
  n : rows.length ≤ 8
  each : ∀ r ∈ rows, r.length ≤ 8 ∧ ∀ t, some t ∈ r → t.length ≤ 64
theorem widest_le {rows : List (List (Option Str))} (h : ∀ r ∈ rows, r.length ≤ 8) : ∀ a, a ≤ 8 → rows.foldl (fun c r => max c r.length) a ≤ 8 := by
  induction rows with
  | nil => intro a ha; exact ha
  | cons r rows ih =>
    intro a ha
    rw [List.foldl_cons]
    have := h r (.head _)
    exact ih (fun r hr => h r (.tail _ hr)) _ (by omega)
theorem cellAt_len {rows : List (List (Option Str))} (S : Small rows) {k : Nat} {r} (hr : r ∈ rows) : (cellAt k r).length ≤ 64 := by
  unfold cellAt
  split
  · decide
  · split
    · rename_i t h; exact (S.each r hr).2 t (List.mem_of_getElem? h)
    · decide
theorem natV_max (a b : Nat) : natV (max a b) = .int (max (a : Int) (b : Int)) := by unfold natV; congr 1; omega

section
variable {w : World} {mg mb : Str → Option Value} {g₀ : Heap} (G : Gr w mg mb g₀)
include G
theorem d_ptexts : DefOk g₀ 53 (fdAt (KK w.params) 53) ["rows", "sep"] (bdAt (KK w.params) 53) :=
  def_ok G (by kernel_rfl) (len2 fun a b => by kernel_rfl)
theorem d_pvecs : DefOk g₀ 60 (fdAt (KK w.params) 60) ["rows", "sep", "collapse"] (bdAt (KK w.params) 60) :=
  def_ok G (by kernel_rfl) (len3 fun a b c => by kernel_rfl)
theorem gl_ptexts : Glb pg w g₀ "paste_texts" (.ref 53) := glb_own G (by kernel_rfl)
theorem gl_pvecs : Glb pg w g₀ "paste_vectors" (.ref 60) := glb_own G (by kernel_rfl)

theorem f_ptexts {n : Nat} {rows : List (List (Option Str))} {sep : Str} (S : Small rows) (hs : sep.length ≤ 64) (p : List Int) (P : Option Addr) : Fn pg w g₀ (n + 4) P 53 [.list (rowsV rows), .str sep] p (.list ((pasted rows sep).map .str)) p := by
  refine fn_of (d_ptexts G) rfl fun L => ?_
  refine ws_lets (v := natV 0) pe_int (.inl rfl) ?_
  have hget : ∀ {i : Nat} {v : V}, (rowsV rows)[i]? = some v → ∃ r, rows[i]? = some r ∧ v = .list (r.map optV) := fun h => by
    unfold rowsV at h
    rw [List.getElem?_map] at h
    obtain ⟨r, h1, h2⟩ := Option.map_eq_some_iff.mp h
    exact ⟨r, h1, h2.symm⟩
  have hrl : ∀ r ∈ rows, r.length ≤ sizeLine := fun r hr => by have := (S.each r hr).1; unfold sizeLine; omega
  refine ws_for (items := rowsV rows) (pi_list (pe_name rfl)) (.inl rfl)
    (fun i ρ' own' p' => ρ' "rows" = some (.list (rowsV rows)) ∧ ρ' "sep" = some (.str sep) ∧ ρ' "count" = some (natV ((rows.take i).foldl (fun c r => max c r.length) 0)) ∧ own' = [] ∧ p' = p) ⟨rfl, rfl, rfl, rfl, rfl⟩ (fun i v ρ' own' p' hi hI => ?_) fun ρ' own' p' hI => ?_
  · obtain ⟨h1, h2, h3, rfl, rfl⟩ := hI
    obtain ⟨r, hr, rfl⟩ := hget hi
    have hrl' := hrl r (List.mem_of_getElem? hr)
    rw [fold_snoc _ _ _ i r hr]
    refine ws_lets (v := natV (max ((rows.take i).foldl (fun c r => max c r.length) 0) r.length)) ?_ (.inl rfl) (ws_nil ⟨h1, h2, rfl, rfl, rfl⟩)
    rw [natV_max]
    refine pe_bi (g_max G) (pes_cons (pe_name h3) (pes_cons (pe_bi (g_len G) (pes_cons (pe_name rfl) pes_nil) (bi_len_list (by rw [List.length_map]; exact hrl'))) pes_nil)) ?_
    rw [List.length_map]
    exact bi_max2
  obtain ⟨h1, h2, h3, rfl, rfl⟩ := hI
  rw [show (rowsV rows).length = rows.length by simp [rowsV], List.take_length] at h3
  change ρ' "count" = some (natV (widest rows)) at h3
  have hw : widest rows ≤ 8 := widest_le (fun r hr => (S.each r hr).1) 0 (by omega)
  refine ws_own (pe_list pes_nil (by decide)) (.inl rfl) (fun _ h => nomatch h) fun a => ?_
  refine ws_for (items := intsFrom 0 (widest rows)) (pi_range (g_range G) (pes_cons (pe_name h3) pes_nil) (.inl ⟨rfl, rfl⟩) (by split <;> omega) (by omega)) (.inl rfl)
    (fun i ρ' own' q => ρ' "rows" = some (.list (rowsV rows)) ∧ ρ' "sep" = some (.str sep) ∧ own' = ([(("found" : Str), a, Ow.list (((List.range i).map fun k => Txt.join sep (rows.map (cellAt k))).map V.str))] : Own) ∧ q = p') ⟨h1, h2, rfl, rfl⟩ (fun i v ρ' own' q hi hI => ?_) fun ρ' own' q hI => ?_
  · obtain ⟨h1, h2, rfl, rfl⟩ := hI
    have hi' : i < widest rows := by have := (List.getElem?_eq_some_iff.mp hi).1; simpa [intsFrom] using this
    have hv : v = natV i := by
      unfold intsFrom at hi
      rw [List.getElem?_map, List.getElem?_range hi'] at hi
      simp at hi; rw [← hi]; rfl
    subst hv
    refine ws_own (pe_list pes_nil (by decide)) (.inl rfl) (fun _ h => nomatch h) fun b => ?_
    refine ws_for (items := rowsV rows) (pi_list (pe_name h1)) (.inl rfl)
      (fun j ρ' own' p' => ρ' "rows" = some (.list (rowsV rows)) ∧ ρ' "sep" = some (.str sep) ∧ ρ' "place" = some (natV i) ∧
        own' = ([(("parts" : Str), b, Ow.list (((rows.take j).map (cellAt i)).map V.str)), (("found" : Str), a, Ow.list (((List.range i).map fun k => Txt.join sep (rows.map (cellAt k))).map V.str))] : Own) ∧ p' = q) ⟨h1, h2, rfl, rfl, rfl⟩ (fun j v ρ' own' p' hj hI => ?_) fun ρ' own' p' hI => ?_
    · obtain ⟨h1, h2, h4, rfl, rfl⟩ := hI
      obtain ⟨r, hr, rfl⟩ := hget hj
      have hrm := List.mem_of_getElem? hr
      have hrl' := hrl r hrm
      have hjl : j < rows.length := (List.getElem?_eq_some_iff.mp hr).1
      have htk : ((rows.take (j + 1)).map (cellAt i)).map V.str = ((rows.take j).map (cellAt i)).map V.str ++ [V.str (cellAt i r)] := by
        rw [List.take_add_one, hr]; simp
      have hn8 := S.n
      have hpl : (((rows.take j).map (cellAt i)).map V.str).length ≤ sizeLine := by
        rw [List.length_map, List.length_map, List.length_take]; unfold sizeLine; omega
      have blen : BI pg w (.builtin "len") [.list (r.map optV)] (.int r.length) := by
        have := bi_len_list (prog := pg) (w := w) (xs := r.map optV) (by rw [List.length_map]; exact hrl')
        rwa [List.length_map] at this
      refine ws_if (b := (r.length : Int) == 0) (pt_cmp (pe_bi (g_len G) (pes_cons (pe_name rfl) pes_nil) blen) pe_int cmp_eq_int.cmp) (fun h => ?_) fun h => ?_
      · have h0 : r.length = 0 := by simpa using h
        refine ws_mut (r := .none) (xs := ((rows.take j).map (cellAt i)).map V.str) (vs := [.str ("" : String)]) (.head _) (pes_cons pe_str pes_nil) (one_sc rfl)
          PySem.F.slot_list_append PySem.F.type_list_append (mut_append hpl) rfl (ws_nil (ws_nil ⟨h1, h2, h4, ?_, rfl⟩))
        rw [htk, show cellAt i r = (("" : String) : Str) by unfold cellAt; rw [if_pos h0]]; rfl
      · have h0 : r.length ≠ 0 := by simpa using h
        have hm : i % r.length < r.length := Nat.mod_lt _ (Nat.pos_of_ne_zero h0)
        have hget' : (r.map optV)[((i : Int).fmod (r.length : Int)).toNat]? = some (optV r[i % r.length]) := by
          rw [show ((i : Int).fmod (r.length : Int)).toNat = i % r.length by rw [Int.fmod_eq_emod_of_nonneg _ (Int.natCast_nonneg _)]; rfl, List.getElem?_map, List.getElem?_eq_getElem hm]; rfl
        have h08 := (S.each r hrm).1
        have hb := fm (i : Int) (b := (r.length : Int)) (by omega)
        refine ws_lets (v := optV r[i % r.length]) (pe_item slot_list_getitem.lookup (pe_name rfl) (pe_bin (pe_name h4) (pe_bi (g_len G) (pes_cons (pe_name rfl) pes_nil) blen) (bin_mod (by omega))) (itm_list hb.1 (by omega) hget')) (.inl rfl) ?_ (by cases r[i % r.length] <;> rfl)
        have hc : cellAt i r = match r[i % r.length] with | some t => t | none => (("NA" : String) : Str) := by
          unfold cellAt; rw [if_neg h0, List.getElem?_eq_getElem hm]
          cases r[i % r.length] <;> rfl
        refine ws_mut (r := .none) (xs := ((rows.take j).map (cellAt i)).map V.str) (vs := [.str (cellAt i r)]) (.head _) (pes_cons ?_ pes_nil) (one_sc rfl)
          PySem.F.slot_list_append PySem.F.type_list_append (mut_append hpl) rfl (ws_nil (ws_nil ⟨h1, h2, h4, ?_, rfl⟩))
        · refine pe_if (c := (optV r[i % r.length]).isNone) (p' := p') (p₁ := p') (pt_cmp (pe_name rfl) pe_none (cmp_is_none (by cases r[i % r.length] <;> rfl))) (fun h => ?_) fun h => ?_
          · rw [hc]
            cases e : r[i % r.length] with
            | none => exact pe_str
            | some t => rw [e] at h; cases h
          · rw [hc]
            cases e : r[i % r.length] with
            | none => rw [e] at h; cases h
            | some t => exact pe_name rfl
        · rw [htk]; rfl
    · obtain ⟨h1, h2, h4, rfl, rfl⟩ := hI
      rw [show (rowsV rows).length = rows.length by simp [rowsV], List.take_length]
      have hn8 := S.n
      refine ws_mut (r := .none) (xs := ((List.range i).map fun k => Txt.join sep (rows.map (cellAt k))).map V.str) (vs := [.str (Txt.join sep (rows.map (cellAt i)))]) (.tail _ (.head _)) (pes_cons (pe_meth (pe_name h2) (pes_cons (pe_name rfl) pes_nil) self_str PySem.F.plainAttrs_str PySem.F.slot_str_join PySem.F.type_str_join (bi_join ?_)) pes_nil) (one_sc rfl)
          PySem.F.slot_list_append PySem.F.type_list_append (mut_append (by rw [List.length_map, List.length_map, List.length_range]; unfold sizeLine; omega)) rfl (ws_forget "parts" (ws_nil ⟨h1, h2, ?_, rfl⟩))
      · refine joinOk (m := 64) (k := 8) (fun x hx => ?_) hs (by rw [List.length_map]; exact hn8) (by decide)
        obtain ⟨r, hr, rfl⟩ := List.mem_map.mp hx
        exact cellAt_len S hr
      · rw [List.range_succ]
        show ([(("found" : Str), a, Ow.list _)] : Own) = _
        simp
  · obtain ⟨h1, h2, rfl, rfl⟩ := hI
    rw [show (intsFrom 0 (widest rows)).length = widest rows by simp [intsFrom]]
    exact ws_reto (.head _) (strsSc _) ⟨rfl, rfl⟩

theorem f_pvecs0 {n : Nat} {rows : List (List (Option Str))} {sep : Str} (S : Small rows) (hs : sep.length ≤ 64) (p : List Int) (P : Option Addr) : Fn pg w g₀ (n + 5) P 60 [.list (rowsV rows), .str sep, .none] p (.list ((pasted rows sep).map .str)) p := by
  obtain ⟨fo, hfo⟩ := (d_ptexts G).at_
  refine fn_of (d_pvecs G) rfl fun L => ?_
  refine ws_own (pe_call (gl_ptexts G) hfo (pes_cons (pe_name rfl) (pes_cons (pe_name rfl) pes_nil)) (f_ptexts G S hs p P)) (.inl rfl) (strsSc _) fun a => ?_
  exact ws_if (b := true) (pt_cmp (pe_name rfl) pe_none (cmp_is_none rfl)) (fun _ => ws_reto (.head _) (strsSc _) ⟨rfl, rfl⟩) fun h => nomatch h
theorem f_pvecs1 {n : Nat} {rows : List (List (Option Str))} {sep col : Str} (S : Small rows) (hs : sep.length ≤ 64) (hok : JoinOk col (pasted rows sep) = true) (p : List Int) (P : Option Addr) :
    Fn pg w g₀ (n + 5) P 60 [.list (rowsV rows), .str sep, .str col] p (.list [.str (Txt.join col (pasted rows sep))]) p := by
  obtain ⟨fo, hfo⟩ := (d_ptexts G).at_
  refine fn_of (d_pvecs G) rfl fun L => ?_
  refine ws_own (pe_call (gl_ptexts G) hfo (pes_cons (pe_name rfl) (pes_cons (pe_name rfl) pes_nil)) (f_ptexts G S hs p P)) (.inl rfl) (strsSc _) fun a => ?_
  refine ws_if (b := false) (pt_cmp (pe_name rfl) pe_none (cmp_is_none rfl)) (fun h => nomatch h) fun _ => ws_nil ?_
  exact ws_retf (pe_list (pes_cons (pe_meth (pe_name rfl) (pes_cons (pe_name rfl) pes_nil) self_str PySem.F.plainAttrs_str PySem.F.slot_str_join PySem.F.type_str_join (bi_join hok)) pes_nil) (by show (1 : Nat) ≤ sizeLine; decide)) ⟨rfl, rfl⟩
end
end Mine
end

section
open PySem PySem.W PyProof.Rows PySem.Calls Builtin.Str
set_option autoImplicit false
set_option Elab.async false
set_option linter.all false
set_option maxRecDepth 100000
namespace Mine
section
variable {prog : Program} {w : World} {g₀ : Heap} {n : Nat} {env : Env} {P : Option Addr} {ρ : Str → Option V} {p p' : List Int} {fr : Bool}
theorem pe_gstr {x : Str} {px : Pos} {z : Str} {t : Tok} (hg : Glb prog w g₀ x (.str z t)) (hk : env.scope.kind = .function := by rfl) (hx : env.kindOf x = some .globalImplicit := by rfl) (h1 : env.globals = mainGlobals := by rfl) (h2 : env.builtins = builtinsNs := by rfl) :
    PE prog w g₀ n env P ρ p (.Name x px) fr (.str z) p := .mk fun A E Q s ok hA S hQ => hg env px A E _ s hk hx h1 h2 S.base (hQ _ s .refl S.pool vr_str)
end

/-- pieces of a text, an empty last one left out -/
noncomputable def splitF (x y : Str) : List Str := if (Txt.split y x).getLastD ("" : String) == (("" : String) : Str) then (Txt.split y x).dropLast else Txt.split y x
noncomputable def substrOf (x : Str) (a b : Int) : Str := if b < max a 1 then ("" : String) else cut x (some (max a 1 - 1)) (some b) none
noncomputable def substrSet (x : Str) (a b : Int) (v : Str) : Str :=
  if min b x.length < max a 1 then x else
    (cut x none (some (max a 1 - 1)) none ++ cut v none (some (min (min b x.length - max a 1 + 1) v.length)) none) ++ cut x (some (max a 1 - 1 + min (min b x.length - max a 1 + 1) v.length)) none none
noncomputable def pre (x y : Str) : Bool := cut x none (some (y.length : Int)) none == y
noncomputable def suf (x y : Str) : Bool := cut x (some (max ((x.length : Int) - y.length) 0)) none none == y
noncomputable def blanks : Str := (" \t\r\n" : String)
theorem cut_len (x : Str) (a b : Option Int) : (cut x a b none).length ≤ x.length := by
  rw [cut_eq]; exact Nat.le_trans (sseg_len' _ _ _) (Nat.sub_le _ _)
theorem add_len (x y : Str) : (x ++ y).length = x.length + y.length := Array.size_append

noncomputable def trimmed (x k : Str) : Str := let t := if k != (("right" : String) : Str) then Txt.lstripChars x blanks else x; if k != (("left" : String) : Str) then Txt.rstripChars t blanks else t
theorem lstrip_len (x y : Str) : (Txt.lstripChars x y).length ≤ x.length := by
  unfold Txt.lstripChars Txt.stripBy
  split
  · exact Nat.le_refl _
  · exact strSub_length_le ..
section
variable {w : World} {mg mb : Str → Option Value} {g₀ : Heap} (G : Gr w mg mb g₀)
include G
theorem g_blanks : Glb pg w g₀ "BLANKS" (.str blanks 236) := glb_own G (by kernel_rfl)
theorem d_split : DefOk g₀ 67 (fdAt (KK w.params) 67) ["text", "sep"] (bdAt (KK w.params) 67) :=
  def_ok G (by kernel_rfl) (len2 fun a b => by kernel_rfl)
theorem d_subof : DefOk g₀ 74 (fdAt (KK w.params) 74) ["text", "start", "stop"] (bdAt (KK w.params) 74) :=
  def_ok G (by kernel_rfl) (len3 fun a b c => by kernel_rfl)
theorem d_subset : DefOk g₀ 81 (fdAt (KK w.params) 81) ["text", "start", "stop", "value"] (bdAt (KK w.params) 81) :=
  def_ok G (by kernel_rfl) (len4 fun a b c d => by kernel_rfl)
theorem d_trim : DefOk g₀ 88 (fdAt (KK w.params) 88) ["text", "which"] (bdAt (KK w.params) 88) :=
  def_ok G (by kernel_rfl) (len2 fun a b => by kernel_rfl)
theorem d_starts : DefOk g₀ 95 (fdAt (KK w.params) 95) ["text", "head"] (bdAt (KK w.params) 95) :=
  def_ok G (by kernel_rfl) (len2 fun a b => by kernel_rfl)
theorem d_ends : DefOk g₀ 102 (fdAt (KK w.params) 102) ["text", "tail"] (bdAt (KK w.params) 102) :=
  def_ok G (by kernel_rfl) (len2 fun a b => by kernel_rfl)
theorem d_rev : DefOk g₀ 135 (fdAt (KK w.params) 135) ["text"] (bdAt (KK w.params) 135) :=
  def_ok G (by kernel_rfl) (len1 fun a => by kernel_rfl)
theorem d_rep : DefOk g₀ 142 (fdAt (KK w.params) 142) ["text", "count"] (bdAt (KK w.params) 142) :=
  def_ok G (by kernel_rfl) (len2 fun a b => by kernel_rfl)
theorem gl_split : Glb pg w g₀ "split_fixed" (.ref 67) := glb_own G (by kernel_rfl)
theorem gl_subof : Glb pg w g₀ "substr_of" (.ref 74) := glb_own G (by kernel_rfl)
theorem gl_subset : Glb pg w g₀ "substr_assign" (.ref 81) := glb_own G (by kernel_rfl)
theorem gl_trim : Glb pg w g₀ "trim" (.ref 88) := glb_own G (by kernel_rfl)
theorem gl_starts : Glb pg w g₀ "starts_with" (.ref 95) := glb_own G (by kernel_rfl)
theorem gl_ends : Glb pg w g₀ "ends_with" (.ref 102) := glb_own G (by kernel_rfl)
theorem gl_rev : Glb pg w g₀ "rev_text" (.ref 135) := glb_own G (by kernel_rfl)
theorem gl_rep : Glb pg w g₀ "repeat_text" (.ref 142) := glb_own G (by kernel_rfl)

theorem f_split_none {n : Nat} {v : V} (p : List Int) (P : Option Addr) : Fn pg w g₀ (n + 2) P 67 [.none, v] p (.list [.none]) p := by
  refine fn_of (d_split G) rfl fun L => ?_
  exact ws_if (b := true) (pt_cmp (pe_name rfl) pe_none (cmp_is_none rfl)) (fun _ => ws_retf (pe_list (pes_cons pe_none pes_nil) (by show (1 : Nat) ≤ sizeLine; decide)) ⟨rfl, rfl⟩) fun h => nomatch h
theorem f_split_all {n : Nat} {y : Str} (hy : y.length ≤ 2 ^ 20) (p : List Int) (P : Option Addr) : Fn pg w g₀ (n + 3) P 67 [.str y, .str ("" : String)] p (.list (signs y)) p := by
  refine fn_of (d_split G) rfl fun L => ?_
  refine ws_if (b := false) (pt_cmp (pe_name rfl) pe_none (cmp_is_none rfl)) (fun h => nomatch h) fun _ => ws_nil ?_
  refine ws_if (b := true) (pt_cmp (pe_name rfl) pe_str cmp_eq_str.cmp) (fun _ => ws_retf (pe_bi (g_list G) (pes_cons (pe_name rfl) pes_nil) (bi_list_str (by unfold sizeLine; omega))) ⟨rfl, rfl⟩) fun h => nomatch h
theorem f_split {n : Nat} {x y : Str} (hx : x.length ≠ 0) (hy : y.length ≤ 2 ^ 8) (hn : (Txt.split y x).length ≤ 2 ^ 10) (hn0 : Txt.split y x ≠ []) (hpn : (partsBetween y (occurrences y x 0 y.length (y.length + 1)) x.length).length ≤ sizeLine) (p : List Int) (P : Option Addr) :
    Fn pg w g₀ (n + 3) P 67 [.str y, .str x] p (.list ((splitF x y).map .str)) p := by
  refine fn_of (d_split G) rfl fun L => ?_
  have hne : (x == (("" : String) : Str)) = false := by
    rw [beq_eq_false_iff_ne]; rintro rfl; exact hx rfl
  refine ws_if (b := false) (pt_cmp (pe_name rfl) pe_none (cmp_is_none rfl)) (fun h => nomatch h) fun _ => ws_nil ?_
  refine ws_if (b := x == (("" : String) : Str)) (pt_cmp (pe_name rfl) pe_str cmp_eq_str.cmp) (fun h => ?_) fun _ => ws_nil ?_
  · rw [hne] at h; cases h
  refine ws_own (pe_meth (pe_name rfl) (pes_cons (pe_name rfl) pes_nil) self_str PySem.F.plainAttrs_str PySem.F.slot_str_split PySem.F.type_str_split (bi_split (by unfold sizeLine; omega) (by simpa using hx) hpn)) (.inl rfl) (strsSc _) fun a => ?_
  unfold splitF
  obtain ⟨q, z, e⟩ : ∃ q z, Txt.split y x = q ++ [z] := by
    rcases List.eq_nil_or_concat (Txt.split y x) with h | ⟨q, z, h⟩
    · exact absurd h hn0
    · exact ⟨q, z, by rw [h, List.concat_eq_append]⟩
  rw [e] at hn ⊢
  rw [List.length_append] at hn
  have hl : ((q ++ [z]).getLastD ("" : String)) = z := by simp
  rw [hl, List.dropLast_concat]
  have hz1 : ((q ++ [z]).map V.str)[((-1 : Int) + ((q ++ [z]).map V.str).length).toNat]? = some (V.str z) := by
    rw [List.length_map, List.length_append, List.getElem?_map]
    rw [show ((-1 : Int) + ((q.length + [z].length : Nat) : Int)).toNat = q.length by simp; omega]
    simp
  refine ws_if (b := z == (("" : String) : Str)) (pt_cmp (pe_item slot_list_getitem.lookup (pe_name rfl) (pe_un pe_int un_neg) (itm_list_neg (by decide) (by rw [List.length_map, List.length_append]; simp; omega) (by decide) hz1)) pe_str cmp_eq_str.cmp) (fun h => ?_) fun h => ws_nil ?_
  · rw [h, if_pos rfl]
    refine ws_mut (r := .str z) (xs := (q ++ [z]).map V.str) (xs' := q.map V.str) (vs := []) (.head _) pes_nil (fun v hv => nomatch hv)
      PySem.F.slot_list_pop PySem.F.type_list_pop (by rw [List.map_append]; exact mut_pop rfl (by rw [List.length_map]; unfold sizeLine; omega)) rfl (ws_nil (ws_reto (.head _) (strsSc _) ⟨rfl, rfl⟩))
  · rw [h, if_neg (by decide)]
    exact ws_reto (.head _) (strsSc _) ⟨rfl, rfl⟩

theorem f_subof_none {n : Nat} {u v : V} (p : List Int) (P : Option Addr) : Fn pg w g₀ (n + 2) P 74 [.none, u, v] p .none p := by
  refine fn_of (d_subof G) rfl fun L => ?_
  exact ws_if (b := true) (pt_or (b := true) (c := true) (pt_cmp (pe_name rfl) pe_none (cmp_is_none rfl)) (fun h => nomatch h) fun _ => ⟨rfl, rfl⟩) (fun _ => ws_ret pe_none ⟨rfl, rfl⟩) fun h => nomatch h
theorem f_subof {n : Nat} {x : Str} {a b : Int} (hx : x.length ≤ 2 ^ 20) (p : List Int) (P : Option Addr) : Fn pg w g₀ (n + 3) P 74 [.str x, .int a, .int b] p (.str (substrOf x a b)) p := by
  refine fn_of (d_subof G) rfl fun L => ?_
  refine ws_if (b := false || (false || (false || false))) (pt_or' (pt_cmp (pe_name rfl) pe_none (cmp_is_none rfl)) (pt_or' (pt_cmp (pe_name rfl) pe_none (cmp_is_none rfl)) (pt_or' (pt_cmp (pe_name rfl) pe_none (cmp_is_none rfl)) pt_or_nil))) (fun h => nomatch h) fun _ => ws_nil ?_
  refine ws_lets (pe_bi (g_max G) (pes_cons (pe_name rfl) (pes_cons pe_int pes_nil)) bi_max2) (.inl rfl) ?_
  unfold substrOf
  refine ws_if (b := decide (b < max a 1)) (pt_cmp (pe_name rfl) (pe_name rfl) cmp_lt_int.cmp) (fun h => ?_) fun h => ws_nil ?_
  · rw [if_pos (by simpa using h)]; exact ws_ret pe_str ⟨rfl, rfl⟩
  · rw [if_neg (by simpa using h)]
    exact ws_ret (pe_cut (pe_name rfl) (po_some (pe_bin (pe_name rfl) pe_int bin_sub)) (po_some (pe_name rfl)) (by unfold sizeLine; omega)) ⟨rfl, rfl⟩
theorem f_subset_none {n : Nat} {x : Str} {a b : Int} (p : List Int) (P : Option Addr) : Fn pg w g₀ (n + 2) P 81 [.str x, .int a, .int b, .none] p .none p := by
  refine fn_of (d_subset G) rfl fun L => ?_
  exact ws_if (b := false || (false || (false || (true || false)))) (pt_or' (pt_cmp (pe_name rfl) pe_none (cmp_is_none rfl)) (pt_or' (pt_cmp (pe_name rfl) pe_none (cmp_is_none rfl)) (pt_or' (pt_cmp (pe_name rfl) pe_none (cmp_is_none rfl)) (pt_or' (pt_cmp (pe_name rfl) pe_none (cmp_is_none rfl)) pt_or_nil)))) (fun _ => ws_ret pe_none ⟨rfl, rfl⟩) fun h => nomatch h
theorem f_subset {n : Nat} {x v : Str} {a b : Int} (hx : x.length ≤ 2 ^ 20) (hv : v.length ≤ 2 ^ 20) (p : List Int) (P : Option Addr) : Fn pg w g₀ (n + 3) P 81 [.str x, .int a, .int b, .str v] p (.str (substrSet x a b v)) p := by
  have sx : x.length ≤ sizeLine := by unfold sizeLine; omega
  have sv : v.length ≤ sizeLine := by unfold sizeLine; omega
  refine fn_of (d_subset G) rfl fun L => ?_
  refine ws_if (b := false || (false || (false || (false || false)))) (pt_or' (pt_cmp (pe_name rfl) pe_none (cmp_is_none rfl)) (pt_or' (pt_cmp (pe_name rfl) pe_none (cmp_is_none rfl)) (pt_or' (pt_cmp (pe_name rfl) pe_none (cmp_is_none rfl)) (pt_or' (pt_cmp (pe_name rfl) pe_none (cmp_is_none rfl)) pt_or_nil)))) (fun h => nomatch h) fun _ => ws_nil ?_
  refine ws_lets (pe_bi (g_max G) (pes_cons (pe_name rfl) (pes_cons pe_int pes_nil)) bi_max2) (.inl rfl) ?_
  refine ws_lets (pe_bi (g_min G) (pes_cons (pe_name rfl) (pes_cons (pe_bi (g_len G) (pes_cons (pe_name rfl) pes_nil) (bi_len_str sx)) pes_nil)) bi_min2) (.inl rfl) ?_
  unfold substrSet
  refine ws_if (b := decide (min b x.length < max a 1)) (pt_cmp (pe_name rfl) (pe_name rfl) cmp_lt_int.cmp) (fun h => ?_) fun h => ws_nil ?_
  · rw [if_pos (by simpa using h)]; exact ws_ret (pe_name rfl) ⟨rfl, rfl⟩
  · rw [if_neg (by simpa using h)]
    refine ws_lets (pe_bi (g_min G) (pes_cons (pe_bin (pe_bin (pe_name rfl) (pe_name rfl) bin_sub) pe_int bin_add) (pes_cons (pe_bi (g_len G) (pes_cons (pe_name rfl) pes_nil) (bi_len_str sv)) pes_nil)) bi_min2) (.inl rfl) ?_
    have l1 := cut_len x none (some (max a 1 - 1))
    have l2 := cut_len v none (some (min (min b x.length - max a 1 + 1) v.length))
    have l3 := cut_len x (some (max a 1 - 1 + min (min b x.length - max a 1 + 1) v.length)) none
    exact ws_ret (pe_bin (pe_bin (pe_cut (pe_name rfl) po_none (po_some (pe_bin (pe_name rfl) pe_int bin_sub)) sx) (pe_cut (pe_name rfl) po_none (po_some (pe_name rfl)) sv) (bin_cat (by rw [add_len]; unfold sizeLine; omega)))
      (pe_cut (pe_name rfl) (po_some (pe_bin (pe_bin (pe_name rfl) pe_int bin_sub) (pe_name rfl) bin_add)) po_none sx) (bin_cat (by rw [add_len, add_len]; unfold sizeLine; omega))) ⟨rfl, rfl⟩

theorem f_trim_none {n : Nat} {v : V} (p : List Int) (P : Option Addr) : Fn pg w g₀ (n + 2) P 88 [.none, v] p .none p := by
  refine fn_of (d_trim G) rfl fun L => ?_
  exact ws_if (b := true) (pt_cmp (pe_name rfl) pe_none (cmp_is_none rfl)) (fun _ => ws_ret pe_none ⟨rfl, rfl⟩) fun h => nomatch h
theorem trim_rest {n : Nat} {x k : Str} (hx : x.length ≤ 2 ^ 20) {ρ : Str → Option V} {L : Addr} {p : List Int} {P : Option Addr} (h1 : ρ "text" = some (.str x)) (h2 : ρ "which" = some (.str k)) :
    WS pg w g₀ (n + 2) (callEnvC (fdAt (KK w.params) 88) L 88) P ρ [] p ((bdAt (KK w.params) 88).drop 2) (QR (.str (if k != (("left" : String) : Str) then Txt.rstripChars x blanks else x)) p) := by
  refine ws_if (b := k != (("left" : String) : Str)) (pt_cmp (pe_name h2) pe_str cmp_ne_str.cmp) (fun h => ?_) fun h => ws_nil ?_
  · rw [h, if_pos rfl]
    refine ws_lets (v := .str (Txt.rstripChars x blanks)) (pe_meth (pe_name h1) (pes_cons (pe_gstr (g_blanks G)) pes_nil) self_str PySem.F.plainAttrs_str PySem.F.slot_str_rstrip PySem.F.type_str_rstrip (bi_rstrip (by unfold sizeLine; omega))) (.inl rfl) (ws_nil ?_)
    exact ws_ret (pe_name rfl) ⟨rfl, rfl⟩
  · rw [h, if_neg (by decide)]
    exact ws_ret (pe_name h1) ⟨rfl, rfl⟩
theorem f_trim {n : Nat} {x k : Str} (hx : x.length ≤ 2 ^ 20) (p : List Int) (P : Option Addr) : Fn pg w g₀ (n + 3) P 88 [.str x, .str k] p (.str (trimmed x k)) p := by
  refine fn_of (d_trim G) rfl fun L => ?_
  refine ws_if (b := false) (pt_cmp (pe_name rfl) pe_none (cmp_is_none rfl)) (fun h => nomatch h) fun _ => ws_nil ?_
  unfold trimmed
  refine ws_if (b := k != (("right" : String) : Str)) (pt_cmp (pe_name rfl) pe_str cmp_ne_str.cmp) (fun h => ?_) fun h => ws_nil ?_
  · rw [h]; rw [if_pos (show true = true by rfl)]
    refine ws_lets (v := .str (Txt.lstripChars x blanks)) (pe_meth (pe_name rfl) (pes_cons (pe_gstr (g_blanks G)) pes_nil) self_str PySem.F.plainAttrs_str PySem.F.slot_str_lstrip PySem.F.type_str_lstrip (bi_lstrip (by unfold sizeLine; omega))) (.inl rfl) (ws_nil ?_)
    exact trim_rest G (Nat.le_trans (lstrip_len _ _) hx) rfl rfl
  · rw [h]; rw [if_neg (show ¬ (false = true) by decide)]
    exact trim_rest G hx rfl rfl

theorem f_starts_none {n : Nat} {v : V} (p : List Int) (P : Option Addr) : Fn pg w g₀ (n + 2) P 95 [.none, v] p .none p := by
  refine fn_of (d_starts G) rfl fun L => ?_
  exact ws_if (b := true) (pt_or (b := true) (c := true) (pt_cmp (pe_name rfl) pe_none (cmp_is_none rfl)) (fun h => nomatch h) fun _ => ⟨rfl, rfl⟩) (fun _ => ws_ret pe_none ⟨rfl, rfl⟩) fun h => nomatch h
theorem f_starts {n : Nat} {x y : Str} (hx : x.length ≤ 2 ^ 20) (hy : y.length ≤ 2 ^ 20) (p : List Int) (P : Option Addr) : Fn pg w g₀ (n + 3) P 95 [.str x, .str y] p (.int (if pre x y then 1 else 0)) p := by
  refine fn_of (d_starts G) rfl fun L => ?_
  refine ws_if (b := false || (false || false)) (pt_or' (pt_cmp (pe_name rfl) pe_none (cmp_is_none rfl)) (pt_or' (pt_cmp (pe_name rfl) pe_none (cmp_is_none rfl)) pt_or_nil)) (fun h => nomatch h) fun _ => ws_nil ?_
  refine ws_ret (pe_if (c := pre x y) (pt_cmp (pe_cut (pe_name rfl) po_none (po_some (pe_bi (g_len G) (pes_cons (pe_name rfl) pes_nil) (bi_len_str (by unfold sizeLine; omega)))) (by unfold sizeLine; omega)) (pe_name rfl) cmp_eq_str.cmp) (fun h => ?_) fun h => ?_) ⟨rfl, rfl⟩
  · rw [if_pos h]; exact pe_int
  · rw [if_neg (by rw [h]; decide)]; exact pe_int
theorem f_ends {n : Nat} {x y : Str} (hx : x.length ≤ 2 ^ 20) (hy : y.length ≤ 2 ^ 20) (p : List Int) (P : Option Addr) : Fn pg w g₀ (n + 3) P 102 [.str x, .str y] p (.int (if suf x y then 1 else 0)) p := by
  refine fn_of (d_ends G) rfl fun L => ?_
  refine ws_if (b := false || (false || false)) (pt_or' (pt_cmp (pe_name rfl) pe_none (cmp_is_none rfl)) (pt_or' (pt_cmp (pe_name rfl) pe_none (cmp_is_none rfl)) pt_or_nil)) (fun h => nomatch h) fun _ => ws_nil ?_
  refine ws_ret (pe_if (c := suf x y) (pt_cmp (pe_cut (pe_name rfl) (po_some (pe_bi (g_max G) (pes_cons (pe_bin (pe_bi (g_len G) (pes_cons (pe_name rfl) pes_nil) (bi_len_str (by unfold sizeLine; omega))) (pe_bi (g_len G) (pes_cons (pe_name rfl) pes_nil) (bi_len_str (by unfold sizeLine; omega))) bin_sub) (pes_cons pe_int pes_nil)) bi_max2)) po_none (by unfold sizeLine; omega)) (pe_name rfl) cmp_eq_str.cmp) (fun h => ?_) fun h => ?_) ⟨rfl, rfl⟩
  · rw [if_pos h]; exact pe_int
  · rw [if_neg (by rw [h]; decide)]; exact pe_int
theorem f_rev_none {n : Nat} (p : List Int) (P : Option Addr) : Fn pg w g₀ (n + 2) P 135 [.none] p .none p := by
  refine fn_of (d_rev G) rfl fun L => ?_
  exact ws_ret (pe_if (c := true) (pt_cmp (pe_name rfl) pe_none (cmp_is_none rfl)) (fun _ => pe_none) fun h => nomatch h) ⟨rfl, rfl⟩
theorem f_rev {n : Nat} {x : Str} (hx : x.length ≤ 2 ^ 20) (p : List Int) (P : Option Addr) : Fn pg w g₀ (n + 2) P 135 [.str x] p (.str (rev x)) p := by
  refine fn_of (d_rev G) rfl fun L => ?_
  exact ws_ret (pe_if (c := false) (pt_cmp (pe_name rfl) pe_none (cmp_is_none rfl)) (fun h => nomatch h) fun _ => pe_rev (pe_name rfl) (po_some (pe_un pe_int un_neg)) (by unfold sizeLine; omega)) ⟨rfl, rfl⟩
theorem f_rep_none {n : Nat} {v : V} (p : List Int) (P : Option Addr) : Fn pg w g₀ (n + 2) P 142 [.none, v] p .none p := by
  refine fn_of (d_rep G) rfl fun L => ?_
  exact ws_if (b := true) (pt_or (b := true) (c := true) (pt_cmp (pe_name rfl) pe_none (cmp_is_none rfl)) (fun h => nomatch h) fun _ => ⟨rfl, rfl⟩) (fun _ => ws_ret pe_none ⟨rfl, rfl⟩) fun h => nomatch h
theorem f_rep {n : Nat} {x : Str} {k : Int} (h0 : 0 ≤ k) (hok : MulOk x k) (p : List Int) (P : Option Addr) : Fn pg w g₀ (n + 2) P 142 [.str x, .int k] p (.str (Txt.mul x k)) p := by
  refine fn_of (d_rep G) rfl fun L => ?_
  refine ws_if (b := false || (false || false)) (pt_or' (pt_cmp (pe_name rfl) pe_none (cmp_is_none rfl)) (pt_or' (pt_cmp (pe_name rfl) pe_none (cmp_is_none rfl)) pt_or_nil)) (fun h => nomatch h) fun _ => ws_nil ?_
  refine ws_if (b := decide (k < 0)) (pt_cmp (pe_name rfl) pe_int cmp_lt_int.cmp) (fun h => ?_) fun _ => ws_nil ?_
  · simp at h; omega
  · exact ws_ret (pe_bin (pe_name rfl) (pe_name rfl) (bin_rep hok)) ⟨rfl, rfl⟩
end
end Mine
end

section
open PySem PySem.W PyProof.Rows PySem.Calls Builtin.Str
set_option autoImplicit false
set_option Elab.async false
set_option linter.all false
set_option maxRecDepth 100000
namespace Mine

noncomputable def subP (x new y : Str) : List Nat → Nat → List Str
  | [], a => [sseg y a y.length]
  | s :: r, a => sseg y a s :: new :: subP x new y r (s + x.length)
noncomputable def subbed (x new y : Str) (every : Bool) : Str := Txt.join ("" : String) (subP x new y (if every then spots x y else (spots x y).take 1) 0)
theorem hd1_cons {s : Nat} {r : List Nat} : hd1 (s :: r) = (s : Int) := rfl
theorem ne_empty {x : Str} (h : 0 < x.length) : (x != (("" : String) : Str)) = true := by
  rw [bne_iff_ne]; rintro rfl; exact absurd h (by decide)
theorem eq_empty {x : Str} (h : 0 < x.length) : (x == (("" : String) : Str)) = false := by
  rw [beq_eq_false_iff_ne]; rintro rfl; exact absurd h (by decide)
theorem spots_def {x y : Str} (h : 0 < x.length) : spots x y = spotsF x y (y.length + 1) 0 := by unfold spots; rw [if_neg (by omega)]

section
variable {w : World} {mg mb : Str → Option Value} {g₀ : Heap} (G : Gr w mg mb g₀)
include G
theorem d_ffix : DefOk g₀ 116 (fdAt (KK w.params) 116) ["pattern", "text"] (bdAt (KK w.params) 116) :=
  def_ok G (by kernel_rfl) (len2 fun a b => by kernel_rfl)
theorem d_sub : DefOk g₀ 109 (fdAt (KK w.params) 109) ["pattern", "replacement", "text", "every"] (bdAt (KK w.params) 109) :=
  def_ok G (by kernel_rfl) (len4 fun a b c d => by kernel_rfl)
theorem gl_ffix : Glb pg w g₀ "find_fixed" (.ref 116) := glb_own G (by kernel_rfl)
theorem gl_sub : Glb pg w g₀ "sub_fixed" (.ref 109) := glb_own G (by kernel_rfl)

theorem f_ffix {n : Nat} {x y : Str} (hx : 0 < x.length) (hx2 : x.length ≤ 2 ^ 8) (hy : y.length ≤ 2 ^ 8) (p : List Int) (P : Option Addr) : Fn pg w g₀ (n + 3) P 116 [.str x, .str y] p (.list (((spots x y).map (· + 1)).map natV)) p := by
  have sx : x.length ≤ sizeLine := by unfold sizeLine; omega
  refine fn_of (d_ffix G) rfl fun L => ?_
  refine ws_own (pe_list pes_nil (by decide)) (.inl rfl) (fun _ h => nomatch h) fun a => ?_
  refine ws_lets (v := .int (hd1 (spots x y))) (by rw [spots_def hx, ← find_spots hx]; exact pe_meth (pe_name rfl) (pes_cons (pe_name rfl) pes_nil) self_str PySem.F.plainAttrs_str PySem.F.slot_str_find PySem.F.type_str_find bi_find) (.inl rfl) ?_
  have hsl : (spots x y).length ≤ y.length + 1 := by rw [spots_def hx]; exact spotsF_len _ _ _ _
  refine ws_while (fun k ρ' own' p' => ∃ K b fnd, ρ' "pattern" = some (.str x) ∧ ρ' "text" = some (.str y) ∧ ρ' "at" = some (.int (hd1 (spotsF x y K b))) ∧ own' = ([(("found" : Str), a, Ow.list (fnd.map natV))] : Own) ∧ p' = p ∧
      fnd ++ (spotsF x y K b).map (· + 1) = (spots x y).map (· + 1) ∧ y.length + 1 ≤ b + K ∧ k = (spotsF x y K b).length) (spots x y).length ⟨y.length + 1, 0, [], rfl, rfl, by rw [← spots_def hx]; rfl, rfl, rfl, by rw [← spots_def hx]; rfl, by omega, by rw [← spots_def hx]⟩ fun k ρ' own' p' hI => ?_
  obtain ⟨K, b, fnd, h1, h2, h3, rfl, rfl, h4, h5, h6⟩ := hI
  have hfl : fnd.length ≤ y.length + 1 := by
    have := congrArg List.length h4
    rw [List.length_append, List.length_map, List.length_map] at this
    omega
  refine ⟨decide (hd1 (spotsF x y K b) ≥ 0) && ((x != (("" : String) : Str)) && true), p', pt_and' (pt_cmp (pe_name h3) pe_int cmp_ge_int.cmp) (pt_and' (pt_cmp (pe_name h1) pe_str cmp_ne_str.cmp) pt_and_nil), fun hb => ?_, fun hb => ?_⟩
  · cases e : spotsF x y K b with
    | nil => rw [e] at hb; simp [hd1] at hb
    | cons s r =>
      rw [e] at h3 h4 h6
      obtain ⟨g1, g2, g3⟩ := spotsF_step hx K b s r e h5
      have g4 := g3 (y.length + 1) (by omega)
      have hf : Txt.find3 y x ((s : Int) + (x.length : Int)) = hd1 r := by
        rw [show (s : Int) + (x.length : Int) = ((s + x.length : Nat) : Int) by omega, find3_spots hx _ (y.length + 1) g2 (by omega), g4]
      refine ws_mut (r := .none) (xs := fnd.map natV) (vs := [natV (s + 1)]) (.head _) (pes_cons (by rw [show natV (s + 1) = V.int ((s : Int) + 1) by unfold natV; congr 1]; exact pe_bin (pe_name h3) pe_int bin_add) pes_nil) (one_sc rfl)
        PySem.F.slot_list_append PySem.F.type_list_append (mut_append (by rw [List.length_map]; unfold sizeLine; omega)) rfl ?_
      refine ws_lets (v := .int (hd1 r)) (by rw [← hf]; exact pe_meth (pe_name h2) (pes_cons (pe_name h1) (pes_cons (pe_bin (pe_name h3) (pe_bi (g_len G) (pes_cons (pe_name h1) pes_nil) (bi_len_str sx)) bin_add) pes_nil)) self_str PySem.F.plainAttrs_str PySem.F.slot_str_find PySem.F.type_str_find bi_find3) (.inl rfl) (ws_nil ?_)
      refine ⟨r.length, by rw [h6, List.length_cons]; omega, y.length + 1, s + x.length, fnd ++ [s + 1], h1, h2, by rw [g4]; rfl, ?_, rfl, by rw [g4, ← h4]; simp, by omega, by rw [g4]⟩
      show ([(("found" : Str), a, Ow.list (fnd.map natV ++ [natV (s + 1)]))] : Own) = _
      rw [List.map_append]; rfl
  · have hnil : spotsF x y K b = [] := by
      cases e : spotsF x y K b with
      | nil => rfl
      | cons s r =>
        rw [e, ne_empty hx] at hb
        simp [hd1] at hb
    rw [hnil, List.map_nil, List.append_nil] at h4
    rw [← h4]
    exact ws_reto (.head _) (natsSc _) ⟨rfl, rfl⟩

theorem f_sub_none {n : Nat} {x y : Str} {every : Bool} (hx : 0 < x.length) (hc : spots x y ≠ []) (p : List Int) (P : Option Addr) : Fn pg w g₀ (n + 3) P 109 [.str x, .none, .str y, .bool every] p .none p := by
  refine fn_of (d_sub G) rfl fun L => ?_
  refine ws_if (b := x == (("" : String) : Str)) (pt_cmp (pe_name rfl) pe_str cmp_eq_str.cmp) (fun h => ?_) fun _ => ws_nil ?_
  · rw [eq_empty hx] at h; cases h
  refine ws_if (b := false) (pt_cmp (pe_name rfl) pe_none (cmp_is_none rfl)) (fun h => nomatch h) fun _ => ws_nil ?_
  refine ws_lets (v := .int (hd1 (spots x y))) (by rw [spots_def hx, ← find_spots hx]; exact pe_meth (pe_name rfl) (pes_cons (pe_name rfl) pes_nil) self_str PySem.F.plainAttrs_str PySem.F.slot_str_find PySem.F.type_str_find bi_find) (.inl rfl) ?_
  refine ws_if (b := decide (hd1 (spots x y) ≥ 0) && (true && true)) (pt_and' (pt_cmp (pe_name rfl) pe_int cmp_ge_int.cmp) (pt_and' (pt_cmp (pe_name rfl) pe_none (cmp_is_none rfl)) pt_and_nil)) (fun _ => ws_ret pe_none ⟨rfl, rfl⟩) fun h => ?_
  cases e : spots x y with
  | nil => exact absurd e hc
  | cons s r => rw [e] at h; simp [hd1] at h

theorem f_sub {n : Nat} {x new y : Str} {every : Bool} (hx : 0 < x.length) (hx2 : x.length ≤ 2 ^ 8) (hy : y.length ≤ 2 ^ 8) (hn : new.length ≤ 2 ^ 8) (p : List Int) (P : Option Addr) : Fn pg w g₀ (n + 3) P 109 [.str x, .str new, .str y, .bool every] p (.str (subbed x new y every)) p := by
  have sx : x.length ≤ sizeLine := by unfold sizeLine; omega
  have sy : y.length ≤ sizeLine := by unfold sizeLine; omega
  refine fn_of (d_sub G) rfl fun L => ?_
  refine ws_if (b := x == (("" : String) : Str)) (pt_cmp (pe_name rfl) pe_str cmp_eq_str.cmp) (fun h => ?_) fun _ => ws_nil ?_
  · rw [eq_empty hx] at h; cases h
  refine ws_if (b := false) (pt_cmp (pe_name rfl) pe_none (cmp_is_none rfl)) (fun h => nomatch h) fun _ => ws_nil ?_
  refine ws_lets (v := .int (hd1 (spots x y))) (by rw [spots_def hx, ← find_spots hx]; exact pe_meth (pe_name rfl) (pes_cons (pe_name rfl) pes_nil) self_str PySem.F.plainAttrs_str PySem.F.slot_str_find PySem.F.type_str_find bi_find) (.inl rfl) ?_
  refine ws_if (b := decide (hd1 (spots x y) ≥ 0) && (false && true)) (pt_and' (pt_cmp (pe_name rfl) pe_int cmp_ge_int.cmp) (pt_and' (pt_cmp (pe_name rfl) pe_none (cmp_is_none rfl)) pt_and_nil)) (fun h => ?_) fun _ => ws_nil ?_
  · simp at h
  refine ws_own (pe_list pes_nil (by decide)) (.inl rfl) (fun _ h => nomatch h) fun a => ?_
  refine ws_lets (v := natV 0) pe_int (.inl rfl) ?_
  have hsl : (spots x y).length ≤ y.length + 1 := by rw [spots_def hx]; exact spotsF_len _ _ _ _
  generalize hT : subP x new y (if every then spots x y else (spots x y).take 1) 0 = T
  have hTl : T.length ≤ 2 * (y.length + 1) + 1 := by
    have : ∀ (l : List Nat) (a : Nat), (subP x new y l a).length = 2 * l.length + 1 := by
      intro l
      induction l with
      | nil => intro a; rfl
      | cons s r ih => intro a; simp only [subP, List.length_cons, ih]; omega
    rw [← hT, this]
    split
    · omega
    · have := List.length_take_le 1 (spots x y); omega
  have hTe : ∀ z ∈ T, z.length ≤ 2 ^ 8 := by
    have : ∀ (l : List Nat) (a : Nat), ∀ z ∈ subP x new y l a, z.length ≤ 2 ^ 8 := by
      intro l
      induction l with
      | nil => intro a z hz; simp only [subP, List.mem_singleton] at hz; subst hz; exact Nat.le_trans (sseg_len' _ _ _) (by omega)
      | cons s r ih =>
        intro a z hz
        simp only [subP, List.mem_cons] at hz
        rcases hz with rfl | rfl | hz
        · exact Nat.le_trans (sseg_len' _ _ _) (by omega)
        · exact hn
        · exact ih _ z hz
    rw [← hT]; exact this _ _
  have rest : ∀ (ρ' : Str → Option V) (b : Nat) (pts : List Str), ρ' "text" = some (.str y) → ρ' "start" = some (natV b) → b ≤ y.length → pts ++ [sseg y b y.length] = T →
      WS pg w g₀ (n + 2) (callEnvC (fdAt (KK w.params) 109) L 109) P ρ' ([(("parts" : Str), a, Ow.list (pts.map V.str))] : Own) p ((bdAt (KK w.params) 109).drop 7) (QR (.str (subbed x new y every)) p) := fun ρ' b pts h1 h2 h3 h4 => by
    have hpl : pts.length ≤ 600 := by have := congrArg List.length h4; rw [List.length_append] at this; omega
    refine ws_mut (r := .none) (xs := pts.map V.str) (vs := [.str (sseg y b y.length)]) (.head _) (pes_cons (by rw [← cut_from y b h3]; exact pe_cut (pe_name h1) (po_some (pe_name h2)) po_none sy) pes_nil) (one_sc rfl)
        PySem.F.slot_list_append PySem.F.type_list_append (mut_append (by rw [List.length_map]; unfold sizeLine; omega)) rfl ?_
    unfold subbed
    rw [hT]
    refine ws_ret (pe_meth pe_str (pes_cons (pe_name (v := .list (T.map V.str)) (by rw [← h4, List.map_append]; rfl)) pes_nil) self_str PySem.F.plainAttrs_str PySem.F.slot_str_join PySem.F.type_str_join
      (bi_join (joinOk (m := 2 ^ 8) (k := 600) hTe (by decide) (by omega) (by decide)))) ⟨rfl, rfl⟩
  refine ws_while (fun k ρ' own' p' => ∃ K b pts, ρ' "pattern" = some (.str x) ∧ ρ' "replacement" = some (.str new) ∧ ρ' "text" = some (.str y) ∧ ρ' "every" = some (.bool every) ∧ ρ' "at" = some (.int (hd1 (spotsF x y K b))) ∧ ρ' "start" = some (natV b) ∧
      own' = ([(("parts" : Str), a, Ow.list (pts.map V.str))] : Own) ∧ p' = p ∧
      pts ++ subP x new y (if every then spotsF x y K b else (spotsF x y K b).take 1) b = T ∧ y.length + 1 ≤ b + K ∧ b ≤ y.length ∧ k = (spotsF x y K b).length) (spots x y).length ⟨y.length + 1, 0, [], rfl, rfl, rfl, rfl, by rw [← spots_def hx]; rfl, rfl, rfl, rfl, by rw [← spots_def hx]; exact hT, by omega, by omega, by rw [← spots_def hx]⟩ fun k ρ' own' p' hI => ?_
  obtain ⟨K, b, pts, h1, h2, h3, h4, h5, h6, rfl, rfl, h7, h8, h9, h10⟩ := hI
  have hpl : pts.length ≤ 600 := by have := congrArg List.length h7; rw [List.length_append] at this; omega
  refine ⟨decide (hd1 (spotsF x y K b) ≥ 0), p', pt_cmp (pe_name h5) pe_int cmp_ge_int.cmp, fun hb => ?_, fun hb => ?_⟩
  · cases e : spotsF x y K b with
    | nil => rw [e] at hb; simp [hd1] at hb
    | cons s r =>
      rw [e] at h5 h7 h10
      obtain ⟨g1, g2, g3⟩ := spotsF_step hx K b s r e h8
      have g4 := g3 (y.length + 1) (by omega)
      have hf : Txt.find3 y x ((s + x.length : Nat) : Int) = hd1 r := by
        rw [find3_spots hx _ (y.length + 1) g2 (by omega), g4]
      refine ws_mut (r := .none) (xs := pts.map V.str) (vs := [.str (sseg y b s)]) (.head _) (pes_cons (by rw [← cut_nn y b s g1 (by omega)]; exact pe_cut (pe_name h3) (po_some (pe_name h6)) (po_some (pe_name h5)) sy) pes_nil) (one_sc rfl)
        PySem.F.slot_list_append PySem.F.type_list_append (mut_append (by rw [List.length_map]; unfold sizeLine; omega)) rfl ?_
      refine ws_mut (r := .none) (xs := pts.map V.str ++ [.str (sseg y b s)]) (vs := [.str new]) (.head _) (pes_cons (pe_name h2) pes_nil) (one_sc rfl)
        PySem.F.slot_list_append PySem.F.type_list_append (mut_append (by rw [List.length_append, List.length_map]; simp; unfold sizeLine; omega)) rfl ?_
      refine ws_lets (v := natV (s + x.length)) (by rw [show natV (s + x.length) = V.int ((s : Int) + (x.length : Int)) by unfold natV; congr 1]; exact pe_bin (pe_name h5) (pe_bi (g_len G) (pes_cons (pe_name h1) pes_nil) (bi_len_str sx)) bin_add) (.inl rfl) ?_
      have hown : ([(("parts" : Str), a, Ow.list (pts.map V.str ++ [V.str (sseg y b s)] ++ [V.str new]))] : Own) = [(("parts" : Str), a, Ow.list ((pts ++ [sseg y b s, new]).map V.str))] := by simp
      refine ws_if (b := !every) (pt_not (pt_plain (pe_name h4) truth_bool)) (fun h => ws_break ?_) fun h => ws_nil ?_
      · have he : every = false := by simpa using h
        rw [he] at h7
        have := rest (upd ρ' "start" (natV (s + x.length))) (s + x.length) (pts ++ [sseg y b s, new]) h3 rfl g2 (by rw [← h7]; simp [subP])
        rw [← hown] at this
        exact this
      · have he : every = true := by simpa using h
        rw [he] at h7
        refine ws_lets (v := .int (hd1 r)) (by rw [← hf]; exact pe_meth (pe_name h3) (pes_cons (pe_name h1) (pes_cons (pe_name rfl) pes_nil)) self_str PySem.F.plainAttrs_str PySem.F.slot_str_find PySem.F.type_str_find bi_find3) (.inl rfl) (ws_nil ?_)
        exact ⟨r.length, by rw [h10, List.length_cons]; omega, y.length + 1, s + x.length, pts ++ [sseg y b s, new], h1, h2, h3, h4, by rw [g4]; rfl, rfl, hown, rfl, by rw [g4, he, ← h7]; simp [subP], by omega, g2, by rw [g4]⟩
  · have hnil : spotsF x y K b = [] := by
      cases e : spotsF x y K b with
      | nil => rfl
      | cons s r =>
        rw [e] at hb
        simp [hd1] at hb
    refine rest ρ' b pts h3 h6 h9 ?_
    rw [hnil] at h7
    rw [← h7]; cases every <;> rfl
end
end Mine
end

section
open PySem PySem.W PyProof.Rows PySem.Calls Builtin.Str
set_option autoImplicit false
set_option Elab.async false
set_option linter.all false
set_option maxRecDepth 100000
namespace Mine
theorem compr_map {T : V → List Int → Bool → List Int → Prop} {El : V → List Int → V → List Int → Prop} {f : V → V} {p : List Int} : ∀ {items : List V}, (∀ v ∈ items, T v p true p) → (∀ v ∈ items, El v p (f v) p) → CompR T El items p (items.map f) p
  | [], _, _ => ⟨rfl, rfl⟩
  | v :: vs, hT, hE => .inl ⟨p, p, f v, vs.map f, hT v (.head _), hE v (.head _), compr_map (fun u hu => hT u (.tail _ hu)) (fun u hu => hE u (.tail _ hu)), rfl⟩
theorem compr_filter {T : V → List Int → Bool → List Int → Prop} {El : V → List Int → V → List Int → Prop} {f : V → V} {b : V → Bool} {p : List Int} : ∀ {items : List V}, (∀ v ∈ items, T v p (b v) p) → (∀ v ∈ items, b v = true → El v p (f v) p) → CompR T El items p ((items.filter b).map f) p
  | [], _, _ => ⟨rfl, rfl⟩
  | v :: vs, hT, hE => by
    have r := compr_filter (items := vs) (f := f) (b := b) (fun u hu => hT u (.tail _ hu)) (fun u hu => hE u (.tail _ hu))
    rw [List.filter_cons]
    have h1 := hT v (.head _)
    cases e : b v with
    | true => rw [if_pos rfl]; rw [e] at h1; exact .inl ⟨p, p, f v, _, h1, hE v (.head _) e, r, rfl⟩
    | false => rw [if_neg (by decide)]; rw [e] at h1; exact .inr ⟨p, h1, r⟩
/-- values drawn one after the other -/
noncomputable def draws {α : Type} (g : List Int → α × List Int) : Nat → List Int → List α × List Int
  | 0, p => ([], p)
  | k + 1, p => ((g p).1 :: (draws g k (g p).2).1, (draws g k (g p).2).2)
theorem compr_draw {α : Type} {T : V → List Int → Bool → List Int → Prop} {El : V → List Int → V → List Int → Prop} {g : List Int → α × List Int} {h : α → V} {m : Nat} (hg : ∀ p, p.length ≤ m → (g p).2.length ≤ m) :
    ∀ {items : List V} {p : List Int}, p.length ≤ m → (∀ v ∈ items, ∀ p, p.length ≤ m → T v p true p) → (∀ v ∈ items, ∀ p, p.length ≤ m → El v p (h (g p).1) (g p).2) → CompR T El items p ((draws g items.length p).1.map h) (draws g items.length p).2
  | [], p, _, _, _ => ⟨rfl, rfl⟩
  | v :: vs, p, hp, hT, hE => .inl ⟨p, (g p).2, h (g p).1, _, hT v (.head _) p hp, hE v (.head _) p hp, compr_draw hg (hg p hp) (fun u hu => hT u (.tail _ hu)) (fun u hu => hE u (.tail _ hu)), rfl⟩
theorem draws_len {α : Type} {g : List Int → α × List Int} {m : Nat} (hg : ∀ p, p.length ≤ m → (g p).2.length ≤ m) : ∀ (k : Nat) (p : List Int), p.length ≤ m → (draws g k p).2.length ≤ m
  | 0, _, h => h
  | k + 1, p, h => draws_len hg k (g p).2 (hg p h)
theorem draws_count {α : Type} {g : List Int → α × List Int} : ∀ (k : Nat) (p : List Int), (draws g k p).1.length = k
  | 0, _ => rfl
  | k + 1, p => by show (_ :: _).length = _; rw [List.length_cons, draws_count k]
theorem draws_mem {α : Type} {g : List Int → α × List Int} {ok : α → Prop} (h : ∀ p, ok (g p).1) : ∀ (k : Nat) (p : List Int), ∀ x ∈ (draws g k p).1, ok x
  | 0, _, _, hx => nomatch hx
  | k + 1, p, x, hx => by
    have hx' : x ∈ (g p).1 :: (draws g k (g p).2).1 := hx
    rcases List.mem_cons.mp hx' with rfl | hx'
    · exact h p
    · exact draws_mem h k _ x hx'

/-! letters of ranges -/
noncomputable def ch (y : Str) (i : Nat) : Nat := y.cps.getD i 0
noncomputable def lt1 (c : Nat) : Str := ⟨#[c]⟩
noncomputable def spreadF (y : Str) : Nat → Nat → List Str
  | 0, _ => []
  | k + 1, a => if a < y.length then (if a + 2 < y.length ∧ ch y (a + 1) = 45 then (List.range (ch y (a + 2) + 1 - ch y a)).map (fun i => lt1 (ch y a + i)) ++ spreadF y k (a + 3) else lt1 (ch y a) :: spreadF y k (a + 1)) else []
noncomputable def spread (y : Str) : List Str := spreadF y (y.length + 1) 0
theorem spreadF_nil {y : Str} {k a : Nat} (h : ¬ a < y.length) : spreadF y k a = [] := by
  cases k with
  | zero => rfl
  | succ k => rw [spreadF, if_neg h]
theorem ch_get {y : Str} {i : Nat} (h : i < y.length) : y.cps[i]? = some (ch y i) := by
  have h' : i < y.cps.size := h
  unfold ch
  simp [Array.getElem?_eq_getElem h', Array.getD, h']
noncomputable def Plain7 (y : Str) : Prop := y.length ≤ 64 ∧ (∀ i, ch y i < 128) ∧ ∀ i, i + 2 < y.length → ch y (i + 1) = 45 → ch y i ≤ ch y (i + 2)
theorem spreadF_len {y : Str} (hy : Plain7 y) : ∀ (k a : Nat), (spreadF y k a).length ≤ 129 * k
  | 0, _ => Nat.le_refl _
  | k + 1, a => by
    unfold spreadF
    split
    · split
      · rw [List.length_append, List.length_map, List.length_range]
        have := spreadF_len hy k (a + 3)
        have := hy.2.1 (a + 2)
        omega
      · rw [List.length_cons]
        have := spreadF_len hy k (a + 1)
        omega
    · simp
theorem spreadF_one {y : Str} : ∀ (k a : Nat), ∀ x ∈ spreadF y k a, ∃ c, x = lt1 c
  | 0, _, _, h => nomatch h
  | k + 1, a, x, h => by
    unfold spreadF at h
    split at h
    · split at h
      · rcases List.mem_append.mp h with h | h
        · obtain ⟨i, _, rfl⟩ := List.mem_map.mp h; exact ⟨_, rfl⟩
        · exact spreadF_one k _ x h
      · rcases List.mem_cons.mp h with rfl | h
        · exact ⟨_, rfl⟩
        · exact spreadF_one k _ x h
    · cases h

section
variable {w : World} {mg mb : Str → Option Value} {g₀ : Heap} (G : Gr w mg mb g₀)
include G
theorem d_spread : DefOk g₀ 123 (fdAt (KK w.params) 123) ["text"] (bdAt (KK w.params) 123) :=
  def_ok G (by kernel_rfl) (len1 fun a => by kernel_rfl)
theorem d_chartr : DefOk g₀ 128 (fdAt (KK w.params) 128) ["old", "new", "text"] (bdAt (KK w.params) 128) :=
  def_ok G (by kernel_rfl) (len3 fun a b c => by kernel_rfl)
theorem gl_spread : Glb pg w g₀ "spread_ranges" (.ref 123) := glb_own G (by kernel_rfl)
theorem gl_chartr : Glb pg w g₀ "chartr_of" (.ref 128) := glb_own G (by kernel_rfl)

theorem f_spread {n : Nat} {y : Str} (hy : Plain7 y) (p : List Int) (P : Option Addr) : Fn pg w g₀ (n + 3) P 123 [.str y] p (.list ((spread y).map .str)) p := by
  have sy : y.length ≤ sizeLine := by have := hy.1; unfold sizeLine; omega
  have hy64 := hy.1
  refine fn_of (d_spread G) rfl fun L => ?_
  refine ws_own (pe_list pes_nil (by decide)) (.inl rfl) (fun _ h => nomatch h) fun a => ?_
  refine ws_lets (v := natV 0) pe_int (.inl rfl) ?_
  refine ws_while (fun k ρ' own' p' => ∃ at_ fnd, ρ' "text" = some (.str y) ∧ ρ' "at" = some (natV at_) ∧ own' = ([(("found" : Str), a, Ow.list (fnd.map V.str))] : Own) ∧ p' = p ∧
      fnd ++ spreadF y k at_ = spread y ∧ y.length + 1 ≤ at_ + k ∧ at_ ≤ y.length + 3) (y.length + 1) ⟨0, [], rfl, rfl, rfl, rfl, rfl, by omega, by omega⟩ fun k ρ' own' p' hI => ?_
  obtain ⟨at_, fnd, h1, h2, rfl, rfl, h3, h4, h5⟩ := hI
  have hfl : fnd.length ≤ 129 * (y.length + 1) := by
    have := congrArg List.length h3
    rw [List.length_append] at this
    have := spreadF_len hy (y.length + 1) 0
    unfold spread at *; omega
  refine ⟨decide ((at_ : Int) < (y.length : Int)), p', pt_cmp (pe_name h2) (pe_bi (g_len G) (pes_cons (pe_name h1) pes_nil) (bi_len_str sy)) cmp_lt_int.cmp, fun hb => ?_, fun hb => ?_⟩
  · have hlt : at_ < y.length := by simpa using hb
    obtain ⟨k, rfl⟩ : ∃ j, k = j + 1 := ⟨k - 1, by omega⟩
    rw [spreadF, if_pos hlt] at h3
    have item : ∀ (j : Int) (m : Nat), j = m → m < y.length → Itm pg w "str" (.str y) (.int j) (.str (lt1 (ch y m))) := fun j m e hm => by
      subst e; exact itm_str (by omega) (by omega) (by rw [Int.toNat_natCast]; exact ch_get hm)
    refine ws_if (b := decide (at_ + 2 < y.length ∧ ch y (at_ + 1) = 45)) (p₁ := p') ?_ (fun h => ?_) fun h => ?_
    · have c1 : PT pg w g₀ (n + 2) (callEnvC (fdAt (KK w.params) 123) L 123) P (ρo ρ' ([(("found" : Str), a, Ow.list (fnd.map V.str))] : Own)) p' (.Compare (.BinOp (.Name "at" ⟨101, 11, 101, 13⟩) .Add (.Constant (.int 2) 0 ⟨101, 16, 101, 17⟩) ⟨101, 11, 101, 17⟩) [.Lt] [.Call (.Name "len" ⟨101, 20, 101, 23⟩) [.Name "text" ⟨101, 24, 101, 28⟩] [] ⟨101, 20, 101, 29⟩] ⟨101, 11, 101, 29⟩) (decide ((at_ : Int) + 2 < (y.length : Int))) p' :=
        pt_cmp (pe_bin (pe_name h2) pe_int bin_add) (pe_bi (g_len G) (pes_cons (pe_name h1) pes_nil) (bi_len_str sy)) cmp_lt_int.cmp
      by_cases q : at_ + 2 < y.length
      · rw [show decide (at_ + 2 < y.length ∧ ch y (at_ + 1) = 45) = (decide ((at_ : Int) + 2 < (y.length : Int)) && (lt1 (ch y (at_ + 1)) == (("-" : String) : Str))) by
          rw [Bool.eq_iff_iff, Bool.and_eq_true, decide_eq_true_iff, decide_eq_true_iff, beq_iff_eq]
          exact ⟨fun z => ⟨by omega, by unfold lt1; rw [z.2]; rfl⟩, fun z => ⟨q, congrArg (fun s : Str => s.cps.getD 0 0) z.2⟩⟩]
        exact pt_and c1 (fun _ => pt_and1 (pt_cmp (pe_item slot_str_getitem.lookup (pe_name h1) (pe_bin (pe_name h2) pe_int bin_add) (item _ (at_ + 1) (by omega) (by omega))) pe_str cmp_eq_str.cmp)) fun z => by simp at z; omega
      · rw [show decide (at_ + 2 < y.length ∧ ch y (at_ + 1) = 45) = (decide ((at_ : Int) + 2 < (y.length : Int)) && false) by rw [Bool.and_false]; exact decide_eq_false fun z => q z.1]
        exact pt_and c1 (fun z => by simp at z; omega) fun _ => ⟨rfl, rfl⟩
    · have h' : at_ + 2 < y.length ∧ ch y (at_ + 1) = 45 := of_decide_eq_true h
      rw [if_pos h'] at h3
      have hle := hy.2.2 at_ h'.1 h'.2
      have hb2 := hy.2.1 (at_ + 2)
      refine ws_lets (v := natV (ch y at_)) (pe_bi (g_ord G) (pes_cons (pe_item slot_str_getitem.lookup (pe_name h1) (pe_name h2) (item _ at_ rfl hlt)) pes_nil) bi_ord) (.inl rfl) ?_
      refine ws_lets (v := natV (ch y (at_ + 2))) (pe_bi (g_ord G) (pes_cons (pe_item slot_str_getitem.lookup (pe_name h1) (pe_bin (pe_name h2) pe_int bin_add) (item _ (at_ + 2) (by omega) h'.1)) pes_nil) bi_ord) (.inl rfl) ?_
      refine ws_if (b := decide (((ch y at_ : Nat) : Int) > ((ch y (at_ + 2) : Nat) : Int))) (pt_cmp (pe_name rfl) (pe_name rfl) cmp_gt_int.cmp) (fun z => by simp at z; omega) fun _ => ws_nil ?_
      refine ws_for (items := intsFrom (ch y at_) (ch y (at_ + 2) + 1 - ch y at_)) (pi_range (g_range G) (pes_cons (pe_name rfl) (pes_cons (pe_bin (pe_name rfl) pe_int bin_add) pes_nil)) (.inr rfl) (by split <;> omega) (by omega)) (.inl rfl)
        (fun i ρ'' own'' q => ρ'' "text" = some (.str y) ∧ ρ'' "at" = some (natV at_) ∧ own'' = ([(("found" : Str), a, Ow.list ((fnd ++ (List.range i).map (fun i => lt1 (ch y at_ + i))).map V.str))] : Own) ∧ q = p') ⟨h1, h2, by simp; rfl, rfl⟩ (fun i v ρ'' own'' q hi hI => ?_) fun ρ'' own'' q hI => ?_
      · obtain ⟨g1, g2, rfl, rfl⟩ := hI
        have hil : i < ch y (at_ + 2) + 1 - ch y at_ := by have := (List.getElem?_eq_some_iff.mp hi).1; simpa [intsFrom] using this
        have hv : v = .int ((ch y at_ : Int) + (i : Int)) := by
          unfold intsFrom at hi
          rw [List.getElem?_map, List.getElem?_range hil] at hi
          simp at hi; rw [← hi]
        subst hv
        refine ws_mut (r := .none) (xs := (fnd ++ (List.range i).map (fun i => lt1 (ch y at_ + i))).map V.str) (vs := [.str (lt1 (ch y at_ + i))]) (.head _) (pes_cons (pe_bi (g_chr G) (pes_cons (pe_name rfl) pes_nil) ?_) pes_nil) (one_sc rfl)
          PySem.F.slot_list_append PySem.F.type_list_append (mut_append (by rw [List.length_map, List.length_append, List.length_map, List.length_range]; unfold sizeLine; omega)) rfl (ws_nil ⟨g1, g2, ?_, rfl⟩)
        · have := bi_chr (prog := pg) (w := w) (i := (ch y at_ : Int) + (i : Int)) (by omega) (by omega)
          rwa [show ((ch y at_ : Int) + (i : Int)).toNat = ch y at_ + i by omega] at this
        · rw [List.range_succ]
          show ([(("found" : Str), a, Ow.list _)] : Own) = _
          simp
      · obtain ⟨g1, g2, rfl, rfl⟩ := hI
        rw [show (intsFrom (ch y at_) (ch y (at_ + 2) + 1 - ch y at_)).length = ch y (at_ + 2) + 1 - ch y at_ by simp [intsFrom]]
        refine ws_aug (c := natV (at_ + 3)) (a := natV at_) (b := .int 3) g2 pe_int (by rw [show natV (at_ + 3) = V.int ((at_ : Int) + 3) by unfold natV; congr 1]; exact inp_add) (.inl rfl) (ws_nil (ws_nil ⟨k, by omega, at_ + 3, _, g1, rfl, rfl, rfl, by rw [List.append_assoc]; exact h3, by omega, by omega⟩))
    · have h' : ¬ (at_ + 2 < y.length ∧ ch y (at_ + 1) = 45) := of_decide_eq_false h
      rw [if_neg h'] at h3
      refine ws_mut (r := .none) (xs := fnd.map V.str) (vs := [.str (lt1 (ch y at_))]) (.head _) (pes_cons (pe_item slot_str_getitem.lookup (pe_name h1) (pe_name h2) (item _ at_ rfl hlt)) pes_nil) (one_sc rfl)
        PySem.F.slot_list_append PySem.F.type_list_append (mut_append (by rw [List.length_map]; unfold sizeLine; omega)) rfl ?_
      refine ws_aug (c := natV (at_ + 1)) (a := natV at_) (b := .int 1) h2 pe_int (by rw [show natV (at_ + 1) = V.int ((at_ : Int) + 1) by unfold natV; congr 1]; exact inp_add) (.inl rfl) (ws_nil (ws_nil ⟨k, by omega, at_ + 1, fnd ++ [lt1 (ch y at_)], h1, rfl, ?_, rfl, by rw [← h3]; simp, by omega, by omega⟩))
      show ([(("found" : Str), a, Ow.list (fnd.map V.str ++ [V.str (lt1 (ch y at_))]))] : Own) = _
      rw [List.map_append]; rfl
  · have hge : ¬ at_ < y.length := by simpa using hb
    rw [spreadF_nil hge, List.append_nil] at h3
    rw [← h3]
    exact ws_reto (.head _) (strsSc _) ⟨rfl, rfl⟩
end
end Mine
end

section
open PySem PySem.W PyProof.Rows PySem.Calls Builtin.Str
set_option autoImplicit false
set_option Elab.async false
set_option linter.all false
set_option maxRecDepth 100000
namespace Mine
/-- a comprehension's scope within a def: looked at -/
noncomputable def scopeChk (fs scope : Scope) (x : Str) : Bool := scope.kind == .function && (scope.names.all fun y => y.2 != .cell) && (scope.names.all fun y => y.2 != .local || scope.names.lookup y.1 == some .local) && scope.names.lookup x == some .local &&
  (scope.names.all fun y => y.2 != .free || (!(y.1 == ("__classdict__" : Str)) && ((cellsFrom 0 fs.names []).lookup y.1).isSome && fs.names.lookup y.1 != some .local))
theorem scope_ok {fd : FuncData} {L f : Addr} {scope : Scope} {x : Str} (h : scopeChk fd.scope scope x = true) : ScopeOk (callEnvC fd L f) scope x := by
  unfold scopeChk at h
  simp only [Bool.and_eq_true, beq_iff_eq, List.all_eq_true, bne_iff_ne, Bool.or_eq_true, Bool.not_eq_true'] at h
  obtain ⟨⟨⟨⟨h1, h2⟩, h3⟩, h4⟩, h5⟩ := h
  refine ⟨h1, fun y hy => h2 y hy, fun y hy e => (h3 y hy).elim (fun z => absurd e z) id, h4, fun y hy => ?_⟩
  obtain ⟨⟨g1, g2⟩, g3⟩ := (h5 _ hy).elim (fun z => absurd rfl z) id
  refine ⟨g1, ?_, g3⟩
  have g4 : y ∈ ((cellsFrom (L + 1) fd.scope.names []).map (·.1)) := by
    rw [cells_shift _ _ 0 [] [] rfl]; exact lookup_isSome.mp g2
  exact Option.isSome_iff_exists.mp (lookup_isSome.mpr g4)

/-! letters exchanged -/
noncomputable def tabS (b h : List Str) : Nat → Str → Option Str
  | 0, _ => none
  | i + 1, k => if k = b.getD i ("" : String) then some (h.getD i ("" : String)) else tabS b h i k
noncomputable def tabV (b h : List Str) (i : Nat) : Str → Option V := fun k => (tabS b h i k).map V.str
theorem tabV_next {b h : List Str} {i : Nat} : fset (tabV b h i) (b.getD i ("" : String)) (.str (h.getD i ("" : String))) = tabV b h (i + 1) := by
  funext k
  unfold fset tabV
  rw [tabS]
  split
  · rfl
  · rfl
noncomputable def turn1 (b h : List Str) (s : Str) : Str := (tabS b h b.length s).getD s
noncomputable def turnV (b h : List Str) : V → V
  | .str s => .str (turn1 b h s)
  | v => v
noncomputable def chartr (old new y : Str) : Str := Txt.join ("" : String) (y.cps.toList.map fun c => turn1 (spread old) (spread new) (lt1 c))
theorem tabS_one {b h : List Str} (hh : ∀ x ∈ h, ∃ c, x = lt1 c) : ∀ (i : Nat) (k x : Str), i ≤ h.length → tabS b h i k = some x → x.length = 1
  | 0, _, _, _, e => nomatch e
  | i + 1, k, x, hi, e => by
    unfold tabS at e
    split at e
    · cases e
      have hm : h.getD i ("" : String) ∈ h := by
        rw [List.getD_eq_getElem?_getD, List.getElem?_eq_getElem (by omega)]
        exact List.getElem_mem _
      obtain ⟨c, hc⟩ := hh _ hm
      rw [hc]; rfl
    · exact tabS_one hh i k x (by omega) e

section
variable {w : World} {mg mb : Str → Option Value} {g₀ : Heap} (G : Gr w mg mb g₀)
include G
theorem f_chartr {n : Nat} {old new y : Str} (ho : Plain7 old) (hn : Plain7 new) (hle : (spread old).length ≤ (spread new).length) (hy : y.length ≤ 2 ^ 8) (p : List Int) (P : Option Addr) :
    Fn pg w g₀ (n + 5) P 128 [.str old, .str new, .str y] p (.str (chartr old new y)) p := by
  obtain ⟨fo, hfo⟩ := (d_spread G).at_
  have l1 : (spread old).length ≤ 129 * 65 := by
    have := spreadF_len ho (old.length + 1) 0
    have := ho.1
    unfold spread; omega
  have l2 : (spread new).length ≤ 129 * 65 := by
    have := spreadF_len hn (new.length + 1) 0
    have := hn.1
    unfold spread; omega
  unfold chartr
  generalize hb : spread old = b at hle l1
  generalize hh : spread new = h at hle l2
  have hone : ∀ x ∈ h, ∃ c, x = lt1 c := fun x hx => spreadF_one _ _ x (by rw [← hh] at hx; exact hx)
  have bl : ∀ l : List Str, l.length ≤ 129 * 65 → BI pg w (.builtin "len") [.list (l.map .str)] (.int l.length) := fun l hl => by
    have := bi_len_list (prog := pg) (w := w) (xs := l.map V.str) (by rw [List.length_map]; unfold sizeLine; omega)
    rwa [List.length_map] at this
  refine fn_of (d_chartr G) rfl fun L => ?_
  refine ws_letf (v := .list (b.map .str)) (by rw [← hb]; exact pe_call (gl_spread G) hfo (pes_cons (pe_name rfl) pes_nil) (f_spread G ho p P)) (.inl rfl) ?_
  refine ws_letf (v := .list (h.map .str)) (by rw [← hh]; exact pe_call (gl_spread G) hfo (pes_cons (pe_name rfl) pes_nil) (f_spread G hn p P)) (.inl rfl) ?_
  refine ws_if (b := decide ((b.length : Int) > (h.length : Int))) (pt_cmp (pe_bi (g_len G) (pes_cons (pe_name rfl) pes_nil) (bl b l1)) (pe_bi (g_len G) (pes_cons (pe_name rfl) pes_nil) (bl h l2)) cmp_gt_int.cmp) (fun z => by simp at z; omega) fun _ => ws_nil ?_
  refine ws_if (b := false) (pt_cmp (pe_name rfl) pe_none (cmp_is_none rfl)) (fun z => nomatch z) fun _ => ws_nil ?_
  refine ws_dict0 (.inr ⟨rfl, _, rfl⟩) G.T.sys fun a => ?_
  refine ws_for (items := intsFrom 0 b.length) (pi_range (g_range G) (pes_cons (pe_bi (g_len G) (pes_cons (pe_name rfl) pes_nil) (bl b l1)) pes_nil) (.inl ⟨rfl, rfl⟩) (by split <;> omega) (by omega)) (.inl rfl)
    (fun i ρ' own' p' => ρ' "before" = some (.list (b.map .str)) ∧ ρ' "behind" = some (.list (h.map .str)) ∧ ρ' "text" = some (.str y) ∧ own' = ([(("table" : Str), a, Ow.dict (pg, w) (tabV b h i) i)] : Own) ∧ p' = p) ⟨rfl, rfl, rfl, rfl, rfl⟩ (fun i v ρ' own' p' hi hI => ?_) fun ρ' own' p' hI => ?_
  · obtain ⟨g1, g2, g3, rfl, rfl⟩ := hI
    have hil : i < b.length := by have := (List.getElem?_eq_some_iff.mp hi).1; simpa [intsFrom] using this
    have hv : v = natV i := by
      unfold intsFrom at hi
      rw [List.getElem?_map, List.getElem?_range hil] at hi
      simp at hi; rw [← hi]; rfl
    subst hv
    have it : ∀ l : List Str, i < l.length → Itm pg w "list" (.list (l.map .str)) (natV i) (.str (l.getD i ("" : String))) := fun l hl => by
      refine itm_list (by omega) (by omega) ?_
      rw [Int.toNat_natCast, List.getElem?_map, List.getD_eq_getElem?_getD, List.getElem?_eq_getElem hl]; rfl
    refine ws_setd (f := tabV b h i) (m := i) (k := b.getD i ("" : String)) (v := .str (h.getD i ("" : String))) (.head _) (pe_item slot_list_getitem.lookup (pe_name g2) (pe_name rfl) (it h (by omega)))
      (pe_item slot_list_getitem.lookup (pe_name g1) (pe_name rfl) (it b hil)) (by omega) (ws_nil ⟨g1, g2, g3, ?_, rfl⟩)
    rw [tabV_next]; rfl
  · obtain ⟨g1, g2, g3, rfl, rfl⟩ := hI
    rw [show (intsFrom 0 b.length).length = b.length by simp [intsFrom]]
    have sy : (signs y).length ≤ sizeLine := by unfold signs; rw [List.length_map, Array.length_toList]; have : y.cps.size ≤ 2 ^ 8 := hy; unfold sizeLine; omega
    have e1 : (signs y).map (turnV b h) = (y.cps.toList.map fun c => turn1 b h (lt1 c)).map V.str := by unfold signs; rw [List.map_map, List.map_map]; rfl
    refine ws_ret (pe_meth pe_str (pes_cons ?hc pes_nil) self_str PySem.F.plainAttrs_str PySem.F.slot_str_join PySem.F.type_str_join
      (bi_join (joinOk (m := 1) (k := 2 ^ 8) (fun x hx => ?_) (by decide) (by rw [List.length_map, Array.length_toList]; exact hy) (by decide)))) ⟨rfl, rfl⟩
    case hc =>
      rw [← e1]
      refine pe_comp (scope_ok (by kernel_rfl)) (pi_str (pe_name g3)) sy fun cl hcl => compr_map (fun v _ => fun C => pts_nil) fun v hv => fun C => ?_
      obtain ⟨c, _, rfl⟩ := List.mem_map.mp hv
      exact (pe_meth (pe_name rfl) (pes_cons (pe_name rfl) (pes_cons (pe_name rfl) pes_nil)) self_dict PySem.F.plainAttrs_dict PySem.F.slot_dict_get PySem.F.type_dict_get (by
        have := bi_dget (prog := pg) (w := w) (k := (⟨#[c]⟩ : Str)) (f := tabV b h b.length) (m := b.length) (v := .str ⟨#[c]⟩) rfl
        have e : ((tabV b h b.length ⟨#[c]⟩).getD (.str ⟨#[c]⟩)) = turnV b h (.str ⟨#[c]⟩) := by
          show ((tabS b h b.length ⟨#[c]⟩).map V.str).getD _ = V.str ((tabS b h b.length ⟨#[c]⟩).getD _)
          generalize tabS b h b.length ⟨#[c]⟩ = o
          cases o <;> rfl
        rwa [e] at this))
    · obtain ⟨c, _, rfl⟩ := List.mem_map.mp hx
      unfold turn1
      cases e : tabS b h b.length (lt1 c) with
      | none => exact Nat.le_refl _
      | some x => have := tabS_one hone b.length (lt1 c) x (by omega) e; exact Nat.le_of_eq this
end
end Mine
end

section
open PySem PySem.W PyProof.Rows PySem.Calls Builtin.Str
set_option autoImplicit false
set_option Elab.async false
set_option linter.all false
set_option maxRecDepth 30000
namespace Mine
/-! names made different -/
noncomputable def setF (l : List Str) : Str → Option V := fun k => if k ∈ l then some (.bool true) else none
theorem setF_add (l : List Str) (k : Str) : fset (setF l) k (.bool true) = setF (l ++ [k]) := by
  funext x
  unfold fset setF
  by_cases h : x = k
  · rw [if_pos h, if_pos (by rw [h]; simp)]
  · rw [if_neg h]
    by_cases h' : x ∈ l
    · rw [if_pos h', if_pos (by simp [h'])]
    · rw [if_neg h', if_neg (by simp [h, h'])]
theorem setF_some (l : List Str) (k : Str) : (setF l k).isSome = decide (k ∈ l) := by
  unfold setF
  by_cases h : k ∈ l
  · rw [if_pos h, decide_eq_true h]; rfl
  · rw [if_neg h, decide_eq_false h]; rfl
noncomputable def cntF (c : Str → Option Int) : Str → Option V := fun k => (c k).map .int
theorem cntF_add (c : Str → Option Int) (k : Str) (i : Int) : fset (cntF c) k (.int i) = cntF (fun x => if x = k then some i else c x) := by
  funext x
  unfold fset cntF
  dsimp only
  by_cases h : x = k
  · rw [if_pos h, if_pos h]; rfl
  · rw [if_neg h, if_neg h]
noncomputable def numS (i : Nat) : Str := (toString (i : Int) : String)
noncomputable def tag (x sep : Str) (i : Nat) : Str := (x ++ sep) ++ numS i
/-- the first number from c on that is free -/
noncomputable def ff (tk : List Str) (x sep : Str) : Nat → Nat → Nat
  | 0, c => c
  | k + 1, c => if tag x sep c ∈ tk then ff tk x sep k (c + 1) else c
structure Us where
  tk : List Str
  sn : List Str
  ct : Str → Option Int
  fd : List Str
noncomputable def numOf (u : Us) (x sep : Str) : Nat := ff u.tk x sep (u.tk.length + 1) ((u.ct x).getD 1).toNat
noncomputable def uStep (sep : Str) (u : Us) (x : Str) : Us :=
  if x ∈ u.sn then
    ⟨u.tk ++ [tag x sep (numOf u x sep)], u.sn ++ [tag x sep (numOf u x sep)], fun z => if z = x then some ((numOf u x sep : Int) + 1) else u.ct z, u.fd ++ [tag x sep (numOf u x sep)]⟩
  else ⟨u.tk, u.sn ++ [x], u.ct, u.fd ++ [x]⟩
noncomputable def uniqU (sep : Str) (names : List Str) : Us := names.foldl (uStep sep) ⟨names, [], fun _ => none, []⟩
noncomputable def uniq (names : List Str) (sep : Str) : List Str := (uniqU sep names).fd

/-! the numbers' texts differ -/
noncomputable def unnum (x : Str) : Nat := x.cps.toList.foldl (fun a c => a * 10 + (c - 48)) 0
theorem unnum_num : ∀ i, i < 300 → unnum (numS i) = i := by decide +kernel
theorem numS_len : ∀ i, i < 300 → (numS i).length ≤ 3 := by decide +kernel
theorem numS_inj {i j : Nat} (hi : i < 300) (hj : j < 300) (h : numS i = numS j) : i = j := by
  rw [← unnum_num i hi, ← unnum_num j hj, h]
theorem cat_inj {a b c : Str} (h : a ++ b = a ++ c) : b = c := by
  have : a.cps ++ b.cps = a.cps ++ c.cps := congrArg Str.cps h
  have := Array.append_right_inj a.cps |>.mp this
  cases b; cases c; cases this; rfl
theorem tag_inj {x sep : Str} {i j : Nat} (hi : i < 300) (hj : j < 300) (h : tag x sep i = tag x sep j) : i = j := numS_inj hi hj (cat_inj h)
theorem pigeon {α : Type} [DecidableEq α] : ∀ (l t : List α), l.Nodup → (∀ x ∈ l, x ∈ t) → l.length ≤ t.length
  | [], _, _, _ => Nat.zero_le _
  | a :: l, t, hn, h => by
    rw [List.nodup_cons] at hn
    have ha := h a (.head _)
    have := pigeon l (t.erase a) hn.2 fun x hx => by
      have hne : x ≠ a := fun q => hn.1 (q ▸ hx)
      exact (List.mem_erase_of_ne hne).mpr (h x (.tail _ hx))
    rw [List.length_erase_of_mem ha] at this
    have := List.length_pos_of_mem ha
    rw [List.length_cons]; omega
/-- not all of len + 1 numbers are taken -/
theorem free_one {tk : List Str} {x sep : Str} {c0 : Nat} (hb : c0 + tk.length + 1 < 300) (h : ∀ i, i ≤ tk.length → tag x sep (c0 + i) ∈ tk) : False := by
  have h1 : ((List.range (tk.length + 1)).map fun i => tag x sep (c0 + i)).Nodup := by
    refine List.pairwise_map.mpr ?_
    refine List.Pairwise.imp_of_mem (R := fun a b => a ≠ b) ?_ List.nodup_range
    intro a b ha hb' hne q
    rw [List.mem_range] at ha hb'
    have := tag_inj (by omega) (by omega) q
    omega
  have h2 := pigeon _ tk h1 fun y hy => by
    obtain ⟨i, hi, rfl⟩ := List.mem_map.mp hy
    rw [List.mem_range] at hi
    exact h i (by omega)
  rw [List.length_map, List.length_range] at h2
  omega
theorem ff_le {tk : List Str} {x sep : Str} : ∀ (k c : Nat), ff tk x sep k c ≤ c + k
  | 0, _ => Nat.le_refl _
  | k + 1, c => by
    unfold ff
    split
    · have := ff_le (tk := tk) (x := x) (sep := sep) k (c + 1); omega
    · omega
theorem ff_ge {tk : List Str} {x sep : Str} : ∀ (k c : Nat), c ≤ ff tk x sep k c
  | 0, _ => Nat.le_refl _
  | k + 1, c => by
    unfold ff
    split
    · have := ff_ge (tk := tk) (x := x) (sep := sep) k (c + 1); omega
    · omega
theorem ff_run {tk : List Str} {x sep : Str} : ∀ (k c : Nat), tag x sep (ff tk x sep k c) ∈ tk → ∀ i, i ≤ k → tag x sep (c + i) ∈ tk
  | 0, c, h, i, hi => by
    obtain rfl : i = 0 := Nat.le_zero.mp hi
    exact h
  | k + 1, c, h, i, hi => by
    unfold ff at h
    split at h
    · rename_i hc
      rcases Nat.eq_zero_or_pos i with rfl | hp
      · exact hc
      · have := ff_run k (c + 1) h (i - 1) (by omega)
        rwa [show c + 1 + (i - 1) = c + i by omega] at this
    · rename_i hc; exact absurd h hc
theorem ff_free {tk : List Str} {x sep : Str} {c : Nat} (hb : c + tk.length + 2 < 300) : tag x sep (ff tk x sep (tk.length + 1) c) ∉ tk := fun h =>
  free_one (by omega) fun i hi => ff_run _ _ h i (by omega)

/-! bounds that the walk needs -/
structure UOk (u : Us) (i : Nat) : Prop where
  tk : u.tk.length ≤ 8 + i
  sn : u.sn.length ≤ i
  fd : u.fd.length = i
  ct : ∀ x v, u.ct x = some v → 1 ≤ v ∧ v ≤ 1 + 20 * (i : Int)
  tl : ∀ x ∈ u.tk, x.length ≤ 8
theorem num_bound {u : Us} {i : Nat} (U : UOk u i) (hi : i ≤ 8) (x sep : Str) : 1 ≤ numOf u x sep ∧ numOf u x sep ≤ 2 + 20 * i + 8 + i ∧ ((u.ct x).getD 1).toNat + u.tk.length + 2 < 300 ∧ 1 ≤ ((u.ct x).getD 1) ∧ ((u.ct x).getD 1) ≤ 1 + 20 * (i : Int) := by
  have h1 := U.tk
  have h2 : 1 ≤ ((u.ct x).getD 1) ∧ ((u.ct x).getD 1) ≤ 1 + 20 * (i : Int) := by
    cases e : u.ct x with
    | none => simp; omega
    | some v => exact U.ct x v e
  have h3 := ff_le (tk := u.tk) (x := x) (sep := sep) (u.tk.length + 1) ((u.ct x).getD 1).toNat
  have h4 := ff_ge (tk := u.tk) (x := x) (sep := sep) (u.tk.length + 1) ((u.ct x).getD 1).toNat
  unfold numOf
  omega
theorem tag_len {x sep : Str} {i : Nat} (hx : x.length ≤ 1) (hs : sep.length ≤ 1) (hi : i < 300) : (tag x sep i).length ≤ 8 := by
  have := numS_len i hi
  have e : (tag x sep i).length = x.length + sep.length + (numS i).length := by
    unfold tag; rw [add_len, add_len]
  omega
theorem UOk.step {u : Us} {i : Nat} (U : UOk u i) (hi : i < 8) {x sep : Str} (hx : x.length ≤ 1) (hs : sep.length ≤ 1) : UOk (uStep sep u x) (i + 1) := by
  have nb := num_bound U (Nat.le_of_lt hi) x sep
  unfold uStep
  split
  · refine ⟨?_, ?_, ?_, fun z v e => ?_, fun z hz => ?_⟩
    · rw [List.length_append, List.length_singleton]; have := U.tk; omega
    · rw [List.length_append, List.length_singleton]; have := U.sn; omega
    · rw [List.length_append, List.length_singleton, U.fd]
    · dsimp only at e
      split at e
      · cases e; omega
      · have := U.ct z v e; omega
    · rcases List.mem_append.mp hz with hz | hz
      · exact U.tl z hz
      · rw [List.mem_singleton] at hz; subst hz; exact tag_len hx hs (by omega)
  · refine ⟨?_, ?_, ?_, fun z v e => ?_, U.tl⟩
    · show u.tk.length ≤ _; have := U.tk; omega
    · rw [List.length_append, List.length_singleton]; have := U.sn; omega
    · rw [List.length_append, List.length_singleton, U.fd]
    · have := U.ct z v e; omega
theorem UOk.run {sep : Str} (hs : sep.length ≤ 1) : ∀ {names : List Str} {u : Us} {i : Nat}, UOk u i → (∀ x ∈ names, x.length ≤ 1) → i + names.length ≤ 8 → UOk (names.foldl (uStep sep) u) (i + names.length)
  | [], _, _, U, _, _ => U
  | x :: names, u, i, U, hx, hl => by
    rw [List.length_cons] at hl
    rw [List.foldl_cons, List.length_cons, show i + (names.length + 1) = (i + 1) + names.length by omega]
    exact UOk.run hs (U.step (by omega) (hx x (.head _)) hs) (fun y hy => hx y (.tail _ hy)) (by omega)
theorem UOk.zero {names : List Str} (hl : names.length ≤ 8) (hx : ∀ x ∈ names, x.length ≤ 1) : UOk ⟨names, [], fun _ => none, []⟩ 0 :=
  ⟨by simpa using hl, Nat.le_refl _, rfl, fun x v e => (nomatch e), fun x h => Nat.le_trans (hx x h) (by decide)⟩

section
variable {w : World} {mg mb : Str → Option Value} {g₀ : Heap} (G : Gr w mg mb g₀)
include G
theorem d_uniq : DefOk g₀ 149 (fdAt (KK w.params) 149) ["names", "sep"] (bdAt (KK w.params) 149) :=
  def_ok G (by kernel_rfl) (len2 fun a b => by kernel_rfl)
theorem gl_uniq : Glb pg w g₀ "make_unique" (.ref 149) := glb_own G (by kernel_rfl)

theorem f_uniq {n : Nat} {names : List Str} {sep : Str} (hl : names.length ≤ 8) (hx : ∀ x ∈ names, x.length ≤ 1) (hs : sep.length ≤ 1) (p : List Int) (P : Option Addr) :
    Fn pg w g₀ (n + 4) P 149 [.list (names.map .str), .str sep] p (.list ((uniq names sep).map .str)) p := by
  have hget : ∀ {i : Nat} {v : V}, (names.map V.str)[i]? = some v → ∃ x, names[i]? = some x ∧ v = .str x := fun h => by
    rw [List.getElem?_map] at h
    obtain ⟨r, h1, h2⟩ := Option.map_eq_some_iff.mp h
    exact ⟨r, h1, h2.symm⟩
  refine fn_of (d_uniq G) rfl fun L => ?_
  refine ws_dict0 (.inl rfl) G.T.sys fun a => ?_
  refine ws_for (items := names.map .str) (pi_list (pe_name rfl)) (.inl rfl)
    (fun i ρ' own' p' => ρ' "names" = some (.list (names.map .str)) ∧ ρ' "sep" = some (.str sep) ∧ own' = ([(("taken" : Str), a, Ow.dict (pg, w) (setF (names.take i)) i)] : Own) ∧ p' = p) ⟨rfl, rfl, rfl, rfl⟩ (fun i v ρ' own' p' hi hI => ?_) fun ρ' own' p' hI => ?_
  · obtain ⟨g1, g2, rfl, rfl⟩ := hI
    obtain ⟨x, hx1, rfl⟩ := hget hi
    have hil := (List.getElem?_eq_some_iff.mp hx1).1
    refine ws_setd (f := setF (names.take i)) (m := i) (k := x) (v := .bool true) (.head _) pe_bool (pe_name rfl) (by omega) (ws_nil ⟨g1, g2, ?_, rfl⟩)
    rw [setF_add, List.take_add_one, hx1]; rfl
  obtain ⟨g1, g2, rfl, rfl⟩ := hI
  rw [List.length_map, List.take_length]
  refine ws_dict0 (.inl rfl) G.T.sys fun a2 => ws_dict0 (.inl rfl) G.T.sys fun a3 => ?_
  refine ws_own (pe_list pes_nil (by decide)) (.inl rfl) (fun _ h => nomatch h) fun a4 => ?_
  let U : Nat → Us := fun i => (names.take i).foldl (uStep sep) ⟨names, [], fun _ => none, []⟩
  have hU : ∀ i x, names[i]? = some x → U (i + 1) = uStep sep (U i) x := fun i x h => by
    show (names.take (i + 1)).foldl _ _ = _
    rw [List.take_add_one, h, List.foldl_append]; rfl
  have hok : ∀ i, i ≤ names.length → UOk (U i) i := fun i h => by
    have := UOk.run hs (UOk.zero hl hx) (names := names.take i) (fun x hx' => hx x (List.mem_of_mem_take hx')) (by rw [List.length_take]; omega)
    rwa [List.length_take, Nat.min_eq_left h, Nat.zero_add] at this
  refine ws_for (items := names.map .str) (pi_list (pe_name g1)) (.inl rfl)
    (fun i ρ' own' q => ρ' "sep" = some (.str sep) ∧ (∃ m1 m2 m3, m1 ≤ 100 + 2 * i ∧ m2 ≤ 100 + 2 * i ∧ m3 ≤ 100 + 2 * i ∧ own' = ([(("found" : Str), a4, Ow.list ((U i).fd.map V.str)), (("counts" : Str), a3, Ow.dict (pg, w) (cntF (U i).ct) m1), (("seen" : Str), a2, Ow.dict (pg, w) (setF (U i).sn) m2), (("taken" : Str), a, Ow.dict (pg, w) (setF (U i).tk) m3)] : Own)) ∧ q = p')
    ⟨g2, ⟨0, 0, names.length, by omega, by omega, by omega, rfl⟩, rfl⟩ (fun i v ρ' own' q hi hI => ?_) fun ρ' own' q hI => ?_
  · obtain ⟨g2, ⟨m1, m2, m3, b1, b2, b3, rfl⟩, rfl⟩ := hI
    obtain ⟨x, hx1, rfl⟩ := hget hi
    have hil := (List.getElem?_eq_some_iff.mp hx1).1
    have hx1' := hx x (List.mem_of_getElem? hx1)
    have hk := hok i (Nat.le_of_lt hil)
    have hstep := hU i x hx1
    rw [hstep]
    clear hstep
    generalize U i = u at hk ⊢
    have hfl : (u.fd.map V.str).length ≤ sizeLine := by rw [List.length_map, hk.fd]; unfold sizeLine; omega
    have nb := num_bound hk (by omega) x sep
    refine ws_if (b := !(setF u.sn x).isSome) (pt_cmp (pe_name rfl) (pe_name rfl) cmp_notin_dict) (fun h => ?_) fun h => ws_nil ?_
    · have hx2 : x ∉ u.sn := by rw [setF_some] at h; simpa using h
      refine ws_setd (f := setF u.sn) (m := m2) (k := x) (v := .bool true) (.tail _ (.tail _ (.head _))) pe_bool (pe_name rfl) (by omega) ?_
      refine ws_mut (r := .none) (xs := u.fd.map V.str) (vs := [.str x]) (.head _) (pes_cons (pe_name rfl) pes_nil) (one_sc rfl)
        PySem.F.slot_list_append PySem.F.type_list_append (mut_append hfl) rfl (ws_continue ⟨g2, ⟨m1, m2 + 1, m3, by omega, by omega, by omega, ?_⟩, rfl⟩)
      unfold uStep
      rw [if_neg hx2, setF_add, List.map_append]; rfl
    · have hx2 : x ∈ u.sn := by rw [setF_some] at h; simpa using h
      refine ws_lets (v := natV ((u.ct x).getD 1).toNat) (pe_meth (pe_name rfl) (pes_cons (pe_name rfl) (pes_cons pe_int pes_nil)) self_dict PySem.F.plainAttrs_dict PySem.F.slot_dict_get PySem.F.type_dict_get ?_) (.inl rfl) ?_
      · have := bi_dget (prog := pg) (w := w) (k := x) (f := cntF u.ct) (m := m1) (v := .int 1) rfl
        have e : ((cntF u.ct x).getD (.int 1)) = natV ((u.ct x).getD 1).toNat := by
          have z : ((u.ct x).getD 1) = ((((u.ct x).getD 1).toNat : Nat) : Int) := by omega
          unfold natV
          rw [← z]
          unfold cntF
          cases u.ct x <;> rfl
        rwa [e] at this
      have bstr : ∀ c : Nat, c < 300 → BI pg w (.type "str") [natV c] (.str (numS c)) := fun c hc => by
        refine bi_str_int ?_
        have h1 : ((c : Int)).natAbs = c := rfl
        rw [h1]
        exact Nat.lt_of_le_of_lt (Nat.log2_le_self c) (by omega)
      have hcat : ∀ c : Nat, c < 300 → (x ++ sep).length ≤ sizeLine ∧ ((x ++ sep) ++ numS c).length ≤ sizeLine := fun c hc => by
        have h1 := numS_len c hc
        have h2 : (x ++ sep).length = x.length + sep.length := add_len _ _
        have h3 : ((x ++ sep) ++ numS c).length = (x ++ sep).length + (numS c).length := add_len _ _
        unfold sizeLine; omega
      obtain ⟨q0, hq0⟩ : ∃ q0, q0 = q := ⟨q, rfl⟩
      rw [← hq0]
      refine ws_while (fun k ρ'' own'' q => ∃ c, ρ'' "sep" = some (.str sep) ∧ ρ'' "name" = some (.str x) ∧ ρ'' "number" = some (natV c) ∧ own'' = ([(("found" : Str), a4, Ow.list (u.fd.map V.str)), (("counts" : Str), a3, Ow.dict (pg, w) (cntF u.ct) m1), (("seen" : Str), a2, Ow.dict (pg, w) (setF u.sn) m2), (("taken" : Str), a, Ow.dict (pg, w) (setF u.tk) m3)] : Own) ∧ q = q0 ∧
          ff u.tk x sep k c = numOf u x sep ∧ c + k = ((u.ct x).getD 1).toNat + u.tk.length + 1) (u.tk.length + 1) ⟨((u.ct x).getD 1).toNat, g2, rfl, rfl, rfl, rfl, rfl, by omega⟩ fun k ρ'' own'' q hI => ?_
      obtain ⟨c, e1, e2, e3, rfl, rfl, e4, e5⟩ := hI
      have hc3 : c < 300 := by omega
      refine ⟨(setF u.tk (tag x sep c)).isSome, q, pt_cmp (pe_bin (pe_bin (pe_name e2) (pe_name e1) (bin_cat (hcat c hc3).1)) (pe_bi (g_str G) (pes_cons (pe_name e3) pes_nil) (bstr c hc3)) (bin_cat (hcat c hc3).2)) (pe_name rfl) cmp_in_dict, fun hb => ?_, fun hb => ?_⟩
      · have hb' : tag x sep c ∈ u.tk := by rw [setF_some] at hb; simpa using hb
        cases k with
        | zero =>
          have := ff_free (tk := u.tk) (x := x) (sep := sep) (c := ((u.ct x).getD 1).toNat) nb.2.2.1
          have e4' : c = numOf u x sep := e4
          unfold numOf at e4'
          rw [← e4'] at this
          exact absurd hb' this
        | succ k =>
          rw [ff, if_pos hb'] at e4
          refine ws_aug (c := natV (c + 1)) (a := natV c) (b := .int 1) e3 pe_int (by rw [show natV (c + 1) = V.int ((c : Int) + 1) by unfold natV; congr 1]; exact inp_add) (.inl rfl) (ws_nil ⟨k, by omega, c + 1, e1, e2, rfl, rfl, rfl, e4, by omega⟩)
      · have hb' : tag x sep c ∉ u.tk := by rw [setF_some] at hb; simpa using hb
        have hcn : c = numOf u x sep := by
          cases k with
          | zero => exact e4
          | succ k => rw [ff, if_neg hb'] at e4; exact e4
        have et : (x ++ sep) ++ numS c = tag x sep c := rfl
        refine ws_lets (v := .str (tag x sep c)) (pe_bin (pe_bin (pe_name e2) (pe_name e1) (bin_cat (hcat c hc3).1)) (pe_bi (g_str G) (pes_cons (pe_name e3) pes_nil) (bstr c hc3)) (bin_cat (hcat c hc3).2)) (.inl rfl) ?_
        refine ws_setd (f := cntF u.ct) (m := m1) (k := x) (v := .int ((c : Int) + 1)) (.tail _ (.head _)) (pe_bin (pe_name e3) pe_int bin_add) (pe_name e2) (by omega) ?_
        refine ws_setd (f := setF u.tk) (m := m3) (k := tag x sep c) (v := .bool true) (.tail _ (.tail _ (.tail _ (.head _)))) pe_bool (pe_name rfl) (by omega) ?_
        refine ws_setd (f := setF u.sn) (m := m2) (k := tag x sep c) (v := .bool true) (.tail _ (.tail _ (.head _))) pe_bool (pe_name rfl) (by omega) ?_
        refine ws_mut (r := .none) (xs := u.fd.map V.str) (vs := [.str (tag x sep c)]) (.head _) (pes_cons (pe_name rfl) pes_nil) (one_sc rfl)
          PySem.F.slot_list_append PySem.F.type_list_append (mut_append hfl) rfl (ws_nil ⟨e1, ⟨m1 + 1, m2 + 1, m3 + 1, by omega, by omega, by omega, ?_⟩, rfl⟩)
        unfold uStep
        rw [if_pos hx2, setF_add, setF_add, cntF_add, List.map_append, ← hcn]; rfl
  · obtain ⟨g2, ⟨m1, m2, m3, b1, b2, b3, rfl⟩, rfl⟩ := hI
    have : U (names.map V.str).length = uniqU sep names := by
      show (names.take _).foldl _ _ = _
      rw [List.length_map, List.take_length]; rfl
    rw [this]
    exact ws_reto (.head _) (strsSc _) ⟨rfl, rfl⟩
end
end Mine
end

section
open PySem PySem.W PyProof.Rows PySem.Calls Builtin.Str
set_option autoImplicit false
set_option Elab.async false
set_option linter.all false
set_option maxRecDepth 100000
namespace Mine
/-! an exception of one's own class on its way: its own dict is kept in sight -/
noncomputable def Tr (base h : Heap) (e C D : Addr) (fl : Value) : Prop :=
  ∃ oe vs T oT ts, h.get? e = some oe ∧ oe.cls = .ref C ∧ oe.dict = some D ∧ oe.data = .fields vs ∧ vs[1]? = some (.ref T) ∧ base.get? T = none ∧ T ≠ e ∧ h.get? T = some oT ∧ oT.data = .fields ts ∧ ts[3]? = some fl
theorem dict_mapFields (f : Array Value → Array Value) (o : Obj) : (Obj.mapFields f o).dict = o.dict := by
  obtain ⟨c, d, dt, sl⟩ := o
  cases dt <;> rfl
theorem nf_of {o : Obj} {vs : Array Value} (h : o.data = .fields vs) : o.isFreed = false := Obj.isFreed_of_fields h
/-- what one field's store does -/
theorem set_at {h : Heap} {b : Addr} {o : Obj} {vs : Array Value} (i : Nat) (v : Value) (ho : h.get? b = some o) (hd : o.data = .fields vs) :
    (h.update b (Obj.mapFields (·.setIfInBounds i v))).get? b = some (Obj.mapFields (·.setIfInBounds i v) o) ∧ (Obj.mapFields (·.setIfInBounds i v) o).data = .fields (vs.setIfInBounds i v) ∧
    ∀ c, c ≠ b → (h.update b (Obj.mapFields (·.setIfInBounds i v))).get? c = h.get? c :=
  ⟨Heap.get?_update_self _ ho (nf_of (Obj.data_mapFields hd _)), Obj.data_mapFields hd _, fun c hc => Heap.get?_update_other _ _ (Ne.symm hc)⟩
noncomputable def notRec (o : Obj) : Prop := ∀ vs, o.data ≠ .fields vs
theorem ne_rec {h : Heap} {b c : Addr} {o oc : Obj} {vs : Array Value} (hb : h.get? b = some o) (hn : notRec o) (hc : h.get? c = some oc) (hd : oc.data = .fields vs) : b ≠ c := fun q => by
  rw [q, hc] at hb; cases hb; exact hn vs hd

section
variable {M : Model} {A : Around} {E : Value → Shared → Prop} {s : Shared} {base : Heap} {env : Env} {outer : List Env} {l : List Env} {L e C D : Addr} {Q : Unit → Shared → Prop}

/-- the state behind a step of the way -/
structure On (base : Heap) (l : List Env) (e C D : Addr) (fl : Value) (h h' : Heap) : Prop where
  st : base.StaysIn h'
  fr : h'.FunFrames base l
  tr : Tr base h' e C D fl
  up : h.UpToSlots h'
theorem On.pre {fl : Value} {h₀ h h' : Heap} (x : On base l e C D fl h h') (u : h₀.UpToSlots h) : On base l e C D fl h₀ h' := ⟨x.st, x.fr, x.tr, u.trans x.up⟩

theorem flight_none {fl : Value} (hkb : base.StaysIn s.heap) (hl : s.heap.FunFrames base l) (ht : Tr base s.heap e C D fl) (h : ∀ h', On base l e C D .none s.heap h' → Q () { s with heap := h' }) : wpAny M A (setFlight (.ref e) none) Q E s := by
  obtain ⟨oe, vs, T, oT, ts, he, hC, hD, hd, h1, hnT, hTe, hT, hdT, h3⟩ := ht
  have h3' := (Array.getElem?_eq_some_iff.mp h3).1
  unfold setFlight
  refine wpAny_bind (wpAny_field he hd h1 ?_)
  rw [if_pos (show (Value.ref T != Value.none) = true from by simp)]
  refine wpAny_setField hT hdT h3' ?_
  obtain ⟨q1, q2, q3⟩ := set_at 3 (Value.none) hT hdT
  refine h _ ⟨fun b o hb => (q3 b fun z => by rw [z, hnT] at hb; cases hb).trans (hkb b o hb), hl.of_keeps fun b o hb hn => ⟨o, (q3 b (ne_rec hb hn hT hdT)).trans hb, rfl⟩,
    ⟨oe, vs, T, _, _, (q3 e (Ne.symm hTe)).trans he, hC, hD, hd, h1, hnT, hTe, q1, q2, by rw [Array.getElem?_setIfInBounds_self_of_lt h3']⟩, fun b o hb hn => ⟨o.slots, (q3 b (ne_rec hb hn hT hdT)).trans hb⟩⟩

theorem entry_on {oe : Obj} {vs : Array Value} {head : Value} {hadNext : Bool} (hfr : A.frames = some (env :: outer)) (hl : s.heap.FunFrames base (env :: outer)) (hf : env.frame = some L) (hkb : base.StaysIn s.heap) (hen : base.get? e = none)
    (he : s.heap.get? e = some oe) (hd : oe.data = .fields vs) (h1 : 1 < vs.size) (hC : oe.cls = .ref C) (hD : oe.dict = some D) (h : ∀ h', On base (env :: outer) e C D (rawInt L) s.heap h' → Q () { s with heap := h' }) :
    wpAny M A (do let a ← frameOf env; let pl ← entryPlaceOf L hadNext; let b ← EntryCells.newEntry head a .none (rawInt L) .none pl; setField (.ref e) 1 b) Q E s := by
  refine wpAny_bind (wpAny_frameOf_fun hfr hl hf fun h₁ hs₁ => wpAny_bind (wpAny_entryPlaceOf fun pl hpl => ?_))
  unfold EntryCells.newEntry newFields
  have hne : e ∉ (env :: outer).filterMap (·.frame) := fun hm => by
    obtain ⟨_, o, ho, hn⟩ := hl.mem hm
    exact ne_rec ho hn he hd rfl
  have he₁ : h₁.get? e = some oe := (hs₁.2.1 e hne).trans he
  have k₁ : base.StaysIn h₁ := fun b o hb => (hs₁.2.1 b fun hm => by rw [(hl.mem hm).1] at hb; cases hb).trans (hkb b o hb)
  have h3 : ([head, Value.ref L, Value.none, rawInt L, Value.none] ++ (if pl.isEmpty then List.replicate 6 Value.none else pl)).toArray[3]? = some (rawInt L) := by simp
  refine wpAny_bind (wpAny_newObj_type ?_ (hpl.sizeOk5 _ _ _ _ _))
  generalize ([head, Value.ref L, Value.none, rawInt L, Value.none] ++ (if pl.isEmpty then List.replicate 6 Value.none else pl)).toArray = ts at h3 ⊢
  generalize hT : ({ cls := .type "traceback", dict := none, data := .fields ts } : Obj) = oT
  have hdT : oT.data = .fields ts := by rw [← hT]
  have he₂ : (h₁.push oT).get? e = some oe := Heap.get?_push_of_some _ he₁
  have hT₂ : (h₁.push oT).get? h₁.objs.size = some oT := Heap.get?_push_size _ (nf_of hdT)
  have hTe : h₁.objs.size ≠ e := Nat.ne_of_gt (Heap.lt_size he₁)
  obtain ⟨q1, q2, q3⟩ := set_at 1 (.ref h₁.objs.size) he₂ hd
  refine wpAny_setField he₂ hd h1 (h _ ?_)
  have keep : ∀ b o, b ≠ e → h₁.get? b = some o → ((h₁.push oT).update e (Obj.mapFields (·.setIfInBounds 1 (.ref h₁.objs.size)))).get? b = some o := fun b o hb q => (q3 b hb).trans (Heap.get?_push_of_some _ q)
  refine ⟨fun b o hb => keep b o (fun z => by rw [z, hen] at hb; cases hb) (k₁ b o hb), hl.of_keeps fun b o hb hn => ?_, ⟨_, _, h₁.objs.size, oT, ts, q1, (Obj.cls_mapFields _ _).trans hC, (dict_mapFields _ _).trans hD, q2, by rw [Array.getElem?_setIfInBounds_self_of_lt h1], k₁.fresh, hTe, (q3 _ hTe).trans hT₂, hdT, h3⟩, fun b o hb hn => ?_⟩
  · obtain ⟨sl, hs⟩ := hs₁.2.2 b o hb
    exact ⟨_, keep b _ (ne_rec hb hn he hd) hs, rfl⟩
  · obtain ⟨sl, hs⟩ := hs₁.2.2 b o hb
    exact ⟨sl, keep b _ (ne_rec hb hn he hd) hs⟩

/-- the first frame that is noted -/
theorem note_first {oe : Obj} {vs : Array Value} (hfr : A.frames = some (env :: outer)) (hl : s.heap.FunFrames base (env :: outer)) (hf : env.frame = some L) (hkb : base.StaysIn s.heap) (hen : base.get? e = none)
    (he : s.heap.get? e = some oe) (hd : oe.data = .fields vs) (h1 : vs[1]? = some .none) (hC : oe.cls = .ref C) (hD : oe.dict = some D) (h : ∀ h', On base (env :: outer) e C D (rawInt L) s.heap h' → Q () { s with heap := h' }) :
    wpAny M A (noteFrame (.ref e) env) Q E s := by
  unfold noteFrame
  simp only [hf]
  refine wpAny_bind (wpAny_field he hd h1 ?_)
  rw [if_neg (by decide)]
  exact entry_on hfr hl hf hkb hen he hd (Array.getElem?_eq_some_iff.mp h1).1 hC hD h
/-- a further one -/
theorem note_next (hfr : A.frames = some (env :: outer)) (hl : s.heap.FunFrames base (env :: outer)) (hf : env.frame = some L) (hkb : base.StaysIn s.heap) (hen : base.get? e = none) (ht : Tr base s.heap e C D .none)
    (h : ∀ h', On base (env :: outer) e C D (rawInt L) s.heap h' → Q () { s with heap := h' }) : wpAny M A (noteFrame (.ref e) env) Q E s := by
  obtain ⟨oe, vs, T, oT, ts, he, hC, hD, hd, h1, hnT, hTe, hT, hdT, h3⟩ := ht
  have h3' := (Array.getElem?_eq_some_iff.mp h3).1
  unfold noteFrame
  simp only [hf]
  refine wpAny_bind (wpAny_field he hd h1 ?_)
  rw [if_pos (show (Value.ref T != Value.none) = true from by simp)]
  refine wpAny_bind (wpAny_field hT hdT h3 ?_)
  rw [if_neg (show ¬ ((Value.none == rawInt L) = true) from by simp [rawInt])]
  refine wpAny_bind (wpAny_setField hT hdT h3' ?_)
  obtain ⟨q1, q2, q3⟩ := set_at 3 Value.none hT hdT
  have up : s.heap.UpToSlots (s.heap.update T (Obj.mapFields (·.setIfInBounds 3 Value.none))) := fun b o hb hn => ⟨o.slots, (q3 b (ne_rec hb hn hT hdT)).trans hb⟩
  exact entry_on (s := { s with heap := s.heap.update T (Obj.mapFields (·.setIfInBounds 3 Value.none)) }) hfr (hl.of_keeps fun b o hb hn => ⟨o, (q3 b (ne_rec hb hn hT hdT)).trans hb, rfl⟩) hf
    (fun b o hb => (q3 b fun z => by rw [z, hnT] at hb; cases hb).trans (hkb b o hb)) hen ((q3 e (Ne.symm hTe)).trans he) hd (Array.getElem?_eq_some_iff.mp h1).1 hC hD fun h' O => h h' (O.pre up)

theorem fr_tail {h : Heap} (x : h.FunFrames base (env :: outer)) : h.FunFrames base outer := x.2.2
theorem leave_first {oe : Obj} {vs : Array Value} (hfr : A.frames = some (env :: outer)) (hl : s.heap.FunFrames base (env :: outer)) (hf : env.frame = some L) (hkb : base.StaysIn s.heap) (hen : base.get? e = none)
    (he : s.heap.get? e = some oe) (hd : oe.data = .fields vs) (h1 : vs[1]? = some .none) (hC : oe.cls = .ref C) (hD : oe.dict = some D) (h : ∀ h', On base outer e C D .none s.heap h' → Q () { s with heap := h' }) :
    wpAny M A (leaving env (.ref e)) Q E s := by
  unfold leaving
  refine wpAny_bind (note_first hfr hl hf hkb hen he hd h1 hC hD fun h₁ O => flight_none (s := { s with heap := h₁ }) O.st O.fr O.tr fun h₂ O₂ => h h₂ ?_)
  exact ⟨O₂.st, fr_tail O₂.fr, O₂.tr, O.up.trans O₂.up⟩
theorem leave_next (hfr : A.frames = some (env :: outer)) (hl : s.heap.FunFrames base (env :: outer)) (hf : env.frame = some L) (hkb : base.StaysIn s.heap) (hen : base.get? e = none) (ht : Tr base s.heap e C D .none)
    (h : ∀ h', On base outer e C D .none s.heap h' → Q () { s with heap := h' }) : wpAny M A (leaving env (.ref e)) Q E s := by
  unfold leaving
  refine wpAny_bind (note_next hfr hl hf hkb hen ht fun h₁ O => flight_none (s := { s with heap := h₁ }) O.st O.fr O.tr fun h₂ O₂ => h h₂ ?_)
  exact ⟨O₂.st, fr_tail O₂.fr, O₂.tr, O.up.trans O₂.up⟩
end
end Mine
end

section
open PySem PySem.W PyProof.Rows PySem.Calls Builtin.Str
open Sem (wp)
open Builtin Builtin.ObjectAttr
set_option autoImplicit false
set_option Elab.async false
set_option linter.all false
set_option maxRecDepth 100000
namespace Mine
noncomputable def bmX : List Value := [.type "Exception", .type "BaseException", .type "object"]
noncomputable def bmR : List Value := .ref 24 :: bmX
noncomputable abbrev clsR : Obj := excClassObj "Refusal" "Refusal" 44 43 [.ref 24] bmR true [] [] false none none (some (.ref 28)) none (some (.str "Refusal" 209)) (some (.str "Refusal" 217)) (some (.bool true)) "Exception.__new__"
/-- what is known of the class -/
structure Cls (h : Heap) : Prop where
  c44 : h.get? 44 = some clsR
  c24 : ∃ c dd sl cd, h.get? 24 = some { cls := c, dict := dd, data := .cls cd, slots := sl } ∧ cd.ns = 23
  ns : ∃ m43 m23, h.Ns 43 m43 ∧ h.Ns 23 m23 ∧ m43 "__init__" = some (.ref 41) ∧ m43 "message" = none ∧ m43 "__setattr__" = none ∧ m43 "__getattribute__" = none ∧ m43 "__getattr__" = none ∧
    m23 "message" = none ∧ m23 "__setattr__" = none ∧ m23 "__getattribute__" = none ∧ m23 "__getattr__" = none ∧ m23 "__init__" = none
theorem Cls.keeps {h h' : Heap} (x : Cls h) (k : ∀ b o, h.get? b = some o → h'.get? b = some o) : Cls h' where
  c44 := k _ _ x.c44
  c24 := let ⟨c, dd, sl, cd, e, r⟩ := x.c24; ⟨c, dd, sl, cd, k _ _ e, r⟩
  ns := let ⟨m, m', a, b, r⟩ := x.ns; ⟨m, m', a.keeps k, b.keeps k, r⟩
noncomputable def dictAt (K : Frag) (a : Addr) : Array DictEntry := match K.lookup a with
  | some ⟨_, _, .dict es _, _⟩ => es
  | _ => #[]
theorem ns_at {K : Frag} {h : Heap} (X : K.In h) (a : Addr) {o : Obj} {es : Array DictEntry} {ep : Nat} (e : K.lookup a = some o) (hd : o.data = .dict es ep) (hk : StrKeys es) : h.Ns a (nsFind es) :=
  ⟨o, es, ep, X _ _ e, hd, hk, fun _ => rfl⟩
theorem keys_of {es : Array DictEntry} (h : (es.toList.all fun e => match e.key with | .str _ _ => true | _ => false) = true) : StrKeys es := fun e he => by
  have := List.all_eq_true.mp h e (Array.mem_toList_iff.mpr he)
  generalize e.key = k at this ⊢
  cases k <;> first | exact ⟨_, _, rfl⟩ | cases this
theorem cls_of {P : Params} {h : Heap} (X : (KK P).In h) : Cls h where
  c44 := X 44 _ (by kernel_rfl)
  c24 := ⟨_, _, _, _, X 24 _ rfl, rfl⟩
  ns := ⟨_, _, ns_at X 43 rfl rfl (keys_of (by kernel_rfl)), ns_at X 23 rfl rfl (keys_of (by kernel_rfl)), by kernel_rfl, by kernel_rfl, by kernel_rfl, by kernel_rfl, by kernel_rfl, by kernel_rfl, by kernel_rfl, by kernel_rfl, by kernel_rfl, by kernel_rfl⟩

section
variable {M : Model} {A : Around} {E : Value → Shared → Prop} {h : Heap} {g : Array GenState} {d : Drawn} {t : Nat} {os : OsState}
/-- a name that neither class has -/
theorem look_plain {m43 m23 : Str → Option Value} {n : Str} {y : Option Value} {Q : Option Value → Shared → Prop} (c44 : h.get? 44 = some clsR) (c24 : ∃ c dd sl cd, h.get? 24 = some { cls := c, dict := dd, data := .cls cd, slots := sl } ∧ cd.ns = 23)
    (n43 : h.Ns 43 m43) (n23 : h.Ns 23 m23) (h1 : m43 n = none) (h2 : m23 n = none) (hB : typeLookup (.type "Exception") n = pure y) (hq : Q y ⟨h, g, d, t, os⟩) : wpAny M A (typeLookup (.ref 44) n) Q E ⟨h, g, d, t, os⟩ := by
  obtain ⟨c, dd, sl, cd, e24, e23⟩ := c24
  have hrest : lookupAlong bmX n = pure y := by rw [typeLookup_eq, F.excBase_Exception.mroIs] at hB; exact hB
  rw [typeLookup_eq]
  refine wpAny_bind (wpAny_mroOf_exc c44 ?_)
  rw [lookupAlong_cons]
  refine wpAny_bind (wpAny_classOwn_exc c44 n43 ?_)
  rw [h1]
  show wpAny M A (lookupAlong (.ref 24 :: bmX) n) Q E _
  rw [lookupAlong_cons]
  refine wpAny_bind (wpAny_classOwn_cls e24 (by rw [e23]; exact n23) ?_)
  rw [h2]
  show wpAny M A (lookupAlong bmX n) Q E _
  rw [hrest]
  exact wpAny_pure hq
end

theorem lk_message : typeLookup (.type "Exception") "message" = pure none := by rw [typeLookup_type, builtinLookup_eq_fast]; kernel_rfl

section
variable {prog : Program} {w : World} {A : Around} {E : Value → Shared → Prop} {h : Heap} {g : Array GenState} {d : Drawn} {t : Nat} {os : OsState} {x : Addr} {v : Value}

theorem check_sa {M : Model} {o : Obj} {nameV : Value} {Q : Unit → Shared → Prop} (K : Cls h) (hx : h.get? x = some o) (hc : o.cls = .ref 44) (hq : Q () ⟨h, g, d, t, os⟩) :
    wpAny M A (checkBuiltinCall "object.__setattr__" ⟨[.ref x, nameV, v], []⟩) Q E ⟨h, g, d, t, os⟩ := by
  have hC := K.c44
  have hcB : (Value.ref 44 :: bmR).contains (.type "object") = true := by decide +kernel
  have ha := F.store_Exception.args (.ref x) nameV v
  simp only [checkBuiltinCall, F.store_Exception.kind, F.store_Exception.split]
  refine wpAny_bind ?_
  · unfold isInstance
    repeat (first | (with_reducible refine wpAny_loadPart_at hx ?_; rw [hc]) | (with_reducible refine wpAny_isSubtype_exc hC ?_; rw [hcB]) | wp_step)
    exact hq

/-- e.message = v on a new exception -/
theorem store_msg {tk : Tok} {o : Obj} {Q : Fin → Shared → Prop} (K : Cls h) (hx : h.get? x = some o) (hc : o.cls = .ref 44) (hnc : ∀ c, o.data ≠ .cls c) (hdn : o.dict = none) (hnf : o.isFreed = false)
    (hq : ∀ h' tk' D, h.get? D = none → h'.get? x = some { o with dict := some D } → (∃ m, h'.Ns D m ∧ m "message" = some v) → D ≠ x → (∃ oD, h'.get? D = some oD ∧ ∀ vs, oD.data ≠ .fields vs) → (∀ b ob, b ≠ x → h.get? b = some ob → h'.get? b = some ob) → Q (.done (.ret .none)) ⟨h', g, d, tk', os⟩) :
    wpAny (model prog w) A (Builtin.«object.__setattr__» ⟨[.ref x, .str "message" tk, v], []⟩) Q E ⟨h, g, d, t, os⟩ := by
  have hC := K.c44
  obtain ⟨m43, m23, n43, n23, _, e1, _, _, _, e2, _⟩ := K.ns
  have hpass := F.store_Exception.passes (.ref x)
  have href : refuseLoop (.ref x) "__setattr__" (.ref 44 :: bmR) = pure () := by
    unfold bmR
    rw [refuseLoop_ref, refuseLoop_ref]; exact hpass
  unfold Builtin.«object.__setattr__»
  repeat (first | rw [refuse_eq] | (rw [href]) | (with_reducible refine wpAny_loadPart_at hx ?_; rw [hc]) | with_reducible refine wpAny_mroOf_exc hC ?_ | (with_reducible refine look_plain hC K.c24 n43 n23 e1 e2 lk_message ?_) | wp_step)
  rw [hdn, if_neg (by simp [typeHasDict])]
  split
  · rename_i hcd; cases hcd
  split
  · rename_i c hcd; exact absurd hcd (hnc c)
  · have hx₁ : (h.push { cls := .type "dict", data := .dict #[] }).get? x = some o := Heap.get?_push_of_some _ hx
    have hxs : x ≠ h.objs.size := Nat.ne_of_lt (Heap.lt_size hx)
    refine wpAny_bind (wpAny_alloc' (wpAny_bind (wpAny_update' hx₁ (wpAny_pure ?_))))
    have hgd : ((h.push { cls := .type "dict", data := .dict #[] }).update x fun o => { cls := o.cls, dict := some h.objs.size, data := o.data, slots := o.slots }).get? h.objs.size = some { cls := .type "dict", data := .dict #[] } :=
      (Heap.get?_update_ne _ _ _ _ hxs.symm).trans (Heap.get?_push_at rfl rfl)
    have hnd : ((h.push { cls := .type "dict", data := .dict #[] }).update x fun o => { cls := o.cls, dict := some h.objs.size, data := o.data, slots := o.slots }).Ns h.objs.size (fun _ => none) :=
      ⟨_, #[], _, hgd, rfl, fun e he => absurd he (by simp), fun _ => rfl⟩
    show wpAny _ _ (storeInDict h.objs.size (.str "message" tk) "message" v) _ _ _
    unfold storeInDict newKeyGuard
    refine wpAny_bind (wpAny_pure (wpAny_bind (wpAny_nsSet1 (Heap.Ns1.of_empty hnd) fun h' hn' hs => ?_)))
    obtain ⟨oD, esD, epD, hoD, hdD, hcD⟩ := hn'.count (Within.cons "message" v Within.nil)
    refine wpAny_bind (wpAny_lookBehind hoD (by rw [hdD]; exact pastItsLine_dict (Nat.le_trans hcD (by rw [List.length_cons, List.length_nil, sizeLine_eq]; omega))) ?_)
    wp_walk
    refine hq h' _ h.objs.size (get_size h) ?_ ⟨_, hn'.ns, by simp⟩ (Ne.symm hxs) ⟨oD, hoD, fun vs q => by rw [hdD] at q; cases q⟩ (fun b ob hbx hb => ?_)
    · refine (hs.2 x hxs).trans (Heap.get?_update_self _ hx₁ ?_)
      obtain ⟨oc, od, odt, osl⟩ := o
      cases odt <;> first | rfl | exact hnf
    · exact (hs.2 b (Nat.ne_of_lt (Heap.lt_size hb))).trans ((Heap.get?_update_ne _ _ _ _ hbx).trans (Heap.get?_push_of_some _ hb))

theorem set_msg {o : Obj} {Q : Unit → Shared → Prop} (K : Cls h) (hx : h.get? x = some o) (hc : o.cls = .ref 44) (hnc : ∀ c, o.data ≠ .cls c) (hdn : o.dict = none) (hnf : o.isFreed = false)
    (hq : ∀ h' tk' D, h.get? D = none → h'.get? x = some { o with dict := some D } → (∃ m, h'.Ns D m ∧ m "message" = some v) → D ≠ x → (∃ oD, h'.get? D = some oD ∧ ∀ vs, oD.data ≠ .fields vs) → (∀ b ob, b ≠ x → h.get? b = some ob → h'.get? b = some ob) → Q () ⟨h', g, d, tk', os⟩) :
    wpAny (model prog w) A (setAttr (.ref x) "message" v) Q E ⟨h, g, d, t, os⟩ := by
  have hC := K.c44
  obtain ⟨m43, m23, n43, n23, _, _, e1, _, _, _, e2, _⟩ := K.ns
  have f3 := F.store_Exception.slot.bind (.ref x)
  unfold setAttr callSpecial? specialOf
  repeat (any_goals (first | assumption | (with_reducible refine wpAny_loadPart_at hx ?_; rw [hc]) | (with_reducible refine look_plain hC K.c24 n43 n23 e1 e2 F.store_Exception.slot.lookup ?_) | wp_step))
  refine codeAny_call_builtin F.store_Exception.slot.plain F.store_Exception.entry (check_sa K hx hc (store_msg K hx hc hnc hdn hnf fun h' tk' D a1 a2 a3 a4 a5 a6 => ?_))
  repeat (any_goals (first | assumption | wp_step))
  exact hq h' tk' D a1 a2 a3 a4 a5 a6

/-! e.message read -/
theorem check_ga {M : Model} {o : Obj} {nameV : Value} {Q : Unit → Shared → Prop} (K : Cls h) (hx : h.get? x = some o) (hc : o.cls = .ref 44) (hq : Q () ⟨h, g, d, t, os⟩) :
    wpAny M A (checkBuiltinCall "BaseException.__getattribute__" ⟨[.ref x, nameV], []⟩) Q E ⟨h, g, d, t, os⟩ := by
  have hC := K.c44
  have hk : builtinKind "BaseException.__getattribute__" = some .slot := by decide +kernel
  have hsplit : splitId "BaseException.__getattribute__" = some ("BaseException", "__getattribute__") := by decide +kernel
  have hcB : (Value.ref 44 :: bmR).contains (.type "BaseException") = true := by decide +kernel
  have ha := F.args_bexc_ga (.ref x) nameV
  simp only [checkBuiltinCall, hk, hsplit]
  refine wpAny_bind ?_
  · unfold isInstance
    repeat (first | (with_reducible refine wpAny_loadPart_at hx ?_; rw [hc]) | (with_reducible refine wpAny_isSubtype_exc hC ?_; rw [hcB]) | wp_step)
    exact hq
theorem get_entry {tk : Tok} {o : Obj} {D : Addr} {m : Str → Option Value} {Q : Fin → Shared → Prop} (K : Cls h) (hx : h.get? x = some o) (hc : o.cls = .ref 44) (hnc : ∀ c, o.data ≠ .cls c) (hD : o.dict = some D) (hn : h.Ns D m) (hv : m "message" = some v) (hq : Q (.done (.ret v)) ⟨h, g, d, t, os⟩) :
    wpAny (model prog w) A (Builtin.«object.__getattribute__» ⟨[.ref x, .str "message" tk], []⟩) Q E ⟨h, g, d, t, os⟩ := by
  have hC := K.c44
  obtain ⟨m43, m23, n43, n23, _, e1, _, _, _, e2, _⟩ := K.ns
  unfold Builtin.«object.__getattribute__»
  repeat (first | (with_reducible refine wpAny_loadPart_at hx ?_; rw [hc]) | (with_reducible refine look_plain hC K.c24 n43 n23 e1 e2 lk_message ?_) | wp_step)
  split
  · rename_i c hcd
    exact absurd hcd (hnc c)
  unfold instanceDict
  repeat (first | (with_reducible refine wpAny_loadPart_at hx ?_; rw [hc]) | with_reducible refine wpAny_loadPart_at hC ?_ | wp_step)
  rw [hD]
  repeat (first | (with_reducible refine wpAny_nsGet hn ?_; rw [hv]) | wp_step)
  exact hq
theorem get_msg {o : Obj} {D : Addr} {m : Str → Option Value} {expr : Bool} {Q : Value → Shared → Prop} (K : Cls h) (hx : h.get? x = some o) (hc : o.cls = .ref 44) (hnc : ∀ c, o.data ≠ .cls c) (hD : o.dict = some D) (hn : h.Ns D m) (hv : m "message" = some v) (hh : handedOut v = pure v) (hq : Q v ⟨h, g, d, t + 1, os⟩) :
    wpAny (model prog w) A (getAttr (.ref x) "message" expr) Q E ⟨h, g, d, t, os⟩ := by
  have hC := K.c44
  obtain ⟨m43, m23, n43, n23, _, _, _, e1, e3, _, _, e2, e4, _⟩ := K.ns
  have f3 := F.attr_Exception.ga.bind (.ref x)
  have hx0 : (expr && onTheHeap (Value.builtin "BaseException.__getattribute__")) = false := by cases expr <;> rfl
  have hx2 : (Value.builtin "BaseException.__getattribute__" == Value.builtin "object.__getattribute__") = false := by decide +kernel
  have hx1 : (onTheHeap (Value.ref 44) && Value.builtin "BaseException.__getattribute__" == Value.builtin "object.__getattribute__") = false := by rw [hx2]; rfl
  unfold getAttr
  repeat (any_goals (first | assumption | (with_reducible refine wpAny_loadPart_at hx ?_; rw [hc]) | (with_reducible refine look_plain hC K.c24 n43 n23 e1 e2 F.attr_Exception.ga.lookup ?_) | (with_reducible refine look_plain hC K.c24 n43 n23 e3 e4 F.attrBase_Exception.noGetattr ?_) | wp_step))
  refine codeAny_call_builtin F.attr_Exception.ga.plain F.entry_bexc_ga (check_ga K hx hc (get_entry K hx hc hnc hD hn hv ?_))
  repeat (any_goals (first | assumption | rw [hh] | wp_step))
end
end Mine
end

section
open PySem PySem.W PyProof.Rows PySem.Calls Builtin.Str
open Sem (wp)
set_option autoImplicit false
set_option Elab.async false
set_option linter.all false
set_option maxRecDepth 100000
namespace Mine
section
variable {prog : Program} {w : World} {A : Around} {E : Value → Shared → Prop} {h : Heap} {g : Array GenState} {d : Drawn} {t : Nat} {os : OsState}

theorem tail_of {h : Heap} (K : Cls h) : OwnTail h bmX bmR := by
  obtain ⟨c, dd, sl, cd, e, en⟩ := K.c24
  obtain ⟨_, m23, _, n23, _, _, _, _, _, _, _, _, _, i⟩ := K.ns
  exact .own e (by rw [en]; exact n23) i .base

theorem type_call_R {rest : List Value} {oI : Obj} {Q : Fin → Shared → Prop} (K : Cls h) (hfI : h.get? 41 = some oI) (hfc : oI.cls = .type "function")
    (hq : ∀ h' e, Heap.MadeExcOf h h' e (.ref 44) rest → wpAny (model prog w) A (call (.ref 41) (.ref e :: rest)) (fun r s' => r = .none ∧ Q (.done (.ret (.ref e))) s') E ⟨h', g, d, t, os⟩) (hrest : rest.length ≤ sizeLine) :
    wpAny (model prog w) A (Builtin.«type.__call__» ⟨.ref 44 :: rest, []⟩) Q E ⟨h, g, d, t, os⟩ := by
  have hC := K.c44
  have T := tail_of K
  obtain ⟨m43, m23, n43, n23, hi, _⟩ := K.ns
  repeat (first | with_reducible refine wpAny_loadPart_at hC ?_ | with_reducible refine wpAny_madeBy_exc hC ?_ | wp_step)
  refine codeAny_call_builtin_code (Code.quiet_builtin _ F.excBase_Exception.quiet) (wpAny_check_new_subU F.excBase_Exception F.excBase_Exception.hasB T hC ?_)
  refine codeAny_exc_new_subU F.excBase_Exception F.excBase_Exception.hasB F.excBase_Exception T hC ?_ hrest
  show wpAny _ _ _ _ _ _
  generalize hoT : ({ cls := .type "tuple", data := .seq rest.toArray } : Obj) = oT
  generalize hoE : ({ cls := .ref 44, data := .fields #[.ref h.objs.size, .none, .none, .none, .bool false, .none] } : Obj) = oE
  have hk : ∀ b o, h.get? b = some o → ((h.push oT).push oE).get? b = some o := fun b o e => Heap.get?_push_of_some _ (Heap.get?_push_of_some _ e)
  have hC₁ := hk _ _ hC
  have hfI₁ := hk _ _ hfI
  have n43₁ := n43.keeps hk
  have hget : ((h.push oT).push oE).get? (h.objs.size + 1) = some oE := by rw [← hoT, ← hoE]; heap_get
  have hEc : oE.cls = .ref 44 := by rw [← hoE]
  have hcC : (Value.ref 44 :: bmR).contains (.ref 44) = true := by simp
  unfold isInstance
  repeat (first | (with_reducible refine wpAny_loadPart_at hget ?_; rw [hEc]) | (with_reducible refine wpAny_isSubtype_exc hC₁ ?_; rw [hcC]) | wp_step)
  show wpAny _ _ (typeLookup (.ref 44) _) _ _ _
  rw [typeLookup_eq]
  refine wpAny_bind (wpAny_mroOf_exc hC₁ ?_)
  rw [lookupAlong_cons]
  refine wpAny_bind (wpAny_classOwn_exc hC₁ n43₁ ?_)
  rw [hi]
  refine wpAny_pure ?_
  refine wpAny_holding (wpAny_bind ?_)
  unfold bindSpecial
  refine wpAny_bind (wpAny_typeOf (T := "function") ⟨_, hfI₁, hfc⟩ ?_)
  rw [if_pos (by decide)]
  refine wpAny_pure (wpAny_bind (wpAny_mono (hq _ (h.objs.size + 1) ⟨hk, Heap.get?_none_of_le (Nat.le_succ _), h.objs.size, by rw [hget, hoE], Heap.get?_none_of_le (Nat.le_refl _), ?_⟩) (fun r s' hr => ?_) fun _ _ x => x))
  · rw [hoT]; refine Heap.get?_push_of_some _ (Heap.get?_push_size _ ?_); rw [← hoT]; rfl
  · obtain ⟨rfl, hQ⟩ := hr
    wp_walk
    exact hQ

theorem call_R {rest : List Value} {oI : Obj} {Q : Value → Shared → Prop} (K : Cls h) (hfI : h.get? 41 = some oI) (hfc : oI.cls = .type "function")
    (hq : ∀ h' e, Heap.MadeExcOf h h' e (.ref 44) rest → wpAny (model prog w) (A.under (.builtin "type.__call__" ⟨.ref 44 :: rest, []⟩)) (call (.ref 41) (.ref e :: rest)) (fun r s' => r = .none ∧ Q (.ref e) s') E ⟨h', g, d, t, os⟩) (hrest : rest.length ≤ sizeLine) :
    wpAny (model prog w) A (call (.ref 44) rest) Q E ⟨h, g, d, t, os⟩ := by
  have f1 := tc_lookup
  have f2 := tc_bind (.ref 44)
  have hC := K.c44
  have hT : (⟨h, g, d, t, os⟩ : Shared).TypeIs (.ref 44) "type" := ⟨_, hC, rfl⟩
  refine wpAny_call (codeAny_of_tree ?_)
  show wpAny _ _ (callAny (.ref 44) _) _ _ _
  repeat (any_goals (first | assumption | with_reducible refine wpAny_loadPart_at hC ?_ | wp_step))
  refine ⟨rfl, ?_⟩
  refine codeAny_call_builtin_at (Code.quiet_builtin _ (by decide +kernel)) entry_typeCall (wpAny_check_type_call_sub hC (type_call_R K hfI hfc (fun h' e hm => ?_) hrest))
  exact hq h' e hm
end

/-- a new exception with its message -/
structure MadeR (h h' : Heap) (e D : Addr) (m : Str) : Prop where
  obj : ∃ t sl, h'.get? e = some { cls := .ref 44, dict := some D, data := .fields #[.ref t, .none, .none, .none, .bool false, .none], slots := sl }
  newE : h.get? e = none
  newD : h.get? D = none
  ne : D ≠ e
  msg : ∃ mm tk, h'.Ns D mm ∧ mm "message" = some (.str m tk)
  keep : ∀ b o, h.get? b = some o → h'.get? b = some o

section
variable {w : World} {mg mb : Str → Option Value} {g₀ : Heap} (G : Gr w mg mb g₀) {A : Around} {E : Value → Shared → Prop} {s : Shared}
include G
theorem d_init : DefOk g₀ 41 (fdAt (KK w.params) 41) ["self", "message"] (bdAt (KK w.params) 41) :=
  def_ok G (by kernel_rfl) (len2 fun a b => by kernel_rfl)
theorem gl_ref : Glb pg w g₀ "Refusal" (.ref 44) := glb_own G (by kernel_rfl)
theorem gl_kept : Glb pg w g₀ "_law_kept" (.ref 191) := glb_own G (by kernel_rfl)

theorem init_call {e : Addr} {oe : Obj} {v : Value} {R : Result → Shared → Prop} (hroom : A.depth < recursionLimit) (hb : ∀ b o, g₀.get? b = some o → s.heap.get? b = some o)
    (he : s.heap.get? e = some oe) (hc : oe.cls = .ref 44) (hnc : ∀ c, oe.data ≠ .cls c) (hdn : oe.dict = none) (hnf : oe.isFreed = false)
    (hq : ∀ h' tk D, s.heap.get? D = none → h'.get? e = some { oe with dict := some D } → (∃ m, h'.Ns D m ∧ m "message" = some v) → D ≠ e → (∀ b ob, b ≠ e → s.heap.get? b = some ob → h'.get? b = some ob) → R (.ok (.ret .none)) { s with heap := h', toks := tk }) :
    codeAny (model pg w) A (.call (.ref 41) ⟨[.ref e, v], []⟩) R s := by
  have D := d_init G
  obtain ⟨fo, hfo, hfd⟩ := D.at_
  refine codeAny_call_cells hroom (hb _ _ hfo) hfd (D.lim.keeps hb) (D.cd.keeps hb) D.body (D.bind [.ref e, v] rfl) D.clo (fun x hx => .inl (D.loc _ (List.of_mem_zip hx).1)) (fun s₁ X => ?_) D.co D.gen D.kind
  have X1 := X.toInCall
  obtain ⟨h1, tk1, es⟩ := X1.same
  have K1 : Cls s₁.heap := (cls_of G.X).keeps fun b o q => X1.keep b o (hb b o q)
  refine wpAny_execs_cons (plainObj_wpAny_Assign_Attribute (NameLC (v := v) X rfl rfl rfl (NameLC (v := .ref e) X rfl rfl rfl ?_ rfl) rfl))
  have he1 := X1.keep e oe he
  subst es
  refine set_msg (x := e) K1 he1 hc hnc hdn hnf fun h' tk' D' a1 a2 a3 a4 a5 a6 => ?_
  refine wpAny_execs_nil ?_
  refine hq h' tk' D' ?_ a2 a3 a4 fun b ob hbe hb' => a6 b ob hbe (X1.keep b ob hb')
  cases q : s.heap.get? D' with
  | none => rfl
  | some o => have := X1.keep _ _ q; rw [this] at a1; cases a1

omit G in
theorem raiseStmt_R {M : Model} {env : Env} {x : Sem Value} {Q : Flow → Shared → Prop} (hh : A.handled = none)
    (h : wpAny M A x (fun v s₁ => ∃ e D t sl, v = .ref e ∧ s₁.heap.get? 44 = some clsR ∧ s₁.heap.get? e = some { cls := .ref 44, dict := some D, data := .fields #[.ref t, .none, .none, .none, .bool false, .none], slots := sl } ∧ E (.ref e) s₁) E s) : wpAny M A (raiseStmt env (some x) none) Q E s := by
  have hcB : (Value.ref 44 :: bmR).contains (.type "BaseException") = true := by decide +kernel
  unfold raiseStmt
  refine wpAny_bind (wpAny_mono h (fun v s₁ h₁ => ?_) fun _ _ x => x)
  obtain ⟨e, D, t, sl, rfl, hC, he, hE⟩ := h₁
  obtain ⟨hp, g, d, tk, os⟩ := s₁
  repeat (first | with_reducible refine wpAny_loadPart_at he ?_ | with_reducible refine wpAny_loadPart_at hC ?_ | (with_reducible refine wpAny_isSubtype_exc hC ?_; rw [hcB]) | wp_step)
  exact wpAny_raiseNew_none hh hE
/-- raise Refusal('..') -/
theorem raise_R {env : Env} {np cp cpos pos : Pos} {k : Nat} {m : Str} {Q : Flow → Shared → Prop} (hh : A.handled = none) (hroom : A.depth + 50 < recursionLimit) (hb : ∀ b o, g₀.get? b = some o → s.heap.get? b = some o)
    (hk : env.scope.kind = .function) (hx : env.kindOf "Refusal" = some .globalImplicit) (h1 : env.globals = mainGlobals) (h2 : env.builtins = builtinsNs)
    (hE : ∀ e D h' tk, MadeR s.heap h' e D m → E (.ref e) { s with heap := h', toks := tk }) :
    wpAny (model pg w) A (exec (.Raise (some (.Call (.Name "Refusal" np) [.Constant (.str m) k cp] [] cpos)) none pos) env) Q E s := by
  rw [arm_exec_Raise]
  have key : wpAny (model pg w) A (eval (.Call (.Name "Refusal" np) [.Constant (.str m) k cp] [] cpos) env) (fun v s₁ => ∃ e D t sl, v = .ref e ∧ s₁.heap.get? 44 = some clsR ∧ s₁.heap.get? e = some { cls := .ref 44, dict := some D, data := .fields #[.ref t, .none, .none, .none, .bool false, .none], slots := sl } ∧ E (.ref e) s₁) E s := by
    refine wpAny_Call_ofName (gl_ref G env np A _ _ s hk hx h1 h2 hb ?_)
    unfold callWith
    refine wpAny_bind (wpAny_holding (evalArgs_plain ?_))
    refine spliced_cons (fun Γ p hΓ => ?_)
    have K : Cls s.heap := (cls_of G.X).keeps hb
    obtain ⟨fo, hfo, hfd⟩ := (d_init G).at_
    have hfo1 : g₀.get? 41 = some (fnY (fun _ => "Refusal.__init__") (initOf (stN 2)) mE 40) := G.X 41 _ (by kernel_rfl)
    obtain ⟨hp, g, d, tk, os⟩ := s
    change wpAny (model pg w) A (spliced []) _ E ⟨hp, g, d, tk + 1, os⟩
    refine spliced_nil (wpAny_bind (wpAny_standAt ?_))
    refine wpAny_bind (wpAny_keeperOf_exc K.c44 ?_)
    have fin : ∀ h' e, Heap.MadeExcOf hp h' e (.ref 44) [.str m tk] → wpAny (model pg w) (A.under (.builtin "type.__call__" ⟨.ref 44 :: [.str m tk], []⟩)) (call (.ref 41) (.ref e :: [.str m tk]))
        (fun r s' => r = .none ∧ ∃ D t sl, s'.heap.get? 44 = some clsR ∧ s'.heap.get? e = some { cls := .ref 44, dict := some D, data := .fields #[.ref t, .none, .none, .none, .bool false, .none], slots := sl } ∧ E (.ref e) s') E ⟨h', g, d, tk + 1, os⟩ := fun h' e hm => by
      obtain ⟨t, ht, htn, htt⟩ := hm.there
      refine wpAny_call (init_call G (s := ⟨h', g, d, tk + 1, os⟩) ?_ (fun b o q => hm.keeps _ _ (hb b o q)) ht rfl (fun c q => by cases q) rfl rfl fun h'' tk' D a1 a2 a3 a4 a5 => ?_)
      · have hw : Code.weight (.builtin "type.__call__" ⟨.ref 44 :: [.str m tk], []⟩) = 1 := by kernel_rfl
        show A.depth + Code.weight (.builtin "type.__call__" ⟨.ref 44 :: [.str m tk], []⟩) < recursionLimit
        rw [hw]; omega
      · have keep : ∀ b o, hp.get? b = some o → h''.get? b = some o := fun b o q => a5 b o (fun z => by rw [z, hm.new] at q; cases q) (hm.keeps b o q)
        refine ⟨rfl, D, t, _, keep _ _ K.c44, a2, hE e D h'' tk' ⟨⟨t, _, a2⟩, hm.new, ?_, a4, ?_, keep⟩⟩
        · cases q : hp.get? D with
          | none => rfl
          | some o => rw [hm.keeps _ _ q] at a1; cases a1
        · obtain ⟨mm, n1, n2⟩ := a3
          exact ⟨mm, tk, n1, n2⟩
    refine wpAny_bind (call_R K (hb _ _ hfo1) (by kernel_rfl) (fun h' e hm => wpAny_mono (fin h' e hm) (fun r s' hr => ?_) fun _ _ x => x) (by show (1 : Nat) ≤ sizeLine; decide))
    obtain ⟨rfl, D, t, sl, q1, q2, q3⟩ := hr
    exact ⟨rfl, wpAny_bind (wpAny_holding (wpAny_point (wpAny_pure ⟨e, D, t, sl, rfl, q1, q2, q3⟩)))⟩
  first
    | exact wpAny_bind (wpAny_standAt (raiseStmt_R hh (wpAny_bind (wpAny_mono key (fun v s₃ h₃ => wpAny_bind (wpAny_standAt (wpAny_pure h₃))) fun _ _ x => x))))
    | (simp only [evalOpt, Option.map]; exact wpAny_bind (wpAny_standAt (raiseStmt_R hh (wpAny_bind (wpAny_mono key (fun v s₃ h₃ => wpAny_bind (wpAny_standAt (wpAny_pure h₃))) fun _ _ x => x)))))
    | (refine wpAny_bind (wpAny_standAt (raiseStmt_R hh ?_)); exact wpAny_bind (wpAny_mono key (fun v s₃ h₃ => wpAny_bind (wpAny_standAt (wpAny_pure h₃))) fun _ _ x => x))
end
end Mine
end

section
open PySem PySem.W PyProof.Rows PySem.Calls Builtin.Str
open Sem (wp)
set_option autoImplicit false
set_option Elab.async false
set_option linter.all false
set_option maxRecDepth 100000
namespace Mine
section
variable {M : Model} {A : Around} {E : Value → Shared → Prop} {env : Env} {Q : Flow → Shared → Prop}
theorem execs_go {b : List Stmt} {Γ : Ctx} (hΓ : Γ.In A) : ∀ (a : List Stmt) (p : Pos) (s : Shared), wp M Γ (execs a env) (fun f _ s' => match f with | .next => wpAny M A (execs b env) Q E s' | f => Q f s') (fun e _ s' => E e s') p s → wp M Γ (execs (a ++ b) env) (fun f _ s' => Q f s') (fun e _ s' => E e s') p s
  | [], p, s, h => (h : wpAny M A (execs b env) Q E s) Γ p hΓ
  | st :: a, p, s, h => by
    rw [execs_cons, Sem.wp_bind'] at h
    rw [List.cons_append, execs_cons, Sem.wp_bind']
    refine Sem.wp_mono M Γ _ (fun f p' s' h' => ?_) (fun _ _ _ h' => h') _ _ h
    cases f <;> first | exact execs_go hΓ a p' s' h' | exact h'
theorem execs_append {a b : List Stmt} {s : Shared} (h : wpAny M A (execs a env) (fun f s' => match f with | .next => wpAny M A (execs b env) Q E s' | f => Q f s') E s) : wpAny M A (execs (a ++ b) env) Q E s :=
  fun Γ p hΓ => execs_go hΓ a p s (h Γ p hΓ)
end

/-! defs that raise -/
section
variable {w : World} {mg mb : Str → Option Value} {g₀ : Heap} {n : Nat} {env : Env} {P : Option Addr} {ρ : Str → Option V} {own : Own} {p p' p₁ : List Int} {m : Str}
noncomputable def WX0 (w : World) (g₀ : Heap) (n : Nat) (env : Env) (P : Option Addr) (ρ : Str → Option V) (own : Own) (p : List Int) (ss : List Stmt) (m : Str) : Prop :=
  ∀ (A : Around) (H : Shared) (ex : Addr → Prop) (s : Shared) (E : Value → Shared → Prop), OkA n A → Rep pg w g₀ env P H ex ρ own p s →
    (∀ e D s'' h' k ρ' own', Rep pg w g₀ env P H ex ρ' own' p s'' → MadeR s''.heap h' e D m → E (.ref e) { s'' with heap := h', toks := k }) → wpAny (model pg w) A (execs ss env) (fun _ _ => False) E s
structure WX (w : World) (g₀ : Heap) (n : Nat) (env : Env) (P : Option Addr) (ρ : Str → Option V) (own : Own) (p : List Int) (ss : List Stmt) (m : Str) : Prop where
  run : WX0 w g₀ n env P ρ own p ss m
theorem wx_pre {a b : List Stmt} (h : WS pg w g₀ n env P ρ own p a (fun fl ρ' own' p' => match fl with | .next => p' = p ∧ WX w g₀ n env P ρ' own' p b m | _ => False)) : WX w g₀ n env P ρ own p (a ++ b) m := .mk fun A H ex s E hA Rp hE => by
  refine execs_append (wpAny_mono (h A H ex s (fun f s' => match f with | .next => wpAny (model pg w) A (execs b env) (fun _ _ => False) E s' | _ => False) hA Rp fun fl flow ρ' own' p' s' hq hf hr => ?_) (fun f s' hf => ?_) fun _ _ f => f.elim)
  · cases fl with
    | next =>
      cases hf
      obtain ⟨rfl, hx⟩ := hq
      exact hx.run A H ex s' E hA hr hE
    | _ => exact hq.elim
  · cases f <;> exact hf
theorem wx_if {t body orelse pos rest} (ht : PT pg w g₀ n env P (ρo ρ own) p t true p) (h : WX w g₀ n env P ρ own p body m) : WX w g₀ n env P ρ own p (.If t body orelse pos :: rest) m := .mk fun A H ex s E hA Rp hE => by
  obtain ⟨vars, Rp⟩ := Rp
  refine wpAny_execs_cons (wpAny_If (ht A E _ s _ hA Rp.stAll fun s₁ st hp => ?_))
  rw [if_pos rfl]
  exact wpAny_mono (h.run A H ex s₁ E hA ⟨vars, Rp.stp st hp⟩ hE) (fun _ _ f => f.elim) fun _ _ x => x
theorem wx_raise (G : Gr w mg mb g₀) {np cp cpos pos : Pos} {k : Nat} {rest : List Stmt} (hk : env.scope.kind = .function := by rfl) (hx : env.kindOf "Refusal" = some .globalImplicit := by rfl) (h1 : env.globals = mainGlobals := by rfl) (h2 : env.builtins = builtinsNs := by rfl) :
    WX w g₀ n env P ρ own p (.Raise (some (.Call (.Name "Refusal" np) [.Constant (.str m) k cp] [] cpos)) none pos :: rest) m := .mk fun A H ex s E hA Rp hE => by
  obtain ⟨vars, Rp⟩ := Rp
  have hd := hA.2.1
  exact wpAny_execs_cons (raise_R G hA.1 (by unfold recursionLimit; omega) Rp.base' hk hx h1 h2 fun e D h' tk hm => hE e D s h' tk _ _ ⟨vars, Rp⟩ hm)

/-- an exception that has come to the frames l -/
structure Flown (P : Option Addr) (h : Heap) (l : List Env) (e : Addr) (m : Str) (p : List Int) (h' : Heap) : Prop where
  it : ∃ B D, (∀ b o, some b ≠ P → b ∉ l.filterMap (·.frame) → h.get? b = some o → B.get? b = some o) ∧ B.get? e = none ∧ On B l e 44 D .none h' h' ∧ (∃ mm tk, B.Ns D mm ∧ mm "message" = some (.str m tk)) ∧ PoolAt P p B
  up : ∀ b o, some b ≠ P → h.get? b = some o → notRec o → ∃ sl, h'.get? b = some { o with slots := sl }

theorem On.self {base : Heap} {l : List Env} {e C D : Addr} {fl : Value} {h h' : Heap} (x : On base l e C D fl h h') : On base l e C D fl h' h' := ⟨x.st, x.fr, x.tr, Heap.UpToSlots.refl _⟩
theorem ff_change {B base h h' : Heap} : ∀ {l : List Env}, h.FunFrames base l → (∀ L ∈ l.filterMap (·.frame), B.get? L = none) → (∀ L ∈ l.filterMap (·.frame), ∀ o, h.get? L = some o → notRec o → ∃ o', h'.get? L = some o' ∧ notRec o') → h'.FunFrames B l
  | [], _, _, _ => trivial
  | env :: l, ⟨hk, ⟨L, o, hf, hn, ho, hd⟩, hr⟩, hB, hh => by
    have hm : L ∈ (env :: l).filterMap (·.frame) := by rw [List.filterMap_cons, hf]; exact .head _
    have sub : ∀ b, b ∈ l.filterMap (·.frame) → b ∈ (env :: l).filterMap (·.frame) := fun b hb => by rw [List.filterMap_cons, hf]; exact .tail _ hb
    obtain ⟨o', h1, h2⟩ := hh L hm o ho hd
    exact ⟨hk, ⟨L, o', hf, hB L hm, h1, h2⟩, ff_change hr (fun b hb => hB b (sub b hb)) fun b hb => hh b (sub b hb)⟩

noncomputable def FnX0 (w : World) (g₀ : Heap) (n : Nat) (P : Option Addr) (f : Addr) (args : List V) (p : List Int) (m : Str) : Prop :=
  ∀ (A : Around) (R : Result → Shared → Prop) (s : Shared) (ok : Addr → Prop) (vals : List Value) (l : List Env), OkA n A → A.frames = some l → s.heap.FunFrames g₀ l → (∀ L ∈ l.filterMap (·.frame), some L ≠ P) → St0 g₀ P p ok s.heap → VRs P ok s.heap args vals →
    (∀ e h' k, Flown P s.heap l e m p h' → R (.error (.ref e)) { s with heap := h', toks := k }) → codeAny (model pg w) A (.call (.ref f) ⟨vals, []⟩) R s
structure FnX (w : World) (g₀ : Heap) (n : Nat) (P : Option Addr) (f : Addr) (args : List V) (p : List Int) (m : Str) : Prop where
  run : FnX0 w g₀ n P f args p m

/-- behind a raise in a def's own frame -/
theorem raise_leaves {A : Around} {s s'' : Shared} {h' : Heap} {k : Nat} {e D : Addr} {l : List Env} {ex : Addr → Prop} {vars : Str → Option Value} {Q : Unit → Shared → Prop} {E : Value → Shared → Prop} (hfr : A.frames = some l) (hl : s.heap.FunFrames g₀ l) (hlP : ∀ L ∈ l.filterMap (·.frame), some L ≠ P)
    (Rp : RepV pg w g₀ env P s ex vars ρ own p s'') (hm : MadeR s''.heap h' e D m) (hf : env.frame = some env.locals) (hQ : ∀ h'', Flown P s.heap l e m p h'' → Q () { s with heap := h'', toks := k }) :
    wpAny (model pg w) (A.deeper env) (leaving env (.ref e)) Q E { s'' with heap := h', toks := k } := by
  obtain ⟨t, sl, he⟩ := hm.obj
  have hLp := Rp.pf env.locals (.head _)
  have hLl : env.locals ∉ l.filterMap (·.frame) := fun hm' => by
    obtain ⟨_, o, ho, _⟩ := hl.mem hm'
    rw [hLp.2.1] at ho; cases ho
  -- what stands aside
  let FR := e :: (env :: l).filterMap (·.frame)
  have hFR : (env :: l).filterMap (·.frame) = env.locals :: l.filterMap (·.frame) := by rw [List.filterMap_cons, hf]
  have old : ∀ b o, some b ≠ P → s.heap.get? b = some o → h'.get? b = some o := fun b o hb q => hm.keep b o (Rp.keep b o hb q)
  have ne_e : ∀ b o, s''.heap.get? b = some o → b ≠ e := fun b o q z => by rw [z, hm.newE] at q; cases q
  have inB : ∀ b o, b ≠ e → b ≠ env.locals → b ∉ l.filterMap (·.frame) → h'.get? b = some o → (hideAll h' FR).get? b = some o := fun b o h1 h2 h3 q => hideAll_get _ q fun z => by
    rcases List.mem_cons.mp z with z | z
    · exact h1 z
    · rw [hFR] at z
      rcases List.mem_cons.mp z with z | z
      · exact h2 z
      · exact h3 z
  have hfrs : (A.deeper env).frames = some (env :: l) := Around.frames_deeper hfr
  have hll : h'.FunFrames (hideAll h' FR) (env :: l) := by
    obtain ⟨mm, ⟨o, es, ep, ho, hd, _⟩, _⟩ := Rp.loc
    refine ⟨by rw [Rp.hk]; decide, ⟨env.locals, o, hf, hideAll_none _ (.tail _ (by rw [hFR]; exact .head _)), hm.keep _ _ ho, fun vs q => by rw [hd] at q; cases q⟩, ff_change hl (fun L hL => hideAll_none _ (.tail _ (by rw [hFR]; exact .tail _ hL))) fun L hL o ho hn => ⟨o, old L o (hlP L hL) ho, hn⟩⟩
  refine leave_first (base := hideAll h' FR) (C := 44) (D := D) (s := { s'' with heap := h', toks := k }) hfrs hll hf (fun b o q => of_hideAll _ q) (hideAll_none _ (.head _)) he rfl rfl rfl rfl fun h'' O => ?_
  have same : ({ ({ s'' with heap := h', toks := k } : Shared) with heap := h'' } : Shared) = { s with heap := h'', toks := k } := by rw [Rp.same]
  rw [same]
  refine hQ h'' ⟨⟨hideAll h' FR, D, fun b o hb hbl q => ?_, hideAll_none _ (.head _), O.self, ?_, ?_⟩, fun b o hb q hn => ?_⟩
  · exact inB b o (ne_e b o (Rp.keep b o hb q)) (fun z => by rw [z, hLp.2.1] at q; cases q) hbl (old b o hb q)
  · obtain ⟨mm, tk, ⟨o, es, ep, ho, r⟩, h2⟩ := hm.msg
    refine ⟨mm, tk, ⟨o, es, ep, inB D o hm.ne (fun z => hLp.2.2 (z ▸ hm.newD)) (fun z => ?_) ho, r⟩, h2⟩
    obtain ⟨_, o2, ho2, _⟩ := hl.mem z
    have := hm.newD
    rw [Rp.keep D o2 (hlP D z) ho2] at this; cases this
  · refine Rp.pool.of fun a o ea q => inB a o (ne_e a o q) (fun z => hLp.1 (by rw [← z, ea])) (fun z => hlP a z ea.symm) (hm.keep a o q)
  · exact O.up b o (old b o hb q) hn

theorem fnx_of {f : Addr} {fd : FuncData} {names : List Str} {body : List Stmt} {args : List V} (D : DefOk g₀ f fd names body) (hlen : args.length = names.length)
    (h : ∀ L, WX w g₀ n (callEnvC fd L f) P (argsρ names args) [] p body m) : FnX w g₀ (n + 1) P f args p m := .mk fun A R s ok vals l hA hfr hl hlP S rv hR => by
  refine enter_def (ρ := argsρ names args) D (rv.length.trans hlen) hA S (fun y v e => args_rel rv e) fun s₁ R1 _ => ?_
  refine wpAny_mono ((h s.heap.objs.size).run _ s (fun _ => False) s₁ (fun e s' => wpAny (model pg w) (A.deeper (callEnvC fd s.heap.objs.size f)) (leaving (callEnvC fd s.heap.objs.size f) e) (fun _ s'' => R (.error e) s'') (fun e' s'' => R (.error e') s'') s') hA.deeper ⟨_, R1⟩ fun e D' s'' h' k ρ' own' Rp hm => ?_) (fun _ _ f => f.elim) fun _ _ x => x
  obtain ⟨vars, Rp⟩ := Rp
  exact raise_leaves hfr hl hlP Rp hm rfl fun h'' F => hR e h'' k F
end
section
variable {w : World} {mg mb : Str → Option Value} {g₀ : Heap} (G : Gr w mg mb g₀)
include G
theorem fx_sub {n : Nat} {v1 v2 v3 : V} (p : List Int) (P : Option Addr) : FnX w g₀ (n + 3) P 109 [.str ("" : String), v1, v2, v3] p "zero-length pattern" := by
  refine fnx_of (d_sub G) rfl fun L => ?_
  refine wx_if ?_ (wx_raise G)
  have : PT pg w g₀ (n + 2) (callEnvC (fdAt (KK w.params) 109) L 109) P (ρo (argsρ ["pattern", "replacement", "text", "every"] [.str ("" : String), v1, v2, v3]) []) p (.Compare (.Name "pattern" ⟨72, 7, 72, 14⟩) [.Eq] [.Constant (.str "") 0 ⟨72, 18, 72, 20⟩] ⟨72, 7, 72, 20⟩) ((("" : String) : Str) == (("" : String) : Str)) p := pt_cmp (pe_name rfl) pe_str cmp_eq_str.cmp
  rwa [beq_self_eq_true] at this
theorem fx_chartr {n : Nat} {old new : Str} {v : V} (ho : Plain7 old) (hn : Plain7 new) (hgt : (spread new).length < (spread old).length) (p : List Int) (P : Option Addr) : FnX w g₀ (n + 5) P 128 [.str old, .str new, v] p "'old' is longer than 'new'" := by
  obtain ⟨fo, hfo⟩ := (d_spread G).at_
  have l1 : (spread old).length ≤ 129 * 65 := by
    have := spreadF_len ho (old.length + 1) 0
    have := ho.1
    unfold spread; omega
  have bl : ∀ l : List Str, l.length ≤ 129 * 65 → BI pg w (.builtin "len") [.list (l.map .str)] (.int l.length) := fun l hl => by
    have := bi_len_list (prog := pg) (w := w) (xs := l.map V.str) (by rw [List.length_map]; unfold sizeLine; omega)
    rwa [List.length_map] at this
  refine fnx_of (d_chartr G) rfl fun L => ?_
  have hx : WX w g₀ (n + 4) (callEnvC (fdAt (KK w.params) 128) L 128) P (argsρ ["old", "new", "text"] [.str old, .str new, v]) [] p ((bdAt (KK w.params) 128).take 2 ++ (bdAt (KK w.params) 128).drop 2) "'old' is longer than 'new'" := by
    refine wx_pre ?_
    refine ws_letf (v := .list ((spread old).map .str)) (pe_call (gl_spread G) hfo (pes_cons (pe_name rfl) pes_nil) (f_spread G ho p P)) (.inl rfl) ?_
    refine ws_letf (v := .list ((spread new).map .str)) (pe_call (gl_spread G) hfo (pes_cons (pe_name rfl) pes_nil) (f_spread G hn p P)) (.inl rfl) ?_
    refine ws_nil ⟨rfl, wx_if ?_ (wx_raise G)⟩
    have : PT pg w g₀ (n + 4) (callEnvC (fdAt (KK w.params) 128) L 128) P (ρo (upd (upd (argsρ ["old", "new", "text"] [.str old, .str new, v]) "before" (.list ((spread old).map .str))) "behind" (.list ((spread new).map .str))) []) p
      (.Compare (.Call (.Name "len" ⟨116, 7, 116, 10⟩) [.Name "before" ⟨116, 11, 116, 17⟩] [] ⟨116, 7, 116, 18⟩) [.Gt] [.Call (.Name "len" ⟨116, 21, 116, 24⟩) [.Name "behind" ⟨116, 25, 116, 31⟩] [] ⟨116, 21, 116, 32⟩] ⟨116, 7, 116, 32⟩) (decide (((spread old).length : Int) > ((spread new).length : Int))) p :=
      pt_cmp (pe_bi (g_len G) (pes_cons (pe_name rfl) pes_nil) (bl _ l1)) (pe_bi (g_len G) (pes_cons (pe_name rfl) pes_nil) (bl _ (by omega))) cmp_gt_int.cmp
    rwa [show decide (((spread old).length : Int) > ((spread new).length : Int)) = true from decide_eq_true (by omega)] at this
  rwa [List.take_append_drop] at hx
end
end Mine
end

section
open PySem PySem.W PyProof.Rows PySem.Calls Builtin.Str
open Sem (wp)
set_option autoImplicit false
set_option Elab.async false
set_option linter.all false
set_option maxRecDepth 100000
namespace Mine
/-- a function made by a lambda without parameters -/
noncomputable abbrev lamFd (name qual : Str) (params : Arguments) (body : Expr) (scope : Scope) (cl : List (Str × Addr)) (pm cdv ct : Value) : FuncData :=
  { name, qualname := qual, params, body := .expr body, scope, globals := mainGlobals, closure := cl, defaults := .none, kwdefaults := .none, doc := .none, pyModule := pm, annotations := none, code := cdv, closureTuple := ct, builtins := builtinsNs }
/-- the law's code and its table of inner codes -/
structure TabK (h : Heap) (ps : Array Value) : Prop where
  code : h.IsCode 195 193 ps
  tab : h.TableAt 195 193 ps

section
variable {M : Model} {A : Around} {E : Value → Shared → Prop} {s : Shared} {env : Env} {ps : Array Value} {pos : Pos} {firstLine : Nat} {mg : Str → Option Value} {name qual : Str} {params : Arguments} {body : Expr} {scope : Scope} {q : Str × Addr} {r : List (Str × Addr)} {Q : Value → Shared → Prop}
/-- what a lambda leaves -/
structure Lamd (h h' : Heap) (f : Addr) (name qual : Str) (params : Arguments) (body : Expr) (scope : Scope) (clos : List (Str × Addr)) (pos : Pos) (ps : Array Value) : Prop where
  ext : Heap.ExtBut 193 h h'
  newF : h.get? f = none
  obj : ∃ pm c' ct, h'.get? f = some { cls := .type "function", data := .func (lamFd name qual params body scope clos pm (.ref c') ct) } ∧ h'.CodeRec (.ref c') qual ∧ TabK h' (ps ++ #[rawInt pos.line, rawInt pos.col, .ref c'])

theorem make_lam (hcode : env.code = .ref 195) (T : TabK s.heap ps) (hnf : codeAmong pos ps.toList = none) (hcl : closureFor scope env = pure (q :: r)) (hg0 : env.globals = mainGlobals) (hg : s.heap.Ns mainGlobals mg) (hb : s.heap.BuiltinsAt mg 193) (hne : mainGlobals ≠ 193)
    (hQ : ∀ f h' tk, Lamd s.heap h' f name qual params body scope (q :: r) pos ps → Q (.ref f) { s with heap := h', toks := tk }) :
    wpAny M A (makeFunction name qual params (.expr body) scope env [] [] [] pos firstLine) Q E s := by
  obtain ⟨bm, ob, hbm, hn1, _, hn2, hbo, hcls, hdict, hdata⟩ := hb
  rw [makeFunction_eq]
  simp only [List.zip_nil_right, List.filterMap_nil, List.isEmpty_nil, if_true, pure_bind]
  unfold makeTail
  rw [hcl, hg0]
  refine wpAny_bind (wpAny_pure ?_)
  simp only [List.isEmpty_cons, Bool.false_eq_true, if_false]
  refine wpAny_bind (wpAny_newTextTuple (wpAny_bind (wpAny_functionCodeX hcode (T.code.push _) (T.tab.push _) hnf fun c' h' tk hx hge hlt hic hrec hta _ => ?_)))
  have hx' : Heap.ExtBut 193 s.heap h' := fun b o hb' e => hx b o hb' (Heap.get?_push_of_some _ e)
  have hg' := hg.extBut hx' hne
  refine wpAny_bind (wpAny_builtinsFor hg' hbm hn1 (hx' _ _ hn2 hbo) hcls hdict hdata (wpAny_bind (wpAny_nsGet hg' (wpAny_bind (wpAny_pure (wpAny_newObj_type (hQ _ _ tk ⟨fun b o hb' e => Heap.get?_push_of_some _ (hx' b o hb' e), ?_, ?_⟩) (by size_fits)))))))
  · cases e : s.heap.get? h'.objs.size with
    | none => rfl
    | some o =>
      by_cases z : h'.objs.size = 193
      · have := Heap.lt_size hta.2
        rw [← z] at this
        exact absurd this (Nat.lt_irrefl _)
      · exact absurd (Heap.lt_size (hx' _ _ z e)) (Nat.lt_irrefl _)
  · refine ⟨_, c', _, Heap.get?_push_size _ rfl, ?_, hic.push _, hta.push _⟩
    obtain ⟨c₂, oc, vs, t, e2, hoc, hd, hv⟩ := hrec
    exact ⟨c₂, oc, vs, t, e2, Heap.get?_push_of_some _ hoc, hd, hv⟩

theorem eval_lam {lpos : Pos} (hdef : defaultsOf params env = ([], [])) (h : wpAny M A (makeFunction "<lambda>" (env.qual ++ "<lambda>") params (.expr body) scope env [] [] [] lpos lpos.line) Q E s) :
    wpAny M A (eval (.Lambda params body scope lpos) env) Q E s := by
  rw [arm_eval_Lambda, hdef]
  show wpAny M A (do let dv ← evalAll []; let kdv ← holding dv (evalAllOpt []); makeFunction "<lambda>" (env.qual ++ "<lambda>") params (.expr body) scope env dv kdv [] lpos lpos.line) Q E s
  exact wpAny_bind (wpAny_pure (wpAny_bind (wpAny_holding (wpAny_pure h))))
end

section
variable {w : World} {mg mb : Str → Option Value} {g₀ : Heap} {n : Nat} {env : Env} {P : Option Addr} {ρ : Str → Option V} {own : Own} {p p' p₁ : List Int} {m : Str}

/-- the env of a lambda's call -/
noncomputable abbrev lamEnv (qual : Str) (scope : Scope) (L f : Addr) (cdv : Value) (cl : List (Str × Addr)) : Env := newEnv scope L mainGlobals cl (qual ++ ".<locals>.") (some f) cdv none builtinsNs

theorem lam_enter {A : Around} {s : Shared} {R : Result → Shared → Prop} {f : Addr} {ok : Addr → Prop} {name qual : Str} {params : Arguments} {body : Expr} {scope : Scope} {cl : List (Str × Addr)} {pm cdv ct : Value} (hA : OkA (n + 1) A) (S : St0 g₀ P p ok s.heap) (hlim : g₀.NoLimit)
    (ho : s.heap.get? f = some { cls := .type "function", data := .func (lamFd name qual params body scope cl pm cdv ct) }) (hcd : s.heap.CodeRec cdv qual) (hbind : bindArgs (lamFd name qual params body scope cl pm cdv ct) ⟨[], []⟩ = pure [])
    (hco : scope.isCoroutine = false) (hgen : scope.isGenerator = false) (hk : scope.kind = .function) (hcell : ∀ x ∈ scope.names, x.2 ≠ .cell)
    (hv : ∀ y v, ρ y = some v → scope.names.lookup y = some .free ∧ (y == ("__classdict__" : Str)) = false ∧ ∃ c val, cl.lookup y = some c ∧ some c ≠ P ∧ s.heap.IsCell c (some val) ∧ VR P ok s.heap v val)
    (k : ∀ L s₁, s.heap.get? L = none → (∃ o, s₁.heap.get? L = some o ∧ notRec o) → (∀ b o, s.heap.get? b = some o → s₁.heap.get? b = some o) → s₁ = { s with heap := s₁.heap, toks := s₁.toks } → St g₀ (lamEnv qual scope L f cdv cl) P ρ p ok s₁.heap →
      wpAny (model pg w) (A.deeper (lamEnv qual scope L f cdv cl)) (eval body (lamEnv qual scope L f cdv cl)) (fun v s' => R (.ok (.ret v)) s')
        (fun e s' => wpAny (model pg w) (A.deeper (lamEnv qual scope L f cdv cl)) (leaving (lamEnv qual scope L f cdv cl) e) (fun _ s'' => R (.error e) s'') (fun e' s'' => R (.error e') s'') s') s₁) :
    codeAny (model pg w) A (.call (.ref f) ⟨[], []⟩) R s := by
  refine codeAny_of_tree ?_
  show wpAny _ A.in1 (callAny (.ref f) ⟨[], []⟩) _ _ s
  simp only [callAny]
  refine wpAny_bind (wpAny_load ho ?_)
  obtain ⟨c, oc, vs, tq, hc, hoc, hdc, hq⟩ := hcd
  subst hc
  simp only [callFunction, hco, hgen]
  refine wpAny_bind (m := field (.ref c) 1) (wpAny_field hoc hdc hq (wpAny_bind (wpAny_pure ?_)))
  rw [hbind]
  refine wpAny_bind (wpAny_pure (wpAny_bind (wpAny_newFunctionEnv hcell (by intro x hx; cases hx) (fun h₁ hns hsb => wpAny_bind (wpAny_enterFrame ?_ hA.room (wpAny_pure (And.intro rfl ?_)))) hk)))
  · exact (hlim.keeps S.base).fresh _ hsb
  · have hk₁ : ∀ b o, s.heap.get? b = some o → h₁.get? b = some o := fun b o e => hsb.extBut b o (Nat.ne_of_lt (Heap.lt_size e)) (Heap.get?_push_of_some _ e)
    have S1 : St g₀ (lamEnv qual scope s.heap.objs.size f (.ref c) cl) P ρ p ok h₁ := by
      refine ⟨⟨fun b o e => hk₁ b o (S.base b o e), S.pbase, S.okP, S.pool.of fun a o _ e => hk₁ a o e⟩, fun y v e => ?_⟩
      obtain ⟨h1, h2, c', val, h3, h4, ⟨o, ho', hd'⟩, h6⟩ := hv y v e
      exact ⟨val, h6.mono (fun a o _ e => hk₁ a o e) fun _ x => x, hk, .inr ⟨.inr ⟨h1, h2⟩, c', h3, h4, o, hk₁ c' o ho', hd'⟩⟩
    refine codeAny_of_tree ?_
    show wpAny _ (A.deeper _) (do point; ret (← (eval body _).onRaise (leaving _))) _ _ _
    obtain ⟨o, es, ep, hoL, hdL, _⟩ := hns
    exact wpAny_bind (wpAny_point (wpAny_bind (wpAny_onRaise (wpAny_mono (k s.heap.objs.size _ (get_size _) ⟨o, hoL, fun vs q => by rw [hdL] at q; cases q⟩ hk₁ rfl S1) (fun v s' h' => wpAny_pure h') fun _ _ h' => h'))))

theorem Flown.pre {h₀ h h' : Heap} {l : List Env} {e : Addr} (k : ∀ b o, some b ≠ P → h₀.get? b = some o → h.get? b = some o) (F : Flown P h l e m p h') : Flown P h₀ l e m p h' := by
  obtain ⟨⟨B, D, b1, b2, b3, b4, b5⟩, up⟩ := F
  exact ⟨⟨B, D, fun b o hb hl q => b1 b o hb hl (k b o hb q), b2, b3, b4, b5⟩, fun b o hb q hn => up b o hb (k b o hb q) hn⟩

/-- out of a frame that the exception only passes -/
theorem flown_leaves {A : Around} {s' : Shared} {h₀ h : Heap} {l : List Env} {e Lm : Addr} {Q : Unit → Shared → Prop} {E : Value → Shared → Prop} (hfr : A.frames = some l) (F : Flown P h (env :: l) e m p s'.heap) (hf : env.frame = some Lm)
    (hk : ∀ b o, some b ≠ P → h₀.get? b = some o → h.get? b = some o) (hn : h₀.get? Lm = none) (hQ : ∀ h'', Flown P h₀ l e m p h'' → Q () { s' with heap := h'' }) :
    wpAny (model pg w) (A.deeper env) (leaving env (.ref e)) Q E s' := by
  obtain ⟨⟨B, D, b1, b2, b3, b4, b5⟩, up⟩ := F
  refine leave_next (Around.frames_deeper hfr) b3.fr hf b3.st b2 b3.tr fun h'' O => hQ h'' ⟨⟨B, D, fun b o hb hl q => b1 b o hb (fun z => ?_) (hk b o hb q), b2, O.self, b4, b5⟩, fun b o hb q hn' => ?_⟩
  · rw [List.filterMap_cons, hf] at z
    rcases List.mem_cons.mp z with z | z
    · rw [z, hn] at q; cases q
    · exact hl z
  · obtain ⟨sl, h1⟩ := up b o hb (hk b o hb q) hn'
    obtain ⟨sl2, h2⟩ := O.up b _ h1 hn'
    exact ⟨sl2, h2⟩

theorem ff_keep {base h h' : Heap} {l : List Env} (hl : h.FunFrames base l) (hlP : ∀ L ∈ l.filterMap (·.frame), some L ≠ P) (k : ∀ b o, some b ≠ P → h.get? b = some o → h'.get? b = some o) : h'.FunFrames base l :=
  ff_change hl (fun L hL => (hl.mem hL).1) fun L hL o ho hn => ⟨o, k L o (hlP L hL) ho, hn⟩

/-- a call that raises -/
theorem pex_call {x : Str} {px pos args} {f : Addr} {fd : FuncData} {fo : Obj} {vs : List V} (hg : Glb pg w g₀ x (.ref f)) (hf : g₀.get? f = some fo ∧ fo.data = .func fd) (ha : PEs pg w g₀ n env P ρ p args false vs p) (hb : FnX w g₀ n P f vs p m)
    {A : Around} {s : Shared} {ok : Addr → Prop} {l : List Env} {E : Value → Shared → Prop} (hA : OkA n A) (hfr : A.frames = some l) (hl : s.heap.FunFrames g₀ l) (hlP : ∀ L ∈ l.filterMap (·.frame), some L ≠ P) (S : St g₀ env P ρ p ok s.heap)
    (hE : ∀ e s', Flown P s.heap l e m p s'.heap → s' = { s with heap := s'.heap, toks := s'.toks } → E (.ref e) s')
    (hk : env.scope.kind = .function := by rfl) (hx : env.kindOf x = some .globalImplicit := by rfl) (h1 : env.globals = mainGlobals := by rfl) (h2 : env.builtins = builtinsNs := by rfl)
    (hpl : (backTo pos (starEach args env)).any (·.1) = false := by rfl)
    (hne : ∃ x rest, backTo pos (starEach args env) = (false, x) :: rest := by exact ⟨_, _, rfl⟩) :
    wpAny (model pg w) A (eval (.Call (.Name x px) args [] pos) env) (fun _ _ => False) E s := by
  refine wpAny_Call_Name_kw (hg env px A E _ s hk hx h1 h2 S.base ?_)
  show wpAny _ A (callWith pos (.ref f) [] (backTo pos (starEach args env)) []) _ E s
  refine callWith_of (P := fun h => h.get? f = some fo) (by rw [hpl]; rfl) (fun h e => ⟨.frame, .inl rfl, ?_⟩) ?_
  · refine (Looks.ld (part := none) e).andThen ?_
    rw [hf.2]
    exact .now
  · obtain ⟨x', rest, e⟩ := hne
    have := ha pos A E (fun vs s' => s'.heap.get? f = some fo ∧ wpAny (model pg w) A (call (.ref f) ([] ++ vs)) (fun _ _ => False) E s') s ok hA S fun vals s₁ st₁ hp₁ r₁ => ?_
    · rw [e] at this ⊢
      exact evalArgs_plain this
    · have S1 := S.toSt0.step st₁ hp₁
      refine ⟨S1.base _ _ hf.1, wpAny_call (codeAny_mono (hb.run A _ s₁ (Out false ok s) vals l hA hfr (ff_keep hl hlP st₁.keep) hlP { S1 with okP := OutP S.okP S.pool } r₁ fun e h' k F => ?_) fun r s' h => h)⟩
      exact hE e _ (F.pre st₁.keep) (by rw [st₁.same])
end
end Mine
end

section
open PySem PySem.W PyProof.Rows PySem.Calls Builtin.Str
open Sem (wp)
set_option autoImplicit false
set_option Elab.async false
set_option linter.all false
set_option maxRecDepth 100000
namespace Mine
section
variable {w : World} {mg mb : Str → Option Value} {g₀ : Heap} (G : Gr w mg mb g₀) {n : Nat} {P : Option Addr} {p : List Int} {m : Str}
include G
theorem d_kept : DefOk g₀ 191 (fdAt (KK w.params) 191) ["ask"] (bdAt (KK w.params) 191) :=
  def_ok G (by kernel_rfl) (len1 fun a => by kernel_rfl)

omit G in
theorem ns_slots {h h' : Heap} {a : Addr} {mm : Str → Option Value} (x : h.Ns a mm) (k : ∀ o, h.get? a = some o → notRec o → ∃ sl, h'.get? a = some { o with slots := sl }) : h'.Ns a mm := by
  obtain ⟨o, es, ep, ho, hd, r⟩ := x
  obtain ⟨sl, hs⟩ := k o ho fun vs q => by rw [hd] at q; cases q
  exact ⟨_, es, ep, hs, hd, r⟩

/-- asking, in the frame that keeps -/
theorem ask_call {A : Around} {s : Shared} {f : Addr} {fo : Obj} {fd : FuncData} {env : Env} {px cpos : Pos} {E : Value → Shared → Prop} {Q : Value → Shared → Prop} (hn : wpAny (model pg w) A (eval (.Name "ask" px) env) (fun v s' => v = .ref f ∧ s' = s) E s) (hf : s.heap.get? f = some fo ∧ fo.data = .func fd)
    (h : wpAny (model pg w) A (call (.ref f) []) Q E s) : wpAny (model pg w) A (eval (.Call (.Name "ask" px) [] [] cpos) env) Q E s := by
  refine wpAny_Call_Name_kw (wpAny_mono hn (fun v s' hv => ?_) fun _ _ x => x)
  obtain ⟨rfl, rfl⟩ := hv
  refine callWith_of (P := fun h => h.get? f = some fo) rfl (fun h e => ⟨.frame, .inl rfl, ?_⟩) ?_
  · refine (Looks.ld (part := none) e).andThen ?_
    rw [hf.2]
    exact .now
  · exact evalArgs_nil3 ⟨hf.1, h⟩

theorem kept_val {A : Around} {R : Result → Shared → Prop} {s : Shared} {ok : Addr → Prop} {f : Addr} {fo : Obj} {fd : FuncData} {v : V} (hv : v.scalar = true) (hA : OkA (n + 2) A) (S : St0 g₀ P p ok s.heap) (hf : s.heap.get? f = some fo ∧ fo.data = .func fd) (hfP : some f ≠ P)
    (hlam : ∀ (A' : Around) (R' : Result → Shared → Prop) (s' : Shared), OkA (n + 1) A' → St0 g₀ P p (fun a => some a ≠ P ∧ s.heap.get? a ≠ none) s'.heap → (∀ b o, some b ≠ P → s.heap.get? b = some o → s'.heap.get? b = some o) →
      (∀ val s'', Stp P s' s'' → PoolAt P p s''.heap → (∃ t, val = v.val t) → R' (.ok (.ret val)) s'') → codeAny (model pg w) A' (.call (.ref f) ⟨[], []⟩) R' s')
    (hR : ∀ t s', Stp P s s' → PoolAt P p s'.heap → R (.ok (.ret (v.val t))) s') : codeAny (model pg w) A (.call (.ref 191) ⟨[.ref f], []⟩) R s := by
  refine enter_def (ρ := fun _ => none) (d_kept G) rfl hA S (fun y v e => by cases e) fun s₁ R1 _ => ?_
  have hk1 : ∀ b o, some b ≠ P → s.heap.get? b = some o → s₁.heap.get? b = some o := R1.keep
  refine wpAny_execs_cons (wpAny_Try_except (wpAny_execs_cons (wpAny_Return_some (ask_call G (wpAny_Name ((R1.rd rfl).ld ⟨rfl, rfl⟩)) ⟨hk1 f _ hfP hf.1, hf.2⟩ (wpAny_call ?_)))))
  refine hlam _ _ s₁ hA.deeper ⟨R1.base', R1.pbase, fun a h => h.1, R1.pool⟩ hk1 fun val s'' st hp hval => ?_
  obtain ⟨t, rfl⟩ := hval
  exact hR t s'' ((⟨R1.keep, R1.same⟩ : Stp P s s₁).trans st) hp

/-- what an exception that was caught leaves behind -/
structure Back (P : Option Addr) (s : Shared) (l : List Env) (p : List Int) (s' : Shared) : Prop where
  keep : ∀ b o, some b ≠ P → b ∉ l.filterMap (·.frame) → s.heap.get? b = some o → s'.heap.get? b = some o
  up : ∀ b o, some b ≠ P → s.heap.get? b = some o → notRec o → ∃ sl, s'.heap.get? b = some { o with slots := sl }
  pool : PoolAt P p s'.heap
  same : s' = { s with heap := s'.heap, toks := s'.toks }

theorem kept_exc {A : Around} {R : Result → Shared → Prop} {s : Shared} {ok : Addr → Prop} {f : Addr} {fo : Obj} {fd : FuncData} {l : List Env} (hA : OkA (n + 2) A) (hfr : A.frames = some l) (hl : s.heap.FunFrames g₀ l) (hlP : ∀ L ∈ l.filterMap (·.frame), some L ≠ P) (S : St0 g₀ P p ok s.heap)
    (hf : s.heap.get? f = some fo ∧ fo.data = .func fd) (hfP : some f ≠ P)
    (hlam : ∀ (A' : Around) (R' : Result → Shared → Prop) (s' : Shared) (l' : List Env), OkA (n + 1) A' → A'.frames = some l' → s'.heap.FunFrames g₀ l' → (∀ L ∈ l'.filterMap (·.frame), some L ≠ P) → St0 g₀ P p (fun a => some a ≠ P ∧ s.heap.get? a ≠ none) s'.heap → (∀ b o, some b ≠ P → s.heap.get? b = some o → s'.heap.get? b = some o) →
      (∀ e s'', Flown P s'.heap l' e m p s''.heap → s'' = { s' with heap := s''.heap, toks := s''.toks } → R' (.error (.ref e)) s'') → codeAny (model pg w) A' (.call (.ref f) ⟨[], []⟩) R' s')
    (hR : ∀ t s', Back P s l p s' → R (.ok (.ret (.str m t))) s') : codeAny (model pg w) A (.call (.ref 191) ⟨[.ref f], []⟩) R s := by
  refine enter_def (ρ := fun _ => none) (d_kept G) rfl hA S (fun y v e => by cases e) fun s₁ R1 hkd => ?_
  have hk1 : ∀ b o, some b ≠ P → s.heap.get? b = some o → s₁.heap.get? b = some o := R1.keep
  have hfenv : (callEnvC (fdAt (KK w.params) 191) s.heap.objs.size 191).frame = some (callEnvC (fdAt (KK w.params) 191) s.heap.objs.size 191).locals := rfl
  have hkerr : (callEnvC (fdAt (KK w.params) 191) s.heap.objs.size 191).kindOf "error" = some .local := by kernel_rfl
  have hkref : (callEnvC (fdAt (KK w.params) 191) s.heap.objs.size 191).kindOf "Refusal" = some .globalImplicit := by kernel_rfl
  have hask : wpAny (model pg w) (A.deeper (callEnvC (fdAt (KK w.params) 191) s.heap.objs.size 191)) (eval (.Name "ask" ⟨197, 15, 197, 18⟩) (callEnvC (fdAt (KK w.params) 191) s.heap.objs.size 191)) (fun v s' => v = .ref f ∧ s' = s₁) (fun _ _ => False) s₁ :=
    wpAny_Name ((R1.rd rfl).ld ⟨rfl, rfl⟩)
  have hg1 : (callEnvC (fdAt (KK w.params) 191) s.heap.objs.size 191).globals = mainGlobals := rfl
  have hg2 : (callEnvC (fdAt (KK w.params) 191) s.heap.objs.size 191).builtins = builtinsNs := rfl
  refine wpAny_execs_cons (wpAny_Try_except (wpAny_execs_cons (wpAny_Return_some ?_)))
  generalize callEnvC (fdAt (KK w.params) 191) s.heap.objs.size 191 = env at R1 hkd hfenv hkerr hkref hask hg1 hg2 ⊢
  have hLp := R1.pf env.locals (.head _)
  have hgL : g₀.get? env.locals = none := by
    cases e : g₀.get? env.locals with
    | none => rfl
    | some o => have := S.base _ _ e; rw [hLp.2.1] at this; cases this
  obtain ⟨m0, hns0, _⟩ := R1.loc
  have hL0 : ∃ o, s₁.heap.get? env.locals = some o ∧ notRec o := by
    obtain ⟨o, es, ep, ho, hd, _⟩ := hns0
    exact ⟨o, ho, fun vs q => by rw [hd] at q; cases q⟩
  have hl1 : s₁.heap.FunFrames g₀ (env :: l) := by
    obtain ⟨o, ho, hn⟩ := hL0
    exact ⟨by rw [hkd]; decide, ⟨env.locals, o, hfenv, hgL, ho, hn⟩, ff_keep hl hlP hk1⟩
  have hlP1 : ∀ L ∈ (env :: l).filterMap (·.frame), some L ≠ P := fun L hL => by
    rw [List.filterMap_cons, hfenv] at hL
    rcases List.mem_cons.mp hL with rfl | hL
    · exact hLp.1
    · exact hlP L hL
  have hfrs : (A.deeper env).frames = some (env :: l) := Around.frames_deeper hfr
  refine ask_call G (wpAny_mono hask (fun _ _ x => x) fun _ _ x => x.elim) ⟨hk1 f _ hfP hf.1, hf.2⟩ (wpAny_call ?_)
  refine hlam _ _ s₁ (env :: l) hA.deeper hfrs hl1 hlP1 ⟨R1.base', R1.pbase, fun a h => h.1, R1.pool⟩ hk1 fun e s₂ F same2 => ?_
  obtain ⟨⟨B, D, b1, b2, b3, ⟨mm, tk, b4, b4'⟩, b5⟩, up2⟩ := F
  have hLfr : env.locals ∈ (env :: l).filterMap (·.frame) := by rw [List.filterMap_cons, hfenv]; exact .head _
  have hBL : B.get? env.locals = none := (b3.fr.mem hLfr).1
  have hgB : ∀ b o, g₀.get? b = some o → B.get? b = some o := fun b o q => b1 b o (fun z => by rw [S.pbase b z.symm] at q; cases q) (fun z => by rw [(hl1.mem z).1] at q; cases q) (R1.base' b o q)
  show wpAny (model pg w) (A.deeper env) (noteFrame (.ref e) env) _ _ s₂
  refine note_next hfrs b3.fr hfenv b3.st b2 b3.tr fun h₃ O₃ => ?_
  refine flight_none (s := { s₂ with heap := h₃ }) O₃.st O₃.fr O₃.tr fun h₄ O₄ => ?_
  refine wpAny_handleBy_cons (codeAny_handlers_test ?_) (by intro q; cases q)
  refine gl_ref G env _ _ _ _ _ hkd hkref hg1 hg2 (fun b o q => O₄.st b o (hgB b o q)) ?_
  have K₄ : Cls h₄ := (cls_of G.X).keeps fun b o q => O₄.st b o (hgB b o q)
  obtain ⟨oe, vs, T, oT, ts, he, hC, hD, hd, h1, r⟩ := O₄.tr
  refine wpAny_excMatches_sub_self (h := h₄) K₄.c44 he hC (by decide +kernel) ?_
  refine codeAny_handlers_suite_as ?_
  refine flight_none (s := { s₂ with heap := h₄ }) O₄.st O₄.fr ⟨oe, vs, T, oT, ts, he, hC, hD, hd, h1, r⟩ fun h₅ O₅ => ?_
  obtain ⟨oe5, vs5, T5, oT5, ts5, he5, hC5, hD5, hd5, _⟩ := O₅.tr
  have hLn : h₅.Ns env.locals m0 := by
    refine ns_slots hns0 fun o ho hn => ?_
    obtain ⟨s1, q1⟩ := up2 env.locals o hLp.1 ho hn
    obtain ⟨s2, q2⟩ := O₃.up _ _ q1 hn
    obtain ⟨s3, q3⟩ := O₄.up _ _ q2 hn
    obtain ⟨s4, q4⟩ := O₅.up _ _ q3 hn
    exact ⟨s4, q4⟩
  refine wpAny_storeName_local hkerr hLn (fun h₆ hn₆ hs₆ => ?_) (by rw [hkd]; rfl)
  have heL : e ≠ env.locals := fun z => by
    obtain ⟨_, o, ho, hnr⟩ := O₅.fr.mem hLfr
    rw [← z, he5] at ho; cases ho; exact hnr _ hd5
  have B6 : ∀ b o, B.get? b = some o → h₆.get? b = some o := fun b o q => hs₆.extBut b o (fun z => by rw [z, hBL] at q; cases q) (O₅.st b o q)
  have K₆ : Cls h₆ := (cls_of G.X).keeps fun b o q => B6 b o (hgB b o q)
  have he6 : h₆.get? e = some oe5 := hs₆.extBut e _ heL he5
  have hD6 : h₆.Ns D mm := b4.keeps B6
  refine wpAny_execs_cons (wpAny_Return_some (Attribute_name (wpAny_Name (wpAny_loadName_local hkd hkerr hn₆ (v := .ref e) (by simp) ?_))))
  refine get_msg K₆ he6 hC5 (fun c q => by rw [hd5] at q; cases q) hD5 hD6 b4' rfl ?_
  refine wpAny_nameGoes hkerr hn₆ (by rw [hkd]; rfl) fun h₇ m₇ hn₇ hs₇ => ?_
  have B7 : ∀ b o, B.get? b = some o → h₇.get? b = some o := fun b o q => hs₇.extBut b o (fun z => by rw [z, hBL] at q; cases q) (B6 b o q)
  have neL : ∀ b o, s.heap.get? b = some o → b ≠ env.locals := fun b o q z => by rw [z, hLp.2.1] at q; cases q
  refine hR tk _ ⟨fun b o hb hbl q => B7 b o (b1 b o hb (fun z => ?_) (hk1 b o hb q)), fun b o hb q hn => ?_, b5.of fun a o _ q => B7 a o q, ?_⟩
  · rw [List.filterMap_cons, hfenv] at z
    rcases List.mem_cons.mp z with z | z
    · exact neL b o q z
    · exact hbl z
  · have hne := neL b o q
    obtain ⟨s1, q1⟩ := up2 b o hb (hk1 b o hb q) hn
    obtain ⟨s2, q2⟩ := O₃.up _ _ q1 hn
    obtain ⟨s3, q3⟩ := O₄.up _ _ q2 hn
    obtain ⟨s4, q4⟩ := O₅.up _ _ q3 hn
    exact ⟨s4, hs₇.extBut b _ hne (hs₆.extBut b _ hne q4)⟩
  · rw [same2, R1.same]
end
end Mine
end

section
open PySem PySem.W PyProof.Rows PySem.Calls Builtin.Str
open Sem (wp)
set_option autoImplicit false
set_option Elab.async false
set_option linter.all false
set_option maxRecDepth 100000
namespace Mine
theorem TabK.at' {h h' : Heap} {ps : Array Value} (T : TabK h ps) (k5 : ∀ o, h.get? 195 = some o → h'.get? 195 = some o) (k3 : ∀ o, h.get? 193 = some o → h'.get? 193 = some o) : TabK h' ps := by
  obtain ⟨⟨o, vs, file, tf, flags, tg, inF, text, tt, op, a, r1, r2, r3, r4, r5, r6, b, r⟩, ⟨⟨o2, vs2, a2, q⟩, t2⟩⟩ := T
  exact ⟨⟨o, vs, file, tf, flags, tg, inF, text, tt, op, k5 _ a, r1, r2, r3, r4, r5, r6, k3 _ b, r⟩, ⟨⟨o2, vs2, k5 _ a2, q⟩, k3 _ t2⟩⟩
noncomputable def exT : Addr → Prop := fun a => a = 193
section
variable {w : World} {mg mb : Str → Option Value} {g₀ : Heap} {n : Nat} {env : Env} {P : Option Addr} {ρ ρ' : Str → Option V} {own own' : Own} {p p' p₁ : List Int} {m : Str} {H s s' : Shared} {ps : Array Value} {Q : Fl → (Str → Option V) → Own → List Int → Prop}
/-- the law's own state -/
structure LSt (w : World) (g₀ : Heap) (env : Env) (P : Option Addr) (H : Shared) (ρ : Str → Option V) (own : Own) (p : List Int) (ps : Array Value) (s : Shared) : Prop where
  rep : Rep pg w g₀ env P H exT ρ own p s
  ap : 193 ∉ priv env own
  nP : some 193 ≠ P
  tab : TabK s.heap ps
  nH : H.heap.get? 193 = none
  g5 : g₀.get? 195 ≠ none

theorem ws_seg {ss : List Stmt} {A : Around} {R : Flow → Shared → Prop} (h : WS pg w g₀ n env P ρ own p ss Q) (hA : OkA n A) (L : LSt w g₀ env P H ρ own p ps s)
    (k : ∀ fl flow ρ' own' p' s', Q fl ρ' own' p' → FlR P H s' fl flow → LSt w g₀ env P H ρ' own' p' ps s' → R flow s') : wpAny (model pg w) A (execs ss env) R (fun _ _ => False) s := by
  obtain ⟨vars, Rp⟩ := L.rep
  refine h A (hideS s (priv env own)) exT s R hA ⟨vars, Rp.inner⟩ fun fl flow ρ' own' p' s' hq hf ⟨vars', R'⟩ => ?_
  obtain ⟨_, t3⟩ := L.tab.tab
  have k3 : ∀ o, s.heap.get? 193 = some o → s'.heap.get? 193 = some o := fun o q => R'.keep 193 o L.nP (hideAll_get _ q L.ap)
  refine k fl flow ρ' own' p' s' hq (FlR.outer Rp hf) ⟨⟨vars', Rp.outer R'⟩, fun hm => ?_, L.nP, L.tab.at' (fun o q => ?_) k3, L.nH, L.g5⟩
  · have h1 := (R'.pf 193 hm).2.1
    have h2 : (hideS s (priv env own)).heap.get? 193 = _ := hideAll_get _ t3 L.ap
    rw [h1] at h2; cases h2
  · cases e : g₀.get? 195 with
    | none => exact absurd e L.g5
    | some o' =>
      have h1 := Rp.base' _ _ e
      rw [q] at h1; cases h1
      exact R'.base' _ _ e

/-- from before a lambda to behind its call -/
structure LBack (P : Option Addr) (Lc : Addr) (p : List Int) (s s' : Shared) : Prop where
  keep : ∀ b o, some b ≠ P → b ≠ Lc → b ≠ 193 → s.heap.get? b = some o → s'.heap.get? b = some o
  loc : ∀ o, s.heap.get? Lc = some o → notRec o → ∃ sl, s'.heap.get? Lc = some { o with slots := sl }
  pool : PoolAt P p s'.heap
  same : s' = { s with heap := s'.heap, toks := s'.toks }

theorem LSt.back {ps' : Array Value} (L : LSt w g₀ env P H ρ own p ps s) (B : LBack P env.locals p s s') (T : TabK s'.heap ps') : LSt w g₀ env P H ρ own p ps' s' := by
  obtain ⟨vars, R⟩ := L.rep
  have nod := R.nod
  have nL : ∀ a ∈ env.cells.map (·.2) ++ own.map (fun x => x.2.1), a ≠ env.locals := fun a ha q => by
    unfold priv at nod
    rw [List.nodup_cons] at nod
    exact nod.1 (q ▸ ha)
  have n3 : ∀ a ∈ priv env own, a ≠ 193 := fun a ha q => L.ap (q ▸ ha)
  have nsL : s'.heap.Ns env.locals = s'.heap.Ns env.locals := rfl
  have okk : ∀ a o, okp env P own exT a → s.heap.get? a = some o → s'.heap.get? a = some o := fun a o q e => B.keep a o q.1 (fun z => q.2.1 (z ▸ .head _)) (fun z => q.2.2 z) e
  refine ⟨⟨vars, ⟨R.hk, ?_, fun y c e => ?_, R.celn, R.nod, fun a ha => ?_, fun x hx => ?_, fun y v e => ?_, R.kd, fun b o hb e => ?_, by rw [B.same, R.same], R.base, R.pbase, B.pool, fun a ha => ?_⟩⟩, L.ap, L.nP, T, L.nH, L.g5⟩
  · obtain ⟨m, h1, h2⟩ := R.loc
    exact ⟨m, ns_slots h1 fun o ho hn => B.loc o ho hn, h2⟩
  · obtain ⟨h1, o, ho, hd⟩ := R.cel y c e
    have hm : c ∈ env.cells.map (·.2) := List.mem_map.mpr ⟨_, mem_of_lookup e, rfl⟩
    have hp : c ∈ priv env own := .tail _ (List.mem_append_left _ hm)
    exact ⟨h1, o, B.keep c o (R.pf c hp).1 (nL c (List.mem_append_left _ hm)) (n3 c hp) ho, hd⟩
  · obtain ⟨h1, h2, h3⟩ := R.pf a ha
    refine ⟨h1, h2, ?_⟩
    by_cases q : a = env.locals
    · obtain ⟨m, ⟨o, es, ep, ho, hd, _⟩, _⟩ := R.loc
      obtain ⟨sl, hs⟩ := B.loc o ho fun vs z => by rw [hd] at z; cases z
      rw [q, hs]; exact fun z => nomatch z
    · cases e : s.heap.get? a with
      | none => exact absurd e h3
      | some o => rw [B.keep a o h1 q (n3 a ha) e]; exact fun z => nomatch z
  · obtain ⟨h1, h2⟩ := R.ow x hx
    have hm : x.2.1 ∈ own.map (fun x => x.2.1) := List.mem_map.mpr ⟨x, hx, rfl⟩
    have hp : x.2.1 ∈ priv env own := .tail _ (List.mem_append_right _ hm)
    exact ⟨h1, h2.mono (fun o q => B.keep _ o (R.pf _ hp).1 (nL _ (List.mem_append_right _ hm)) (n3 _ hp) q) okk fun _ q => q⟩
  · obtain ⟨val, h1, h2⟩ := R.vr y v e
    exact ⟨val, h1, h2.mono okk fun _ q => q⟩
  · refine B.keep b o hb (fun z => ?_) (fun z => ?_) (R.keep b o hb e)
    · rw [z, (R.pf _ (.head _)).2.1] at e; cases e
    · rw [z, L.nH] at e; cases e
  · have h1 := R.exl a ha
    refine ⟨h1.1, ?_⟩
    have : a = 193 := ha
    rw [this, T.tab.2]; exact fun z => nomatch z

/-- the captured names -/
noncomputable def ρF (scope : Scope) (ρ : Str → Option V) : Str → Option V := fun y => if scope.names.lookup y = some .free then ρ y else none

theorem law_kept (G : Gr w mg mb g₀) {A : Around} {E : Value → Shared → Prop} {K : Value → Shared → Prop} {px cpos lpos lp : Pos} {params : Arguments} {scope : Scope} {x : Str} {bx bp : Pos} {args : List Expr} {fg : Addr} {fd : FuncData} {fo : Obj} {vs : List V} {r : Str}
    (hA : OkA (n + 2) A) (hfr : A.frames = some [env]) (L : LSt w g₀ env P H ρ own p ps s)
    (hk : env.scope.kind = .function) (hf : env.frame = some env.locals) (hcode : env.code = .ref 195) (hg1 : env.globals = mainGlobals) (hg2 : env.builtins = builtinsNs) (hx : env.kindOf "_law_kept" = some .globalImplicit)
    (hnf : codeAmong lpos ps.toList = none) (hdef : defaultsOf params env = ([], [])) (hcap : Cap env scope) (hfree : ∃ y, (y, NameKind.free) ∈ scope.names)
    (hbind : ∀ cl pm cdv ct qual, bindArgs (lamFd "<lambda>" qual params (.Call (.Name x bx) args [] bp) scope cl pm cdv ct) ⟨[], []⟩ = pure [])
    (hco : scope.isCoroutine = false) (hgen : scope.isGenerator = false) (hsk : scope.kind = .function) (hcell : ∀ x ∈ scope.names, x.2 ≠ .cell)
    (hgx : Glb pg w g₀ x (.ref fg)) (hfo : g₀.get? fg = some fo ∧ fo.data = .func fd) (hargs : ∀ qual L f cdv cl, PEs pg w g₀ n (lamEnv qual scope L f cdv cl) P (ρF scope ρ) p args false vs p)
    (hkx : scope.names.lookup x = some .globalImplicit) (hpl : ∀ e, (backTo bp (starEach args e)).any (·.1) = false) (hne : ∀ e, ∃ x rest, backTo bp (starEach args e) = (false, x) :: rest)
    (hspec : Fn pg w g₀ n P fg vs p (.str r) p ∨ FnX w g₀ n P fg vs p r)
    (hQ : ∀ t s' c', LSt w g₀ env P H ρ own p (ps ++ #[rawInt lpos.line, rawInt lpos.col, .ref c']) s' → K (.str r t) s') :
    wpAny (model pg w) A (eval (.Call (.Name "_law_kept" px) [.Lambda params (.Call (.Name x bx) args [] bp) scope lpos] [] cpos) env) K E s := by
  obtain ⟨vars, R⟩ := L.rep
  obtain ⟨cl, hclos, hcl⟩ := closure_some (env := env) (scope := scope) fun y hy he => (hcap y.1 (by rw [← he]; exact hy)).2.1
  obtain ⟨fk, hfk, hfkd⟩ := (d_kept G).at_
  have hcons : ∃ q0 r0, cl = q0 :: r0 := by
    obtain ⟨y, hy⟩ := hfree
    obtain ⟨_, ⟨c, hc⟩, _⟩ := hcap y hy
    have := hcl y hy
    rw [hc] at this
    cases cl with
    | nil => cases this
    | cons q0 r0 => exact ⟨q0, r0, rfl⟩
  obtain ⟨q0, r0, rfl⟩ := hcons
  have gs : ∀ b o, g₀.get? b = some o → s.heap.get? b = some o := R.base'
  have g3 : g₀.get? 193 = none := by
    cases e : g₀.get? 193 with
    | none => rfl
    | some o => have := R.base _ _ e; rw [L.nH] at this; cases this
  have hne3 : mainGlobals ≠ 193 := by decide
  refine wpAny_Call_Name_kw (gl_kept G env px A _ _ s hk hx hg1 hg2 gs ?_)
  show wpAny _ A (callWith cpos (.ref 191) [] (backTo cpos (starEach [.Lambda params (.Call (.Name x bx) args [] bp) scope lpos] env)) []) _ _ s
  refine callWith_of (P := fun h => h.get? 191 = some fk) (by rfl) (fun h e => ⟨.frame, .inl rfl, ?_⟩) ?_
  · refine (Looks.ld (part := none) e).andThen ?_
    rw [hfkd]
    exact .now
  refine evalArgs_plain (spliced_cons (eval_lam hdef (make_lam (mg := mg) hcode L.tab hnf hclos hg1 (G.T.g.keeps gs) ?_ hne3 fun f h' tk Ld => spliced_nil ⟨?_, wpAny_call ?_⟩)))
  · obtain ⟨bm, ob, a1, a2, a3, a4, a5, r⟩ := G.T.bmain
    exact ⟨bm, ob, a1, a2, a3, a4, gs _ _ a5, r⟩
  · have hk191 := gs _ _ hfk
    exact Ld.ext _ _ (fun z => by cases z) hk191
  obtain ⟨pm, c', ct, hfo', hrec, T'⟩ := Ld.obj
  have ext : ∀ b o, b ≠ 193 → s.heap.get? b = some o → h'.get? b = some o := fun b o h1 q => Ld.ext b o h1 q
  have gh : ∀ b o, g₀.get? b = some o → h'.get? b = some o := fun b o q => ext b o (fun z => by rw [z, g3] at q; cases q) (gs b o q)
  have S0 : St0 g₀ P p (okp env P own exT) h' := ⟨gh, R.pbase, fun a q => q.1, R.pool.of fun a o e q => ext a o (fun z => L.nP (by rw [← z, e])) q⟩
  have hfP : some f ≠ P := fun q => R.pool.live f q.symm Ld.newF
  have hcP : some c' ≠ P := fun q => by
    obtain ⟨us, ⟨j, hu⟩, _⟩ := S0.pool c' q.symm
    obtain ⟨c2, oc, vs2, t2, e2, hoc, hd2, _⟩ := hrec
    cases e2
    rw [hu] at hoc; cases hoc; cases hd2
  have hLp := R.pf env.locals (.head _)
  have hL3 : env.locals ≠ 193 := fun z => L.ap (z ▸ .head _)
  obtain ⟨m0, hns0, _⟩ := R.loc
  obtain ⟨oL, esL, epL, hoL, hdL, _⟩ := hns0
  have hgL : g₀.get? env.locals = none := by
    cases e : g₀.get? env.locals with
    | none => rfl
    | some o => have := R.base _ _ e; rw [hLp.2.1] at this; cases this
  have nrL : notRec oL := fun vs q => by rw [hdL] at q; cases q
  have hl : h'.FunFrames g₀ [env] := ⟨by rw [hk]; decide, ⟨env.locals, oL, hf, hgL, ext _ _ hL3 hoL, nrL⟩, trivial⟩
  have hfm : ([env] : List Env).filterMap (·.frame) = [env.locals] := by rw [List.filterMap_cons, hf]; rfl
  have hlP : ∀ La ∈ ([env] : List Env).filterMap (·.frame), some La ≠ P := fun La hm => by
    rw [hfm, List.mem_singleton] at hm; rw [hm]; exact hLp.1
  -- the captured names within the lambda
  have hv : ∀ s' : Shared, (∀ b o, some b ≠ P → h'.get? b = some o → s'.heap.get? b = some o) → ∀ y v, ρF scope ρ y = some v → scope.names.lookup y = some .free ∧ (y == ("__classdict__" : Str)) = false ∧
      ∃ c val, List.lookup y (q0 :: r0) = some c ∧ some c ≠ P ∧ s'.heap.IsCell c (some val) ∧ VR P (fun a => some a ≠ P ∧ h'.get? a ≠ none) s'.heap v val := fun s' hs y v e => by
    unfold ρF at e
    split at e
    · rename_i hfree'
      have hmem := mem_of_lookup_free hfree'
      obtain ⟨h1, ⟨c, h2⟩, _⟩ := hcap y hmem
      obtain ⟨val, h3, h4⟩ := R.vr y v e
      obtain ⟨_, h5⟩ := R.cel y c h2
      rw [h3] at h5
      obtain ⟨oc, hoc, hdc⟩ := h5
      have hcp : c ∈ priv env own := .tail _ (List.mem_append_left _ (List.mem_map.mpr ⟨_, mem_of_lookup h2, rfl⟩))
      have hcP' := (R.pf c hcp).1
      refine ⟨hfree', h1, c, val, (hcl y hmem).trans h2, hcP', ⟨oc, hs c oc hcP' (ext c oc (fun z => L.ap (z ▸ hcp)) hoc), hdc⟩, h4.alloc.mono (fun a o q e => hs a o q.1.1 (ext a o (fun z => q.1.2.2 z) e)) fun a q => ⟨q.1.1, ?_⟩⟩
      cases e' : s.heap.get? a with
      | none => exact absurd e' q.2
      | some o => rw [ext a o (fun z => q.1.2.2 z) e']; exact fun z => nomatch z
    · cases e
  have hlim := G.T.nolimit
  have recK : ∀ s' : Shared, (∀ b o, some b ≠ P → h'.get? b = some o → s'.heap.get? b = some o) → s'.heap.CodeRec (.ref c') (env.qual ++ "<lambda>") := fun s' hs => by
    obtain ⟨c2, oc, vs2, t2, e2, hoc, hd2, hv2⟩ := hrec
    cases e2
    exact ⟨_, oc, vs2, t2, rfl, hs _ _ hcP hoc, hd2, hv2⟩
  -- back in the law
  have fin : ∀ t s', (∀ b o, some b ≠ P → b ≠ env.locals → h'.get? b = some o → s'.heap.get? b = some o) → (∀ o, h'.get? env.locals = some o → notRec o → ∃ sl, s'.heap.get? env.locals = some { o with slots := sl }) → PoolAt P p s'.heap → s' = { s with heap := s'.heap, toks := s'.toks } → K (.str r t) s' := fun t s' k1 k2 hp hsm => by
    refine hQ t s' c' (L.back ⟨fun b o hb hbL h3 q => k1 b o hb hbL (ext b o h3 q), fun o q hn => k2 o (ext _ _ hL3 q) hn, hp, hsm⟩ (T'.at' (fun o q => ?_) fun o q => k1 193 o L.nP hL3.symm q))
    refine k1 195 o (fun z => ?_) (fun z => ?_) q
    · exact L.g5 (R.pbase 195 z.symm)
    · exact L.g5 (z ▸ hgL)
  rcases hspec with hb | hb
  · refine kept_val G (v := .str r) (s := { s with heap := h', toks := tk }) rfl hA S0 ⟨hfo', rfl⟩ hfP (fun A' R' s' hA' S' hs' hR' => ?_) fun t s' st hp => fin t s' (fun b o hb _ q => st.keep b o hb q) (fun o q _ => ⟨o.slots, st.keep _ o hLp.1 q⟩) hp (by rw [st.same])
    refine lam_enter (ρ := ρF scope ρ) hA' S' hlim (hs' _ _ hfP hfo') (recK s' hs') (hbind ..) hco hgen hsk hcell (hv s' hs') fun La s₁ n1 n2 k1 sm S1 => ?_
    have pe := pe_call (fr := true) (px := bx) (pos := bp) hgx hfo (hargs (env.qual ++ "<lambda>") La f (.ref c') (q0 :: r0)) hb hsk hkx rfl rfl (hpl _) (hne _)
    refine pe _ _ _ s₁ _ hA'.deeper S1 fun val s₂ st₂ hp₂ rv => hR' val s₂ ⟨fun b o hb q => st₂.keep b o hb (k1 b o q), by rw [st₂.same, sm]⟩ hp₂ ((VR.scalar rfl).mp rv)
  · refine kept_exc G (s := { s with heap := h', toks := tk }) hA hfr hl hlP S0 ⟨hfo', rfl⟩ hfP (fun A' R' s' l' hA' hfr' hl' hlP' S' hs' hR' => ?_) fun t s' B => fin t s' (fun b o hb hbL q => B.keep b o hb (by rw [hfm, List.mem_singleton]; exact hbL) q) (fun o q hn => B.up _ o hLp.1 q hn) B.pool (by rw [B.same])
    refine lam_enter (ρ := ρF scope ρ) hA' S' hlim (hs' _ _ hfP hfo') (recK s' hs') (hbind ..) hco hgen hsk hcell (hv s' hs') fun La s₁ n1 n2 k1 sm S1 => ?_
    obtain ⟨oA, hoA, hnA⟩ := n2
    have gLa : g₀.get? La = none := by
      cases e : g₀.get? La with
      | none => rfl
      | some o => have := S'.base _ _ e; rw [n1] at this; cases this
    have hl2 : s₁.heap.FunFrames g₀ (lamEnv (env.qual ++ "<lambda>") scope La f (.ref c') (q0 :: r0) :: l') := ⟨by show scope.kind ≠ _; rw [hsk]; decide, ⟨La, oA, rfl, gLa, hoA, hnA⟩, ff_keep hl' hlP' fun b o _ q => k1 b o q⟩
    have hlP2 : ∀ Lb ∈ (lamEnv (env.qual ++ "<lambda>") scope La f (.ref c') (q0 :: r0) :: l').filterMap (·.frame), some Lb ≠ P := fun Lb hm => by
      rw [List.filterMap_cons] at hm
      rcases List.mem_cons.mp hm with hm | hm
      · rw [hm]; exact fun z => S'.pool.live La z.symm n1
      · exact hlP' Lb hm
    refine wpAny_mono (pex_call (px := bx) (pos := bp) hgx hfo (hargs (env.qual ++ "<lambda>") La f (.ref c') (q0 :: r0)) hb hA'.deeper (Around.frames_deeper hfr') hl2 hlP2 S1 (fun e s₂ F sm2 => ?_) hsk hkx rfl rfl (hpl _) (hne _)) (fun _ _ f => f.elim) fun _ _ x => x
    refine flown_leaves (h₀ := s'.heap) hfr' F rfl (fun b o _ q => k1 b o q) n1 fun h'' F' => hR' e _ F' (by rw [sm2, sm])
end
end Mine
end

section
open PySem PySem.W PyProof.Rows PySem.Calls Builtin.Str
set_option autoImplicit false
set_option Elab.async false
set_option linter.all false
set_option maxRecDepth 100000
namespace Mine
/-! texts as lists of signs -/
noncomputable def ls (x : Str) : List Nat := x.cps.toList
noncomputable def jn (sep : List Nat) : List (List Nat) → List Nat
  | [] => []
  | [a] => a
  | a :: b :: r => a ++ sep ++ jn sep (b :: r)
theorem ls_ext {x y : Str} (h : ls x = ls y) : x = y := by
  cases x; cases y; exact congrArg Str.mk (Array.toList_inj.mp h)
theorem ls_len (x : Str) : (ls x).length = x.length := Array.length_toList
theorem ls_mk (l : List Nat) : ls ⟨l.toArray⟩ = l := rfl
theorem ls_add (x y : Str) : ls (x ++ y) = ls x ++ ls y := Array.toList_append
theorem glue_go (sep : Str) : ∀ (xs : List Str) (acc : Array Nat), (xs.foldl (fun acc p => acc ++ sep.cps ++ p.cps) acc).toList = acc.toList ++ (xs.map fun x => ls sep ++ ls x).flatten
  | [], acc => by simp
  | x :: xs, acc => by
    rw [List.foldl_cons, glue_go sep xs]
    simp [ls]
theorem jn_cons (sep a : List Nat) : ∀ r : List (List Nat), jn sep (a :: r) = a ++ (r.map fun x => sep ++ x).flatten
  | [] => by simp [jn]
  | b :: r => by rw [jn, jn_cons sep b r]; simp
theorem ls_join (sep : Str) (xs : List Str) : ls (Txt.join sep xs) = jn (ls sep) (xs.map ls) := by
  cases xs with
  | nil => rfl
  | cons x xs =>
    rw [List.map_cons, jn_cons]
    show (List.foldl _ x.cps (List.drop 1 (x :: xs))).toList = _
    rw [List.drop_one, List.tail_cons, glue_go]
    simp [ls, List.map_map, Function.comp_def]
theorem jn_nil : ∀ xs : List (List Nat), jn [] xs = xs.flatten
  | [] => rfl
  | a :: r => by rw [jn_cons]; simp
theorem ls_cat (xs : List Str) : ls (Txt.join ("" : String) xs) = (xs.map ls).flatten := by rw [ls_join]; exact jn_nil _

/-! the words that are drawn -/
noncomputable def wok (c : Nat) : Prop := 32 ≤ c ∧ c ≤ 122
theorem ltrAt_ok {i a : Int} (h0 : 33 ≤ a) (h1 : a ≤ 122) : ∃ c, ltrAt i a = lt1 c ∧ wok c := by
  unfold ltrAt
  split
  · exact ⟨97, rfl, by unfold wok; omega⟩
  · exact ⟨98, rfl, by unfold wok; omega⟩
  · exact ⟨44, rfl, by unfold wok; omega⟩
  · exact ⟨32, rfl, by unfold wok; omega⟩
  · exact ⟨45, rfl, by unfold wok; omega⟩
  · exact ⟨a.toNat, rfl, by unfold wok; omega⟩
theorem ltr_ok (p : List Int) : ∃ c, (ltr p).1 = lt1 c ∧ wok c := by
  have := fm (nxt p) (b := 90) (by decide)
  exact ltrAt_ok (by omega) (by omega)
theorem ltrs_ok : ∀ (k : Nat) (p : List Int), ∀ x ∈ (ltrs k p).1, ∃ c, x = lt1 c ∧ wok c
  | 0, _, _, h => nomatch h
  | k + 1, p, x, h => by
    have h' : x ∈ (ltrs k p).1 ++ [(ltr (ltrs k p).2).1] := h
    rcases List.mem_append.mp h' with h | h
    · exact ltrs_ok k p x h
    · rw [List.mem_singleton] at h; subst h; exact ltr_ok _
structure WOk (x : Str) : Prop where
  len : x.length ≤ 6
  ok : ∀ c ∈ ls x, wok c
theorem flat_ones : ∀ (xs : List Str), (∀ x ∈ xs, ∃ c, x = lt1 c ∧ wok c) → ((xs.map ls).flatten).length = xs.length ∧ ∀ c ∈ (xs.map ls).flatten, wok c
  | [], _ => ⟨rfl, fun c h => by simp at h⟩
  | x :: xs, h => by
    obtain ⟨c, rfl, hc⟩ := h x (.head _)
    obtain ⟨h1, h2⟩ := flat_ones xs fun y hy => h y (.tail _ hy)
    refine ⟨?_, fun d hd => ?_⟩
    · rw [List.map_cons, List.flatten_cons, List.length_append, h1]
      show 1 + xs.length = xs.length + 1
      omega
    · rw [List.map_cons, List.flatten_cons] at hd
      rcases List.mem_append.mp hd with hd | hd
      · have : d = c := by simpa [ls, lt1] using hd
        rw [this]; exact hc
      · exact h2 d hd
theorem wordS_ok (p : List Int) : WOk (wordS p).1 := by
  have h := flat_ones _ (ltrs_ok ((nxt p).fmod 7).toNat (rst p))
  have e : ls (wordS p).1 = (((ltrs ((nxt p).fmod 7).toNat (rst p)).1).map ls).flatten := ls_cat _
  have h7 := fm (nxt p) (b := 7) (by decide)
  refine ⟨?_, fun c hc => h.2 c (e ▸ hc)⟩
  rw [← ls_len, e, h.1, ltrs_count]; omega
theorem wordN_ok (p : List Int) (x : Str) (h : (wordN p).1 = some x) : WOk x := by
  unfold wordN at h
  split at h
  · cases h
  · cases h; exact wordS_ok _
theorem WOk.sub {x y : Str} (h : WOk x) (hl : y.length ≤ x.length) (hs : ∀ c ∈ ls y, c ∈ ls x) : WOk y := ⟨Nat.le_trans hl h.len, fun c hc => h.ok c (hs c hc)⟩
theorem ls_sseg (x : Str) (a b : Nat) : ls (sseg x a b) = ((ls x).drop a).take (b - a) := rfl
theorem ls_cut (x : Str) (k : Nat) : ls (cut x none (some (k : Int)) none) = (ls x).take k := by
  rw [cut_eq]
  show ls (sseg x 0 (clipAt x.length k)) = _
  rw [ls_sseg, clip_nn, List.drop_zero, Nat.sub_zero]
  rcases Nat.le_total k x.length with h | h
  · rw [Nat.min_eq_left h]
  · rw [Nat.min_eq_right h, List.take_of_length_le (by rw [ls_len]; exact Nat.le_refl _), List.take_of_length_le (by rw [ls_len]; exact h)]
theorem WOk.cut {x : Str} (h : WOk x) (k : Nat) : WOk (Mine.cut x none (some (k : Int)) none) ∧ (Mine.cut x none (some (k : Int)) none).length ≤ k := by
  have e := ls_cut x k
  refine ⟨h.sub ?_ fun c hc => ?_, ?_⟩
  · rw [← ls_len, e, List.length_take, ls_len]; omega
  · rw [e] at hc; exact List.mem_of_mem_take hc
  · rw [← ls_len, e, List.length_take]; omega

/-! the widest row -/
theorem widest_go : ∀ (rows : List (List (Option Str))) (a : Nat), a ≤ rows.foldl (fun c r => max c r.length) a ∧ (∀ r ∈ rows, r.length ≤ rows.foldl (fun c r => max c r.length) a) ∧ (rows.foldl (fun c r => max c r.length) a = a ∨ ∃ r ∈ rows, r.length = rows.foldl (fun c r => max c r.length) a)
  | [], a => ⟨Nat.le_refl _, (fun r h => by cases h), .inl rfl⟩
  | r :: rows, a => by
    obtain ⟨h1, h2, h3⟩ := widest_go rows (max a r.length)
    rw [List.foldl_cons]
    refine ⟨by omega, fun q hq => ?_, ?_⟩
    · rcases List.mem_cons.mp hq with rfl | hq
      · omega
      · exact h2 q hq
    · rcases h3 with h3 | ⟨q, hq, h3⟩
      · by_cases z : r.length ≤ a
        · exact .inl (by omega)
        · exact .inr ⟨r, .head _, by omega⟩
      · exact .inr ⟨q, .tail _ hq, h3⟩
theorem widest_max (rows : List (List (Option Str))) : ((widest rows : Nat) : Int) ∈ ((0 : Int) :: rows.map fun r => (r.length : Int)) ∧ ∀ x ∈ ((0 : Int) :: rows.map fun r => (r.length : Int)), x ≤ (widest rows : Int) := by
  obtain ⟨_, h2, h3⟩ := widest_go rows 0
  refine ⟨?_, fun x hx => ?_⟩
  · rcases h3 with h3 | ⟨r, hr, h3⟩
    · unfold widest; rw [h3]; exact .head _
    · refine .tail _ (List.mem_map.mpr ⟨r, hr, ?_⟩)
      unfold widest; rw [h3]
  · rcases List.mem_cons.mp hx with rfl | hx
    · omega
    · obtain ⟨r, hr, rfl⟩ := List.mem_map.mp hx
      have := h2 r hr
      unfold widest; omega
end Mine
end

section
open PySem PySem.W PyProof.Rows PySem.Calls Builtin.Str
set_option autoImplicit false
set_option Elab.async false
set_option linter.all false
set_option maxRecDepth 100000
namespace Mine
noncomputable def bdL (w : World) : List Stmt := bdAt (KK w.params) 196
noncomputable def bdA (w : World) : List Stmt := ((bdL w).drop 1).take 19
noncomputable abbrev envL (w : World) (L : Addr) : Env := callEnvC (fdAt (KK w.params) 196) L 196
noncomputable def rowOne (p : List Int) : List (Option Str) × List Int := draws wordN ((nxt p).fmod 6).toNat (rst p)
noncomputable def rowsOf (p : List Int) : List (List (Option Str)) × List Int := draws rowOne ((nxt p).fmod 4).toNat (rst p)
noncomputable def listV (r : List (Option Str)) : V := .list (r.map optV)
theorem wordN_pool (p : List Int) (m : Nat) (h : p.length ≤ m) : (wordN p).2.length ≤ m := by
  unfold wordN
  split
  · exact Nat.le_trans (rst_len p) h
  · show (ltrs _ _).2.length ≤ m
    exact Nat.le_trans (ltrs_len _ _) (Nat.le_trans (rst_len _) (Nat.le_trans (rst_len p) h))
theorem wordS_pool (p : List Int) (m : Nat) (h : p.length ≤ m) : (wordS p).2.length ≤ m := Nat.le_trans (ltrs_len _ _) (Nat.le_trans (rst_len p) h)
theorem rowOne_pool (p : List Int) (m : Nat) (h : p.length ≤ m) : (rowOne p).2.length ≤ m := draws_len (fun p => wordN_pool p m) _ _ (Nat.le_trans (rst_len p) h)
theorem rowsOf_pool (p : List Int) (m : Nat) (h : p.length ≤ m) : (rowsOf p).2.length ≤ m := draws_len (fun p => rowOne_pool p m) _ _ (Nat.le_trans (rst_len p) h)
theorem intsFrom_len (a : Int) (k : Nat) : (intsFrom a k).length = k := by simp [intsFrom]

theorem compr_draw' {α : Type} {T : V → List Int → Bool → List Int → Prop} {El : V → List Int → V → List Int → Prop} {g : List Int → α × List Int} {h : α → V} {items : List V} {p : List Int} (k m : Nat) (hlen : items.length = k) (hg : ∀ p, p.length ≤ m → (g p).2.length ≤ m) (hp : p.length ≤ m)
    (hT : ∀ v ∈ items, ∀ p, p.length ≤ m → T v p true p) (hE : ∀ v ∈ items, ∀ p, p.length ≤ m → El v p (h (g p).1) (g p).2) : CompR T El items p ((draws g k p).1.map h) (draws g k p).2 := by
  subst hlen; exact compr_draw hg hp hT hE
section
variable {w : World} {mg mb : Str → Option Value} {g₀ : Heap} (G : Gr w mg mb g₀)
include G
theorem d_law : DefOk g₀ 196 (fdAt (KK w.params) 196) ["script"] (bdAt (KK w.params) 196) :=
  def_ok G (by kernel_rfl) (len1 fun a => by kernel_rfl)

/-- rows = [[..] ..] -/
theorem law_1 {n : Nat} {P : Option Addr} {p : List Int} {ρ : Str → Option V} {L : Addr} {Q : Fl → (Str → Option V) → Own → List Int → Prop} (hp : p.length ≤ 160) (hr : ρ "row" = some .pool)
    (h : ∀ ρ', ρ' "row" = some .pool → ρ' "rows" = some (.list ((rowsOf p).1.map listV)) → WS pg w g₀ (n + 5) (envL w L) P ρ' [] (rowsOf p).2 ((bdA w).drop 1) Q) :
    WS pg w g₀ (n + 5) (envL w L) P ρ [] p (bdA w) Q := by
  obtain ⟨fo, hfo⟩ := (d_next G).at_
  obtain ⟨fw, hfw⟩ := (d_word G).at_
  have hk := fm (nxt p) (b := 4) (by decide)
  refine ws_letc (y := "rows") (out := (rowsOf p).1.map listV) (items := intsFrom 0 ((nxt p).fmod 4).toNat) (p₁ := rst p) (p' := (rowsOf p).2) (scope_ok (by kernel_rfl))
    (pi_range (g_range G) (pes_cons (pe_bin (pe_call (gl_next G) hfo (pes_cons (pe_name hr) pes_nil) (f_next G (by omega))) pe_int (bin_mod (by decide))) pes_nil) (.inl ⟨rfl, rfl⟩) (by split <;> omega) (by omega)) (by rw [intsFrom_len]; unfold sizeLine; omega)
    (fun cl hcl => ?_) (.inl rfl) (h _ hr rfl)
  refine compr_draw' (g := rowOne) (h := listV) ((nxt p).fmod 4).toNat 160 (intsFrom_len _ _) (fun p => rowOne_pool p 160) (Nat.le_trans (rst_len p) hp) (fun v _ p _ C => pts_nil) fun v hv p hp C => ?_
  have hk6 := fm (nxt p) (b := 6) (by decide)
  have hrow : cl.lookup ("row" : Str) = (envL w L).cells.lookup ("row" : Str) := hcl _ (by decide +kernel)
  obtain ⟨c, hc⟩ : ∃ c, (envL w L).cells.lookup ("row" : Str) = some c := ⟨_, rfl⟩
  refine pe_comp (items := intsFrom 0 ((nxt p).fmod 6).toNat) (p₁ := rst p) ⟨rfl, by decide +kernel, by decide +kernel, rfl, fun y hy => ?_⟩
    (pi_range (g_range G) (pes_cons (pe_bin (pe_call (gl_next G) hfo (pes_cons (pe_name hr) pes_nil) (f_next G (by omega))) pe_int (bin_mod (by decide))) pes_nil) (.inl ⟨rfl, rfl⟩) (by split <;> omega) (by omega)) (by rw [intsFrom_len]; unfold sizeLine; omega)
    fun cl2 hcl2 => ?_
  · obtain rfl : y = "row" := by simp at hy; exact hy
    exact ⟨by decide, ⟨c, hrow.trans hc⟩, fun q => nomatch (show (some NameKind.cell : Option NameKind) = some .local from q)⟩
  · refine compr_draw' (g := wordN) (h := optV) ((nxt p).fmod 6).toNat 160 (intsFrom_len _ _) (fun p => wordN_pool p 160) (Nat.le_trans (rst_len p) hp) (fun v _ p _ C => pts_nil) fun v hv p hp C => ?_
    exact pe_call (gl_word G) hfw (pes_cons (pe_name hr) (pes_cons pe_bool pes_nil)) (f_wordN G (by omega))

/-- sep = .. ; longest = .. -/
theorem law_2 {n : Nat} {P : Option Addr} {p : List Int} {ρ : Str → Option V} {L : Addr} {Q : Fl → (Str → Option V) → Own → List Int → Prop} {rows : List (List (Option Str))} (S : Small rows) (hp : p.length ≤ 160) (hr : ρ "row" = some .pool) (hrs : ρ "rows" = some (.list (rows.map listV)))
    (h : ∀ ρ', ρ' "row" = some .pool → ρ' "rows" = some (.list (rows.map listV)) → ρ' "sep" = some (.str (cut (wordS p).1 none (some 2) none)) → ρ' "longest" = some (natV (widest rows)) → WS pg w g₀ (n + 5) (envL w L) P ρ' [] (wordS p).2 ((bdA w).drop 3) Q) :
    WS pg w g₀ (n + 5) (envL w L) P ρ [] p ((bdA w).drop 1) Q := by
  obtain ⟨fw, hfw⟩ := (d_word G).at_
  have hwl : (wordS p).1.length ≤ 6 := (wordS_ok p).len
  refine ws_lets (v := .str (cut (wordS p).1 none (some 2) none)) (pe_cut (pe_call (gl_word G) hfw (pes_cons (pe_name hr) (pes_cons pe_bool pes_nil)) (f_wordS G (by omega))) po_none (po_some pe_int) (by unfold sizeLine; omega)) (.inl rfl) ?_
  have hl : ∀ r ∈ rows, r.length ≤ sizeLine := fun r hr => by have := (S.each r hr).1; unfold sizeLine; omega
  have e1 : (rows.map listV).map (fun v => match v with | .list xs => V.int xs.length | v => v) = (rows.map fun r => (r.length : Int)).map V.int := by
    rw [List.map_map, List.map_map]
    refine List.map_congr_left fun r _ => ?_
    show V.int (((r.map optV).length : Nat) : Int) = V.int (r.length : Int)
    rw [List.length_map]
  refine ws_lets (v := natV (widest rows)) (pe_bi (g_max G) (pes_cons (pe_catL (pe_list (pes_cons pe_int pes_nil) (by decide)) (?hc : PE pg w g₀ (n + 5) (envL w L) P _ (wordS p).2 _ false (.list ((rows.map fun r => (r.length : Int)).map V.int)) (wordS p).2) ?_) pes_nil) ?_) (.inl rfl) (h _ hr hrs rfl rfl)
  case hc =>
    rw [← e1]
    refine pe_comp (scope_ok (by kernel_rfl)) (pi_list (pe_name hrs)) ?_ fun cl hcl => compr_map (fun v _ C => pts_nil) fun v hv C => ?_
    · rw [List.length_map]; have := S.n; unfold sizeLine; omega
    · obtain ⟨r, hr', rfl⟩ := List.mem_map.mp hv
      exact pe_bi (g_len G) (pes_cons (pe_name rfl) pes_nil) (bi_len_list (by rw [List.length_map]; exact hl r hr'))
  · simp only [List.length_append, List.length_map, List.length_cons, List.length_nil]
    have := S.n; unfold sizeLine; omega
  · have hm := widest_max rows
    exact bi_max hm.1 hm.2
end
end Mine
end

section
open PySem PySem.W PyProof.Rows PySem.Calls Builtin.Str
set_option autoImplicit false
set_option Elab.async false
set_option linter.all false
set_option maxRecDepth 100000
namespace Mine
theorem compr_map' {α : Type} {T : V → List Int → Bool → List Int → Prop} {El : V → List Int → V → List Int → Prop} {h k : α → V} {p : List Int} : ∀ {rs : List α}, (∀ r ∈ rs, T (h r) p true p) → (∀ r ∈ rs, El (h r) p (k r) p) → CompR T El (rs.map h) p (rs.map k) p
  | [], _, _ => ⟨rfl, rfl⟩
  | v :: vs, hT, hE => .inl ⟨p, p, k v, vs.map k, hT v (.head _), hE v (.head _), compr_map' (fun u hu => hT u (.tail _ hu)) (fun u hu => hE u (.tail _ hu)), rfl⟩
theorem compr_filter' {α : Type} {T : V → List Int → Bool → List Int → Prop} {El : V → List Int → V → List Int → Prop} {h k : α → V} {b : α → Bool} {p : List Int} : ∀ {rs : List α}, (∀ r ∈ rs, T (h r) p (b r) p) → (∀ r ∈ rs, b r = true → El (h r) p (k r) p) → CompR T El (rs.map h) p ((rs.filter b).map k) p
  | [], _, _ => ⟨rfl, rfl⟩
  | v :: vs, hT, hE => by
    have r := compr_filter' (rs := vs) (h := h) (k := k) (b := b) (fun u hu => hT u (.tail _ hu)) (fun u hu => hE u (.tail _ hu))
    rw [List.filter_cons]
    have h1 := hT v (.head _)
    cases e : b v with
    | true => rw [if_pos rfl]; rw [e] at h1; exact .inl ⟨p, p, k v, _, h1, hE v (.head _) e, r, rfl⟩
    | false => rw [if_neg (by decide)]; rw [e] at h1; exact .inr ⟨p, h1, r⟩
noncomputable def cellO (k : Nat) (r : List (Option Str)) : Option Str := if r.length = 0 then some ("" : String) else r.getD (k % r.length) none
noncomputable def naOf : Option Str → Str
  | none => ("NA" : String)
  | some t => t
theorem cellO_at (k : Nat) (r : List (Option Str)) : naOf (cellO k r) = cellAt k r := by
  unfold cellO cellAt
  split
  · rfl
  · rename_i h
    have hm : k % r.length < r.length := Nat.mod_lt _ (by omega)
    rw [List.getD_eq_getElem?_getD, List.getElem?_eq_getElem hm]
    cases r[k % r.length] <;> rfl
theorem optV_sc (o : Option Str) : (optV o).scalar = true := by cases o <;> rfl
theorem jn_len (sep : List Nat) (m : Nat) (hs : sep.length ≤ m) : ∀ xs : List (List Nat), (∀ x ∈ xs, x.length ≤ m) → (jn sep xs).length ≤ 2 * m * xs.length := by
  have h1 : ∀ r : List (List Nat), (∀ x ∈ r, x.length ≤ m) → ((r.map fun x => sep ++ x).flatten).length ≤ 2 * m * r.length := by
    intro r
    induction r with
    | nil => intro _; simp
    | cons a r ih =>
      intro h
      have := ih fun x hx => h x (.tail _ hx)
      have ha := h a (.head _)
      rw [List.map_cons, List.flatten_cons, List.length_append, List.length_append, List.length_cons, Nat.mul_add]
      omega
  intro xs h
  cases xs with
  | nil => simp [jn]
  | cons a r =>
    have := h1 r fun x hx => h x (.tail _ hx)
    have ha := h a (.head _)
    rw [jn_cons, List.length_append, List.length_cons, Nat.mul_add]
    omega
theorem join_len {sep : Str} {m : Nat} (hs : sep.length ≤ m) {xs : List Str} (h : ∀ x ∈ xs, x.length ≤ m) : (Txt.join sep xs).length ≤ 2 * m * xs.length := by
  rw [← ls_len, ls_join]
  have := jn_len (ls sep) m (by rw [ls_len]; exact hs) (xs.map ls) fun x hx => by
    obtain ⟨y, hy, rfl⟩ := List.mem_map.mp hx
    rw [ls_len]; exact h y hy
  rwa [List.length_map] at this
theorem pasted_len {rows : List (List (Option Str))} (S : Small rows) {sep : Str} (hs : sep.length ≤ 64) : (pasted rows sep).length ≤ 8 ∧ ∀ x ∈ pasted rows sep, x.length ≤ 1024 := by
  refine ⟨?_, fun x hx => ?_⟩
  · unfold pasted; rw [List.length_map, List.length_range]
    exact widest_le (fun r hr => (S.each r hr).1) 0 (by omega)
  · unfold pasted at hx
    obtain ⟨k, _, rfl⟩ := List.mem_map.mp hx
    have := join_len hs (xs := rows.map (cellAt k)) fun x hx => by
      obtain ⟨r, hr, rfl⟩ := List.mem_map.mp hx
      exact cellAt_len S hr
    rw [List.length_map] at this
    have := S.n
    omega

section
variable {w : World} {mg mb : Str → Option Value} {g₀ : Heap} (G : Gr w mg mb g₀)
include G
/-- due -/
theorem law_3 {n : Nat} {P : Option Addr} {p : List Int} {ρ : Str → Option V} {L : Addr} {Q : Fl → (Str → Option V) → Own → List Int → Prop} {rows : List (List (Option Str))} {sep : Str} (S : Small rows) (hs : sep.length ≤ 64)
    (hr : ρ "row" = some .pool) (hrs : ρ "rows" = some (.list (rows.map listV))) (hsep : ρ "sep" = some (.str sep)) (hlong : ρ "longest" = some (natV (widest rows)))
    (h : ∀ ρ' a, ρ' "row" = some .pool → ρ' "rows" = some (.list (rows.map listV)) → ρ' "sep" = some (.str sep) → WS pg w g₀ (n + 5) (envL w L) P ρ' [("due", a, .list ((pasted rows sep).map .str))] p ((bdA w).drop 5) Q) :
    WS pg w g₀ (n + 5) (envL w L) P ρ [] p ((bdA w).drop 3) Q := by
  have hrl : ∀ r ∈ rows, r.length ≤ sizeLine := fun r hr => by have := (S.each r hr).1; unfold sizeLine; omega
  have hw : widest rows ≤ 8 := widest_le (fun r hr => (S.each r hr).1) 0 (by omega)
  have hn8 := S.n
  refine ws_own (pe_list pes_nil (by decide)) (.inl rfl) (fun _ h => nomatch h) fun a => ?_
  refine ws_for (items := intsFrom 0 (widest rows)) (pi_range (g_range G) (pes_cons (pe_name hlong) pes_nil) (.inl ⟨rfl, rfl⟩) (by split <;> omega) (by omega)) (.inr ⟨rfl, _, rfl⟩)
    (fun i ρ' own' q => ρ' "row" = some .pool ∧ ρ' "rows" = some (.list (rows.map listV)) ∧ ρ' "sep" = some (.str sep) ∧ own' = ([(("due" : Str), a, Ow.list (((List.range i).map fun k => Txt.join sep (rows.map (cellAt k))).map V.str))] : Own) ∧ q = p) ⟨hr, hrs, hsep, rfl, rfl⟩ (fun i v ρ' own' q hi hI => ?_) fun ρ' own' q hI => ?_
  · obtain ⟨h0, h1, h2, rfl, rfl⟩ := hI
    have hi' : i < widest rows := by have := (List.getElem?_eq_some_iff.mp hi).1; simpa [intsFrom] using this
    have hv : v = natV i := by
      unfold intsFrom at hi
      rw [List.getElem?_map, List.getElem?_range hi'] at hi
      simp at hi; rw [← hi]; rfl
    subst hv
    refine ws_letc (y := "parts") (p' := q) (out := (rows.map (cellO i)).map optV) (scope_ok (by kernel_rfl)) (pi_list (pe_name h1)) (by rw [List.length_map]; unfold sizeLine; omega) (fun cl hcl => ?_) (.inl rfl) ?_
    · rw [show (rows.map (cellO i)).map optV = rows.map fun r => optV (cellO i r) from List.map_map ..]
      refine compr_map' (rs := rows) (h := listV) (k := fun r => optV (cellO i r)) (fun r _ C => pts_nil) fun r hr => ?_
      intro C
      have hl := hrl r hr
      have blen : BI pg w (.builtin "len") [.list (r.map optV)] (.int r.length) := by
        have := bi_len_list (prog := pg) (w := w) (xs := r.map optV) (by rw [List.length_map]; exact hl)
        rwa [List.length_map] at this
      refine pe_if (c := !(r.map optV).isEmpty) (pt_cmp (pe_name rfl) (pe_list pes_nil (by decide)) cmp_ne_nil) (fun hb => ?_) fun hb => ?_
      · have h0 : r.length ≠ 0 := by rintro h; rw [List.length_eq_zero_iff] at h; subst h; cases hb
        have hm : i % r.length < r.length := Nat.mod_lt _ (by omega)
        have hfm := fm (i : Int) (b := (r.length : Int)) (by omega)
        have hl8 := (S.each r hr).1
        refine PE.sc (fr' := false) (pe_item slot_list_getitem.lookup (pe_name rfl) (pe_bin (pe_name rfl) (pe_bi (g_len G) (pes_cons (pe_name rfl) pes_nil) blen) (bin_mod (by omega))) (itm_list hfm.1 (by omega) ?_)) (optV_sc _)
        rw [show ((i : Int).fmod (r.length : Int)).toNat = i % r.length by rw [Int.fmod_eq_emod_of_nonneg _ (Int.natCast_nonneg _)]; rfl, List.getElem?_map, List.getElem?_eq_getElem hm]
        show some (optV _) = some (optV _)
        unfold cellO
        rw [if_neg h0, List.getD_eq_getElem?_getD, List.getElem?_eq_getElem hm]; rfl
      · have h0 : r.length = 0 := by cases r <;> simp_all
        show PE pg w g₀ _ _ P _ _ _ _ (optV (cellO i r)) _
        rw [show cellO i r = some (("" : String) : Str) by unfold cellO; rw [if_pos h0]]
        exact pe_str
    · refine ws_mut (r := .none) (xs := ((List.range i).map fun k => Txt.join sep (rows.map (cellAt k))).map V.str) (vs := [.str (Txt.join sep (rows.map (cellAt i)))]) (.head _)
        (pes_cons (pe_meth (pe_name h2) (pes_cons (?hc : PE pg w g₀ _ _ P _ q _ false (.list ((rows.map (cellAt i)).map V.str)) q) pes_nil) self_str PySem.F.plainAttrs_str PySem.F.slot_str_join PySem.F.type_str_join (bi_join ?_)) pes_nil) (one_sc rfl)
          PySem.F.slot_list_append PySem.F.type_list_append (mut_append (by rw [List.length_map, List.length_map, List.length_range]; unfold sizeLine; omega)) rfl (ws_nil ⟨h0, h1, h2, ?_, rfl⟩)
      case hc =>
        rw [show (rows.map (cellAt i)).map V.str = (rows.map (cellO i)).map fun o => V.str (naOf o) by
          rw [List.map_map, List.map_map]; exact List.map_congr_left fun r _ => by show V.str _ = V.str _; rw [cellO_at]]
        refine pe_comp (scope_ok (by kernel_rfl)) (pi_list (pe_name rfl)) (by rw [List.length_map, List.length_map]; unfold sizeLine; omega) fun cl hcl => compr_map' (fun o _ C => pts_nil) fun o _ C => ?_
        refine pe_if (c := (optV o).isNone) (p' := q) (p₁ := q) (pt_cmp (pe_name rfl) pe_none (cmp_is_none (optV_sc o))) (fun h => ?_) fun h => ?_
        · cases o with
          | none => exact pe_str
          | some t => cases h
        · cases o with
          | none => cases h
          | some t => exact pe_name rfl
      · refine joinOk (m := 64) (k := 8) (fun x hx => ?_) hs (by rw [List.length_map]; exact hn8) (by decide)
        obtain ⟨r, hr, rfl⟩ := List.mem_map.mp hx
        exact cellAt_len S hr
      · rw [List.range_succ]
        show ([(("due" : Str), a, Ow.list _)] : Own) = _
        simp
  · obtain ⟨h0, h1, h2, rfl, rfl⟩ := hI
    rw [show (intsFrom 0 (widest rows)).length = widest rows by simp [intsFrom]]
    exact h ρ' a h0 h1 h2

/-- if paste_vectors(..) != due or .. -/
theorem law_4 {n : Nat} {P : Option Addr} {p : List Int} {ρ : Str → Option V} {L a : Addr} {Q : Fl → (Str → Option V) → Own → List Int → Prop} {rows : List (List (Option Str))} {sep : Str} (S : Small rows) (hs : sep.length ≤ 64)
    (hr : ρ "row" = some .pool) (hrs : ρ "rows" = some (.list (rows.map listV))) (hsep : ρ "sep" = some (.str sep))
    (h : WS pg w g₀ (n + 5) (envL w L) P ρ [] p ((bdA w).drop 6) Q) :
    WS pg w g₀ (n + 5) (envL w L) P ρ [("due", a, .list ((pasted rows sep).map .str))] p ((bdA w).drop 5) Q := by
  obtain ⟨fo, hfo⟩ := (d_pvecs G).at_
  have sp1 : ((" " : String) : Str).length ≤ 64 := by decide
  obtain ⟨hl, hx⟩ := pasted_len S sp1
  have hj : JoinOk ("," : String) (pasted rows (" " : String)) = true := joinOk (m := 1024) (k := 8) hx (by decide) hl (by decide)
  have frow : ρo ρ [(("due" : Str), a, .list ((pasted rows sep).map .str))] "rows" = some (.list (rows.map listV)) := hrs
  have fsep : ρo ρ [(("due" : Str), a, .list ((pasted rows sep).map .str))] "sep" = some (.str sep) := hsep
  refine ws_if (b := false || (false || false)) (pt_or' (pt_cmp (pe_call (gl_pvecs G) hfo (pes_cons (pe_name frow) (pes_cons (pe_name fsep) (pes_cons pe_none pes_nil))) (f_pvecs0 G S hs p P)) (pe_name rfl) (cmp_ne_refl (strsSc _)))
    (pt_or' (pt_cmp (pe_call (gl_pvecs G) hfo (pes_cons (pe_name frow) (pes_cons pe_str (pes_cons pe_str pes_nil))) (f_pvecs1 G S sp1 hj p P))
      (pe_list (pes_cons (pe_meth pe_str (pes_cons (pe_call (gl_pvecs G) hfo (pes_cons (pe_name frow) (pes_cons pe_str (pes_cons pe_none pes_nil))) (f_pvecs0 G S sp1 p P)) pes_nil) self_str PySem.F.plainAttrs_str PySem.F.slot_str_join PySem.F.type_str_join (bi_join hj)) pes_nil) (by show (1 : Nat) ≤ sizeLine; decide)) (cmp_ne_refl fun v hv => by rw [List.mem_singleton] at hv; subst hv; rfl)) pt_or_nil))
    (fun h => nomatch h) fun _ => ws_nil (ws_forget "due" h)
end
end Mine
end

section
open PySem PySem.W PyProof.Rows PySem.Calls Builtin.Str
set_option autoImplicit false
set_option Elab.async false
set_option linter.all false
set_option maxRecDepth 100000
namespace Mine
/-! a text cut at the places where another stands -/
noncomputable def pcs (x y : Str) : List Nat → Nat → List Str
  | [], a => [sseg y a y.length]
  | s :: r, a => sseg y a s :: pcs x y r (s + x.length)
noncomputable def SP (x y : Str) : List Nat → Nat → Prop
  | [], a => a ≤ y.length ∧ ∀ i, a ≤ i → i + x.length ≤ y.length → sseg y i (i + x.length) ≠ x
  | s :: r, a => a ≤ s ∧ s + x.length ≤ y.length ∧ sseg y s (s + x.length) = x ∧ (∀ i, a ≤ i → i < s → sseg y i (i + x.length) ≠ x) ∧ SP x y r (s + x.length)
theorem sp_mono {x y : Str} {a : Nat} (hn : sseg y a (a + x.length) ≠ x) : ∀ {l : List Nat}, a < y.length → SP x y l (a + 1) → SP x y l a
  | [], ha, h => ⟨by omega, fun i hi hl => by
      by_cases e : i = a
      · subst e; exact hn
      · exact h.2 i (by omega) hl⟩
  | s :: r, ha, h => by
    obtain ⟨h1, h2, h3, h4, h5⟩ := h
    exact ⟨by omega, h2, h3, fun i hi hl => by
      by_cases e : i = a
      · subst e; exact hn
      · exact h4 i (by omega) hl, h5⟩
theorem sp_spots {x y : Str} (hx : 0 < x.length) : ∀ (k a : Nat), a ≤ y.length → y.length + 1 ≤ a + k → SP x y (spotsF x y k a) a
  | 0, a, h1, h2 => by omega
  | k + 1, a, h1, h2 => by
    rw [spotsF]
    split
    · rename_i hle
      split
      · rename_i he
        rw [beq_iff_eq] at he
        exact ⟨Nat.le_refl _, hle, he, fun i _ _ => by omega, sp_spots hx k _ (by omega) (by omega)⟩
      · rename_i he
        exact sp_mono (fun e => he (by rw [e]; exact beq_self_eq_true x)) (by omega) (sp_spots hx k (a + 1) (by omega) (by omega))
    · exact ⟨h1, fun i _ _ => by omega⟩
theorem spots_sp {x y : Str} (hx : 0 < x.length) : SP x y (spots x y) 0 := by
  rw [spots_def hx]; exact sp_spots hx _ 0 (by omega) (by omega)
theorem ls_sseg' (x : Str) (a b : Nat) : ls (sseg x a b) = seg (ls x) a b := rfl
theorem drop_split {α : Type} (l : List α) (a s : Nat) (h : a ≤ s) : l.drop a = seg l a s ++ l.drop s := by
  unfold seg
  conv => lhs; rw [← List.take_append_drop (s - a) (l.drop a)]
  rw [List.drop_drop, show a + (s - a) = s by omega]
theorem pcs_ne (x y : Str) : ∀ (l : List Nat) (a : Nat), pcs x y l a ≠ []
  | [], _ => by simp [pcs]
  | _ :: _, _ => by simp [pcs]
theorem jn_cons' (sep a : List Nat) : ∀ {r : List (List Nat)}, r ≠ [] → jn sep (a :: r) = a ++ sep ++ jn sep r
  | [], h => absurd rfl h
  | _ :: _, _ => rfl
theorem jn_pcs {x y : Str} : ∀ (l : List Nat) (a : Nat), SP x y l a → jn (ls x) ((pcs x y l a).map ls) = (ls y).drop a
  | [], a, h => by
    show ls (sseg y a y.length) = _
    rw [ls_sseg, List.take_of_length_le]
    rw [List.length_drop, ls_len]; exact Nat.le_refl _
  | s :: r, a, h => by
    obtain ⟨h1, h2, h3, h4, h5⟩ := h
    rw [pcs, List.map_cons, jn_cons' _ _ (by simp [pcs_ne]), jn_pcs r _ h5, drop_split (ls y) a s h1, drop_split (ls y) s (s + x.length) (by omega), ← ls_sseg' y s, h3, ls_sseg']
    simp
theorem seg_seg {α : Type} (l : List α) (a b i j : Nat) (h : a + j ≤ b) : seg (seg l a b) i j = seg l (a + i) (a + j) := by
  unfold seg
  rw [List.drop_take, List.take_take, List.drop_drop, show min (j - i) (b - a - i) = j - i by omega, show a + j - (a + i) = j - i by omega]
theorem sseg_sseg (y : Str) (a b i j : Nat) (h : a + j ≤ b) : sseg (sseg y a b) i j = sseg y (a + i) (a + j) := ls_ext (by rw [ls_sseg', ls_sseg', ls_sseg', seg_seg _ _ _ _ _ h])
theorem no_in {x y : Str} (hx : 0 < x.length) {a b : Nat} (hab : a ≤ b) (hb : b ≤ y.length) (h : ∀ i, a ≤ i → i + x.length ≤ b → sseg y i (i + x.length) ≠ x) : Txt.contains (sseg y a b) x = false := by
  rw [contains_spots hx]
  have sp := spots_sp (y := sseg y a b) hx
  cases e : spots x (sseg y a b) with
  | nil => rfl
  | cons s r =>
    exfalso
    rw [e] at sp
    obtain ⟨_, h2, h3, _⟩ := sp
    have hl := sseg_len y a b
    rw [sseg_sseg _ _ _ _ _ (by omega), ← Nat.add_assoc] at h3
    exact h (a + s) (by omega) (by omega) h3
theorem pcs_no {x y : Str} (hx : 0 < x.length) : ∀ (l : List Nat) (a : Nat), SP x y l a → ∀ z ∈ pcs x y l a, Txt.contains z x = false
  | [], a, h, z, hz => by
    rw [pcs, List.mem_singleton] at hz; subst hz
    exact no_in hx h.1 (Nat.le_refl _) fun i hi hl => h.2 i hi hl
  | s :: r, a, h, z, hz => by
    obtain ⟨h1, h2, h3, h4, h5⟩ := h
    rcases List.mem_cons.mp hz with rfl | hz
    · exact no_in hx h1 (by omega) fun i hi hl => h4 i hi (by omega)
    · exact pcs_no hx r _ h5 z hz
theorem pcs_len (x y : Str) : ∀ (l : List Nat) (a : Nat), (pcs x y l a).length = l.length + 1
  | [], _ => rfl
  | s :: r, a => by rw [pcs, List.length_cons, pcs_len x y r, List.length_cons]
noncomputable def endOf (x : Str) : List Nat → Nat → Nat
  | [], a => a
  | s :: r, _ => endOf x r (s + x.length)
theorem endOf_le {x y : Str} : ∀ (l : List Nat) (a : Nat), SP x y l a → endOf x l a ≤ y.length
  | [], _, h => h.1
  | _ :: r, _, h => endOf_le r _ h.2.2.2.2
theorem pcs_last (x y : Str) : ∀ (l : List Nat) (a : Nat), ∃ q, pcs x y l a = q ++ [sseg y (endOf x l a) y.length] ∧ q.length = l.length
  | [], a => ⟨[], rfl, rfl⟩
  | s :: r, a => by
    obtain ⟨q, h, hl⟩ := pcs_last x y r (s + x.length)
    exact ⟨sseg y a s :: q, by rw [pcs, h]; rfl, by rw [List.length_cons, hl, List.length_cons]⟩
theorem sub_sseg (y : Str) (i j : Nat) : strSub y i j = sseg y i j := ls_ext (by
  show (y.cps.extract i j).toList = _
  rw [ls_sseg]; simp [ls])
theorem parts_pcs {x y : Str} : ∀ (l : List Nat) (a : Nat), (((a :: l.map (· + x.length)).zip (l ++ [y.length])).map fun (i, j) => strSub y i j) = pcs x y l a
  | [], a => by show [strSub y a y.length] = _; rw [sub_sseg]; rfl
  | s :: r, a => by
    rw [List.map_cons, List.cons_append, List.zip_cons_cons, List.map_cons, parts_pcs r, pcs]
    show strSub y a s :: _ = _
    rw [sub_sseg]
theorem kind1 {x : Str} (h : ∀ c ∈ ls x, c ≤ 122) : Builtin.Str.strKind x = 1 := by
  unfold Builtin.Str.strKind
  rw [if_pos]
  rw [Array.all_eq_true']
  intro c hc
  have := h c (Array.mem_toList_iff.mpr hc)
  exact decide_eq_true (by omega)
theorem split_pcs {x y : Str} (hx : 0 < x.length) (okx : WOk x) (oky : WOk y) : Txt.split y x = pcs x y (spots x y) 0 ∧ partsBetween y (occurrences y x 0 y.length (y.length + 1)) x.length = pcs x y (spots x y) 0 := by
  have ho : occurrences y x 0 y.length (y.length + 1) = spots x y := by
    rw [occ_spots hx _ 0 (y.length + 1) (by omega) (by omega), spots_def hx, List.take_of_length_le (spotsF_len _ _ _ _)]
  have hp : partsBetween y (occurrences y x 0 y.length (y.length + 1)) x.length = pcs x y (spots x y) 0 := by
    rw [ho]; exact parts_pcs _ _
  have hw : pcs x y [] 0 = [y] := by
    show [sseg y 0 y.length] = [y]
    have : sseg y 0 y.length = y := ls_ext (by rw [ls_sseg, List.drop_zero, List.take_of_length_le]; rw [ls_len]; exact Nat.le_refl _)
    rw [this]
  refine ⟨?_, hp⟩
  unfold Txt.split
  rw [hp, ho, kind1 fun c hc => (okx.ok c hc).2, kind1 fun c hc => (oky.ok c hc).2]
  split
  · rename_i h
    simp at h
    have : spots x y = [] := by rw [spots_def hx]; exact spotsF_nil (by omega)
    rw [this, hw]
  · split
    · rename_i h
      rw [List.isEmpty_iff.mp h, hw]
    · rfl
theorem ends_at {x y : Str} (h : Txt.endswith y x = true) : x.length ≤ y.length ∧ sseg y (y.length - x.length) (y.length - x.length + x.length) = x := by
  unfold Txt.endswith at h
  rw [Bool.and_eq_true, decide_eq_true_eq] at h
  refine ⟨by omega, ?_⟩
  rw [← beq_iff_eq, sub_eq]; exact h.2
theorem at_ends {x y : Str} (h1 : x.length ≤ y.length) (h : sseg y (y.length - x.length) (y.length - x.length + x.length) = x) : Txt.endswith y x = true := by
  unfold Txt.endswith
  rw [Bool.and_eq_true, decide_eq_true_eq]
  refine ⟨by omega, ?_⟩
  rw [← sub_eq, h]; exact beq_self_eq_true x
theorem end_match {x y : Str} : ∀ (l : List Nat) (a : Nat), l ≠ [] → SP x y l a → x.length ≤ endOf x l a ∧ sseg y (endOf x l a - x.length) (endOf x l a) = x ∧ l.getLastD 0 + x.length = endOf x l a
  | [], _, h, _ => absurd rfl h
  | [s], a, _, h => by
    obtain ⟨h1, h2, h3, h4, h5⟩ := h
    exact ⟨by unfold endOf endOf; omega, by show sseg y (s + x.length - x.length) (s + x.length) = x; rw [Nat.add_sub_cancel]; exact h3, rfl⟩
  | s :: t :: r, a, _, h => by
    have := end_match (t :: r) (s + x.length) (by simp) h.2.2.2.2
    exact this
/-- the law of split_fixed -/
structure SplitLaw (x y : Str) : Prop where
  back : y = Txt.join x (splitF x y) ∨ y = Txt.join x (splitF x y) ++ x
  none : ∀ z ∈ splitF x y, Txt.contains z x = false
  found : Txt.endswith y x = true → spots x y ≠ []
  len : (splitF x y).length = (spots x y).length + if (y == (("" : String) : Str)) || (Txt.endswith y x && ((((spots x y).getLastD 0 : Nat) : Int) + (x.length : Int) == (y.length : Int))) then 0 else 1
theorem empty_len {y : Str} : y.length = 0 ↔ y = (("" : String) : Str) := by
  refine ⟨fun h => ls_ext ?_, fun h => by subst h; rfl⟩
  have : ls y = [] := List.length_eq_zero_iff.mp (by rw [ls_len]; exact h)
  rw [this]; rfl
theorem split_law {x y : Str} (hx : 0 < x.length) (okx : WOk x) (oky : WOk y) : SplitLaw x y := by
  have hs := (split_pcs hx okx oky).1
  have sp := spots_sp (y := y) hx
  have hj := jn_pcs _ _ sp
  obtain ⟨q, hq, hql⟩ := pcs_last x y (spots x y) 0
  have hle := endOf_le _ _ sp
  have hno := pcs_no hx _ _ sp
  have hlen : (sseg y (endOf x (spots x y) 0) y.length).length = y.length - endOf x (spots x y) 0 := by
    rw [← ls_len, ls_sseg, List.length_take, List.length_drop, ls_len]; omega
  have hf : Txt.endswith y x = true → spots x y ≠ [] := fun he e => by
    rw [e] at sp
    obtain ⟨h1, h2⟩ := ends_at he
    exact sp.2 _ (Nat.zero_le _) (by omega) h2
  have hF : splitF x y = if endOf x (spots x y) 0 = y.length then q else q ++ [sseg y (endOf x (spots x y) 0) y.length] := by
    unfold splitF
    rw [hs, hq, List.getLastD_concat, List.dropLast_concat]
    by_cases h : endOf x (spots x y) 0 = y.length
    · rw [if_pos h, if_pos]
      rw [beq_iff_eq, ← empty_len, hlen]; omega
    · rw [if_neg h, if_neg]
      rw [beq_iff_eq, ← empty_len, hlen]; omega
  rw [hq] at hno
  by_cases h : endOf x (spots x y) 0 = y.length
  · rw [if_pos h] at hF
    have hz : sseg y (endOf x (spots x y) 0) y.length = (("" : String) : Str) := by rw [← empty_len, hlen]; omega
    rw [hq, hz] at hj
    refine ⟨?_, by rw [hF]; exact fun z hz => hno z (List.mem_append_left _ hz), hf, ?_⟩
    · rw [hF]
      by_cases hl : spots x y = []
      · have hq0 : q = [] := by rw [hl] at hql; exact List.length_eq_zero_iff.mp hql
        left
        refine ls_ext ?_
        rw [hq0] at hj ⊢
        rw [ls_join]
        exact hj.symm
      · have hq0 : q ≠ [] := by rintro rfl; exact hl (List.length_eq_zero_iff.mp hql.symm)
        right
        refine ls_ext ?_
        rw [ls_add, ls_join]
        rw [List.drop_zero] at hj
        rw [← hj]
        clear hj hno hF hq hql hz
        induction q with
        | nil => exact absurd rfl hq0
        | cons a q ih =>
          cases q with
          | nil => simp [jn, ls]; rfl
          | cons b q =>
            rw [List.cons_append, List.map_cons, List.map_cons, jn_cons' _ _ (by simp), jn_cons' _ _ (by simp), ih (by simp)]
            simp
    · rw [hF, hql, if_pos]
      · rfl
      · rw [Bool.or_eq_true]
        by_cases hl : spots x y = []
        · left
          rw [hl] at h
          rw [beq_iff_eq, ← empty_len]; exact h.symm
        · right
          obtain ⟨e1, e2, e3⟩ := end_match _ _ hl sp
          rw [Bool.and_eq_true, beq_iff_eq]
          refine ⟨at_ends (by omega) ?_, by omega⟩
          rw [Nat.sub_add_cancel (by omega), ← h]; exact e2
  · rw [if_neg h] at hF
    rw [hq] at hj
    refine ⟨.inl (ls_ext ?_), by rw [hF]; exact hno, hf, ?_⟩
    · rw [hF, ls_join]; exact hj.symm
    · rw [hF, List.length_append, hql, if_neg]
      · rfl
      · rw [Bool.or_eq_true, Bool.and_eq_true, beq_iff_eq, beq_iff_eq]
        rintro (e | ⟨e1, e2⟩)
        · subst e; exact h (Nat.le_antisymm hle (Nat.zero_le _))
        · obtain ⟨_, _, e3⟩ := end_match _ _ (hf e1) sp
          omega
end Mine
end

section
open PySem PySem.W PyProof.Rows PySem.Calls Builtin.Str
set_option autoImplicit false
set_option Elab.async false
set_option linter.all false
set_option maxRecDepth 100000
namespace Mine
/-! blanks -/
theorem tw_congr {g g' : Nat → Bool} : ∀ {l : List Nat}, (∀ c ∈ l, g c = g' c) → l.takeWhile g = l.takeWhile g'
  | [], _ => rfl
  | a :: l, h => by
    rw [List.takeWhile_cons, List.takeWhile_cons, h a (.head _), tw_congr fun c hc => h c (.tail _ hc)]
theorem strip_congr {g g' : Nat → Bool} (l r : Bool) {x : Str} (h : ∀ c ∈ ls x, g c = g' c) : Txt.stripBy g l r x = Txt.stripBy g' l r x := by
  have h1 : PySem.stripLo g l x = PySem.stripLo g' l x := by
    unfold PySem.stripLo; rw [tw_congr (l := x.cps.toList) h]
  have h2 : ∀ lo, PySem.stripHi g r x lo = PySem.stripHi g' r x lo := fun lo => by
    unfold PySem.stripHi
    rw [tw_congr (l := (x.cps.toList.drop lo).reverse) fun c hc => h c (List.mem_of_mem_drop (List.mem_reverse.mp hc))]
  rw [PyProof.Rows.stripBy_eq, PyProof.Rows.stripBy_eq, h1, h2]
theorem ls_strip (g : Nat → Bool) (l r : Bool) (x : Str) : ls (Txt.stripBy g l r x) = seg (ls x) (PySem.stripLo g l x) (PySem.stripHi g r x (PySem.stripLo g l x)) := by
  rw [PyProof.Rows.stripBy_eq, sub_sseg]; rfl
theorem tw_le (g : Nat → Bool) (l : List Nat) : (l.takeWhile g).length ≤ l.length := (List.takeWhile_prefix g).length_le
theorem strip_both (g : Nat → Bool) (x : Str) : Txt.stripBy g false true (Txt.stripBy g true false x) = Txt.stripBy g true true x := by
  refine ls_ext ?_
  have e1 : ls (Txt.stripBy g true false x) = (ls x).drop (PySem.stripLo g true x) := by
    rw [ls_strip]
    unfold seg PySem.stripHi
    rw [if_neg (by decide), List.take_of_length_le]
    rw [List.length_drop, ls_len]; exact Nat.le_refl _
  have e2 : ∀ z : Str, ls (Txt.stripBy g false true z) = (ls z).take ((ls z).length - (((ls z).reverse).takeWhile g).length) := fun z => by
    rw [ls_strip]
    unfold seg PySem.stripHi PySem.stripLo
    rw [if_pos rfl, if_neg (by decide), List.drop_zero, List.drop_zero, Nat.sub_zero, ← ls_len]
    rfl
  rw [e2, e1, ls_strip]
  unfold seg
  congr 1
  unfold PySem.stripHi
  rw [if_pos rfl, List.length_drop, ← ls_len]
  show _ = (ls x).length - ((((ls x).drop _).reverse).takeWhile g).length - _
  omega
theorem blank_ok : ∀ c, c < 123 → 32 ≤ c → blanks.cps.contains c = ((" " : String) : Str).cps.contains c := by decide +kernel
theorem blanks_ok {x : Str} (h : WOk x) : ∀ c ∈ ls x, blanks.cps.contains c = ((" " : String) : Str).cps.contains c := fun c hc => by
  obtain ⟨h1, h2⟩ := h.ok c hc
  exact blank_ok c (by omega) h1
theorem trim_both {x : Str} (h : WOk x) : trimmed x ("both" : String) = Txt.stripChars x (" " : String) := by
  show Txt.stripBy _ false true (Txt.stripBy _ true false x) = Txt.stripBy _ true true x
  rw [strip_both, strip_congr _ _ (blanks_ok h)]
theorem trim_left {x : Str} (h : WOk x) : trimmed x ("left" : String) = Txt.lstripChars x (" " : String) := strip_congr _ _ (blanks_ok h)
theorem trim_right {x : Str} (h : WOk x) : trimmed x ("right" : String) = Txt.rstripChars x (" " : String) := strip_congr _ _ (blanks_ok h)

/-! heads and tails -/
theorem pre_law (x y : Str) : pre x y = Txt.startswith x y := by
  unfold pre Txt.startswith
  rw [Bool.eq_iff_iff, beq_iff_eq, Bool.and_eq_true, decide_eq_true_eq, ← sub_eq, beq_iff_eq, Nat.zero_add]
  constructor
  · intro h
    have e := ls_cut x y.length
    rw [h] at e
    have hl : y.length ≤ x.length := by
      have := congrArg List.length e
      rw [ls_len, List.length_take, ls_len] at this; omega
    refine ⟨hl, ls_ext ?_⟩
    rw [ls_sseg, e]; simp
  · rintro ⟨h1, h2⟩
    refine ls_ext ?_
    rw [ls_cut, ← congrArg ls h2, ls_sseg]; simp
theorem suf_law (x y : Str) : suf x y = Txt.endswith x y := by
  unfold suf Txt.endswith
  rw [Bool.eq_iff_iff, beq_iff_eq, Bool.and_eq_true, decide_eq_true_eq, ← sub_eq, beq_iff_eq, Nat.zero_add]
  have e : cut x (some (max ((x.length : Int) - y.length) 0)) none none = sseg x (x.length - y.length) x.length := by
    rw [show max ((x.length : Int) - y.length) 0 = ((x.length - y.length : Nat) : Int) by omega]
    exact cut_from x _ (Nat.sub_le _ _)
  rw [e]
  constructor
  · intro h
    have hl : y.length ≤ x.length := by
      have := congrArg Str.length h
      have := sseg_len' x (x.length - y.length) x.length
      omega
    exact ⟨hl, by rw [show x.length - y.length + y.length = x.length by omega]; exact h⟩
  · rintro ⟨h1, h2⟩
    rwa [show x.length - y.length + y.length = x.length by omega] at h2

/-! parts by places -/
noncomputable def insideL (n : Nat) (a b : Int) : List Nat := (List.range n).filter fun i => decide (a ≤ (i : Int) + 1) && decide ((i : Int) + 1 ≤ b)
noncomputable def loOf (a : Int) : Nat := (max a 1 - 1).toNat
noncomputable def hiOf (n : Nat) (b : Int) : Nat := (min b n).toNat
theorem ab_fin {Q : Int → Int → Prop} (h : ∀ a, a < 9 → ∀ b, b < 9 → Q ((a : Nat) - 1 : Int) ((b : Nat) - 1 : Int)) {a b : Int} (ha : -1 ≤ a ∧ a < 8) (hb : -1 ≤ b ∧ b < 8) : Q a b := by
  have := h (a + 1).toNat (by omega) (b + 1).toNat (by omega)
  rwa [show (((a + 1).toNat : Nat) - 1 : Int) = a by omega, show (((b + 1).toNat : Nat) - 1 : Int) = b by omega] at this
theorem inside_fin : ∀ n, n < 7 → ∀ a, a < 9 → ∀ b, b < 9 → insideL n ((a : Nat) - 1 : Int) ((b : Nat) - 1 : Int) = List.range' (loOf ((a : Nat) - 1 : Int)) (hiOf n ((b : Nat) - 1 : Int) - loOf ((a : Nat) - 1 : Int)) := by decide +kernel
theorem inside_law {n : Nat} {a b : Int} (hn : n ≤ 6) (ha : -1 ≤ a ∧ a < 8) (hb : -1 ≤ b ∧ b < 8) : insideL n a b = List.range' (loOf a) (hiOf n b - loOf a) :=
  ab_fin (Q := fun a b => insideL n a b = List.range' (loOf a) (hiOf n b - loOf a)) (inside_fin n (Nat.lt_succ_of_le hn)) ha hb
theorem run_get (l : List Nat) : ∀ (k a : Nat), a + k ≤ l.length → (List.range' a k).map (fun i => l.getD i 0) = (l.drop a).take k
  | 0, a, _ => by simp
  | k + 1, a, h => by
    rw [List.range'_succ, List.map_cons, run_get l k (a + 1) (by omega), List.drop_eq_getElem_cons (show a < l.length by omega), List.take_succ_cons]
    congr 1
    rw [List.getD_eq_getElem?_getD, List.getElem?_eq_getElem (by omega)]; rfl
theorem flat_lt1 : ∀ (l : List Nat), ((l.map lt1).map ls).flatten = l
  | [] => rfl
  | a :: l => by rw [List.map_cons, List.map_cons, List.flatten_cons, flat_lt1 l]; rfl
theorem join_lt1 (l : List Nat) : Txt.join ("" : String) (l.map lt1) = ⟨l.toArray⟩ := ls_ext (by rw [ls_cat, flat_lt1]; rfl)
noncomputable def SubF (n : Nat) (a b : Int) : Prop := (b < max a 1 → hiOf n b - loOf a = 0) ∧ (¬ b < max a 1 → (max a 1 - 1 : Int) = ((loOf a : Nat) : Int) ∧ b = ((b.toNat : Nat) : Int) ∧ ((min (loOf a) n = loOf a ∧ min b.toNat n - loOf a = hiOf n b - loOf a) ∨ (min b.toNat n - min (loOf a) n = 0 ∧ hiOf n b - loOf a = 0))) ∧ (hiOf n b - loOf a = 0 ∨ loOf a + (hiOf n b - loOf a) ≤ n)
set_option synthInstance.maxSize 4000 in
set_option synthInstance.maxHeartbeats 400000 in
theorem sub_fin : ∀ n, n < 7 → ∀ a, a < 9 → ∀ b, b < 9 → SubF n ((a : Nat) - 1 : Int) ((b : Nat) - 1 : Int) := by unfold SubF; decide +kernel
theorem ch_ls (x : Str) (l : List Nat) : l.map (ch x) = l.map (fun i => (ls x).getD i 0) := List.map_congr_left fun i _ => by
  unfold ch ls
  rw [List.getD_eq_getElem?_getD, Array.getElem?_toList, Array.getD_eq_getD_getElem?]
theorem ls_cutN (x : Str) (a b : Nat) : ls (cut x (some (a : Int)) (some (b : Int)) none) = ((ls x).drop (min a x.length)).take (min b x.length - min a x.length) := by
  rw [cut_eq]
  show ls (sseg x (clipAt x.length a) (clipAt x.length b)) = _
  rw [ls_sseg, clip_nn, clip_nn]
theorem substr_law {x : Str} {a b : Int} (hn : x.length ≤ 6) (ha : -1 ≤ a ∧ a < 8) (hb : -1 ≤ b ∧ b < 8) : substrOf x a b = Txt.join ("" : String) ((insideL x.length a b).map fun i => lt1 (ch x i)) := by
  obtain ⟨f1, f2, f5⟩ := ab_fin (sub_fin x.length (Nat.lt_succ_of_le hn)) ha hb
  rw [show (insideL x.length a b).map (fun i => lt1 (ch x i)) = ((insideL x.length a b).map (ch x)).map lt1 by rw [List.map_map]; rfl, join_lt1, inside_law hn ha hb, ch_ls]
  refine ls_ext (Eq.trans ?_ (ls_mk _).symm)
  have e : List.map (fun i => (ls x).getD i 0) (List.range' (loOf a) (hiOf x.length b - loOf a)) = ((ls x).drop (loOf a)).take (hiOf x.length b - loOf a) := by
    rcases f5 with z | z
    · rw [z]; simp
    · exact run_get (ls x) _ _ (by rw [ls_len]; exact z)
  rw [e]
  unfold substrOf
  by_cases h : b < max a 1
  · rw [if_pos h, f1 h, List.take_zero]; rfl
  · obtain ⟨g1, g2, g3⟩ := f2 h
    rw [if_neg h, g1, g2, ls_cutN]
    rw [← g2]
    rcases g3 with ⟨z1, z2⟩ | ⟨z1, z2⟩
    · rw [z1, z2]
    · rw [z1, z2, List.take_zero, List.take_zero]

/-! parts put in -/
noncomputable def putL (l v : List Nat) (a i : Nat) : List Nat := l.take a ++ v.take i ++ l.drop (a + i)
theorem put_len {l v : List Nat} {a i : Nat} (h : a + i ≤ l.length) (hv : i ≤ v.length) : (putL l v a i).length = l.length := by
  unfold putL
  rw [List.length_append, List.length_append, List.length_take, List.length_take, List.length_drop]; omega
theorem put_zero (l v : List Nat) (a : Nat) : putL l v a 0 = l := by unfold putL; simp
theorem put_step {l v : List Nat} {a i c : Nat} (h : a + i < l.length) (hv : v[i]? = some c) : (putL l v a i).set (a + i) c = putL l v a (i + 1) := by
  have hi : i < v.length := (List.getElem?_eq_some_iff.mp hv).1
  unfold putL
  rw [List.set_append_right _ _ (by rw [List.length_append, List.length_take, List.length_take]; omega)]
  rw [List.length_append, List.length_take, List.length_take, show a + i - (min a l.length + min i v.length) = 0 by omega, List.drop_eq_getElem_cons h, List.set_cons_zero, List.take_add_one, hv]
  simp
  rfl
noncomputable def PutF (n m : Nat) (a b : Int) : Prop := (min b n < max a 1 → min (hiOf n b - loOf a) m = 0) ∧ (¬ min b n < max a 1 → (max a 1 - 1 : Int) = ((loOf a : Nat) : Int) ∧ min (min b n - max a 1 + 1) (m : Int) = ((min (hiOf n b - loOf a) m : Nat) : Int) ∧ loOf a + min (hiOf n b - loOf a) m ≤ n)
set_option synthInstance.maxSize 4000 in
set_option synthInstance.maxHeartbeats 400000 in
theorem put_fin : ∀ n, n < 7 → ∀ m, m < 7 → ∀ a, a < 9 → ∀ b, b < 9 → PutF n m ((a : Nat) - 1 : Int) ((b : Nat) - 1 : Int) := by unfold PutF; decide +kernel
theorem subset_law {x v : Str} {a b : Int} (hn : x.length ≤ 6) (hm : v.length ≤ 6) (ha : -1 ≤ a ∧ a < 8) (hb : -1 ≤ b ∧ b < 8) :
    substrSet x a b v = ⟨(putL (ls x) (ls v) (loOf a) (min (insideL x.length a b).length v.length)).toArray⟩ := by
  obtain ⟨f1, f2⟩ := ab_fin (put_fin x.length (Nat.lt_succ_of_le hn) v.length (Nat.lt_succ_of_le hm)) ha hb
  refine ls_ext (Eq.trans ?_ (ls_mk _).symm)
  rw [inside_law hn ha hb, List.length_range']
  unfold substrSet
  by_cases h : min b x.length < max a 1
  · rw [if_pos h, f1 h, put_zero]
  · obtain ⟨g1, g2, g3⟩ := f2 h
    rw [if_neg h, g1, g2, ← Int.natCast_add]
    rw [ls_add, ls_add, ls_cut, ls_cut, cut_from _ _ g3, ls_sseg, List.take_of_length_le (l := List.drop _ _) (by rw [List.length_drop, ls_len]; exact Nat.le_refl _)]
    rfl
end Mine
end

section
open PySem PySem.W PyProof.Rows PySem.Calls Builtin.Str
set_option autoImplicit false
set_option Elab.async false
set_option linter.all false
set_option maxRecDepth 100000
namespace Mine
noncomputable abbrev partOf (p : List Int) : Str := cut (wordS p).1 none (some 2) none
theorem partOf_ok (p : List Int) : WOk (partOf p) ∧ (partOf p).length ≤ 2 := (wordS_ok p).cut 2
theorem ok_size {x : Str} (h : WOk x) : x.length ≤ sizeLine := by have := h.len; unfold sizeLine; omega
theorem piece_len {x y : Str} : ∀ (l : List Nat) (a : Nat), ∀ z ∈ pcs x y l a, z.length ≤ y.length
  | [], a, z, hz => by
    rw [pcs, List.mem_singleton] at hz; subst hz
    have := sseg_len' y a y.length; omega
  | s :: r, a, z, hz => by
    rcases List.mem_cons.mp hz with rfl | hz
    · have := sseg_len' y a s; omega
    · exact piece_len r _ z hz
theorem spots_le (x y : Str) : (spots x y).length ≤ y.length + 1 := by
  unfold spots
  split
  · simp
  · exact spotsF_len _ _ _ _
theorem splitF_mem {x y z : Str} (h : z ∈ splitF x y) : z ∈ Txt.split y x := by
  unfold splitF at h
  split at h
  · exact List.dropLast_subset _ h
  · exact h
theorem splitF_le {x y : Str} : (splitF x y).length ≤ (Txt.split y x).length := by
  unfold splitF
  split
  · rw [List.length_dropLast]; omega
  · exact Nat.le_refl _
noncomputable def wholeEnd (x y : Str) : Bool := (y == (("" : String) : Str)) || (Txt.endswith y x && ((((spots x y).getLastD 0 : Nat) : Int) + (x.length : Int) == (y.length : Int)))
theorem last_get {l : List Nat} (h : l ≠ []) : (l.map natV)[((-1 : Int) + (l.map natV).length).toNat]? = some (natV (l.getLastD 0)) := by
  rcases List.eq_nil_or_concat l with e | ⟨q, z, e⟩
  · exact absurd e h
  · subst e
    rw [List.concat_eq_append, List.getLastD_concat, List.length_map, List.length_append, List.getElem?_map, List.length_singleton, show ((-1 : Int) + ((q.length + 1 : Nat) : Int)).toNat = q.length by omega]
    simp
section
variable {w : World} {mg mb : Str → Option Value} {g₀ : Heap} (G : Gr w mg mb g₀)
include G
/-- words, part_x -/
theorem law_5 {n : Nat} {P : Option Addr} {p : List Int} {ρ : Str → Option V} {L : Addr} {Q : Fl → (Str → Option V) → Own → List Int → Prop} (hp : p.length ≤ 160) (hr : ρ "row" = some .pool)
    (h : ∀ ρ', ρ' "row" = some .pool → ρ' "words" = some (.str (wordS p).1) → ρ' "part_x" = some (.str (partOf (wordS p).2)) → WS pg w g₀ (n + 5) (envL w L) P ρ' [] (wordS (wordS p).2).2 ((bdA w).drop 8) Q) :
    WS pg w g₀ (n + 5) (envL w L) P ρ [] p ((bdA w).drop 6) Q := by
  obtain ⟨fw, hfw⟩ := (d_word G).at_
  have h1 := wordS_pool p 160 hp
  have h2 := wordS_pool _ 160 h1
  refine ws_lets (v := .str (wordS p).1) (pe_call (gl_word G) hfw (pes_cons (pe_name hr) (pes_cons pe_bool pes_nil)) (f_wordS G (by omega))) (.inr ⟨rfl, _, rfl⟩) ?_
  refine ws_lets (v := .str (partOf (wordS p).2)) (pe_cut (pe_call (gl_word G) hfw (pes_cons (pe_name hr) (pes_cons pe_bool pes_nil)) (f_wordS G (by omega))) po_none (po_some pe_int) (ok_size (wordS_ok _))) (.inr ⟨rfl, _, rfl⟩) (h _ hr rfl rfl)

/-- the text cut at the part -/
theorem law_6 {n : Nat} {P : Option Addr} {p : List Int} {ρ : Str → Option V} {L : Addr} {Q : Fl → (Str → Option V) → Own → List Int → Prop} {x y : Str} (okx : WOk x) (oky : WOk y) (hx2 : x.length ≤ 2) (hr : ρ "row" = some .pool) (hw : ρ "words" = some (.str y)) (hx : ρ "part_x" = some (.str x))
    (h : ∀ ρ', ρ' "row" = some .pool → ρ' "words" = some (.str y) → ρ' "part_x" = some (.str x) → WS pg w g₀ (n + 5) (envL w L) P ρ' [] p ((bdA w).drop 9) Q) :
    WS pg w g₀ (n + 5) (envL w L) P ρ [] p ((bdA w).drop 8) Q := by
  obtain ⟨fs, hfs⟩ := (d_split G).at_
  obtain ⟨ff, hff⟩ := (d_find G).at_
  have sy := ok_size oky
  have sx := ok_size okx
  have ly := oky.len
  refine ws_if (b := x != (("" : String) : Str)) (pt_cmp (pe_name hx) pe_str cmp_ne_str.cmp) (fun hne => ?_) fun he => ?_
  · have hx0 : 0 < x.length := by
      rcases Nat.eq_zero_or_pos x.length with q | q
      · rw [empty_len.mp q] at hne; cases hne
      · exact q
    have law := split_law hx0 okx oky
    obtain ⟨hsp, hpp⟩ := split_pcs hx0 okx oky
    have hsl := spots_le x y
    have hl : (Txt.split y x).length ≤ 8 := by rw [hsp, pcs_len]; omega
    have hFl : (splitF x y).length ≤ 8 := Nat.le_trans splitF_le hl
    have hFe : ∀ z ∈ splitF x y, z.length ≤ 64 := fun z hz => by
      have := splitF_mem hz
      rw [hsp] at this
      have := piece_len _ _ z this
      omega
    have spec : Fn pg w g₀ (n + 5) P 67 [.str y, .str x] p (.list ((splitF x y).map .str)) p := f_split G (n := n + 2) (by omega) (by omega) (by omega) (by rw [hsp]; exact pcs_ne _ _ _ _) (by rw [hpp, pcs_len]; unfold sizeLine; omega) p P
    have specf : Fn pg w g₀ (n + 5) P 177 [.str x, .str y] p (.list ((spots x y).map natV)) p := f_find G (n := n + 1) (by omega) (by omega) (by omega) p P
    refine ws_letf (v := .list ((splitF x y).map .str)) (pe_call (gl_split G) hfs (pes_cons (pe_name hw) (pes_cons (pe_name hx) pes_nil)) spec) (.inl rfl) ?_
    have hj : JoinOk x (splitF x y) = true := joinOk (m := 64) (k := 8) hFe (by omega) hFl (by decide)
    have hjl := join_len (sep := x) (m := 64) (by omega) hFe
    refine ws_lets (v := .str (Txt.join x (splitF x y))) (pe_meth (pe_name hx) (pes_cons (pe_name rfl) pes_nil) self_str PySem.F.plainAttrs_str PySem.F.slot_str_join PySem.F.type_str_join (bi_join hj)) (.inl rfl) ?_
    have hin : ([Txt.join x (splitF x y), Txt.join x (splitF x y) ++ x] : List Str).contains y = true := by
      rw [List.contains_iff_mem]
      rcases law.back with e | e
      · rw [← e]; exact .head _
      · rw [← e]; exact .tail _ (.head _)
    have hno : (splitF x y).filter (fun z => Txt.contains z x) = [] := List.filter_eq_nil_iff.mpr fun z hz => by rw [law.none z hz]; decide
    refine ws_if (b := (!([Txt.join x (splitF x y), Txt.join x (splitF x y) ++ x] : List Str).contains y) || (!(((splitF x y).filter fun z => Txt.contains z x).map V.str).isEmpty || false)) (pt_or' (pt_notin_tuple (pe_name hw) (pes_cons (pe_name rfl) (pes_cons (pe_bin (pe_name rfl) (pe_name hx) (bin_cat (by rw [add_len]; unfold sizeLine; omega))) pes_nil)) (by show (2 : Nat) ≤ sizeLine; decide))
      (pt_or' (pt_cmp (pe_comp (scope_ok (by kernel_rfl)) (pi_list (pe_name rfl)) (by rw [List.length_map]; unfold sizeLine; omega) fun cl hcl => compr_filter' (rs := splitF x y) (h := V.str) (k := V.str) (b := fun z => Txt.contains z x) (fun z hz C => pts_one (pt_cmp (pe_name hx) (pe_name rfl) cmp_in_str.cmp)) fun z hz _ C => pe_name rfl) (pe_list pes_nil (by decide)) cmp_ne_nil) pt_or_nil)) (fun hb => ?_) fun _ => ws_nil ?_
    · rw [hin, hno] at hb; cases hb
    refine ws_lets (v := .bool (wholeEnd x y)) (pe_or (b := y == (("" : String) : Str)) (p₁ := p) (pe_cmp (pe_name hw) pe_str cmp_eq_str.cmp) (fun hb => ?_) fun hb => ⟨by unfold wholeEnd; rw [hb]; rfl, rfl⟩) (.inl rfl) ?_
    · rw [show wholeEnd x y = (Txt.endswith y x && ((((spots x y).getLastD 0 : Nat) : Int) + (x.length : Int) == (y.length : Int))) by unfold wholeEnd; rw [hb]; rfl]
      refine pe_bo1 (pe_and (b := Txt.endswith y x) (p₁ := p) (pe_meth (pe_name hw) (pes_cons (pe_name hx) pes_nil) self_str PySem.F.plainAttrs_str PySem.F.slot_str_endswith PySem.F.type_str_endswith bi_ends) (fun hb => ?_) fun hb => ⟨by rw [hb]; rfl, rfl⟩)
      have hs := law.found hb
      have hsl0 := List.length_pos_iff.mpr hs
      rw [hb, Bool.true_and]
      exact pe_bo1 (pe_cmp (pe_bin (pe_item slot_list_getitem.lookup (pe_call (gl_find G) hff (pes_cons (pe_name hx) (pes_cons (pe_name hw) pes_nil)) specf) (pe_un pe_int un_neg) (itm_list_neg (by decide) (by rw [List.length_map]; omega) (by decide) (last_get hs))) (pe_bi (g_len G) (pes_cons (pe_name hx) pes_nil) (bi_len_str sx)) bin_add) (pe_bi (g_len G) (pes_cons (pe_name hw) pes_nil) (bi_len_str sy)) cmp_eq_int.cmp)
    have hlen := law.len
    refine ws_if (b := (((((splitF x y).map V.str).length : Nat) : Int) != ((((spots x y).map natV).length : Nat) : Int) + (if wholeEnd x y then 0 else 1))) (pt_cmp (pe_bi (g_len G) (pes_cons (pe_name rfl) pes_nil) (bi_len_list (by rw [List.length_map]; unfold sizeLine; omega)))
      (pe_bin (pe_bi (g_len G) (pes_cons (pe_call (gl_find G) hff (pes_cons (pe_name hx) (pes_cons (pe_name hw) pes_nil)) specf) pes_nil) (bi_len_list (by rw [List.length_map]; unfold sizeLine; omega))) (pe_if (c := wholeEnd x y) (p₁ := p) (pt_plain (pe_name rfl) truth_bool) (fun hb => by rw [if_pos hb]; exact pe_int) fun hb => by rw [if_neg (by rw [hb]; decide)]; exact pe_int) bin_add) cmp_ne_int.cmp) (fun hb => ?_) fun _ => ws_nil (ws_nil (h _ hr hw hx))
    rw [List.length_map, List.length_map, hlen, bne_iff_ne] at hb
    refine absurd ?_ hb
    show _ = _ + (if wholeEnd x y = true then 0 else 1 : Int)
    unfold wholeEnd
    split <;> omega
  · have e0 : x = (("" : String) : Str) := by
      rw [bne_eq_false_iff_eq] at he; exact he
    have spec : Fn pg w g₀ (n + 5) P 67 [.str y, .str ("" : String)] p (.list (signs y)) p := f_split_all G (n := n + 2) (by omega) p P
    refine ws_if (b := false) (pt_cmp (pe_call (gl_split G) hfs (pes_cons (pe_name hw) (pes_cons pe_str pes_nil)) spec) (pe_comp (out := signs y) (scope_ok (by kernel_rfl)) (pi_str (pe_name hw)) (by unfold signs; rw [List.length_map]; exact sy) fun cl hcl => compr_map' (rs := y.cps.toList) (h := fun c => V.str ⟨#[c]⟩) (k := fun c => V.str ⟨#[c]⟩) (fun z hz C => pts_nil) fun z hz C => pe_name rfl) (cmp_ne_refl fun v hv => by
      obtain ⟨c, _, rfl⟩ := List.mem_map.mp hv; rfl)) (fun hb => nomatch hb) fun _ => ws_nil (ws_nil (h _ hr hw hx))
end
end Mine
end

section
open PySem PySem.W PyProof.Rows PySem.Calls Builtin.Str
set_option autoImplicit false
set_option Elab.async false
set_option linter.all false
set_option maxRecDepth 100000
namespace Mine
theorem ints_nat (k : Nat) : intsFrom 0 k = (List.range k).map natV := by
  unfold intsFrom
  exact List.map_congr_left fun i _ => by show V.int (0 + (i : Int)) = V.int i; rw [Int.zero_add]
theorem inside_lt {n : Nat} {a b : Int} {i : Nat} (h : i ∈ insideL n a b) : i < n := List.mem_range.mp (List.mem_filter.mp h).1
theorem inside_le (n : Nat) (a b : Int) : (insideL n a b).length ≤ n := by
  have := List.length_filter_le (fun i : Nat => decide (a ≤ (i : Int) + 1) && decide ((i : Int) + 1 ≤ b)) (List.range n)
  rwa [List.length_range] at this
noncomputable def sg (l : List Nat) : List V := (l.map lt1).map V.str
theorem signs_sg (x : Str) : signs x = sg (ls x) := by unfold signs sg; rw [List.map_map]; rfl
theorem sg_sc (l : List Nat) : ∀ v ∈ sg l, v.scalar = true := strsSc _
theorem sg_set (l : List Nat) (i c : Nat) : (sg l).set i (V.str (lt1 c)) = sg (l.set i c) := by
  unfold sg; rw [← List.map_set, ← List.map_set]
theorem sg_len (l : List Nat) : (sg l).length = l.length := by unfold sg; rw [List.length_map, List.length_map]
theorem one_join {ts : List Str} (h : ∀ x ∈ ts, x.length ≤ 1) (hl : ts.length ≤ 8) : JoinOk ("" : String) ts = true := joinOk (m := 1) (k := 8) h (by decide) hl (by decide)
theorem lt1_one (l : List Nat) : ∀ x ∈ l.map lt1, x.length ≤ 1 := fun x hx => by obtain ⟨c, _, rfl⟩ := List.mem_map.mp hx; exact Nat.le_refl _
noncomputable abbrev markOf (p : List Int) : Int := (nxt p).fmod 9 - 1
theorem mark_in (p : List Int) : -1 ≤ markOf p ∧ markOf p < 8 := by
  have := fm (nxt p) (b := 9) (by decide)
  unfold markOf; omega
section
variable {w : World} {mg mb : Str → Option Value} {g₀ : Heap} (G : Gr w mg mb g₀)
include G
/-- first, last, inside, new -/
theorem law_7 {n : Nat} {P : Option Addr} {p : List Int} {ρ : Str → Option V} {L : Addr} {Q : Fl → (Str → Option V) → Own → List Int → Prop} {x y : Str} (hp : p.length ≤ 160) (oky : WOk y) (hr : ρ "row" = some .pool) (hw : ρ "words" = some (.str y)) (hx : ρ "part_x" = some (.str x))
    (h : ∀ ρ', ρ' "row" = some .pool → ρ' "words" = some (.str y) → ρ' "part_x" = some (.str x) → ρ' "first" = some (.int (markOf p)) → ρ' "last" = some (.int (markOf (rst p))) → ρ' "inside" = some (.list ((insideL y.length (markOf p) (markOf (rst p))).map natV)) → ρ' "new" = some (.str (wordS (rst (rst p))).1) →
      WS pg w g₀ (n + 5) (envL w L) P ρ' [] (wordS (rst (rst p))).2 ((bdA w).drop 13) Q) :
    WS pg w g₀ (n + 5) (envL w L) P ρ [] p ((bdA w).drop 9) Q := by
  obtain ⟨fo, hfo⟩ := (d_next G).at_
  obtain ⟨fw, hfw⟩ := (d_word G).at_
  have h1 := Nat.le_trans (rst_len p) hp
  have h2 := Nat.le_trans (rst_len (rst p)) h1
  have ly := oky.len
  refine ws_lets (v := .int (markOf p)) (pe_bin (pe_bin (pe_call (gl_next G) hfo (pes_cons (pe_name hr) pes_nil) (f_next G (by omega))) pe_int (bin_mod (by decide))) pe_int bin_sub) (.inr ⟨rfl, _, rfl⟩) ?_
  refine ws_lets (v := .int (markOf (rst p))) (pe_bin (pe_bin (pe_call (gl_next G) hfo (pes_cons (pe_name hr) pes_nil) (f_next G (by omega))) pe_int (bin_mod (by decide))) pe_int bin_sub) (.inr ⟨rfl, _, rfl⟩) ?_
  refine ws_letc (y := "inside") (p₁ := rst (rst p)) (p' := rst (rst p)) (out := (insideL y.length (markOf p) (markOf (rst p))).map natV) (items := intsFrom 0 y.length) (scope_ok (by kernel_rfl)) (pi_range (g_range G) (pes_cons (pe_bi (g_len G) (pes_cons (pe_name hw) pes_nil) (bi_len_str (ok_size oky))) pes_nil) (.inl ⟨rfl, rfl⟩) (by split <;> omega) (by omega))
    (by rw [intsFrom_len]; unfold sizeLine; omega) (fun cl hcl => ?_) (.inl rfl) ?_
  · rw [ints_nat]
    exact compr_filter' (rs := List.range y.length) (h := natV) (k := natV) (b := fun i => decide (markOf p ≤ (i : Int) + 1) && decide ((i : Int) + 1 ≤ markOf (rst p))) (fun i hi C => pts_one (pt_cmp2 (pe_name rfl) (pe_bin (pe_name rfl) pe_int bin_add) (pe_name rfl) cmp_le_int cmp_le_int)) fun i hi _ C => PE.sc (fr' := false) (pe_name rfl)
  · exact ws_lets (v := .str (wordS (rst (rst p))).1) (pe_call (gl_word G) hfw (pes_cons (pe_name hr) (pes_cons pe_bool pes_nil)) (f_wordS G (by omega))) (.inr ⟨rfl, _, rfl⟩) (h _ hr hw hx rfl rfl rfl rfl)

/-- parts by places -/
theorem law_8 {n : Nat} {P : Option Addr} {p : List Int} {ρ : Str → Option V} {L : Addr} {Q : Fl → (Str → Option V) → Own → List Int → Prop} {x y v : Str} {a b : Int} (oky : WOk y) (okv : WOk v) (ha : -1 ≤ a ∧ a < 8) (hb : -1 ≤ b ∧ b < 8) (hr : ρ "row" = some .pool) (hw : ρ "words" = some (.str y)) (hx : ρ "part_x" = some (.str x))
    (hf : ρ "first" = some (.int a)) (hl : ρ "last" = some (.int b)) (hi : ρ "inside" = some (.list ((insideL y.length a b).map natV))) (hv : ρ "new" = some (.str v))
    (h : ∀ ρ', ρ' "row" = some .pool → ρ' "words" = some (.str y) → ρ' "part_x" = some (.str x) → ρ' "new" = some (.str v) → WS pg w g₀ (n + 5) (envL w L) P ρ' [] p ((bdA w).drop 17) Q) :
    WS pg w g₀ (n + 5) (envL w L) P ρ [] p ((bdA w).drop 13) Q := by
  obtain ⟨f1, hf1⟩ := (d_subof G).at_
  obtain ⟨f2, hf2⟩ := (d_subset G).at_
  have ly := oky.len
  have lv := okv.len
  have hil := inside_le y.length a b
  have law := substr_law ly ha hb
  have spec : Fn pg w g₀ (n + 5) P 74 [.str y, .int a, .int b] p (.str (substrOf y a b)) p := f_subof G (n := n + 2) (by omega) p P
  have spec2 : Fn pg w g₀ (n + 5) P 81 [.str y, .int a, .int b, .str v] p (.str (substrSet y a b v)) p := f_subset G (n := n + 2) (by omega) (by omega) p P
  refine ws_if (b := substrOf y a b != Txt.join ("" : String) ((insideL y.length a b).map fun i => lt1 (ch y i))) (pt_cmp (pe_call (gl_subof G) hf1 (pes_cons (pe_name hw) (pes_cons (pe_name hf) (pes_cons (pe_name hl) pes_nil))) spec)
    (pe_meth pe_str (pes_cons (?hc : PE pg w g₀ _ _ P _ p _ false (.list (((insideL y.length a b).map fun i => lt1 (ch y i)).map V.str)) p) pes_nil) self_str PySem.F.plainAttrs_str PySem.F.slot_str_join PySem.F.type_str_join (bi_join (one_join (fun z hz => by obtain ⟨i, _, rfl⟩ := List.mem_map.mp hz; exact Nat.le_refl _) (by rw [List.length_map]; omega)))) cmp_ne_str.cmp) (fun hb => ?_) fun _ => ws_nil ?_
  case hc =>
    rw [List.map_map]
    exact pe_comp (scope_ok (by kernel_rfl)) (pi_list (pe_name hi)) (by rw [List.length_map]; unfold sizeLine; omega) fun cl hcl => compr_map' (rs := insideL y.length a b) (h := natV) (k := fun i => V.str (lt1 (ch y i))) (fun i _ C => pts_nil) fun i hi C => pe_item slot_str_getitem.lookup (pe_name hw) (pe_name rfl) (itm_str (by omega) (by have := inside_lt hi; omega) (ch_get (inside_lt hi)))
  · rw [law] at hb; simp at hb
  refine ws_ownc (y := "letters") (out := sg (ls y)) (p' := p) (scope_ok (by kernel_rfl)) (pi_str (pe_name hw)) (by unfold signs; rw [List.length_map]; exact ok_size oky) (fun cl hcl => ?_) (.inl rfl) (sg_sc _) fun o => ?_
  · rw [← signs_sg]
    exact compr_map' (rs := y.cps.toList) (h := fun c => V.str ⟨#[c]⟩) (k := fun c => V.str ⟨#[c]⟩) (fun z hz C => pts_nil) fun z hz C => PE.sc (fr' := false) (pe_name rfl)
  have hII := inside_law ly ha hb
  refine ws_zip (xs := (insideL y.length a b).map natV) (z := v) (g_zip G) (pe_name hi) (pe_name hv) (natsSc _) (.inr ⟨rfl, _, rfl⟩) (.inl rfl)
    (fun i ρ' own' q => ρ' "row" = some .pool ∧ ρ' "words" = some (.str y) ∧ ρ' "part_x" = some (.str x) ∧ ρ' "new" = some (.str v) ∧ ρ' "first" = some (.int a) ∧ ρ' "last" = some (.int b) ∧ own' = ([(("letters" : Str), o, Ow.list (sg (putL (ls y) (ls v) (loOf a) i)))] : Own) ∧ q = p)
    ⟨hr, hw, hx, hv, hf, hl, by rw [put_zero]; rfl, rfl⟩ (fun i u c ρ' own' q hu hc hI => ?_) fun ρ' own' q hI => ?_
  · obtain ⟨k1, k2, k3, k4, k5, k6, rfl, rfl⟩ := hI
    have hlen : i < hiOf y.length b - loOf a := by
      have := (List.getElem?_eq_some_iff.mp hu).1
      rw [List.length_map, hII, List.length_range'] at this; exact this
    have hu' : u = natV (loOf a + i) := by
      rw [List.getElem?_map, hII, List.getElem?_range' hlen] at hu
      simp at hu; exact hu.symm
    subst hu'
    have hyi : loOf a + i < y.length := by unfold hiOf at hlen; omega
    have hvi : i < v.length := by
      have := (Array.getElem?_eq_some_iff.mp hc).1; exact this
    have hpl : (putL (ls y) (ls v) (loOf a) i).length = y.length := by rw [put_len (by rw [ls_len]; omega) (by rw [ls_len]; omega), ls_len]
    have hcv : (ls v)[i]? = some c := by rw [← hc]; simp [ls]
    refine ws_setl (xs := sg (putL (ls y) (ls v) (loOf a) i)) (k := ((loOf a + i : Nat) : Int)) (v := .str (lt1 c)) (.head _) (pe_name rfl) (pe_name rfl) (by omega) (by rw [sg_len, hpl]; omega) (by rw [sg_len, hpl]; exact ok_size oky) (ws_nil ⟨k1, k2, k3, k4, k5, k6, ?_, rfl⟩)
    rw [Int.toNat_natCast, sg_set, put_step (by rw [ls_len]; exact hyi) hcv]
    rfl
  · obtain ⟨k1, k2, k3, k4, k5, k6, rfl, rfl⟩ := hI
    rw [List.length_map]
    have law2 := subset_law (v := v) ly lv ha hb
    have hm : min (insideL y.length a b).length v.length ≤ v.length := Nat.min_le_right _ _
    have hpl : (putL (ls y) (ls v) (loOf a) (min (insideL y.length a b).length v.length)).length ≤ 8 := by
      by_cases z : loOf a ≤ y.length
      · rw [put_len (by rw [ls_len, hII, List.length_range']; unfold hiOf; omega) (by rw [ls_len]; exact hm), ls_len]; omega
      · rw [show min (insideL y.length a b).length v.length = 0 by rw [hII, List.length_range']; unfold hiOf; omega, put_zero, ls_len]; omega
    refine ws_if (b := substrSet y a b v != Txt.join ("" : String) ((putL (ls y) (ls v) (loOf a) (min (insideL y.length a b).length v.length)).map lt1)) (pt_cmp (pe_call (gl_subset G) hf2 (pes_cons (pe_name k2) (pes_cons (pe_name k5) (pes_cons (pe_name k6) (pes_cons (pe_name k4) pes_nil)))) spec2)
      (pe_meth pe_str (pes_cons (pe_name rfl) pes_nil) self_str PySem.F.plainAttrs_str PySem.F.slot_str_join PySem.F.type_str_join (bi_join (one_join (lt1_one _) (by rw [List.length_map]; exact hpl)))) cmp_ne_str.cmp) (fun hb => ?_) fun _ => ws_nil (ws_forget "letters" (h _ k1 k2 k3 k4))
    rw [law2, join_lt1] at hb; simp at hb

/-- heads, tails, blanks -/
theorem law_9 {n : Nat} {P : Option Addr} {p : List Int} {ρ : Str → Option V} {L : Addr} {Q : Fl → (Str → Option V) → Own → List Int → Prop} {x y : Str} (okx : WOk x) (oky : WOk y) (hw : ρ "words" = some (.str y)) (hx : ρ "part_x" = some (.str x)) (h : Q .next ρ [] p) :
    WS pg w g₀ (n + 5) (envL w L) P ρ [] p ((bdA w).drop 17) Q := by
  obtain ⟨f1, hf1⟩ := (d_starts G).at_
  obtain ⟨f2, hf2⟩ := (d_ends G).at_
  obtain ⟨f3, hf3⟩ := (d_trim G).at_
  have ly := oky.len
  have lx := okx.len
  have sy := ok_size oky
  have s1 : Fn pg w g₀ (n + 5) P 95 [.str y, .str x] p (.int (if pre y x then 1 else 0)) p := f_starts G (n := n + 2) (by omega) (by omega) p P
  have s2 : Fn pg w g₀ (n + 5) P 102 [.str y, .str x] p (.int (if suf y x then 1 else 0)) p := f_ends G (n := n + 2) (by omega) (by omega) p P
  have s3 : ∀ k, Fn pg w g₀ (n + 5) P 88 [.str y, .str k] p (.str (trimmed y k)) p := fun k => f_trim G (n := n + 2) (by omega) p P
  refine ws_if (b := ((if pre y x then 1 else 0 : Int) != (if Txt.startswith y x then 1 else 0 : Int)) || (((if suf y x then 1 else 0 : Int) != (if Txt.endswith y x then 1 else 0 : Int)) || false))
    (pt_or' (pt_cmp (pe_call (gl_starts G) hf1 (pes_cons (pe_name hw) (pes_cons (pe_name hx) pes_nil)) s1) (pe_if (c := Txt.startswith y x) (p₁ := p) (pt_plain (pe_meth (pe_name hw) (pes_cons (pe_name hx) pes_nil) self_str PySem.F.plainAttrs_str PySem.F.slot_str_startswith PySem.F.type_str_startswith bi_starts) truth_bool) (fun hb => by rw [if_pos hb]; exact pe_int) fun hb => by rw [if_neg (by rw [hb]; decide)]; exact pe_int) cmp_ne_int.cmp)
      (pt_or' (pt_cmp (pe_call (gl_ends G) hf2 (pes_cons (pe_name hw) (pes_cons (pe_name hx) pes_nil)) s2) (pe_if (c := Txt.endswith y x) (p₁ := p) (pt_plain (pe_meth (pe_name hw) (pes_cons (pe_name hx) pes_nil) self_str PySem.F.plainAttrs_str PySem.F.slot_str_endswith PySem.F.type_str_endswith bi_ends) truth_bool) (fun hb => by rw [if_pos hb]; exact pe_int) fun hb => by rw [if_neg (by rw [hb]; decide)]; exact pe_int) cmp_ne_int.cmp) pt_or_nil)) (fun hb => ?_) fun _ => ws_nil ?_
  · rw [pre_law, suf_law] at hb; simp at hb
  refine ws_if (b := (trimmed y ("both" : String) != Txt.stripChars y (" " : String)) || ((trimmed y ("left" : String) != Txt.lstripChars y (" " : String)) || ((trimmed y ("right" : String) != Txt.rstripChars y (" " : String)) || false)))
    (pt_or' (pt_cmp (pe_call (gl_trim G) hf3 (pes_cons (pe_name hw) (pes_cons pe_str pes_nil)) (s3 _)) (pe_meth (pe_name hw) (pes_cons pe_str pes_nil) self_str PySem.F.plainAttrs_str PySem.F.slot_str_strip PySem.F.type_str_strip (bi_strip sy)) cmp_ne_str.cmp)
      (pt_or' (pt_cmp (pe_call (gl_trim G) hf3 (pes_cons (pe_name hw) (pes_cons pe_str pes_nil)) (s3 _)) (pe_meth (pe_name hw) (pes_cons pe_str pes_nil) self_str PySem.F.plainAttrs_str PySem.F.slot_str_lstrip PySem.F.type_str_lstrip (bi_lstrip sy)) cmp_ne_str.cmp)
        (pt_or' (pt_cmp (pe_call (gl_trim G) hf3 (pes_cons (pe_name hw) (pes_cons pe_str pes_nil)) (s3 _)) (pe_meth (pe_name hw) (pes_cons pe_str pes_nil) self_str PySem.F.plainAttrs_str PySem.F.slot_str_rstrip PySem.F.type_str_rstrip (bi_rstrip sy)) cmp_ne_str.cmp) pt_or_nil))) (fun hb => ?_) fun _ => ws_nil (ws_nil h)
  rw [trim_both oky, trim_left oky, trim_right oky] at hb; simp at hb
end
end Mine
end

section
open PySem PySem.W PyProof.Rows PySem.Calls Builtin.Str
set_option autoImplicit false
set_option Elab.async false
set_option linter.all false
set_option maxRecDepth 100000
namespace Mine
/-! letters exchanged -/
noncomputable def exch (old target : Str) (c : Nat) : Str := if Txt.contains old (lt1 c) then (match occurrences old (lt1 c) 0 old.length 1 with | i :: _ => lt1 (ch target i) | [] => ("" : String)) else lt1 c
noncomputable def abc : Str := ("ab," : String)
noncomputable def goodEx (t : Str) (c : Nat) : Bool := (turn1 (spread abc) (spread t) (lt1 c) == exch abc t c) && (!Txt.contains abc (lt1 c) || (match occurrences abc (lt1 c) 0 abc.length 1 with | i :: _ => decide (i < 3) | [] => false))
theorem ex1 : ∀ c, c < 123 → goodEx ("xyz" : String) c = true := by decide +kernel
theorem ex2 : ∀ c, c < 123 → goodEx ("b,a" : String) c = true := by decide +kernel
theorem ex3 : ∀ c, c < 123 → goodEx ("aaab" : String) c = true := by decide +kernel
noncomputable def upAC (c : Nat) : Str := if Txt.contains ("abc" : String) (lt1 c) then lt1 (c - 32) else lt1 c
theorem ex4 : ∀ c, c < 123 → turn1 (spread ("a-c" : String)) (spread ("A-C" : String)) (lt1 c) = upAC c := by decide +kernel
theorem plain7_of {y : Str} (h : y.length ≤ 4) (h2 : ∀ i, i < 4 → ch y i < 128) (h3 : ∀ i, i < 2 → i + 2 < y.length → ch y (i + 1) = 45 → ch y i ≤ ch y (i + 2)) : Plain7 y := by
  refine ⟨by omega, fun i => ?_, fun i hi => h3 i (by omega) hi⟩
  by_cases q : i < 4
  · exact h2 i q
  · unfold ch
    rw [Array.getD_eq_getD_getElem?, Array.getElem?_eq_none (by have : y.cps.size ≤ 4 := h; omega)]
    decide
noncomputable def tgt (i : Nat) : Str := [(("xyz" : String) : Str), ("b,a" : String), ("aaab" : String), ("-" : String)].getD i ("" : String)
theorem tgt_plain : ∀ i, i < 4 → Plain7 (tgt i)
  | 0, _ => plain7_of (by decide) (by decide +kernel) (by decide +kernel)
  | 1, _ => plain7_of (by decide) (by decide +kernel) (by decide +kernel)
  | 2, _ => plain7_of (by decide) (by decide +kernel) (by decide +kernel)
  | 3, _ => plain7_of (by decide) (by decide +kernel) (by decide +kernel)
theorem abc_plain : Plain7 abc := plain7_of (by decide) (by decide +kernel) (by decide +kernel)
theorem ac_plain : Plain7 ("a-c" : String) := plain7_of (by decide) (by decide +kernel) (by decide +kernel)
theorem AC_plain : Plain7 ("A-C" : String) := plain7_of (by decide) (by decide +kernel) (by decide +kernel)
theorem ac_le : (spread ("a-c" : String)).length ≤ (spread ("A-C" : String)).length := by decide +kernel
theorem tgt_le : ∀ i, i < 3 → (spread abc).length ≤ (spread (tgt i)).length := by decide +kernel
theorem tgt_gt : (spread (tgt 3)).length < (spread abc).length := by decide +kernel
theorem tgt_len : ∀ i, i < 4 → (decide (((tgt i).length : Int) < 3) = decide (i = 3)) := by decide +kernel
theorem tgt_ex : ∀ i, i < 3 → ∀ c, c < 123 → goodEx (tgt i) c = true
  | 0, _ => ex1
  | 1, _ => ex2
  | 2, _ => ex3
theorem chartr_law {x : Str} (h : WOk x) {i : Nat} (hi : i < 3) : chartr abc (tgt i) x = Txt.join ("" : String) (x.cps.toList.map (exch abc (tgt i))) := by
  unfold chartr
  congr 1
  refine List.map_congr_left fun c hc => ?_
  have := tgt_ex i hi c (by have := (h.ok c hc).2; omega)
  unfold goodEx at this
  rw [Bool.and_eq_true, beq_iff_eq] at this
  exact this.1
theorem chartr_at {x : Str} (h : WOk x) {i : Nat} (hi : i < 3) {c : Nat} (hc : c ∈ ls x) (hb : Txt.contains abc (lt1 c) = true) : ∃ j r, occurrences abc (lt1 c) 0 abc.length 1 = j :: r ∧ j < 3 ∧ exch abc (tgt i) c = lt1 (ch (tgt i) j) := by
  have := tgt_ex i hi c (by have := (h.ok c hc).2; omega)
  unfold goodEx at this
  rw [Bool.and_eq_true, hb] at this
  have h2 := this.2
  unfold exch
  rw [if_pos hb]
  cases e : occurrences abc (lt1 c) 0 abc.length 1 with
  | nil => rw [e] at h2; cases h2
  | cons j r =>
    rw [e] at h2
    exact ⟨j, r, rfl, by simpa using h2, rfl⟩
theorem chartr_AC {x : Str} (h : WOk x) : chartr ("a-c" : String) ("A-C" : String) x = Txt.join ("" : String) (x.cps.toList.map upAC) := by
  unfold chartr
  congr 1
  exact List.map_congr_left fun c hc => ex4 c (by have := (h.ok c hc).2; omega)
theorem exch_len {i c : Nat} (old : Str) : (exch old (tgt i) c).length ≤ 1 := by
  unfold exch
  split
  · split
    · exact Nat.le_refl _
    · decide
  · exact Nat.le_refl _
theorem upAC_len (c : Nat) : (upAC c).length ≤ 1 := by unfold upAC; split <;> exact Nat.le_refl _

/-! turned and repeated -/
theorem rev_law (x : Str) : rev x = Txt.join ("" : String) ((ls x).reverse.map lt1) := by
  rw [join_lt1]
  refine ls_ext ?_
  show x.cps.reverse.toList = (ls x).reverse
  simp [ls]
theorem rep_nil : ∀ m : Nat, (List.replicate m ([] : List Nat)).flatten = []
  | 0 => rfl
  | m + 1 => by rw [List.replicate_succ, List.flatten_cons, rep_nil m]; rfl
theorem mul_law (x : Str) {k : Int} (h : 0 ≤ k) : Txt.mul x k = Txt.join ("" : String) (List.replicate k.toNat x) := by
  refine ls_ext ?_
  rw [ls_cat, List.map_replicate]
  unfold Txt.mul
  by_cases h0 : k < 1
  · rw [if_pos h0, show k.toNat = 0 by omega]; rfl
  · rw [if_neg h0]
    by_cases h1 : (k == 1 || x.length == 0) = true
    · rw [if_pos h1]
      rw [Bool.or_eq_true, beq_iff_eq, beq_iff_eq] at h1
      rcases h1 with h1 | h1
      · subst h1; simp
      · have : ls x = [] := List.length_eq_zero_iff.mp (by rw [ls_len]; exact h1)
        rw [this]
        exact (rep_nil _).symm
    · rw [if_neg h1]
      generalize k.toNat = m
      show (List.foldl (· ++ ·) #[] (List.replicate m x.cps)).toList = _
      have : ∀ (m : Nat) (a : Array Nat), (List.foldl (· ++ ·) a (List.replicate m x.cps)).toList = a.toList ++ (List.replicate m (ls x)).flatten := by
        intro m
        induction m with
        | zero => intro a; simp
        | succ m ih => intro a; rw [List.replicate_succ, List.foldl_cons, ih, List.replicate_succ, List.flatten_cons]; simp [ls]
      rw [this]; rfl
theorem mul_ok {x : Str} (h : x.length ≤ 6) {k : Int} (h0 : 0 ≤ k) (h5 : k < 5) : MulOk x k := by
  have : k = 0 ∨ k = 1 ∨ k = 2 ∨ k = 3 ∨ k = 4 := by omega
  unfold MulOk
  refine ⟨?_, ?_, ?_⟩
  · rw [Bool.or_eq_false_iff, decide_eq_false_iff_not, decide_eq_false_iff_not]; omega
  · intro h1 h2
    rcases this with rfl | rfl | rfl | rfl | rfl <;> omega
  · intro _ _
    unfold tooLong sizeLine
    rw [decide_eq_false_iff_not]
    have h2 : x.length * k.toNat ≤ 6 * 4 := Nat.mul_le_mul h (by omega)
    omega

/-! the first or every place -/
theorem repl_sub (x new y : Str) : ∀ (l : List Nat) (a : Nat) (sh : Str), ls (replF x new y l a sh).1 ++ ls (sseg y (replF x new y l a sh).2 y.length) = ls sh ++ ((subP x new y l a).map ls).flatten
  | [], a, sh => by simp [replF, subP]
  | s :: r, a, sh => by
    rw [replF, repl_sub x new y r, subP, ls_add, ls_add]
    simp
theorem subbed_law (x new y : Str) (every : Bool) : subbed x new y every = replaced x new y every := by
  refine ls_ext ?_
  unfold subbed replaced
  rw [ls_cat, ls_add, repl_sub]
  rfl
end Mine
end

section
open PySem PySem.W PyProof.Rows PySem.Calls Builtin.Str
set_option autoImplicit false
set_option Elab.async false
set_option linter.all false
set_option maxRecDepth 100000
namespace Mine
noncomputable def bd20 (w : World) : List Stmt := ((bdL w).drop 20).take 1
noncomputable def bdB (w : World) : List Stmt := ((bdL w).drop 21).take 2
noncomputable def bd23 (w : World) : List Stmt := ((bdL w).drop 23).take 1
noncomputable def bdC (w : World) : List Stmt := (bdL w).drop 24
theorem tgt_get : ∀ i, i < 4 → ([V.str ("xyz" : String), V.str ("b,a" : String), V.str ("aaab" : String), V.str ("-" : String)] : List V)[i]? = some (V.str (tgt i))
  | 0, _ => rfl
  | 1, _ => rfl
  | 2, _ => rfl
  | 3, _ => rfl
noncomputable def tgIx (p : List Int) : Nat := ((nxt p).fmod 4).toNat
theorem tgIx_lt (p : List Int) : tgIx p < 4 := by
  have := fm (nxt p) (b := 4) (by decide)
  unfold tgIx; omega
section
variable {w : World} {mg mb : Str → Option Value} {g₀ : Heap} (G : Gr w mg mb g₀)
include G
/-- the first and every place -/
theorem law_10 {n : Nat} {P : Option Addr} {p : List Int} {ρ : Str → Option V} {L : Addr} {Q : Fl → (Str → Option V) → Own → List Int → Prop} {x y v : Str} (hx0 : 0 < x.length) (okx : WOk x) (oky : WOk y) (okv : WOk v) (hr : ρ "row" = some .pool) (hw : ρ "words" = some (.str y)) (hx : ρ "part_x" = some (.str x)) (hv : ρ "new" = some (.str v))
    (h : ∀ ρ', ρ' "row" = some .pool → ρ' "words" = some (.str y) → Q .next ρ' [] p) :
    WS pg w g₀ (n + 5) (envL w L) P ρ [] p (bd20 w) Q := by
  obtain ⟨f1, hf1⟩ := (d_sub G).at_
  obtain ⟨f2, hf2⟩ := (d_repl G).at_
  obtain ⟨f3, hf3⟩ := (d_ffix G).at_
  obtain ⟨f4, hf4⟩ := (d_find G).at_
  have ly := oky.len
  have lx := okx.len
  have lv := okv.len
  have hsl := spots_le x y
  have s1 : ∀ b, Fn pg w g₀ (n + 5) P 109 [.str x, .str v, .str y, .bool b] p (.str (subbed x v y b)) p := fun b => f_sub G (n := n + 2) hx0 (by omega) (by omega) (by omega) p P
  have s2 : ∀ b, Fn pg w g₀ (n + 5) P 184 [.str x, .str v, .str y, .bool b] p (.str (replaced x v y b)) p := fun b => f_repl G (n := n) (by omega) (by omega) (by omega) (by omega) b p P
  have s3 : Fn pg w g₀ (n + 5) P 116 [.str x, .str y] p (.list (((spots x y).map (· + 1)).map natV)) p := f_ffix G (n := n + 2) hx0 (by omega) (by omega) p P
  have s4 : Fn pg w g₀ (n + 5) P 177 [.str x, .str y] p (.list ((spots x y).map natV)) p := f_find G (n := n + 1) (by omega) (by omega) (by omega) p P
  refine ws_if (b := x == (("" : String) : Str)) (pt_cmp (pe_name hx) pe_str cmp_eq_str.cmp) (fun hb => ?_) fun _ => ?_
  · rw [eq_empty hx0] at hb; cases hb
  refine ws_for (items := [.bool false, .bool true]) (pi_list (pe_list (pes_cons pe_bool (pes_cons pe_bool pes_nil)) (by show (2 : Nat) ≤ sizeLine; decide))) (.inl rfl)
    (fun i ρ' own' q => ρ' "row" = some .pool ∧ ρ' "words" = some (.str y) ∧ ρ' "part_x" = some (.str x) ∧ ρ' "new" = some (.str v) ∧ own' = ([] : Own) ∧ q = p) ⟨hr, hw, hx, hv, rfl, rfl⟩ (fun i u ρ' own' q hi hI => ?_) fun ρ' own' q hI => ?_
  · obtain ⟨k1, k2, k3, k4, rfl, rfl⟩ := hI
    obtain ⟨b, rfl⟩ : ∃ b, u = .bool b := by
      have hm := List.mem_of_getElem? hi
      rcases List.mem_cons.mp hm with rfl | hm
      · exact ⟨_, rfl⟩
      · rw [List.mem_singleton] at hm; exact ⟨_, hm⟩
    refine ws_if (b := subbed x v y b != replaced x v y b) (pt_cmp (pe_call (gl_sub G) hf1 (pes_cons (pe_name k3) (pes_cons (pe_name k4) (pes_cons (pe_name k2) (pes_cons (pe_name rfl) pes_nil)))) (s1 b))
      (pe_call (gl_repl G) hf2 (pes_cons (pe_name k3) (pes_cons (pe_name k4) (pes_cons (pe_name k2) (pes_cons (pe_name rfl) pes_nil)))) (s2 b)) cmp_ne_str.cmp) (fun hb => ?_) fun _ => ws_nil (ws_nil ⟨k1, k2, k3, k4, rfl, rfl⟩)
    rw [subbed_law] at hb; simp at hb
  · obtain ⟨k1, k2, k3, k4, rfl, rfl⟩ := hI
    refine ws_if (b := false) (p₁ := q) (pt_cmp (pe_call (gl_ffix G) hf3 (pes_cons (pe_name k3) (pes_cons (pe_name k2) pes_nil)) s3) (pe_comp (out := ((spots x y).map (· + 1)).map natV) (scope_ok (by kernel_rfl)) (pi_list (pe_call (gl_find G) hf4 (pes_cons (pe_name k3) (pes_cons (pe_name k2) pes_nil)) s4)) (by rw [List.length_map]; unfold sizeLine; omega) fun cl hcl => ?_) (cmp_ne_refl (natsSc _))) (fun hb => nomatch hb) fun _ => ws_nil ?_
    · rw [show ((spots x y).map (· + 1)).map natV = (spots x y).map fun i => natV (i + 1) from List.map_map ..]
      exact compr_map' (rs := spots x y) (h := natV) (k := fun i => natV (i + 1)) (fun i _ C => pts_nil) fun i _ C => pe_bin (pe_name rfl) pe_int bin_add
    refine ws_if (b := Txt.contains y x && false) (pt_and (b := Txt.contains y x) (c := false) (pt_cmp (pe_name k3) (pe_name k2) cmp_in_str.cmp) (fun hb => ?_) fun _ => ⟨rfl, rfl⟩) (fun hb => ?_) fun _ => ws_nil (ws_nil (ws_nil (h _ k1 k2)))
    · have hc : spots x y ≠ [] := by
        rw [contains_spots hx0] at hb
        intro e; rw [e] at hb; cases hb
      have s5 : Fn pg w g₀ (n + 5) P 109 [.str x, .none, .str y, .bool true] q .none q := f_sub_none G (n := n + 2) hx0 hc q P
      exact pt_and' (b := false) (c := true) (pt_cmp (pe_call (gl_sub G) hf1 (pes_cons (pe_name k3) (pes_cons pe_none (pes_cons (pe_name k2) (pes_cons pe_bool pes_nil)))) s5) pe_none (cmp_isnot_none rfl)) pt_and_nil
    · rw [Bool.and_false] at hb; cases hb

/-- old, target -/
theorem law_11 {n : Nat} {P : Option Addr} {p : List Int} {ρ : Str → Option V} {L : Addr} {Q : Fl → (Str → Option V) → Own → List Int → Prop} {y : Str} (hp : p.length ≤ 160) (hr : ρ "row" = some .pool) (hw : ρ "words" = some (.str y))
    (h : ∀ ρ', ρ' "row" = some .pool → ρ' "words" = some (.str y) → ρ' "old" = some (.str abc) → ρ' "target" = some (.str (tgt (tgIx p))) → Q .next ρ' [] (rst p)) :
    WS pg w g₀ (n + 5) (envL w L) P ρ [] p (bdB w) Q := by
  obtain ⟨fo, hfo⟩ := (d_next G).at_
  have h4 := fm (nxt p) (b := 4) (by decide)
  refine ws_lets (v := .str abc) pe_str (.inr ⟨rfl, _, rfl⟩) ?_
  refine ws_lets (v := .str (tgt (tgIx p))) (pe_item slot_list_getitem.lookup (pe_list (pes_cons pe_str (pes_cons pe_str (pes_cons pe_str (pes_cons pe_str pes_nil)))) (by show (4 : Nat) ≤ sizeLine; decide)) (pe_bin (pe_call (gl_next G) hfo (pes_cons (pe_name hr) pes_nil) (f_next G (by omega))) pe_int (bin_mod (by decide))) (itm_list h4.1 (by omega) (tgt_get _ (tgIx_lt p)))) (.inr ⟨rfl, _, rfl⟩) (ws_nil (h _ hr hw rfl rfl))
end
end Mine
end

section
open PySem PySem.W PyProof.Rows PySem.Calls Builtin.Str
set_option autoImplicit false
set_option Elab.async false
set_option linter.all false
set_option maxRecDepth 100000
namespace Mine
noncomputable def toldOf (p : List Int) (y : Str) : Str := if tgIx p = 3 then ("'old' is longer than 'new'" : String) else chartr abc (tgt (tgIx p)) y
theorem rev_ix : ∀ n, n < 9 → sliceRange (sliceBounds none none (some (-1)) n).1 (sliceBounds none none (some (-1)) n).2.1 (sliceBounds none none (some (-1)) n).2.2 = (List.range n).reverse := by decide +kernel
theorem pick_rev {xs : List V} (h : xs.length ≤ 8) : pick xs none none (some (-1)) = xs.reverse := by
  unfold pick
  rw [rev_ix _ (by omega), List.filterMap_reverse]
  have := filterMap_range xs.toArray
  simp at this
  rw [this]
theorem repL_strs (y : Str) (k : Nat) : repL [V.str y] k = (List.replicate k y).map V.str := by
  unfold repL
  induction k with
  | zero => rfl
  | succ k ih => rw [List.replicate_succ, List.flatten_cons, ih, List.replicate_succ]; rfl
theorem tgt_len3 : ∀ i, i < 3 → 3 ≤ (tgt i).length := by decide +kernel
theorem tgt_len4 : ∀ i, i < 4 → (tgt i).length ≤ 4 := by decide +kernel
section
variable {w : World} {mg mb : Str → Option Value} {g₀ : Heap} (G : Gr w mg mb g₀)
include G
theorem law_12 {n : Nat} {P : Option Addr} {p : List Int} {ρ : Str → Option V} {L : Addr} {Q : Fl → (Str → Option V) → Own → List Int → Prop} {y : Str} {pt : List Int} (oky : WOk y) (hp : p.length ≤ 160) (hr : ρ "row" = some .pool) (hw : ρ "words" = some (.str y)) (ho : ρ "old" = some (.str abc)) (ht : ρ "target" = some (.str (tgt (tgIx pt)))) (hd : ρ "told" = some (.str (toldOf pt y)))
    (h : ∀ ρ', ρ' "row" = some .pool → ρ' "words" = some (.str y) → WS pg w g₀ (n + 5) (envL w L) P ρ' [] p ((bdC w).drop 2) Q) :
    WS pg w g₀ (n + 5) (envL w L) P ρ [] p (bdC w) Q := by
  obtain ⟨f1, hf1⟩ := (d_chartr G).at_
  have ly := oky.len
  have sy := ok_size oky
  have h4 := tgIx_lt pt
  have hy8 : (signs y).length ≤ sizeLine := by unfold signs; rw [List.length_map]; exact sy
  have hcount : ∀ f : Nat → Str, (y.cps.toList.map f).length ≤ 8 := fun f => by
    rw [List.length_map]; show (ls y).length ≤ 8; rw [ls_len]; omega
  have hl4 := tgt_len4 _ h4
  have rest : WS pg w g₀ (n + 5) (envL w L) P ρ [] p ((bdC w).drop 1) Q := by
    have s1 : Fn pg w g₀ (n + 5) P 128 [.str ("a-c" : String), .str ("A-C" : String), .str y] p (.str (chartr ("a-c" : String) ("A-C" : String) y)) p := f_chartr G (n := n) ac_plain AC_plain ac_le (by omega) p P
    refine ws_if (b := chartr ("a-c" : String) ("A-C" : String) y != Txt.join ("" : String) (y.cps.toList.map upAC)) (pt_cmp (pe_call (gl_chartr G) hf1 (pes_cons pe_str (pes_cons pe_str (pes_cons (pe_name hw) pes_nil))) s1)
      (pe_meth pe_str (pes_cons (?hc : PE pg w g₀ _ _ P _ p _ false (.list ((y.cps.toList.map upAC).map V.str)) p) pes_nil) self_str PySem.F.plainAttrs_str PySem.F.slot_str_join PySem.F.type_str_join (bi_join (one_join (fun z hz => by obtain ⟨c, _, rfl⟩ := List.mem_map.mp hz; exact upAC_len c) (hcount _)))) cmp_ne_str.cmp) (fun hb => ?_) fun _ => ws_nil (h _ hr hw)
    case hc =>
      rw [List.map_map]
      refine pe_comp (scope_ok (by kernel_rfl)) (pi_str (pe_name hw)) hy8 fun cl hcl => compr_map' (rs := y.cps.toList) (h := fun c => V.str ⟨#[c]⟩) (k := fun c => V.str (upAC c)) (fun c _ C => pts_nil) fun c hc C => ?_
      obtain ⟨c1, c2⟩ := oky.ok c hc
      refine pe_if (c := Txt.contains ("abc" : String) (lt1 c)) (p₁ := p) (pt_cmp (pe_name rfl) pe_str cmp_in_str.cmp) (fun hb => ?_) fun hb => ?_
      · rw [show upAC c = lt1 (c - 32) by unfold upAC; rw [if_pos hb]]
        refine pe_bi (vs := [.int ((c : Int) - 32)]) (g_chr G) (pes_cons (pe_bin (pe_bi (g_ord G) (pes_cons (pe_name rfl) pes_nil) bi_ord) pe_int bin_sub) pes_nil) ?_
        have := bi_chr (prog := pg) (w := w) (i := (c : Int) - 32) (by omega) (by omega)
        rwa [show ((c : Int) - 32).toNat = c - 32 by omega] at this
      · rw [show upAC c = lt1 c by unfold upAC; rw [if_neg (by rw [hb]; decide)]]
        exact pe_name rfl
    · rw [chartr_AC oky] at hb; simp at hb
  refine ws_if (b := decide (((tgt (tgIx pt)).length : Int) < 3)) (pt_cmp (pe_bi (g_len G) (pes_cons (pe_name ht) pes_nil) (bi_len_str (by unfold sizeLine; omega))) pe_int cmp_lt_int.cmp) (fun hb => ?_) fun hb => ?_
  · rw [tgt_len _ h4, decide_eq_true_eq] at hb
    refine ws_if (b := toldOf pt y != ("'old' is longer than 'new'" : String)) (pt_cmp (pe_name hd) pe_str cmp_ne_str.cmp) (fun hb2 => ?_) fun _ => ws_nil (ws_nil rest)
    rw [show toldOf pt y = ("'old' is longer than 'new'" : String) by unfold toldOf; rw [if_pos hb]] at hb2
    simp at hb2
  · rw [tgt_len _ h4, decide_eq_false_iff_not] at hb
    have h3 : tgIx pt < 3 := by omega
    have l3 := tgt_len3 _ h3
    refine ws_if (b := toldOf pt y != Txt.join ("" : String) (y.cps.toList.map (exch abc (tgt (tgIx pt))))) (pt_cmp (pe_name hd)
      (pe_meth pe_str (pes_cons (?hc : PE pg w g₀ _ _ P _ p _ false (.list ((y.cps.toList.map (exch abc (tgt (tgIx pt)))).map V.str)) p) pes_nil) self_str PySem.F.plainAttrs_str PySem.F.slot_str_join PySem.F.type_str_join (bi_join (one_join (fun z hz => by obtain ⟨c, _, rfl⟩ := List.mem_map.mp hz; exact exch_len _) (hcount _)))) cmp_ne_str.cmp) (fun hb2 => ?_) fun _ => ws_nil (ws_nil rest)
    case hc =>
      rw [List.map_map]
      refine pe_comp (scope_ok (by kernel_rfl)) (pi_str (pe_name hw)) hy8 fun cl hcl => compr_map' (rs := y.cps.toList) (h := fun c => V.str ⟨#[c]⟩) (k := fun c => V.str (exch abc (tgt (tgIx pt)) c)) (fun c _ C => pts_nil) fun c hc C => ?_
      refine pe_if (c := Txt.contains abc (lt1 c)) (p₁ := p) (pt_cmp (pe_name rfl) (pe_name ho) cmp_in_str.cmp) (fun hb => ?_) fun hb => ?_
      · obtain ⟨j, r, e1, e2, e3⟩ := chartr_at oky h3 hc hb
        rw [e3]
        exact pe_item slot_str_getitem.lookup (pe_name ht) (pe_meth (pe_name ho) (pes_cons (pe_name rfl) pes_nil) self_str PySem.F.plainAttrs_str PySem.F.slot_str_index PySem.F.type_str_index (bi_index e1)) (itm_str (by omega) (by omega) (ch_get (show j < (tgt (tgIx pt)).length by omega)))
      · rw [show exch abc (tgt (tgIx pt)) c = lt1 c by unfold exch; rw [if_neg (by rw [hb]; decide)]]
        exact pe_name rfl
    · rw [show toldOf pt y = chartr abc (tgt (tgIx pt)) y by unfold toldOf; rw [if_neg hb], chartr_law oky h3] at hb2
      simp at hb2

/-- turned, repeated -/
theorem law_13 {n : Nat} {P : Option Addr} {p : List Int} {ρ : Str → Option V} {L : Addr} {Q : Fl → (Str → Option V) → Own → List Int → Prop} {y : Str} (oky : WOk y) (hp : p.length ≤ 160) (hr : ρ "row" = some .pool) (hw : ρ "words" = some (.str y))
    (h : ∀ ρ', ρ' "row" = some .pool → ρ' "words" = some (.str y) → WS pg w g₀ (n + 5) (envL w L) P ρ' [] (rst p) ((bdC w).drop 4) Q) :
    WS pg w g₀ (n + 5) (envL w L) P ρ [] p ((bdC w).drop 2) Q := by
  obtain ⟨fo, hfo⟩ := (d_next G).at_
  obtain ⟨f1, hf1⟩ := (d_rev G).at_
  obtain ⟨f2, hf2⟩ := (d_rep G).at_
  have ly := oky.len
  have sy := ok_size oky
  have h5 := fm (nxt p) (b := 5) (by decide)
  have hy8 : (signs y).length ≤ sizeLine := by unfold signs; rw [List.length_map]; exact sy
  refine ws_lets (v := .int ((nxt p).fmod 5)) (pe_bin (pe_call (gl_next G) hfo (pes_cons (pe_name hr) pes_nil) (f_next G (by omega))) pe_int (bin_mod (by decide))) (.inl rfl) ?_
  have s1 : Fn pg w g₀ (n + 5) P 135 [.str y] (rst p) (.str (rev y)) (rst p) := f_rev G (n := n + 3) (by omega) _ P
  have s2 : Fn pg w g₀ (n + 5) P 142 [.str y, .int ((nxt p).fmod 5)] (rst p) (.str (Txt.mul y ((nxt p).fmod 5))) (rst p) := f_rep G (n := n + 3) h5.1 (mul_ok ly h5.1 h5.2) _ P
  have hsgl : (sg (ls y)).length ≤ 8 := by rw [sg_len, ls_len]; omega
  have hpk : pick (sg (ls y)) none none (some (-1)) = ((ls y).reverse.map lt1).map V.str := by
    rw [pick_rev hsgl]; unfold sg; rw [← List.map_reverse, ← List.map_reverse]
  refine ws_if (b := (rev y != Txt.join ("" : String) ((ls y).reverse.map lt1)) || ((Txt.mul y ((nxt p).fmod 5) != Txt.join ("" : String) (List.replicate ((nxt p).fmod 5).toNat y)) || false))
    (pt_or' (pt_cmp (pe_call (gl_rev G) hf1 (pes_cons (pe_name hw) pes_nil) s1) (pe_meth pe_str (pes_cons (?hc : PE pg w g₀ _ _ P _ (rst p) _ false (.list (((ls y).reverse.map lt1).map V.str)) (rst p)) pes_nil) self_str PySem.F.plainAttrs_str PySem.F.slot_str_join PySem.F.type_str_join (bi_join (one_join (lt1_one _) (by rw [List.length_map, List.length_reverse, ls_len]; omega)))) cmp_ne_str.cmp)
      (pt_or' (pt_cmp (pe_call (gl_rep G) hf2 (pes_cons (pe_name hw) (pes_cons (pe_name rfl) pes_nil)) s2) (pe_meth pe_str (pes_cons (?hd : PE pg w g₀ _ _ P _ (rst p) _ false (.list ((List.replicate ((nxt p).fmod 5).toNat y).map V.str)) (rst p)) pes_nil) self_str PySem.F.plainAttrs_str PySem.F.slot_str_join PySem.F.type_str_join (bi_join (joinOk (m := 6) (k := 4) (fun z hz => by rw [(List.mem_replicate.mp hz).2]; exact ly) (by decide) (by rw [List.length_replicate]; omega) (by decide)))) cmp_ne_str.cmp) pt_or_nil)) (fun hb => ?_) fun _ => ws_nil (h _ hr hw)
  case hc =>
    rw [← hpk]
    refine pe_pickS (sg_sc _) (p₁ := rst p) (?he : PE pg w g₀ _ _ P _ (rst p) _ false (.list (sg (ls y))) (rst p)) po_none po_none (po_some (pe_un pe_int un_neg)) (by decide) (by rw [sg_len, ls_len]; exact sy)
    case he =>
      rw [← signs_sg]
      exact pe_comp (scope_ok (by kernel_rfl)) (pi_str (pe_name hw)) hy8 fun cl hcl => compr_map' (rs := y.cps.toList) (h := fun c => V.str ⟨#[c]⟩) (k := fun c => V.str ⟨#[c]⟩) (fun c _ C => pts_nil) fun c hc C => pe_name rfl
  case hd =>
    rw [← repL_strs]
    exact pe_repL (pe_list (pes_cons (pe_name hw) pes_nil) (by show (1 : Nat) ≤ sizeLine; decide)) (pe_name rfl) (List.cons_ne_nil _ _) (by omega) (by show (1 : Nat) ≤ 8; decide)
  · rw [rev_law, mul_law y h5.1] at hb; simp at hb
end
end Mine
end

section
open PySem PySem.W PyProof.Rows PySem.Calls Builtin.Str
set_option autoImplicit false
set_option Elab.async false
set_option linter.all false
set_option maxRecDepth 100000
namespace Mine
theorem starts_add (x z : Str) : Txt.startswith (x ++ z) x = true := by
  unfold Txt.startswith
  rw [Bool.and_eq_true, decide_eq_true_eq, ← sub_eq, beq_iff_eq, add_len]
  refine ⟨by omega, ls_ext ?_⟩
  rw [ls_sseg, ls_add, List.drop_zero, show 0 + x.length - 0 = (ls x).length by rw [ls_len]; omega, List.take_left']
  rfl
theorem add_nil (x : Str) : x ++ (("" : String) : Str) = x := ls_ext (by rw [ls_add]; show ls x ++ [] = _; simp)
theorem starts_self (x : Str) : Txt.startswith x x = true := by
  have := starts_add x ("" : String)
  rwa [add_nil] at this
theorem add_assoc (x y z : Str) : (x ++ y) ++ z = x ++ (y ++ z) := ls_ext (by rw [ls_add, ls_add, ls_add, ls_add, List.append_assoc])
/-- what holds while names are made different -/
structure UI (names done : List Str) (u : Us) : Prop where
  eq : u.sn = u.fd
  nd : u.fd.Nodup
  sub : ∀ z ∈ u.fd, z ∈ u.tk
  nm : ∀ z ∈ names, z ∈ u.tk
  ex : ∀ z ∈ u.fd, z ∈ names → z ∈ done
  len : u.fd.length = done.length
  each : ∀ (i : Nat) (x : Str), done[i]? = some x → ∃ t, u.fd[i]? = some t ∧ Txt.startswith t x = true ∧ (x ∉ done.take i → t = x)
theorem each_snoc {fd done : List Str} {x t : Str} (hl : fd.length = done.length) (h : ∀ (i : Nat) (x : Str), done[i]? = some x → ∃ t, fd[i]? = some t ∧ Txt.startswith t x = true ∧ (x ∉ done.take i → t = x))
    (h1 : Txt.startswith t x = true) (h2 : x ∉ done → t = x) (i : Nat) (z : Str) (hz : (done ++ [x])[i]? = some z) : ∃ t', (fd ++ [t])[i]? = some t' ∧ Txt.startswith t' z = true ∧ (z ∉ (done ++ [x]).take i → t' = z) := by
  by_cases q : i < done.length
  · rw [List.getElem?_append_left q] at hz
    obtain ⟨t', g1, g2, g3⟩ := h i z hz
    rw [List.getElem?_append_left (by omega)]
    refine ⟨t', g1, g2, fun hn => g3 ?_⟩
    rwa [List.take_append_of_le_length (by omega)] at hn
  · rw [List.getElem?_append_right (by omega)] at hz
    have hi : i = done.length := by
      have := (List.getElem?_eq_some_iff.mp hz).1
      rw [List.length_singleton] at this; omega
    subst hi
    rw [Nat.sub_self] at hz
    cases hz
    rw [List.getElem?_append_right (by omega), hl, Nat.sub_self]
    refine ⟨t, rfl, h1, fun hn => h2 ?_⟩
    rwa [List.take_left'] at hn
    rfl
theorem UI.step {names done : List Str} {u : Us} {sep x : Str} (I : UI names done u) (U : UOk u done.length) (hd : done.length < 8) (hx : x ∈ names) : UI names (done ++ [x]) (uStep sep u x) := by
  have nb := num_bound U (Nat.le_of_lt hd) x sep
  have hfree : tag x sep (numOf u x sep) ∉ u.tk := ff_free nb.2.2.1
  unfold uStep
  split
  · rename_i hs
    refine ⟨by show _ ++ _ = _ ++ _; rw [I.eq], ?_, fun z hz => ?_, fun z hz => List.mem_append_left _ (I.nm z hz), fun z hz hn => ?_, ?_, ?_⟩
    · refine List.nodup_append.mpr ⟨I.nd, by simp, fun a ha b hb q => ?_⟩
      rw [List.mem_singleton] at hb
      subst hb; subst q
      exact hfree (I.sub _ ha)
    · rcases List.mem_append.mp hz with hz | hz
      · exact List.mem_append_left _ (I.sub z hz)
      · exact List.mem_append_right _ hz
    · rcases List.mem_append.mp hz with hz | hz
      · exact List.mem_append_left _ (I.ex z hz hn)
      · rw [List.mem_singleton] at hz; subst hz
        exact absurd (I.nm _ hn) hfree
    · rw [List.length_append, List.length_append, I.len]; rfl
    · refine each_snoc I.len I.each ?_ fun hn => ?_
      · unfold tag; rw [add_assoc]; exact starts_add _ _
      · rw [I.eq] at hs
        exact absurd (I.ex x hs hx) hn
  · rename_i hs
    rw [I.eq] at hs
    refine ⟨by show _ ++ _ = _ ++ _; rw [I.eq], ?_, fun z hz => ?_, I.nm, fun z hz hn => ?_, ?_, each_snoc I.len I.each (starts_self x) fun _ => rfl⟩
    · refine List.nodup_append.mpr ⟨I.nd, by simp, fun a ha b hb q => ?_⟩
      rw [List.mem_singleton] at hb
      subst hb; subst q
      exact hs ha
    · rcases List.mem_append.mp hz with hz | hz
      · exact I.sub z hz
      · rw [List.mem_singleton] at hz; subst hz; exact I.nm _ hx
    · rcases List.mem_append.mp hz with hz | hz
      · exact List.mem_append_left _ (I.ex z hz hn)
      · exact List.mem_append_right _ hz
    · rw [List.length_append, List.length_append, I.len]
theorem ui_run {names : List Str} {sep : Str} (hs : sep.length ≤ 1) (hx : ∀ x ∈ names, x.length ≤ 1) (hl : names.length ≤ 8) : ∀ (todo done : List Str) (u : Us), done.length + todo.length ≤ 8 → (∀ x ∈ todo, x ∈ names) → UI names done u → UOk u done.length → UI names (done ++ todo) (todo.foldl (uStep sep) u)
  | [], done, u, _, _, I, _ => by rw [List.append_nil]; exact I
  | x :: todo, done, u, h, hm, I, U => by
    rw [List.length_cons] at h
    rw [List.foldl_cons, show done ++ x :: todo = (done ++ [x]) ++ todo by simp]
    refine ui_run hs hx hl todo (done ++ [x]) _ (by rw [List.length_append, List.length_singleton]; omega) (fun z hz => hm z (.tail _ hz)) (I.step U (by omega) (hm x (.head _))) ?_
    rw [List.length_append, List.length_singleton]
    exact U.step (by omega) (hx x (hm x (.head _))) hs
/-- the law of make_unique -/
structure UniqLaw (names told : List Str) : Prop where
  len : told.length = names.length
  nd : told.Nodup
  each : ∀ (i : Nat) (x : Str), names[i]? = some x → ∃ t, told[i]? = some t ∧ Txt.startswith t x = true ∧ (x ∉ names.take i → t = x)
theorem uniq_law {names : List Str} {sep : Str} (hl : names.length ≤ 8) (hx : ∀ x ∈ names, x.length ≤ 1) (hs : sep.length ≤ 1) : UniqLaw names (uniq names sep) := by
  have I := ui_run (sep := sep) hs hx hl names [] ⟨names, [], fun _ => none, []⟩ (by simpa using hl) (fun _ h => h) ⟨rfl, List.nodup_nil, (fun z h => by cases h), (fun z h => h), (fun z h => by cases h), rfl, (fun i x h => by cases h)⟩ (UOk.zero hl hx)
  rw [List.nil_append] at I
  exact ⟨I.len, I.nd, I.each⟩
theorem nodup_take {l : List Str} (h : l.Nodup) {i : Nat} {x : Str} (hx : l[i]? = some x) : x ∉ l.take i := fun hm => by
  obtain ⟨j, hj⟩ := List.mem_iff_getElem?.mp hm
  have hji : j < i := by
    have := (List.getElem?_eq_some_iff.mp hj).1
    rw [List.length_take] at this; omega
  rw [List.getElem?_take_of_lt hji] at hj
  have := (List.getElem?_inj (Nat.lt_trans hji (List.getElem?_eq_some_iff.mp hx).1) h).mp (hj.trans hx.symm)
  omega
end Mine
end

section
open PySem PySem.W PyProof.Rows PySem.Calls Builtin.Str
set_option autoImplicit false
set_option Elab.async false
set_option linter.all false
set_option maxRecDepth 100000
namespace Mine
noncomputable def nameOne (p : List Int) : Str × List Int := (cut (wordS p).1 none (some 1) none, (wordS p).2)
noncomputable def namesOf (p : List Int) : List Str × List Int := draws nameOne ((nxt p).fmod 8).toNat (rst p)
theorem nameOne_pool (p : List Int) (m : Nat) (h : p.length ≤ m) : (nameOne p).2.length ≤ m := wordS_pool p m h
theorem names_len (p : List Int) : (namesOf p).1.length ≤ 8 := by
  have := fm (nxt p) (b := 8) (by decide)
  unfold namesOf; rw [draws_count]; omega
theorem names_one (p : List Int) : ∀ x ∈ (namesOf p).1, x.length ≤ 1 := draws_mem (ok := fun x : Str => x.length ≤ 1) (fun p => ((wordS_ok p).cut 1).2) _ _
theorem dot1 : ((("." : String) : Str)).length ≤ 1 := by decide
theorem PT.cast {prog : Program} {w : World} {g₀ : Heap} {n : Nat} {env : Env} {P : Option Addr} {ρ : Str → Option V} {p p' : List Int} {e : Expr} {b b' : Bool} (h : PT prog w g₀ n env P ρ p e b p') (q : b = b') : PT prog w g₀ n env P ρ p e b' p' := q ▸ h
section
variable {w : World} {mg mb : Str → Option Value} {g₀ : Heap} (G : Gr w mg mb g₀)
include G
/-- names, told -/
theorem law_14 {n : Nat} {P : Option Addr} {p : List Int} {ρ : Str → Option V} {L : Addr} {Q : Fl → (Str → Option V) → Own → List Int → Prop} {y : Str} (hp : p.length ≤ 160) (hr : ρ "row" = some .pool) (hw : ρ "words" = some (.str y))
    (h : ∀ ρ', ρ' "words" = some (.str y) → ρ' "names" = some (.list ((namesOf p).1.map .str)) → ρ' "told" = some (.list ((uniq (namesOf p).1 ("." : String)).map .str)) → WS pg w g₀ (n + 5) (envL w L) P ρ' [] (namesOf p).2 ((bdC w).drop 6) Q) :
    WS pg w g₀ (n + 5) (envL w L) P ρ [] p ((bdC w).drop 4) Q := by
  obtain ⟨fo, hfo⟩ := (d_next G).at_
  obtain ⟨fw, hfw⟩ := (d_word G).at_
  obtain ⟨f1, hf1⟩ := (d_uniq G).at_
  have h8 := fm (nxt p) (b := 8) (by decide)
  refine ws_letc (y := "names") (out := (namesOf p).1.map .str) (items := intsFrom 0 ((nxt p).fmod 8).toNat) (p₁ := rst p) (p' := (namesOf p).2) (scope_ok (by kernel_rfl))
    (pi_range (g_range G) (pes_cons (pe_bin (pe_call (gl_next G) hfo (pes_cons (pe_name hr) pes_nil) (f_next G (by omega))) pe_int (bin_mod (by decide))) pes_nil) (.inl ⟨rfl, rfl⟩) (by split <;> omega) (by omega)) (by rw [intsFrom_len]; unfold sizeLine; omega)
    (fun cl hcl => ?_) (.inl rfl) ?_
  · refine compr_draw' (g := nameOne) (h := V.str) ((nxt p).fmod 8).toNat 160 (intsFrom_len _ _) (fun p => nameOne_pool p 160) (Nat.le_trans (rst_len p) hp) (fun v _ p _ C => pts_nil) fun v hv p hp C => ?_
    exact PE.sc (fr' := false) (pe_cut (pe_call (gl_word G) hfw (pes_cons (pe_name hr) (pes_cons pe_bool pes_nil)) (f_wordS G (by omega))) po_none (po_some pe_int) (ok_size (wordS_ok _)))
  · have s1 : Fn pg w g₀ (n + 5) P 149 [.list ((namesOf p).1.map .str), .str ("." : String)] (namesOf p).2 (.list ((uniq (namesOf p).1 ("." : String)).map .str)) (namesOf p).2 := f_uniq G (n := n + 1) (names_len p) (names_one p) dot1 _ P
    exact ws_letf (v := .list ((uniq (namesOf p).1 ("." : String)).map .str)) (pe_call (gl_uniq G) hf1 (pes_cons (pe_name rfl) (pes_cons pe_str pes_nil)) s1) (.inr ⟨rfl, _, rfl⟩) (h _ hw rfl rfl)

/-- the names' law -/
theorem law_15 {n : Nat} {P : Option Addr} {p : List Int} {ρ : Str → Option V} {L : Addr} {Q : Fl → (Str → Option V) → Own → List Int → Prop} {y : Str} {ns ts : List Str} (U : UniqLaw ns ts) (hl : ns.length ≤ 8) (hw : ρ "words" = some (.str y)) (hn : ρ "names" = some (.list (ns.map .str))) (ht : ρ "told" = some (.list (ts.map .str)))
    (h : ∀ ρ', ρ' "words" = some (.str y) → WS pg w g₀ (n + 5) (envL w L) P ρ' [] p ((bdC w).drop 8) Q) :
    WS pg w g₀ (n + 5) (envL w L) P ρ [] p ((bdC w).drop 6) Q := by
  have htl : ts.length ≤ 8 := by rw [U.len]; exact hl
  have blen : ∀ l : List Str, l.length ≤ 8 → BI pg w (.builtin "len") [.list (l.map .str)] (.int l.length) := fun l hl => by
    have := bi_len_list (prog := pg) (w := w) (xs := l.map V.str) (by rw [List.length_map]; unfold sizeLine; omega)
    rwa [List.length_map] at this
  have smap : ∀ l : List Str, l.length ≤ 8 → (l.map V.str).length ≤ sizeLine := fun l h => by rw [List.length_map]; unfold sizeLine; omega
  have ptake : ∀ (l : List Str) (i : Nat), pick (l.map V.str) none (some (i : Int)) none = (l.take i).map V.str := fun l i => by rw [pick_take, List.map_take]
  have hnone : (List.range ts.length).filter (fun i => (ts.take i).contains (ts.getD i ("" : String))) = [] := List.filter_eq_nil_iff.mpr fun i hi => by
    have hi := List.mem_range.mp hi
    have he : ts[i]? = some (ts.getD i ("" : String)) := by rw [List.getD_eq_getElem?_getD, List.getElem?_eq_getElem hi]; rfl
    rw [List.contains_iff_mem]
    exact nodup_take U.nd he
  refine ws_if (p₁ := p) (b := ((ts.length : Int) != (ns.length : Int)) || (!(((List.range ts.length).filter (fun i => (ts.take i).contains (ts.getD i ("" : String)))).map natV).isEmpty || false))
    (pt_or' (pt_cmp (pe_bi (g_len G) (pes_cons (pe_name ht) pes_nil) (blen ts htl)) (pe_bi (g_len G) (pes_cons (pe_name hn) pes_nil) (blen ns hl)) cmp_ne_int.cmp)
      (pt_or' (pt_cmp (pe_comp (items := (List.range ts.length).map natV) (p₁ := p) (scope_ok (by kernel_rfl)) (by rw [← ints_nat]; exact pi_range (g_range G) (pes_cons (pe_bi (g_len G) (pes_cons (pe_name ht) pes_nil) (blen ts htl)) pes_nil) (.inl ⟨rfl, rfl⟩) (by split <;> omega) (by omega)) (by rw [List.length_map, List.length_range]; unfold sizeLine; omega)
        fun cl hcl => compr_filter' (rs := List.range ts.length) (h := natV) (k := natV) (b := fun i => (ts.take i).contains (ts.getD i ("" : String))) (fun i hi C => pts_one (?hc : PT pg w g₀ _ _ P _ p _ _ p)) fun i _ _ C => pe_name rfl) (pe_list pes_nil (by decide)) cmp_ne_nil) pt_or_nil)) (fun hb => ?_) fun _ => ws_nil ?_
  case hc =>
    have hi := List.mem_range.mp hi
    have he : (ts.map V.str)[i]? = some (V.str (ts.getD i ("" : String))) := by rw [List.getElem?_map, List.getD_eq_getElem?_getD, List.getElem?_eq_getElem hi]; rfl
    refine pt_cmp (pe_item slot_list_getitem.lookup (pe_name ht) (pe_name rfl) (itm_list (by omega) (by omega) (by rw [Int.toNat_natCast]; exact he))) (?hs : PE pg w g₀ _ _ P _ p _ false (.list ((ts.take i).map V.str)) p) cmp_in_strs
    case hs =>
      rw [← ptake]
      exact pe_pickS (strsSc _) (pe_name ht) po_none (po_some (pe_name rfl)) po_none (by decide) (smap ts htl)
  · rw [hnone, U.len] at hb; simp at hb
  refine ws_for (items := (List.range ns.length).map natV) (p₁ := p) (by rw [← ints_nat]; exact pi_range (g_range G) (pes_cons (pe_bi (g_len G) (pes_cons (pe_name hn) pes_nil) (blen ns hl)) pes_nil) (.inl ⟨rfl, rfl⟩) (by split <;> omega) (by omega)) (.inr ⟨rfl, _, rfl⟩)
    (fun i ρ' own' q => ρ' "words" = some (.str y) ∧ ρ' "names" = some (.list (ns.map .str)) ∧ ρ' "told" = some (.list (ts.map .str)) ∧ own' = ([] : Own) ∧ q = p) ⟨hw, hn, ht, rfl, rfl⟩ (fun i v ρ' own' q hi hI => ?_) fun ρ' own' q hI => ?_
  · obtain ⟨k1, k2, k3, rfl, rfl⟩ := hI
    have hi' : i < ns.length := by have := (List.getElem?_eq_some_iff.mp hi).1; simpa using this
    have hv : v = natV i := by
      rw [List.getElem?_map, List.getElem?_range hi'] at hi
      simp at hi; exact hi.symm
    subst hv
    obtain ⟨t, e1, e2, e3⟩ := U.each i ns[i] (List.getElem?_eq_getElem hi')
    have n1 : (ns.map V.str)[i]? = some (V.str ns[i]) := by rw [List.getElem?_map, List.getElem?_eq_getElem hi']; rfl
    have t1 : (ts.map V.str)[i]? = some (V.str t) := by rw [List.getElem?_map, e1]; rfl
    refine ws_if (p₁ := q) (b := ((!(ns.take i).contains ns[i]) && false) || (!(Txt.startswith t ns[i]) || false)) (pt_or' (pt_and (b := !(ns.take i).contains ns[i]) (c := false)
        (pt_cmp (pe_item slot_list_getitem.lookup (pe_name k2) (pe_name rfl) (itm_list (by omega) (by omega) (by rw [Int.toNat_natCast]; exact n1))) (?hs : PE pg w g₀ _ _ P _ q _ false (.list ((ns.take i).map V.str)) q) cmp_notin_strs) (fun hb => ?_) fun _ => ⟨rfl, rfl⟩)
      (pt_or' (pt_not (pt_plain (pe_meth (pe_item slot_list_getitem.lookup (pe_name k3) (pe_name rfl) (itm_list (by omega) (by omega) (by rw [Int.toNat_natCast]; exact t1))) (pes_cons (pe_item slot_list_getitem.lookup (pe_name k2) (pe_name rfl) (itm_list (by omega) (by omega) (by rw [Int.toNat_natCast]; exact n1))) pes_nil) self_str PySem.F.plainAttrs_str PySem.F.slot_str_startswith PySem.F.type_str_startswith bi_starts) truth_bool)) pt_or_nil)) (fun hb => ?_) fun _ => ws_nil (ws_nil ⟨k1, k2, k3, rfl, rfl⟩)
    case hs =>
      rw [← ptake]
      exact pe_pickS (strsSc _) (pe_name k2) po_none (po_some (pe_name rfl)) po_none (by decide) (smap ns hl)
    · have hni : ns[i] ∉ ns.take i := by
        intro hm
        rw [← List.contains_iff_mem] at hm
        rw [hm] at hb; cases hb
      have et := e3 hni
      exact PT.cast (pt_and' (b := t != ns[i]) (c := true) (pt_cmp (pe_item slot_list_getitem.lookup (pe_name k3) (pe_name rfl) (itm_list (by omega) (by omega) (by rw [Int.toNat_natCast]; exact t1))) (pe_item slot_list_getitem.lookup (pe_name k2) (pe_name rfl) (itm_list (by omega) (by omega) (by rw [Int.toNat_natCast]; exact n1))) cmp_ne_str.cmp) pt_and_nil) (by rw [et]; simp)
    · rw [e2, Bool.and_false] at hb; cases hb
  · obtain ⟨k1, k2, k3, rfl, rfl⟩ := hI
    exact h _ k1

/-- what has no text -/
theorem law_16 {n : Nat} {P : Option Addr} {p : List Int} {ρ : Str → Option V} {L : Addr} {Q : Fl → (Str → Option V) → Own → List Int → Prop} {y : Str} (hw : ρ "words" = some (.str y)) (h : ∀ ρ', Q (.ret (.bool true)) ρ' [] p) :
    WS pg w g₀ (n + 5) (envL w L) P ρ [] p ((bdC w).drop 8) Q := by
  obtain ⟨f1, hf1⟩ := (d_subof G).at_
  obtain ⟨f2, hf2⟩ := (d_subset G).at_
  obtain ⟨f3, hf3⟩ := (d_trim G).at_
  obtain ⟨f4, hf4⟩ := (d_rev G).at_
  obtain ⟨f5, hf5⟩ := (d_rep G).at_
  obtain ⟨f6, hf6⟩ := (d_starts G).at_
  obtain ⟨f7, hf7⟩ := (d_split G).at_
  refine ws_letf (p₁ := p) (v := .list [.none, .none, .none, .none, .none]) (pe_list (pes_cons (PE.sc (fr' := false) (pe_call (gl_subof G) hf1 (pes_cons pe_none (pes_cons pe_int (pes_cons pe_int pes_nil))) (f_subof_none G (n := n + 3) p P)))
    (pes_cons (PE.sc (fr' := false) (pe_call (gl_subset G) hf2 (pes_cons (pe_name hw) (pes_cons pe_int (pes_cons pe_int (pes_cons pe_none pes_nil)))) (f_subset_none G (n := n + 3) p P)))
    (pes_cons (PE.sc (fr' := false) (pe_call (gl_trim G) hf3 (pes_cons pe_none (pes_cons pe_str pes_nil)) (f_trim_none G (n := n + 3) p P)))
    (pes_cons (PE.sc (fr' := false) (pe_call (gl_rev G) hf4 (pes_cons pe_none pes_nil) (f_rev_none G (n := n + 3) p P)))
    (pes_cons (PE.sc (fr' := false) (pe_call (gl_rep G) hf5 (pes_cons pe_none (pes_cons pe_int pes_nil)) (f_rep_none G (n := n + 3) p P))) pes_nil))))) (by show (5 : Nat) ≤ sizeLine; decide)) (.inl rfl) ?_
  have s6 : Fn pg w g₀ (n + 5) P 95 [.none, .str ("a" : String)] p .none p := f_starts_none G (n := n + 3) p P
  have s7 : Fn pg w g₀ (n + 5) P 67 [.none, .str ("," : String)] p (.list [.none]) p := f_split_none G (n := n + 3) p P
  refine ws_ret (v := .bool true) (p₁ := p) (pe_and (b := true) (p₁ := p) (pe_cmp (pe_name rfl) (?hc : PE pg w g₀ _ _ P _ p _ false (.list [.none, .none, .none, .none, .none]) p) (cmp_eq_refl fun v hv => ?_)) (fun _ => pe_and (b := true) (p₁ := p) (pe_cmp (pe_call (gl_starts G) hf6 (pes_cons pe_none (pes_cons pe_str pes_nil)) s6) pe_none (cmp_is_none rfl)) (fun _ => pe_bo1 (pe_cmp (pe_call (gl_split G) hf7 (pes_cons pe_none (pes_cons pe_str pes_nil)) s7) (pe_list (pes_cons pe_none pes_nil) (by show (1 : Nat) ≤ sizeLine; decide)) (cmp_eq_refl fun v hv => ?_))) fun hb => nomatch hb) fun hb => nomatch hb) (h _)
  case hc => exact pe_repL (xs := [.none]) (k := 5) (pe_list (pes_cons pe_none pes_nil) (by show (1 : Nat) ≤ sizeLine; decide)) pe_int (List.cons_ne_nil _ _) (by decide) (by show (1 : Nat) ≤ 8; decide)
  · simp at hv; subst hv; rfl
  · simp at hv; subst hv; rfl
end
end Mine
end

section
open PySem PySem.W PyProof.Rows PySem.Calls Builtin.Str
set_option autoImplicit false
set_option Elab.async false
set_option linter.all false
set_option maxRecDepth 100000
namespace Mine
/-- a lambda's names, looked at -/
noncomputable def capChk (fs scope : Scope) : Bool := scope.names.all fun y => y.2 != .free || (!(y.1 == ("__classdict__" : Str)) && ((cellsFrom 0 fs.names []).lookup y.1).isSome && fs.names.lookup y.1 != some .local)
theorem cap_ok {fd : FuncData} {L f : Addr} {scope : Scope} (h : capChk fd.scope scope = true) : Cap (callEnvC fd L f) scope := by
  unfold capChk at h
  simp only [Bool.and_eq_true, List.all_eq_true, bne_iff_ne, Bool.or_eq_true, Bool.not_eq_true'] at h
  intro y hy
  obtain ⟨⟨g1, g2⟩, g3⟩ := (h _ hy).elim (fun z => absurd rfl z) id
  refine ⟨g1, ?_, g3⟩
  have g4 : y ∈ ((cellsFrom (L + 1) fd.scope.names []).map (·.1)) := by
    rw [cells_shift _ _ 0 [] [] rfl]; exact lookup_isSome.mp g2
  exact Option.isSome_iff_exists.mp (lookup_isSome.mpr g4)
section
variable {w : World} {mg mb : Str → Option Value} {g₀ : Heap} {n : Nat} {env : Env} {P : Option Addr} {ρ ρ' : Str → Option V} {own own' : Own} {p p' p₁ : List Int} {H s s' : Shared} {ps : Array Value}
theorem LSt.seg (L : LSt w g₀ env P H ρ own p ps s) (Rp' : Rep pg w g₀ env P (hideS s (priv env own)) exT ρ' own' p' s') : LSt w g₀ env P H ρ' own' p' ps s' := by
  obtain ⟨vars, Rp⟩ := L.rep
  obtain ⟨vars', R'⟩ := Rp'
  obtain ⟨_, t3⟩ := L.tab.tab
  have k3 : ∀ o, s.heap.get? 193 = some o → s'.heap.get? 193 = some o := fun o q => R'.keep 193 o L.nP (hideAll_get _ q L.ap)
  refine ⟨⟨vars', Rp.outer R'⟩, fun hm => ?_, L.nP, L.tab.at' (fun o q => ?_) k3, L.nH, L.g5⟩
  · have h1 := (R'.pf 193 hm).2.1
    have h2 : (hideS s (priv env own)).heap.get? 193 = _ := hideAll_get _ t3 L.ap
    rw [h1] at h2; cases h2
  · cases e : g₀.get? 195 with
    | none => exact absurd e L.g5
    | some o' =>
      have h1 := Rp.base' _ _ e
      rw [q] at h1; cases h1
      exact R'.base' _ _ e
theorem LSt.stp (L : LSt w g₀ env P H ρ own p ps s) (st : Stp P s s') (hp : PoolAt P p₁ s'.heap) : LSt w g₀ env P H ρ own p₁ ps s' := by
  obtain ⟨vars, Rp⟩ := L.rep
  exact L.seg ⟨vars, Rp.inner.stp st hp⟩
theorem LSt.store (L : LSt w g₀ env P H ρ own p ps s) {A : Around} {E : Value → Shared → Prop} {K : Unit → Shared → Prop} {x : Str} {v : V} {val : Value} (hx : Storable env x) (hv : v.scalar = true) (r : ∃ t, val = v.val t)
    (h : ∀ s', LSt w g₀ env P H (upd ρ x v) (dropO own x) p ps s' → K () s') : wpAny (model pg w) A (storeName env x val) K E s := by
  obtain ⟨vars, Rp⟩ := L.rep
  refine store_name Rp.inner hx fun d h' k hd hs loc cel => h _ (L.seg ⟨_, Rp.inner.s1 ((VR.scalar hv).mpr r) hx hd hs loc cel⟩)

/-- what suites of the law do, lambdas and all -/
structure LS (w : World) (g₀ : Heap) (n : Nat) (env : Env) (P : Option Addr) (H : Shared) (ρ : Str → Option V) (own : Own) (p : List Int) (ps : Array Value) (ss : List Stmt) (Q : Fl → (Str → Option V) → Own → List Int → Array Value → Prop) : Prop where
  run : ∀ (A : Around) (s : Shared) (R : Flow → Shared → Prop), OkA n A → A.frames = some [env] → LSt w g₀ env P H ρ own p ps s →
    (∀ fl flow ρ' own' p' ps' s', Q fl ρ' own' p' ps' → FlR P H s' fl flow → LSt w g₀ env P H ρ' own' p' ps' s' → R flow s') → wpAny (model pg w) A (execs ss env) R (fun _ _ => False) s
variable {Q : Fl → (Str → Option V) → Own → List Int → Array Value → Prop}
theorem ls_ws {ss : List Stmt} (h : WS pg w g₀ n env P ρ own p ss fun fl ρ' own' p' => Q fl ρ' own' p' ps) : LS w g₀ n env P H ρ own p ps ss Q :=
  ⟨fun A s R hA _ L k => ws_seg h hA L fun fl flow ρ' own' p' s' hq hf L' => k _ _ _ _ _ _ _ hq hf L'⟩
/-- what follows -/
noncomputable def QL (w : World) (g₀ : Heap) (n : Nat) (env : Env) (P : Option Addr) (H : Shared) (rest : List Stmt) (Q : Fl → (Str → Option V) → Own → List Int → Array Value → Prop) : Fl → (Str → Option V) → Own → List Int → Array Value → Prop :=
  fun fl ρ own p ps => match fl with
    | .next => LS w g₀ n env P H ρ own p ps rest Q
    | fl => Q fl ρ own p ps
theorem ql_end {A : Around} {R : Flow → Shared → Prop} {rest : List Stmt} (hA : OkA n A) (hF : A.frames = some [env]) (hR : ∀ fl flow ρ' own' p' ps' s', Q fl ρ' own' p' ps' → FlR P H s' fl flow → LSt w g₀ env P H ρ' own' p' ps' s' → R flow s') :
    ∀ fl flow ρ' own' p' ps' s', QL w g₀ n env P H rest Q fl ρ' own' p' ps' → FlR P H s' fl flow → LSt w g₀ env P H ρ' own' p' ps' s' →
      (match flow with | .next => wpAny (model pg w) A (execs rest env) R (fun _ _ => False) s' | f => R f s') := fun fl flow ρ' own' p' ps' s' hq hf hr => by
  cases fl with
  | next => cases hf; exact LS.run hq A s' R hA hF hr hR
  | brk => cases hf; exact hR _ _ _ _ _ _ _ hq rfl hr
  | cont => cases hf; exact hR _ _ _ _ _ _ _ hq rfl hr
  | ret v => obtain ⟨val, rfl, r⟩ := hf; exact hR _ _ _ _ _ _ _ hq ⟨val, rfl, r⟩ hr
theorem ls_seq {a b : List Stmt} (h : LS w g₀ n env P H ρ own p ps a (QL w g₀ n env P H b Q)) : LS w g₀ n env P H ρ own p ps (a ++ b) Q :=
  ⟨fun A s R hA hF L k => execs_append (h.run A s _ hA hF L (ql_end hA hF k))⟩
theorem ls_nil (h : Q .next ρ own p ps) : LS w g₀ n env P H ρ own p ps [] Q := ls_ws (ws_nil h)
theorem ls_if_t {t body orelse pos rest} (ht : PT pg w g₀ n env P (ρo ρ own) p t true p₁) (h : LS w g₀ n env P H ρ own p₁ ps body (QL w g₀ n env P H rest Q)) : LS w g₀ n env P H ρ own p ps (.If t body orelse pos :: rest) Q :=
  ⟨fun A s R hA hF L k => by
    obtain ⟨vars, Rp⟩ := L.rep
    refine wpAny_execs_cons (wpAny_If (ht A _ _ s _ hA Rp.stAll fun s₁ st hp => ?_))
    rw [if_pos rfl]
    exact h.run A s₁ _ hA hF (L.stp st hp) (ql_end hA hF k)⟩
/-- a call of _law_kept that gives the text r, as far as the law goes -/
noncomputable def KeptAt (w : World) (g₀ : Heap) (n : Nat) (env : Env) (P : Option Addr) (H : Shared) (ρ : Str → Option V) (own : Own) (p : List Int) (ps ps' : Array Value → Prop) (e : Expr) (r : Str) : Prop :=
  ∀ (A : Around) (E : Value → Shared → Prop) (K : Value → Shared → Prop) (s : Shared) (q : Array Value), ps q → OkA n A → A.frames = some [env] → LSt w g₀ env P H ρ own p q s → (∀ t s' q', ps' q' → LSt w g₀ env P H ρ own p q' s' → K (.str r t) s') → wpAny (model pg w) A (eval e env) K E s
theorem ls_kept_ne {pp pp' : Array Value → Prop} {e : Expr} {r : Str} {kk : Tok} {kp cp : Pos} {body : List Stmt} {pos : Pos} {rest : List Stmt} (ke : KeptAt w g₀ (n + 1) env P H ρ own p pp pp' e r) (hp : pp ps)
    (h : ∀ q, pp' q → LS w g₀ (n + 1) env P H ρ own p q rest Q) : LS w g₀ (n + 1) env P H ρ own p ps (.If (.Compare e [.NotEq] [.Constant (.str r) kk kp] cp) body [] pos :: rest) Q :=
  ⟨fun A s R hA hF L k => by
    refine wpAny_execs_cons (wpAny_If (wpAny_isTrue_Compare1 (ke A _ _ s ps hp hA hF L fun t s' q' hq' L' => ?_) rfl))
    obtain ⟨vars, Rp⟩ := L'.rep
    have pc : PE pg w g₀ (n + 1) env P (ρo ρ own) p (.Constant (.str r) kk kp) false (.str r) p := pe_str
    refine pc A _ _ s' _ hA Rp.stAll fun vb s₂ st₂ hp₂ rb => ?_
    obtain ⟨u, rfl⟩ := (VR.scalar (v := V.str r) rfl).mp rb
    have cc : Cmp pg w .NotEq (.str r) (.str r) (.bool (r != r)) := cmp_ne_str.cmp
    refine cc A _ _ s₂ P (fun _ => True) _ _ (hA.of_le (by omega)) ((VR.scalar (v := V.str r) rfl).mpr ⟨t, rfl⟩) ((VR.scalar (v := V.str r) rfl).mpr ⟨u, rfl⟩) fun t' k' => wpAny_truthy_bool ?_
    rw [show (r != r) = false by simp, if_neg (by decide)]
    exact wpAny_execs_nil ((h q' hq').run A _ R hA hF (L'.stp (st₂.trans (.toks _)) hp₂) k)⟩
theorem ls_kept_let {pp pp' : Array Value → Prop} {e : Expr} {r : Str} {x : Str} {px pos : Pos} {rest : List Stmt} (ke : KeptAt w g₀ n env P H ρ own p pp pp' e r) (hp : pp ps) (hx : Storable env x)
    (h : ∀ q, pp' q → LS w g₀ n env P H (upd ρ x (.str r)) (dropO own x) p q rest Q) (hsw : swapsWith e (some (.Name x px)) pos.line env = pure false := by rfl) : LS w g₀ n env P H ρ own p ps (.Assign [.Name x px] e pos :: rest) Q :=
  ⟨fun A s R hA hF L k => wpAny_execs_cons (wpAny_Assign_Name (ke A _ _ s ps hp hA hF L fun t s' q' hq' L' => L'.store hx rfl ⟨t, rfl⟩ fun s'' L'' => (h q' hq').run A s'' R hA hF L'' k) hsw)⟩
end
end Mine
end

section
open PySem PySem.W PyProof.Rows PySem.Calls Builtin.Str
set_option autoImplicit false
set_option Elab.async false
set_option linter.all false
set_option maxRecDepth 100000
namespace Mine
theorem rows_small (p : List Int) : Small (rowsOf p).1 := by
  have h4 := fm (nxt p) (b := 4) (by decide)
  refine ⟨by unfold rowsOf; rw [draws_count]; omega, ?_⟩
  refine draws_mem (ok := fun r : List (Option Str) => r.length ≤ 8 ∧ ∀ t, some t ∈ r → t.length ≤ 64) (fun p => ?_) _ _
  have h6 := fm (nxt p) (b := 6) (by decide)
  refine ⟨by unfold rowOne; rw [draws_count]; omega, fun t ht => ?_⟩
  have := draws_mem (g := wordN) (ok := fun o : Option Str => ∀ t, o = some t → t.length ≤ 64) (fun p t e => by have := (wordN_ok p t e).len; omega) ((nxt p).fmod 6).toNat (rst p) (some t) ht
  exact this t rfl
noncomputable def psOne (q : Array Value) : Prop := q = #[] ∨ ∃ c', q = #[] ++ #[rawInt ((239 : Nat) : Int), rawInt ((21 : Nat) : Int), .ref c']
section
variable {w : World} {mg mb : Str → Option Value} {g₀ : Heap} (G : Gr w mg mb g₀)
include G
theorem kept_sub {n : Nat} {P : Option Addr} {p : List Int} {ρ : Str → Option V} {L : Addr} {H : Shared} {y v : Str} {Q : Fl → (Str → Option V) → Own → List Int → Array Value → Prop} (hr : ρ "row" = some .pool) (hw : ρ "words" = some (.str y)) (hx : ρ "part_x" = some (.str ("" : String))) (hv : ρ "new" = some (.str v))
    (h : ∀ q, psOne q → Q .next ρ [] p q) : LS w g₀ (n + 8) (envL w L) P H ρ [] p #[] (bd20 w) Q := by
  obtain ⟨fo, hfo⟩ := (d_sub G).at_
  refine ls_if_t (p₁ := p) ?_ ?_
  · exact PT.cast (pt_cmp (pe_name hx) pe_str cmp_eq_str.cmp) (beq_self_eq_true _)
  refine ls_kept_ne (pp := fun q => q = #[]) (pp' := psOne) ?_ rfl fun q hq => ls_nil (ls_nil (h q hq))
  rintro A E K s q rfl hA hF L k
  refine law_kept (lp := ⟨0, 0, 0, 0⟩) (n := n + 6) (vs := [.str ("" : String), .str v, .str y, .bool true]) G hA hF L rfl rfl rfl rfl rfl rfl rfl rfl (cap_ok (by kernel_rfl)) ⟨"part_x", by decide +kernel⟩ (fun _ _ _ _ _ => rfl) rfl rfl rfl (by decide +kernel) (gl_sub G) hfo
    (fun qual L' f cdv cl => pes_cons (pe_name ?_) (pes_cons (pe_name ?_) (pes_cons (pe_name ?_) (pes_cons pe_bool pes_nil)))) rfl (fun _ => rfl) (fun _ => ⟨_, _, rfl⟩) (.inr (fx_sub G (n := n + 3) p P)) fun t s' c' L' => k t s' _ (.inr ⟨c', rfl⟩) L'
  · exact (if_pos (by decide +kernel)).trans hx
  · exact (if_pos (by decide +kernel)).trans hv
  · exact (if_pos (by decide +kernel)).trans hw

theorem kept_chartr {n : Nat} {P : Option Addr} {p : List Int} {ρ : Str → Option V} {L : Addr} {H : Shared} {y : Str} {pt : List Int} {ps : Array Value} {Q : Fl → (Str → Option V) → Own → List Int → Array Value → Prop} (oky : WOk y) (hps : psOne ps) (hr : ρ "row" = some .pool) (hw : ρ "words" = some (.str y)) (ho : ρ "old" = some (.str abc)) (ht : ρ "target" = some (.str (tgt (tgIx pt))))
    (h : ∀ q, Q .next (upd ρ "told" (.str (toldOf pt y))) [] p q) : LS w g₀ (n + 8) (envL w L) P H ρ [] p ps (bd23 w) Q := by
  obtain ⟨fo, hfo⟩ := (d_chartr G).at_
  have ly := oky.len
  have h4 := tgIx_lt pt
  have spec : Fn pg w g₀ (n + 6) P 128 [.str abc, .str (tgt (tgIx pt)), .str y] p (.str (toldOf pt y)) p ∨ FnX w g₀ (n + 6) P 128 [.str abc, .str (tgt (tgIx pt)), .str y] p (toldOf pt y) := by
    unfold toldOf
    by_cases e : tgIx pt = 3
    · rw [if_pos e]
      exact .inr (fx_chartr G (n := n + 1) abc_plain (tgt_plain _ h4) (by rw [e]; exact tgt_gt) p P)
    · rw [if_neg e]
      exact .inl (f_chartr G (n := n + 1) abc_plain (tgt_plain _ h4) (tgt_le _ (by omega)) (by omega) p P)
  refine ls_kept_let (pp := psOne) (pp' := fun _ => True) ?_ hps (.inr ⟨rfl, _, rfl⟩) fun q _ => ls_nil (h q)
  rintro A E K s q hq hA hF L k
  refine law_kept (lp := ⟨0, 0, 0, 0⟩) (n := n + 6) G hA hF L rfl rfl rfl rfl rfl rfl ?_ rfl (cap_ok (by kernel_rfl)) ⟨"words", by decide +kernel⟩ (fun _ _ _ _ _ => rfl) rfl rfl rfl (by decide +kernel) (gl_chartr G) hfo
    (fun qual L' f cdv cl => pes_cons (pe_name ?_) (pes_cons (pe_name ?_) (pes_cons (pe_name ?_) pes_nil))) rfl (fun _ => rfl) (fun _ => ⟨_, _, rfl⟩) spec fun t s' c' L' => k t s' _ trivial L'
  · rcases hq with rfl | ⟨c', rfl⟩ <;> rfl
  · exact (if_pos (by decide +kernel)).trans ho
  · exact (if_pos (by decide +kernel)).trans ht
  · exact (if_pos (by decide +kernel)).trans hw

theorem law_C {n : Nat} {P : Option Addr} {p : List Int} {ρ : Str → Option V} {L : Addr} {H : Shared} {y : Str} {pt : List Int} {ps : Array Value} (oky : WOk y) (hp : p.length ≤ 160) (hr : ρ "row" = some .pool) (hw : ρ "words" = some (.str y)) (ho : ρ "old" = some (.str abc)) (ht : ρ "target" = some (.str (tgt (tgIx pt)))) (hd : ρ "told" = some (.str (toldOf pt y))) :
    LS w g₀ (n + 8) (envL w L) P H ρ [] p ps (bdC w) fun fl _ _ _ _ => fl = .ret (.bool true) := by
  refine ls_ws (law_12 G (n := n + 3) oky hp hr hw ho ht hd fun ρ1 r1 w1 => law_13 G (n := n + 3) oky hp r1 w1 fun ρ2 r2 w2 => law_14 G (n := n + 3) (Nat.le_trans (rst_len p) hp) r2 w2 fun ρ3 w3 n3 t3 => ?_)
  exact law_15 G (n := n + 3) (uniq_law (names_len _) (names_one _) dot1) (names_len _) w3 n3 t3 fun ρ4 w4 => law_16 G (n := n + 3) w4 fun _ => rfl

theorem law_rest {n : Nat} {P : Option Addr} {p : List Int} {ρ : Str → Option V} {L : Addr} {H : Shared} {x y v : Str} (okx : WOk x) (oky : WOk y) (okv : WOk v) (hp : p.length ≤ 160) (hr : ρ "row" = some .pool) (hw : ρ "words" = some (.str y)) (hx : ρ "part_x" = some (.str x)) (hv : ρ "new" = some (.str v)) :
    LS w g₀ (n + 8) (envL w L) P H ρ [] p #[] (bd20 w ++ (bdB w ++ (bd23 w ++ bdC w))) fun fl _ _ _ _ => fl = .ret (.bool true) := by
  have back : ∀ (ρ' : Str → Option V) (q : Array Value), psOne q → ρ' "row" = some .pool → ρ' "words" = some (.str y) → LS w g₀ (n + 8) (envL w L) P H ρ' [] p q (bdB w ++ (bd23 w ++ bdC w)) fun fl _ _ _ _ => fl = .ret (.bool true) := fun ρ' q hq r1 w1 =>
    ls_seq (ls_ws (law_11 G (n := n + 3) hp r1 w1 fun ρ2 r2 w2 o2 t2 => ls_seq (kept_chartr G oky hq r2 w2 o2 t2 fun q3 => law_C G oky (Nat.le_trans (rst_len p) hp) r2 w2 o2 t2 rfl)))
  refine ls_seq ?_
  rcases Nat.eq_zero_or_pos x.length with e | e
  · obtain rfl := empty_len.mp e
    exact kept_sub G hr hw hx hv fun q hq => back ρ q hq hr hw
  · exact ls_ws (law_10 G (n := n + 3) e okx oky okv hr hw hx hv fun ρ' r1 w1 => back ρ' _ (.inl rfl) r1 w1)

theorem law_LS {n : Nat} {P : Option Addr} {p : List Int} {ρ : Str → Option V} {L : Addr} {H : Shared} (hp : p.length ≤ 160) (hr : ρ "row" = some .pool) :
    LS w g₀ (n + 8) (envL w L) P H ρ [] p #[] ((bdL w).drop 1) fun fl _ _ _ _ => fl = .ret (.bool true) := by
  rw [show (bdL w).drop 1 = bdA w ++ (bd20 w ++ (bdB w ++ (bd23 w ++ bdC w))) by kernel_rfl]
  have l1 := rowsOf_pool p 160 hp
  have l2 := wordS_pool _ 160 l1
  have l3 := wordS_pool _ 160 l2
  have l4 := wordS_pool _ 160 l3
  have l5 := Nat.le_trans (rst_len _) (Nat.le_trans (rst_len _) l4)
  have l6 := wordS_pool _ 160 l5
  refine ls_seq (ls_ws (law_1 G (n := n + 3) hp hr fun ρ1 r1 q1 => law_2 G (n := n + 3) (rows_small p) l1 r1 q1 fun ρ2 r2 q2 s2 g2 => law_3 G (n := n + 3) (rows_small p) (Nat.le_trans (partOf_ok (rowsOf p).2).2 (by decide)) r2 q2 s2 g2 fun ρ3 a r3 q3 s3 => law_4 G (n := n + 3) (rows_small p) (Nat.le_trans (partOf_ok (rowsOf p).2).2 (by decide)) r3 q3 s3 (law_5 G (n := n + 3) l2 r3 fun ρ5 r5 w5 x5 => law_6 G (n := n + 3) (partOf_ok _).1 (wordS_ok _) (partOf_ok _).2 r5 w5 x5 fun ρ6 r6 w6 x6 =>
    law_7 G (n := n + 3) l4 (wordS_ok _) r6 w6 x6 fun ρ7 r7 w7 x7 f7 l7 i7 n7 => law_8 G (n := n + 3) (wordS_ok _) (wordS_ok _) (mark_in _) (mark_in _) r7 w7 x7 f7 l7 i7 n7 fun ρ8 r8 w8 x8 n8 => law_9 G (n := n + 3) (partOf_ok _).1 (wordS_ok _) w8 x8 (law_rest G (partOf_ok _).1 (wordS_ok _) (wordS_ok _) l6 r8 w8 x8 n8))))
end
end Mine
end

section
open PySem PySem.W PyProof.Rows PySem.Calls Builtin.Str
set_option autoImplicit false
set_option Elab.async false
set_option linter.all false
set_option maxRecDepth 100000
namespace Mine
/-! the law's start: its list of numbers becomes the pool -/
section
variable {w : World} {g₀ : Heap} {env : Env} {ρ : Str → Option V} {ns : List Int} {p : List Int} {H s : Shared} {ps : Array Value} {a : Addr}
noncomputable def ρP : Str → Option V := fun y => if y = "row" then some .pool else none
theorem vrs_ints {P P' : Option Addr} {ok ok' : Addr → Prop} {h : Heap} : ∀ {ns : List Int} {vs : List Value}, VRs P ok h (ns.map V.int) vs → VRs P' ok' h (ns.map V.int) vs := fun {ns vs} r => by
  induction ns generalizing vs with
  | nil => simpa only [List.map_nil, VRs] using r
  | cons n ns ih =>
    simp only [List.map_cons, VRs, VR] at r ⊢
    obtain ⟨v, r', e, h1, h2⟩ := r
    exact ⟨v, r', e, h1, ih h2⟩
theorem LSt.pool (L : LSt w g₀ env none H ρ [("row", a, .list (ns.map .int))] p ps s) : LSt w g₀ env (some a) H ρP [] ns ps s ∧ H.heap.get? a = none := by
  obtain ⟨vars, R⟩ := L.rep
  have hm : a ∈ priv env [(("row" : Str), a, Ow.list (ns.map V.int))] := .tail _ (List.mem_append_right _ (.head _))
  have h193 : (193 : Addr) ≠ a := fun q => L.ap (q ▸ hm)
  have ha := R.pf a hm
  have sub : ∀ b ∈ priv env [], b ∈ priv env [(("row" : Str), a, Ow.list (ns.map V.int))] ∧ b ≠ a := fun b hb => by
    have nod := R.nod
    unfold priv at hb nod ⊢
    rw [List.map_nil, List.append_nil] at hb
    refine ⟨?_, fun q => ?_⟩
    · rcases List.mem_cons.mp hb with rfl | hb
      · exact .head _
      · exact .tail _ (List.mem_append_left _ hb)
    · subst q
      rcases List.mem_cons.mp hb with rfl | hb
      · rw [List.nodup_cons] at nod
        exact nod.1 (List.mem_append_right _ (.head _))
      · rw [List.nodup_cons] at nod
        exact (List.nodup_append.mp nod.2).2.2 _ hb _ (.head _) rfl
  obtain ⟨e1, vs, hl, rs⟩ := R.ow _ (.head _)
  refine ⟨⟨⟨vars, ?_⟩, fun q => L.ap (sub _ q).1, fun q => h193 (Option.some.inj q), L.tab, L.nH, L.g5⟩, ha.2.1⟩
  exact {
    hk := R.hk
    loc := R.loc
    cel := R.cel
    celn := R.celn
    nod := by
      have nod := R.nod
      unfold priv at nod ⊢
      rw [List.map_nil, List.append_nil]
      rw [List.nodup_cons] at nod
      exact List.nodup_cons.mpr ⟨fun q => nod.1 (List.mem_append_left _ q), (List.nodup_append.mp nod.2).1⟩
    pf := fun b hb => ⟨fun q => (sub b hb).2 (Option.some.inj q), (R.pf b (sub b hb).1).2⟩
    ow := fun x hx => nomatch hx
    vr := fun y v e => by
      unfold ρP at e
      split at e
      · rename_i hy
        cases e
        subst hy
        exact ⟨.ref a, e1, by simp only [VR]; exact ⟨a, rfl, rfl⟩⟩
      · cases e
    kd := R.kd
    keep := fun b o _ e => R.keep b o (fun q => nomatch q) e
    same := R.same
    base := R.base
    pbase := fun b q => by
      cases q
      cases e : g₀.get? a with
      | none => rfl
      | some o => have := R.base _ _ e; rw [ha.2.1] at this; cases this
    pool := fun b q => by
      cases q
      exact ⟨vs, hl, vrs_ints rs⟩
    exl := fun b hb => ⟨fun q => h193 (by have : b = 193 := hb; rw [← this]; exact Option.some.inj q), (R.exl b hb).2⟩ }
end
theorem ints_vrs {P : Option Addr} {ok : Addr → Prop} {h : Heap} : ∀ {vs : List Value} {ns : List Int}, IntsAre vs ns → VRs P ok h (ns.map V.int) vs
  | _, _, .nil => by simp only [List.map_nil, VRs]
  | _, _, .cons n t r => by
    simp only [List.map_cons, VRs, VR]
    exact ⟨_, _, rfl, ⟨t, rfl⟩, ints_vrs r⟩
theorem rowOf_len (l : List Int) : (rowOf l).length ≤ 160 := by
  unfold rowOf; rw [List.length_reverse, List.length_take]; omega
theorem caller_ok : OkA 9 callerA := ⟨rfl, by decide, by decide⟩
section
variable {w : World} {mg mb : Str → Option Value}
/-- the law is called -/
theorem law_call {s : Shared} {l : Addr} {vs : List Value} {ns : List Int} {R : Result → Shared → Prop} (G : Gr w mg mb (hideAll s.heap [193])) (T0 : TabK s.heap #[]) (hl : s.heap.PlainList l vs.toArray) (hI : IntsAre vs ns) (hn : ns.length ≤ 63)
    (hR : ∀ s', (∀ b o, b ≠ 193 → s.heap.get? b = some o → s'.heap.get? b = some o) → (∃ ps, s'.heap.get? 193 = some (tabO ps)) → s' = { s with heap := s'.heap, toks := s'.toks } → R (.ok (.ret (.bool true))) s') :
    codeAny (model pg w) callerA (.call (.ref 196) ⟨[.ref l], []⟩) R s := by
  have t3 : s.heap.get? 193 = some (tabO #[]) := T0.tab.2
  have hl3 : l ≠ 193 := fun q => by
    obtain ⟨n, e⟩ := hl
    rw [q, t3] at e; cases e
  have base : ∀ b o, (hideAll s.heap [193]).get? b = some o → s.heap.get? b = some o := fun b o e => of_hideAll _ e
  have g5 : (hideAll s.heap [193]).get? 195 ≠ none := by
    obtain ⟨o, vs', _, _, _, _, _, _, _, _, h5, _⟩ := T0.code
    rw [hideAll_get [193] h5 (by decide)]; exact fun q => nomatch q
  have S0 : St0 (hideAll s.heap [193]) none [] (fun b => b ≠ 193) s.heap := ⟨base, (fun a q => by cases q), (fun a _ q => by cases q), (fun a q => by cases q)⟩
  refine enter_def (n := 8) (prog := pg) (w := w) (p := []) (P := none) (ok := fun b => b ≠ 193) (ρ := argsρ ["script"] [.list (ns.map .int)]) (d_law G) rfl caller_ok S0 (fun y v e => ?_) fun s₁ R1 _ => ?_
  · unfold argsρ at e
    split at e
    · rename_i hy
      cases e
      refine ⟨.ref l, by unfold argsv; rw [if_pos hy], ?_⟩
      simp only [VR]
      exact ⟨l, vs, rfl, hl3, hl, ints_vrs hI⟩
    · cases e
  · have hfr : (callerA.deeper (callEnvC (fdAt (KK w.params) 196) s.heap.objs.size 196)).frames = some [callEnvC (fdAt (KK w.params) 196) s.heap.objs.size 196] := rfl
    have hA : OkA 8 (callerA.deeper (callEnvC (fdAt (KK w.params) 196) s.heap.objs.size 196)) := caller_ok.deeper
    have L1 : LSt w (hideAll s.heap [193]) (callEnvC (fdAt (KK w.params) 196) s.heap.objs.size 196) none (hideS s [193]) (argsρ ["script"] [.list (ns.map .int)]) [] [] #[] s₁ := by
      have keep : ∀ b o, s.heap.get? b = some o → s₁.heap.get? b = some o := fun b o e => R1.keep b o (fun q => nomatch q) e
      have n3 : (193 : Addr) ∉ priv (callEnvC (fdAt (KK w.params) 196) s.heap.objs.size 196) [] := fun q => by
        have := (R1.pf _ q).2.1
        rw [t3] at this; cases this
      refine ⟨⟨_, { R1 with pf := fun a ha => ⟨(R1.pf a ha).1, ?_, (R1.pf a ha).2.2⟩, vr := fun y v e => ?_, ow := fun x hx => (nomatch hx), keep := fun b o hb e => R1.keep b o hb (of_hideAll _ e), same := R1.same, base := fun b o e => e, exl := fun a ha => ⟨(fun q => by cases q), ?_⟩ }⟩, n3, (fun q => by cases q), T0.at' (fun o q => keep _ _ q) fun o q => keep _ _ q, hideAll_none [193] (.head _), g5⟩
      · cases e : (hideS s [193]).heap.get? a with
        | none => rfl
        | some o => have := of_hideAll _ e; rw [(R1.pf a ha).2.1] at this; cases this
      · unfold argsρ at e
        split at e
        · rename_i hy
          cases e
          refine ⟨.ref l, by unfold argsv; rw [if_pos hy], ?_⟩
          simp only [VR]
          obtain ⟨nn, el⟩ := hl
          refine ⟨l, vs, rfl, ⟨(fun q => by cases q), fun q => ?_, hl3⟩, ⟨nn, keep _ _ el⟩, ints_vrs hI⟩
          have := (R1.pf _ q).2.1
          rw [el] at this; cases this
        · cases e
      · have : a = 193 := ha
        rw [this, keep _ _ t3]; exact fun q => nomatch q
    obtain ⟨fr, hfrw⟩ := (d_row G).at_
    rw [show bdAt (KK w.params) 196 = (bdL w).take 1 ++ (bdL w).drop 1 from (List.take_append_drop 1 (bdL w)).symm]
    have first : LS w (hideAll s.heap [193]) 8 (callEnvC (fdAt (KK w.params) 196) s.heap.objs.size 196) none (hideS s [193]) (argsρ ["script"] [.list (ns.map .int)]) [] [] #[] ((bdL w).take 1) fun fl _ own _ ps => fl = .next ∧ ps = #[] ∧ ∃ a, own = ([(("row" : Str), a, Ow.list ((rowOf ns).map V.int))] : Own) :=
      ls_ws (ws_own (pe_call (gl_row G) hfrw (pes_cons (pe_name rfl) pes_nil) (f_row G (n := 4) (by omega) [] none)) (.inr ⟨rfl, _, rfl⟩) (intsSc _) fun a => ws_nil ⟨rfl, rfl, a, rfl⟩)
    refine wpAny_mono (execs_append (Q := fun fl s' => R (.ok (.ret (match fl with | .ret v => v | _ => .none))) s') (E := fun _ _ => False) (first.run _ _ _ hA hfr L1 fun fl flow ρ' own' p' ps' s' hq hf L2 => ?_)) (fun _ _ x => x) fun _ _ f => f.elim
    obtain ⟨rfl, rfl, a, rfl⟩ := hq
    cases hf
    obtain ⟨L3, hHa⟩ := L2.pool
    refine (law_LS G (n := 0) (rowOf_len ns) rfl).run _ _ _ hA hfr L3 fun fl flow ρ2 own2 p2 ps2 s2 hq2 hf2 L4 => ?_
    subst hq2
    obtain ⟨val, rfl, rv⟩ := hf2
    simp only [VR] at rv
    subst rv
    obtain ⟨vars, R4⟩ := L4.rep
    refine hR s2 (fun b o hb e => R4.keep b o (fun q => ?_) (hideAll_get [193] e (by simpa using hb))) ⟨ps2, L4.tab.tab.2⟩ R4.same
    have := hideAll_get [193] e (by simpa using hb)
    rw [Option.some.inj q] at this
    rw [show (hideAll s.heap [193]).get? a = none from hHa] at this; cases this
end
end Mine
end

section
open PySem PySem.W PyProof.Rows PySem.Calls Builtin.Str
set_option autoImplicit false
set_option Elab.async false
set_option linter.all false
set_option maxRecDepth 100000
namespace Mine
theorem hide3 {h : Heap} {b : Addr} {o : Obj} (e : h.get? b = some o) (hb : b ≠ 193) : (hideAll h [193]).get? b = some o := hideAll_get [193] e (by simpa using hb)
theorem hide_ns {h : Heap} {b : Addr} {m : Str → Option Value} (x : h.Ns b m) (hb : b ≠ 193) : (hideAll h [193]).Ns b m :=
  let ⟨o, es, ep, e, r⟩ := x; ⟨o, es, ep, hide3 e hb, r⟩
theorem no193 (P : Params) : ∀ a o, (KK P).lookup a = some o → a ≠ 193 := fun a o e q => by
  have : (KK P).lookup 193 = none := by kernel_rfl
  rw [q, this] at e; cases e
theorem tabK0 {w : World} {h : Heap} (Y : gHook.says w h) : TabK h #[] := by
  have X : (KK w.params).In h := Y.1
  have h3 : h.get? 193 = some (tabO #[]) := Y.2
  have h5 := X 195 _ (show (KK w.params).lookup 195 = some (codY "law" "law" 451 454 200 1 195) by kernel_rfl)
  exact ⟨⟨_, _, _, _, _, _, _, _, _, _, h5, rfl, rfl, rfl, rfl, rfl, rfl, h3, rfl, trivial, by decide⟩, ⟨⟨_, _, h5, rfl, rfl, rfl⟩, h3⟩⟩
theorem ground0 {w : World} {p : Program} {loose : List Str} {mean : ExcName → Option Value} {mg mb : Str → Option Value} {h : Heap} (Y : gHook.says w h) (T : Top p loose mean mg mb h) : Gr w mg mb (hideAll h [193]) := by
  have X : (KK w.params).In h := Y.1
  have h3 : h.get? 193 = some (tabO #[]) := Y.2
  refine ⟨fun a o e => hide3 (X a o e) (no193 _ a o e), hide_ns T.g (by decide), hide_ns T.b (by decide), ?_, T.builtins, ?_, ?_⟩
  · obtain ⟨mc, e, r⟩ := T.nolimit
    exact ⟨mc, hide_ns e (by decide), r⟩
  · obtain ⟨bm, ob, a1, a2, a3, a4, a5, a6⟩ := T.bmain
    have b3 : bm ≠ 193 := fun q => by
      rw [q, h3] at a3; cases a3; cases a4
    refine ⟨bm, ob, a1, a2, fun q => ?_, b3, hide3 a3 b3, a4, a5, a6⟩
    obtain ⟨o, es, ep, e, hd, _⟩ := T.g
    rw [q, e] at a3; cases a3; rw [hd] at a6; cases a6
  · obtain ⟨mc, ⟨o, es, ep, e, _⟩, _⟩ := T.nolimit
    rw [hide3 e (by decide)]; exact fun q => nomatch q
theorem plain_of {P : Params} {h : Heap} {l : Addr} {vs : List Value} {ns : List Int} (W : Well P h (.ref l) (ofPy (.list (ns.map .int)))) (hL : h.IsList l vs.toArray) : h.PlainList l vs.toArray := by
  have e : ofPy (.list (ns.map .int)) = .list (ofPys (ns.map .int)) := rfl
  rw [e] at W
  generalize ofPys (ns.map .int) = ds at W
  cases W with
  | list hg _ =>
    obtain ⟨o, ho, _, n, hd⟩ := hL
    rw [hg] at ho
    cases ho
    cases hd
    exact ⟨_, hg⟩
theorem good_true {c : ClaimW} {cl : Str → Option Addr} {mean : ExcName → Option Value} {args : List WData} {s₁ s' : Shared} (h3 : s₁.heap.TableAt 195 193 #[]) (hg : s₁.gens = #[]) (hr : ∀ cls, c.raises args cls = false) (hp : c.post args (.bool true) args = true)
    (k : ∀ b o, b ≠ 193 → s₁.heap.get? b = some o → s'.heap.get? b = some o) (kp : ∃ ps, s'.heap.get? 193 = some (tabO ps)) (hs : s' = { s₁ with heap := s'.heap, toks := s'.toks }) : GoodWG c cl mean args s₁ (.ok (.ret (.bool true))) s' := by
  obtain ⟨ps, hps⟩ := kp
  refine ⟨.inl ⟨_, _, [], rfl, hr, .bool true, hp, fun _ => ⟨List.nodup_nil, fun a ha => nomatch ha⟩⟩, ⟨fun b o e => ?_, fun b o e => ?_⟩, by rw [hs], .of_eq (by rw [hs]; exact hg)⟩
  · by_cases q : b = 193
    · subst q
      rw [h3.2] at e; cases e
      exact .inr (.inl ⟨h3.isCodeTable, rfl, #[], ps, rfl, by rw [Array.empty_append]; exact hps⟩)
    · exact .inl (k b o q e)
  · by_cases q : b = 193
    · subst q; exact ⟨_, hps⟩
    · exact ⟨o, k b o q e⟩
theorem law_end {w : World} {p : Program} {loose : List Str} {mean mean' : ExcName → Option Value} {mg mb : Str → Option Value} {s₁ : Shared} {fa l : Addr} {vs : List Value} {ns : List Int} {c : ClaimW} {cl : Str → Option Addr} {args : List WData}
    (Y : gHook.says w s₁.heap) (T : Top p loose mean mg mb s₁.heap) (hmg : mg ("law" : Str) = some (.ref fa)) (W : Well w.params s₁.heap (.ref l) (ofPy (.list (ns.map .int)))) (hL : s₁.heap.IsList l vs.toArray) (hI : IntsAre vs ns) (hn : ¬ ((63 : Nat) : Int) < (ns.length : Int)) (hg : s₁.gens = #[])
    (hr : ∀ cls, c.raises args cls = false) (hp : c.post args (.bool true) args = true) : codeAny (model pg w) callerA (.call (.ref fa) ⟨[.ref l], []⟩) (GoodWG c cl mean' args s₁) s₁ := by
  have G := ground0 Y T
  have e := mg_of (n := "law") G.X G.T.g (show nsIn (KK w.params) mainGlobals "law" = some (some (.ref 196)) by kernel_rfl)
  rw [e] at hmg
  cases hmg
  exact law_call G (tabK0 Y) (plain_of W hL) hI (by omega) fun s' k kp hs => good_true (tabK0 Y).tab hg hr hp k kp hs
theorem post_true (a : WData) : PySem.Challenge.rw_nz0473_01.row.claim.post [a] (.bool true) [a] = true := by
  first | rfl | with_unfolding_all rfl | kernel_rfl
end Mine
end

open PySem PySem.W PyProof.Rows
set_option Elab.async false
set_option maxRecDepth 100000
set_option maxHeartbeats 8000000
theorem PySem.Challenge.cw_nz0473_01_holds : PySem.Challenge.rw_nz0473_01.Holds := by
  w_on
  o_law
  o_head Mine.gHook
  (case hw => w_witness2)
  intro w s₀ s₁ mg mb G Y fa o pm cd doc dV kV ho hd hcd hD hmg hg args vals as hpre hlay hrd hwl hlo
  refine Ground.open G ?_
  intro T B D TE TW
  clear ho hd hcd hD B D TE TW
  wrow_args hpre hlay hrd hwl hlo
  first | refine callC_kw (enter_call ?_) | refine enter_call ?_
  rename_i hI _ hcond _
  exact Mine.law_end Y T hmg (by assumption) (by assumption) hI hcond hg (fun _ => rfl) (Mine.post_true _)
