import PyProof.Rows.All
import Wide.All
import OpenK.AllK
import Wide.FinOn
import Lean
import PySem.Challenge.RW_qz0111_01
open PySem PySem.W PyProof.Rows
set_option maxRecDepth 100000
set_option Elab.async false
set_option linter.all false
set_option maxHeartbeats 4000000
namespace Mine

abbrev P : Program := PySem.Challenge.pw_qz0111_01

inductive V where
  | none | bool (b : Bool) | int (i : Int) | str (l : List Nat) | tup (l : List V) | fn (x : Str) | obj (n : Nat)

inductive O where
  | list (fz : Bool) (l : List V)
  | dict (fz : Bool) (d : List (Str × V))

structure Cx where
  w : World
  hb : Heap
  mg : Str → Option Value
  mb : Str → Option Value
  g0 : List Addr

mutual
def VR (c : Cx) (ρ : List Addr) (h : Heap) : V → Value → Prop
  | .none, v => v = .none
  | .bool b, v => v = .bool b
  | .int i, v => ∃ t, v = .int i t
  | .str l, v => l.length ≤ sizeLine ∧ ∃ t, v = .str ⟨l.toArray⟩ t
  | .tup l, v => ∃ a vs, v = .ref a ∧ IsTup h a (List.toArray vs) ∧ VRs c ρ h l vs
  | .fn x, v => ∃ a, v = .ref a ∧ c.mg x = some (.ref a)
  | .obj n, v => ∃ a, v = .ref a ∧ ρ[n]? = some a
def VRs (c : Cx) (ρ : List Addr) (h : Heap) : List V → List Value → Prop
  | [], vs => vs = []
  | V :: l, vs => ∃ v r, vs = v :: r ∧ VR c ρ h V v ∧ VRs c ρ h l r
end

/-- an object of the store at its address -/
def OAt (c : Cx) (ρ : List Addr) (h : Heap) (a : Addr) : O → Prop
  | .list fz l => (fz = false → c.hb.get? a = none) ∧ ∃ o n vs, h.get? a = some o ∧ o.cls = .type "list" ∧ o.dict = none ∧ o.data = .seq (List.toArray vs) n ∧ VRs c ρ h l vs
  | .dict fz d => (fz = false → c.hb.get? a = none) ∧ ∃ kvs : List (Str × Value), h.DictOf (strKind P c.w) a kvs ∧ kvs.map (·.1) = d.map (·.1) ∧ VRs c ρ h (d.map (·.2)) (kvs.map (·.2))

def SAt (c : Cx) (ρ : List Addr) (σ : List O) (h : Heap) : Prop :=
  ρ.length = σ.length ∧ ρ.Nodup ∧ ∀ (i : Nat) (a : Addr) (o : O), ρ[i]? = some a → σ[i]? = some o → OAt c ρ h a o

structure Glo (c : Cx) (ρ : List Addr) (σ : List O) (h : Heap) : Prop where
  base : ∀ b o, c.hb.get? b = some o → h.get? b = some o
  pre : c.g0 <+: ρ
  st : SAt c ρ σ h

abbrev Loc := Str → Option V

/-- where a name's value stands -/
def Held (sc : Scope) (en : Env) (ρ : List Addr) (h : Heap) (m : Str → Option Value) (x : Str) (v : Value) : Prop :=
  (sc.names.lookup x = some .local ∧ m x = some v) ∨ (sc.names.lookup x = some .cell ∧ ∃ a, en.cells.lookup x = some a ∧ h.IsCell a (some v) ∧ a ∉ ρ ∧ a ≠ en.locals)

structure Inv (c : Cx) (sc : Scope) (en : Env) (ρ : List Addr) (σ : List O) (l : Loc) (h : Heap) : Prop where
  glo : Glo c ρ σ h
  locs : ∃ m, h.Ns en.locals m ∧ ∀ x V, l x = some V → ∃ v, Held sc en ρ h m x v ∧ VR c ρ h V v
  out : en.locals ∉ ρ
  low : c.hb.get? en.locals = none
  es : en.scope = sc
  gl : en.globals = mainGlobals
  bl : en.builtins = builtinsNs

/-- one step of the heap: all but the store's own objects (and S) stands -/
structure Stp (S : Addr → Prop) (ρ ρ' : List Addr) (h h' : Heap) : Prop where
  ext : ∀ b o, h.get? b = some o → ¬ S b → b ∉ ρ → h'.get? b = some o
  pre : ρ <+: ρ'
  new : ∀ a ∈ ρ', a ∈ ρ ∨ h.get? a = none
  fre : ∀ a, h'.get? a = none → h.get? a = none

abbrev No : Addr → Prop := fun _ => False
abbrev At (L : Addr) : Addr → Prop := fun b => b = L

theorem OAt.noTup {c : Cx} {ρ : List Addr} {h : Heap} {a : Addr} {o : O} {vs : Array Value} (x : OAt c ρ h a o) (t : IsTup h a vs) : False := by
  obtain ⟨ot, ht, hc, _⟩ := t
  cases o with
  | list fz l =>
    obtain ⟨_, o', n, vs, h1, h2, _⟩ := x
    rw [ht] at h1; cases h1
    rw [hc] at h2; exact absurd (Value.type.inj h2) (by decide)
  | dict fz d =>
    obtain ⟨_, kvs, hd, _⟩ := x
    obtain ⟨o', es, ep, h1, h2, _⟩ := hd
    rw [ht] at h1; cases h1
    have := h2.1
    rw [hc] at this; exact absurd (Value.type.inj this) (by decide)

theorem SAt.noTup {c : Cx} {ρ : List Addr} {σ : List O} {h : Heap} {a : Addr} {vs : Array Value} (x : SAt c ρ σ h) (t : IsTup h a vs) : a ∉ ρ := by
  intro hm
  obtain ⟨i, hi, e⟩ := List.getElem_of_mem hm
  have hs : i < σ.length := x.1 ▸ hi
  exact (x.2.2 i a σ[i] (by simp [hi, e]) (by simp [hs])).noTup t

theorem Ns.noTup {h : Heap} {L : Addr} {m : Str → Option Value} {vs : Array Value} (n : h.Ns L m) (t : IsTup h L vs) : False := by
  obtain ⟨o, es, ep, h1, h2, _⟩ := n
  obtain ⟨o', h1', _, n', h2'⟩ := t
  rw [h1] at h1'; cases h1'
  rw [h2] at h2'; cases h2'

theorem pre_get {ρ ρ' : List Addr} (p : ρ <+: ρ') {n : Nat} {a : Addr} (e : ρ[n]? = some a) : ρ'[n]? = some a := by
  obtain ⟨t, rfl⟩ := p
  have := (List.getElem?_eq_some_iff.mp e).1
  rw [List.getElem?_append_left this]; exact e

mutual
theorem VR.mon {c : Cx} {S : Addr → Prop} {ρ ρ' : List Addr} {σ : List O} {h h' : Heap} (s : SAt c ρ σ h) (hS : ∀ a vs, S a → ¬ IsTup h a vs) (ke : ∀ b o, h.get? b = some o → ¬ S b → b ∉ ρ → h'.get? b = some o) (kp : ρ <+: ρ') : ∀ (x : V) (v : Value), VR c ρ h x v → VR c ρ' h' x v
  | .none, v, e => by unfold VR at e ⊢; exact e
  | .bool b, v, e => by unfold VR at e ⊢; exact e
  | .int i, v, e => by unfold VR at e ⊢; exact e
  | .str l, v, e => by unfold VR at e ⊢; exact e
  | .fn x, v, e => by unfold VR at e ⊢; exact e
  | .obj n, v, e => by
    unfold VR at e ⊢
    obtain ⟨a, e1, e2⟩ := e
    exact ⟨a, e1, pre_get kp e2⟩
  | .tup l, v, e => by
    unfold VR at e ⊢
    obtain ⟨a, vs, e1, t, r⟩ := e
    have hn := s.noTup t
    have hn2 : ¬ S a := fun q => hS a _ q t
    obtain ⟨o, ho, hr⟩ := t
    exact ⟨a, vs, e1, ⟨o, ke a o ho hn2 hn, hr⟩, VRs.mon s hS ke kp l vs r⟩
theorem VRs.mon {c : Cx} {S : Addr → Prop} {ρ ρ' : List Addr} {σ : List O} {h h' : Heap} (s : SAt c ρ σ h) (hS : ∀ a vs, S a → ¬ IsTup h a vs) (ke : ∀ b o, h.get? b = some o → ¬ S b → b ∉ ρ → h'.get? b = some o) (kp : ρ <+: ρ') : ∀ (x : List V) (v : List Value), VRs c ρ h x v → VRs c ρ' h' x v
  | [], vs, e => by unfold VRs at e ⊢; exact e
  | x :: l, vs, e => by
    unfold VRs at e ⊢
    obtain ⟨v, r, e1, e2, e3⟩ := e
    exact ⟨v, r, e1, VR.mon s hS ke kp x v e2, VRs.mon s hS ke kp l r e3⟩
end
theorem VR.mono {c : Cx} {S : Addr → Prop} {ρ ρ' : List Addr} {σ : List O} {h h' : Heap} (s : SAt c ρ σ h) (hS : ∀ a vs, S a → ¬ IsTup h a vs) (k : Stp S ρ ρ' h h') (x : V) (v : Value) (e : VR c ρ h x v) : VR c ρ' h' x v := VR.mon s hS k.ext k.pre x v e
theorem VRs.mono {c : Cx} {S : Addr → Prop} {ρ ρ' : List Addr} {σ : List O} {h h' : Heap} (s : SAt c ρ σ h) (hS : ∀ a vs, S a → ¬ IsTup h a vs) (k : Stp S ρ ρ' h h') (x : List V) (v : List Value) (e : VRs c ρ h x v) : VRs c ρ' h' x v := VRs.mon s hS k.ext k.pre x v e

theorem noS {h : Heap} : ∀ a vs, No a → ¬ IsTup h a vs := fun _ _ x => x.elim
theorem atS {h : Heap} {L : Addr} {m : Str → Option Value} (n : h.Ns L m) : ∀ a vs, At L a → ¬ IsTup h a vs := fun a vs e t => by
  have e : a = L := e
  subst e; exact Ns.noTup n t

theorem Stp.refl (S : Addr → Prop) (ρ : List Addr) (h : Heap) : Stp S ρ ρ h h := ⟨fun _ _ e _ _ => e, List.prefix_refl _, fun _ m => .inl m, fun _ e => e⟩
theorem Stp.trans {S : Addr → Prop} {ρ ρ₁ ρ₂ : List Addr} {h h₁ h₂ : Heap} (x : Stp S ρ ρ₁ h h₁) (y : Stp S ρ₁ ρ₂ h₁ h₂) : Stp S ρ ρ₂ h h₂ :=
  ⟨fun b o e n1 n2 => y.ext b o (x.ext b o e n1 n2) n1 (fun m => (x.new b m).elim n2 fun q => by rw [q] at e; cases e),
    x.pre.trans y.pre, fun a m => (y.new a m).elim (fun m => x.new a m) fun q => .inr (x.fre a q), fun a q => x.fre a (y.fre a q)⟩
theorem Stp.weak {S : Addr → Prop} {ρ ρ' : List Addr} {h h' : Heap} (x : Stp No ρ ρ' h h') : Stp S ρ ρ' h h' := ⟨fun b o e _ n2 => x.ext b o e id n2, x.pre, x.new, x.fre⟩
theorem Stp.keep {S : Addr → Prop} {ρ : List Addr} {h h' : Heap} (k : ∀ b o, h.get? b = some o → h'.get? b = some o) : Stp S ρ ρ h h' :=
  ⟨fun b o e _ _ => k b o e, List.prefix_refl _, fun _ m => .inl m, fun a q => by
    cases e : h.get? a with
    | none => rfl
    | some o => rw [k a o e] at q; cases q⟩

theorem Held.mono {sc : Scope} {en : Env} {S : Addr → Prop} {ρ ρ' : List Addr} {h h' : Heap} {m : Str → Option Value} (hS : ∀ a, S a → a = en.locals) (k : Stp S ρ ρ' h h') {x : Str} {v : Value} (e : Held sc en ρ h m x v) : Held sc en ρ' h' m x v := by
  rcases e with e | ⟨e, a, e1, ⟨o, e2, e3⟩, e4, e5⟩
  · exact .inl e
  · refine .inr ⟨e, a, e1, ⟨o, k.ext a o e2 (fun q => e5 (hS a q)) e4, e3⟩, fun q => ?_, e5⟩
    rcases k.new a q with q | q
    · exact e4 q
    · rw [e2] at q; cases q

structure Room (A : Around) (d : Nat) : Prop where
  depth : A.depth + d < 900
  units : A.units + 12 * d + 100 < cLine
  hand : A.handled = none
theorem Room.in1 {A : Around} {d : Nat} (r : Room A (d + 1)) : Room A.in1 d := ⟨by have := r.depth; simp only [Around.in1_depth]; omega, by have := r.units; simp only [Around.in1_units]; omega, r.hand⟩
theorem Room.deeper {A : Around} {d : Nat} {env : Env} (r : Room A (d + 1)) : Room (A.deeper env) d := ⟨by have := r.depth; show A.depth + 1 + d < 900; omega, by have := r.units; show A.units + 3 + 12 * d + 100 < cLine; omega, r.hand⟩
theorem Room.le {A : Around} {d e : Nat} (r : Room A d) (h : e ≤ d) : Room A e := ⟨by have := r.depth; omega, by have := r.units; omega, r.hand⟩

def EV (c : Cx) (sc : Scope) (d : Nat) (e : Expr) (l : Loc) (σ : List O) (R : V → List O → Prop) : Prop :=
  ∀ ⦃en : Env⦄ ⦃A : Around⦄ ⦃s : Shared⦄ ⦃ρ : List Addr⦄ ⦃Q : Value → Shared → Prop⦄ ⦃E : Value → Shared → Prop⦄,
    Room A d → Inv c sc en ρ σ l s.heap →
    (∀ x v h' tk ρ' σ', R x σ' → Inv c sc en ρ' σ' l h' → Stp No ρ ρ' s.heap h' → VR c ρ' h' x v → Q v { s with heap := h', toks := tk }) →
    wpAny (model P c.w) A (eval e en) Q E s

def ET (c : Cx) (sc : Scope) (d : Nat) (e : Expr) (l : Loc) (σ : List O) (R : Bool → List O → Prop) : Prop :=
  ∀ ⦃en : Env⦄ ⦃A : Around⦄ ⦃s : Shared⦄ ⦃ρ : List Addr⦄ ⦃Q : Bool → Shared → Prop⦄ ⦃E : Value → Shared → Prop⦄,
    Room A d → Inv c sc en ρ σ l s.heap →
    (∀ b h' tk ρ' σ', R b σ' → Inv c sc en ρ' σ' l h' → Stp No ρ ρ' s.heap h' → Q b { s with heap := h', toks := tk }) →
    wpAny (model P c.w) A (isTrue e en (eval e en)) Q E s

inductive Out where
  | next | brk | cont | ret (x : V)
def FR (c : Cx) (ρ : List Addr) (h : Heap) : Out → Flow → Prop
  | .next, f => f = .next
  | .brk, f => f = .brk
  | .cont, f => f = .cont
  | .ret x, f => ∃ v, f = .ret v ∧ VR c ρ h x v

def EX (c : Cx) (sc : Scope) (d : Nat) (ss : List Stmt) (l : Loc) (σ : List O) (R : Out → Loc → List O → Prop) : Prop :=
  ∀ ⦃en : Env⦄ ⦃A : Around⦄ ⦃s : Shared⦄ ⦃ρ : List Addr⦄ ⦃Q : Flow → Shared → Prop⦄ ⦃E : Value → Shared → Prop⦄,
    Room A d → Inv c sc en ρ σ l s.heap →
    (∀ o f h' tk ρ' l' σ', R o l' σ' → Inv c sc en ρ' σ' l' h' → Stp (At en.locals) ρ ρ' s.heap h' → FR c ρ' h' o f → Q f { s with heap := h', toks := tk }) →
    wpAny (model P c.w) A (execs ss en) Q E s

/-- what a statement hands on to those behind it -/
def Seq (F : Loc → List O → Prop) (R : Out → Loc → List O → Prop) : Out → Loc → List O → Prop
  | .next, l, s => F l s
  | .brk, l, s => R .brk l s
  | .cont, l, s => R .cont l s
  | .ret x, l, s => R (.ret x) l s
/-- what a loop's body hands on -/
def Lp (J : Loc → List O → Prop) (R : Out → Loc → List O → Prop) : Out → Loc → List O → Prop
  | .next, l, s => J l s
  | .cont, l, s => J l s
  | .brk, l, s => R .next l s
  | .ret y, l, s => R (.ret y) l s
/-- what a def's body hands on -/
def Fin (R : V → List O → Prop) : Out → Loc → List O → Prop
  | .next, _, s => R .none s
  | .brk, _, _ => False
  | .cont, _, _ => False
  | .ret x, _, s => R x s
theorem seq_n {F : Loc → List O → Prop} {R : Out → Loc → List O → Prop} {l : Loc} {s : List O} (h : F l s) : Seq F R .next l s := h
theorem seq_b {F : Loc → List O → Prop} {R : Out → Loc → List O → Prop} {l : Loc} {s : List O} (h : R .brk l s) : Seq F R .brk l s := h
theorem seq_c {F : Loc → List O → Prop} {R : Out → Loc → List O → Prop} {l : Loc} {s : List O} (h : R .cont l s) : Seq F R .cont l s := h
theorem seq_r {F : Loc → List O → Prop} {R : Out → Loc → List O → Prop} {l : Loc} {s : List O} {x : V} (h : R (.ret x) l s) : Seq F R (.ret x) l s := h
theorem lp_n {J : Loc → List O → Prop} {R : Out → Loc → List O → Prop} {l : Loc} {s : List O} (h : J l s) : Lp J R .next l s := h
theorem lp_c {J : Loc → List O → Prop} {R : Out → Loc → List O → Prop} {l : Loc} {s : List O} (h : J l s) : Lp J R .cont l s := h
theorem lp_b {J : Loc → List O → Prop} {R : Out → Loc → List O → Prop} {l : Loc} {s : List O} (h : R .next l s) : Lp J R .brk l s := h
theorem lp_r {J : Loc → List O → Prop} {R : Out → Loc → List O → Prop} {l : Loc} {s : List O} {x : V} (h : R (.ret x) l s) : Lp J R (.ret x) l s := h
theorem fin_n {R : V → List O → Prop} {l : Loc} {s : List O} (h : R .none s) : Fin R .next l s := h
theorem fin_r {R : V → List O → Prop} {l : Loc} {s : List O} {x : V} (h : R x s) : Fin R (.ret x) l s := h
theorem fin_old {R : V → List O → Prop} : ∀ {o : Out} {l : Loc} {s : List O}, Fin R o l s → ∃ x, (o = .ret x ∨ (o = .next ∧ x = .none)) ∧ R x s
  | .next, _, _, h => ⟨.none, .inr ⟨rfl, rfl⟩, h⟩
  | .brk, _, _, h => h.elim
  | .cont, _, _, h => h.elim
  | .ret x, _, _, h => ⟨x, .inl rfl, h⟩
/-- one statement -/
def E1 (c : Cx) (sc : Scope) (d : Nat) (st : Stmt) (l : Loc) (σ : List O) (R : Out → Loc → List O → Prop) : Prop :=
  ∀ ⦃en : Env⦄ ⦃A : Around⦄ ⦃s : Shared⦄ ⦃ρ : List Addr⦄ ⦃Q : Flow → Shared → Prop⦄ ⦃E : Value → Shared → Prop⦄,
    Room A d → Inv c sc en ρ σ l s.heap →
    (∀ o f h' tk ρ' l' σ', R o l' σ' → Inv c sc en ρ' σ' l' h' → Stp (At en.locals) ρ ρ' s.heap h' → FR c ρ' h' o f → Q f { s with heap := h', toks := tk }) →
    wpAny (model P c.w) A (exec st en) Q E s

/-- a call of a def of the text -/
def CA (c : Cx) (d : Nat) (f : Str) (xs : List V) (σ : List O) (R : V → List O → Prop) : Prop :=
  ∀ ⦃A : Around⦄ ⦃s : Shared⦄ ⦃ρ : List Addr⦄ ⦃fa : Addr⦄ ⦃vs : List Value⦄ ⦃Q : Value → Shared → Prop⦄ ⦃E : Value → Shared → Prop⦄,
    Room A d → c.mg f = some (.ref fa) → Glo c ρ σ s.heap → VRs c ρ s.heap xs vs →
    (∀ x v h' tk ρ' σ', R x σ' → Glo c ρ' σ' h' → Stp No ρ ρ' s.heap h' → VR c ρ' h' x v → Q v { s with heap := h', toks := tk }) →
    wpAny (model P c.w) A (call (.ref fa) vs) Q E s

theorem EV.mono {c : Cx} {sc : Scope} {d : Nat} {e : Expr} {l : Loc} {σ : List O} {R R' : V → List O → Prop} (h : EV c sc d e l σ R) (k : ∀ x σ', R x σ' → R' x σ') : EV c sc d e l σ R' :=
  fun _ _ _ _ _ _ r i q => h r i fun x v h' tk ρ' σ' y => q x v h' tk ρ' σ' (k _ _ y)
theorem ET.mono {c : Cx} {sc : Scope} {d : Nat} {e : Expr} {l : Loc} {σ : List O} {R R' : Bool → List O → Prop} (h : ET c sc d e l σ R) (k : ∀ x σ', R x σ' → R' x σ') : ET c sc d e l σ R' :=
  fun _ _ _ _ _ _ r i q => h r i fun b h' tk ρ' σ' y => q b h' tk ρ' σ' (k _ _ y)
theorem EX.mono {c : Cx} {sc : Scope} {d : Nat} {e : List Stmt} {l : Loc} {σ : List O} {R R' : Out → Loc → List O → Prop} (h : EX c sc d e l σ R) (k : ∀ x l' σ', R x l' σ' → R' x l' σ') : EX c sc d e l σ R' :=
  fun _ _ _ _ _ _ r i q => h r i fun o f h' tk ρ' l' σ' y => q o f h' tk ρ' l' σ' (k _ _ _ y)
theorem E1.mono {c : Cx} {sc : Scope} {d : Nat} {e : Stmt} {l : Loc} {σ : List O} {R R' : Out → Loc → List O → Prop} (h : E1 c sc d e l σ R) (k : ∀ x l' σ', R x l' σ' → R' x l' σ') : E1 c sc d e l σ R' :=
  fun _ _ _ _ _ _ r i q => h r i fun o f h' tk ρ' l' σ' y => q o f h' tk ρ' l' σ' (k _ _ _ y)
theorem CA.mono {c : Cx} {d : Nat} {f : Str} {xs : List V} {σ : List O} {R R' : V → List O → Prop} (h : CA c d f xs σ R) (k : ∀ x σ', R x σ' → R' x σ') : CA c d f xs σ R' :=
  fun _ _ _ _ _ _ _ r m g a q => h r m g a fun x v h' tk ρ' σ' y => q x v h' tk ρ' σ' (k _ _ y)
theorem CA.le {c : Cx} {d e : Nat} {f : Str} {xs : List V} {σ : List O} {R : V → List O → Prop} (h : CA c d f xs σ R) (k : d ≤ e) : CA c e f xs σ R :=
  fun _ _ _ _ _ _ _ r m g a q => h (r.le k) m g a q


def ftab (x : Str) : Option DefRec := (recsOf P).find? fun d => d.name == x
abbrev St (l : List Nat) : Str := ⟨l.toArray⟩
abbrev lit (s : Str) : List Nat := s.cps.toList
theorem St_lit (s : Str) : St (lit s) = s := rfl
theorem St_beq (a b : List Nat) : (St a == St b) = decide (a = b) := by
  by_cases h : a = b
  · subst h; simp
  · simp [h]

/-- which global name is which table of the store -/
def otab (x : Str) : Option Nat := if x == ("_law_signs" : Str) then some 0 else if x == ("SHORT_ESCAPES" : Str) then some 1 else if x == ("CLOSERS" : Str) then some 2 else none

structure Ok (c : Cx) : Prop where
  g : c.hb.Ns mainGlobals c.mg
  b : c.hb.Ns builtinsNs c.mb
  lim : c.hb.NoLimit
  dig : c.hb.NoDigits
  blt : ∀ x : Str, x ≠ "__name__" → c.mb x = bootBuiltins x
  fn : ∀ x d, ftab x = some d → ∃ a o pm code doc, c.mg x = some (.ref a) ∧ c.hb.get? a = some o ∧ o.data = .func (Calls.docDef d.name d.params d.body d.scope pm code doc) ∧ c.hb.CodeRec code d.name
  free : ∀ x ∈ (["len", "range", "str", "int"] : List Str), c.mg x = none
  cst : ∀ x d, valOf P x = some d → ∃ v, c.mg x = some v ∧ ∀ h', Reads h' v d []
  tab : ∀ x n, otab x = some n → ∃ a, c.g0[n]? = some a ∧ c.mg x = some (.ref a)
  sys : ∀ a ∈ c.g0, (a == sysModules) = false

section
variable {c : Cx} {sc : Scope} {d : Nat} {l : Loc} {σ : List O}

theorem Inv.kind {en : Env} {ρ : List Addr} {h : Heap} (i : Inv c sc en ρ σ l h) (x : Str) : en.kindOf x = sc.names.lookup x := by unfold Env.kindOf; rw [i.es]
theorem Inv.fn {en : Env} {ρ : List Addr} {h : Heap} (i : Inv c sc en ρ σ l h) (hk : sc.kind = .function) : en.scope.kind = .function := by rw [i.es]; exact hk

theorem EV_loc {x : Str} {pos : Pos} {y : V} {R : V → List O → Prop} (hx : l x = some y) (hR : R y σ)
    (hk : sc.kind = .function := by with_unfolding_all rfl) (hl : sc.names.lookup x = some .local := by with_unfolding_all rfl) (hd : (x == ("__debug__" : Str)) = false := by decide) : EV c sc d (.Name x pos) l σ R := by
  intro en A s ρ Q E r i q
  obtain ⟨m, hn, hm⟩ := i.locs
  obtain ⟨v, hv, vr⟩ := hm x y hx
  rcases hv with ⟨_, hv⟩ | ⟨hv, _⟩
  · exact wpAny_Name (wpAny_loadName_local (i.fn hk) ((i.kind x).trans hl) hn hv (q y v s.heap s.toks ρ σ hR i (Stp.refl _ _ _) vr)) hd
  · rw [hl] at hv; cases hv
theorem EV_cell {x : Str} {pos : Pos} {y : V} {R : V → List O → Prop} (hx : l x = some y) (hR : R y σ)
    (hk : sc.kind = .function := by with_unfolding_all rfl) (hl : sc.names.lookup x = some .cell := by with_unfolding_all rfl) (hd : (x == ("__debug__" : Str)) = false := by decide) : EV c sc d (.Name x pos) l σ R := by
  intro en A s ρ Q E r i q
  obtain ⟨m, hn, hm⟩ := i.locs
  obtain ⟨v, hv, vr⟩ := hm x y hx
  rcases hv with ⟨hv, _⟩ | ⟨_, a, e1, e2, _⟩
  · rw [hl] at hv; cases hv
  · exact wpAny_Name (wpAny_loadName_cell (i.fn hk) ((i.kind x).trans hl) e1 e2 (q y v s.heap s.toks ρ σ hR i (Stp.refl _ _ _) vr)) hd

theorem glo_name {x : Str} {pos : Pos} {v : Value} {en : Env} {A : Around} {s : Shared} {ρ : List Addr} {Q : Value → Shared → Prop} {E : Value → Shared → Prop} (ok : Ok c) (i : Inv c sc en ρ σ l s.heap)
    (hv : c.mg x = some v) (h : Q v s) (hk : sc.kind = .function := by with_unfolding_all rfl) (hl : sc.names.lookup x = some .globalImplicit := by with_unfolding_all rfl) (hd : (x == ("__debug__" : Str)) = false := by decide) :
    wpAny (model P c.w) A (eval (.Name x pos) en) Q E s :=
  Calls.Name_function_global (i.fn hk) ((i.kind x).trans hl) (Calls.loadGlobal_global (by rw [i.gl]; exact Heap.Ns.keeps ok.g i.glo.base) hv h) hd

theorem EV_fn {x : Str} {pos : Pos} {rec : DefRec} {R : V → List O → Prop} (ok : Ok c) (hf : ftab x = some rec) (hR : R (.fn x) σ)
    (hk : sc.kind = .function := by with_unfolding_all rfl) (hl : sc.names.lookup x = some .globalImplicit := by with_unfolding_all rfl) (hd : (x == ("__debug__" : Str)) = false := by decide) : EV c sc d (.Name x pos) l σ R := by
  intro en A s ρ Q E r i q
  obtain ⟨fa, o, pm, code, doc, hm, _⟩ := ok.fn x rec hf
  exact glo_name ok i hm (q (.fn x) _ s.heap s.toks ρ σ hR i (Stp.refl _ _ _) (by unfold VR; exact ⟨fa, rfl, hm⟩)) hk hl hd

theorem EV_tab {x : Str} {pos : Pos} {n : Nat} {R : V → List O → Prop} (ok : Ok c) (hf : otab x = some n) (hR : R (.obj n) σ)
    (hk : sc.kind = .function := by with_unfolding_all rfl) (hl : sc.names.lookup x = some .globalImplicit := by with_unfolding_all rfl) (hd : (x == ("__debug__" : Str)) = false := by decide) : EV c sc d (.Name x pos) l σ R := by
  intro en A s ρ Q E r i q
  obtain ⟨fa, h0, hm⟩ := ok.tab x n hf
  exact glo_name ok i hm (q (.obj n) _ s.heap s.toks ρ σ hR i (Stp.refl _ _ _) (by unfold VR; exact ⟨fa, rfl, pre_get i.glo.pre h0⟩)) hk hl hd

theorem EV_ctxt {x : Str} {pos : Pos} {y : Str} {R : V → List O → Prop} (ok : Ok c) (hf : valOf P x = some (.str y)) (hR : R (.str (lit y)) σ) (hz : y.length ≤ sizeLine := by decide)
    (hk : sc.kind = .function := by with_unfolding_all rfl) (hl : sc.names.lookup x = some .globalImplicit := by with_unfolding_all rfl) (hd : (x == ("__debug__" : Str)) = false := by decide) : EV c sc d (.Name x pos) l σ R := by
  intro en A s ρ Q E r i q
  obtain ⟨v, hm, hr⟩ := ok.cst x _ hf
  obtain ⟨t, rfl, _⟩ := reads_str_inv (hr s.heap)
  exact glo_name ok i hm (q (.str (lit y)) _ s.heap s.toks ρ σ hR i (Stp.refl _ _ _) (by unfold VR; exact ⟨hz, t, rfl⟩)) hk hl hd

theorem EV_cint {x : Str} {pos : Pos} {y : Int} {R : V → List O → Prop} (ok : Ok c) (hf : valOf P x = some (.int y)) (hR : R (.int y) σ)
    (hk : sc.kind = .function := by with_unfolding_all rfl) (hl : sc.names.lookup x = some .globalImplicit := by with_unfolding_all rfl) (hd : (x == ("__debug__" : Str)) = false := by decide) : EV c sc d (.Name x pos) l σ R := by
  intro en A s ρ Q E r i q
  obtain ⟨v, hm, hr⟩ := ok.cst x _ hf
  obtain ⟨t, rfl, _⟩ := reads_int_inv (hr s.heap)
  exact glo_name ok i hm (q (.int y) _ s.heap s.toks ρ σ hR i (Stp.refl _ _ _) (by unfold VR; exact ⟨t, rfl⟩)) hk hl hd

theorem EV_int {n : Int} {k : Nat} {pos : Pos} {R : V → List O → Prop} (hR : R (.int n) σ) : EV c sc d (.Constant (.int n) k pos) l σ R := by
  intro en A s ρ Q E r i q
  exact wpAny_Constant_int (q (.int n) _ s.heap _ ρ σ hR i (Stp.refl _ _ _) (by unfold VR; exact ⟨_, rfl⟩))
theorem EV_str {y : Str} {k : Nat} {pos : Pos} {R : V → List O → Prop} (hR : R (.str (lit y)) σ) (hz : y.length ≤ sizeLine := by decide) : EV c sc d (.Constant (.str y) k pos) l σ R := by
  intro en A s ρ Q E r i q
  exact Calls.Constant_str (q (.str (lit y)) _ s.heap _ ρ σ hR i (Stp.refl _ _ _) (by unfold VR; exact ⟨hz, _, rfl⟩))
theorem EV_none {k : Nat} {pos : Pos} {R : V → List O → Prop} (hR : R .none σ) : EV c sc d (.Constant .none k pos) l σ R := by
  intro en A s ρ Q E r i q
  exact Constant_none (q .none _ s.heap s.toks ρ σ hR i (Stp.refl _ _ _) (by unfold VR; rfl))
theorem EV_bool {b : Bool} {k : Nat} {pos : Pos} {R : V → List O → Prop} (hR : R (.bool b) σ) : EV c sc d (.Constant (.bool b) k pos) l σ R := by
  intro en A s ρ Q E r i q
  exact Constant_bool (q (.bool b) _ s.heap s.toks ρ σ hR i (Stp.refl _ _ _) (by unfold VR; rfl))

/-- an operator on two values -/
def AB (c : Cx) (op : Operator) (x y : V) (K : V → Prop) : Prop :=
  ∀ ⦃A : Around⦄ ⦃s : Shared⦄ ⦃ρ : List Addr⦄ ⦃u v : Value⦄ ⦃Q : Value → Shared → Prop⦄ ⦃E : Value → Shared → Prop⦄, VR c ρ s.heap x u → VR c ρ s.heap y v →
    (∀ z w tk, K z → VR c ρ s.heap z w → Q w { s with toks := tk }) → wpAny (model P c.w) A (binaryOp op u v) Q E s ∧ wpAny (model P c.w) A (inplaceOp op u v) Q E s

theorem EV_bin {e1 e2 : Expr} {op : Operator} {pos : Pos} {R : V → List O → Prop}
    (h : EV c sc d e1 l σ fun x σ₁ => EV c sc d e2 l σ₁ fun y σ₂ => AB c op x y fun z => R z σ₂) : EV c sc d (.BinOp e1 op e2 pos) l σ R := by
  intro en A s ρ Q E r i q
  refine wpAny_BinOp (h r i fun x v h1 tk1 ρ1 σ1 hx i1 k1 vx => ?_)
  refine hx r i1 fun y u h2 tk2 ρ2 σ2 hy i2 k2 vy => ?_
  exact (hy (s := { s with heap := h2, toks := tk2 }) (VR.mono i1.glo.st noS k2 x v vx) vy fun z w tk hz hw => q z w h2 tk ρ2 σ2 hz i2 (k1.trans k2) hw).1

theorem AB_add_ii {i j : Int} {K : V → Prop} (h : K (.int (i + j))) : AB c .Add (.int i) (.int j) K := by
  intro A s ρ u v Q E hu hv q
  unfold VR at hu hv
  obtain ⟨t, rfl⟩ := hu
  obtain ⟨t', rfl⟩ := hv
  exact ⟨add_int (q _ _ _ h (by unfold VR; exact ⟨_, rfl⟩)), iadd_int (q _ _ _ h (by unfold VR; exact ⟨_, rfl⟩))⟩
theorem AB_sub_ii {i j : Int} {K : V → Prop} (h : K (.int (i - j))) : AB c .Sub (.int i) (.int j) K := by
  intro A s ρ u v Q E hu hv q
  unfold VR at hu hv
  obtain ⟨t, rfl⟩ := hu
  obtain ⟨t', rfl⟩ := hv
  exact ⟨sub_int (q _ _ _ h (by unfold VR; exact ⟨_, rfl⟩)), isub_int (q _ _ _ h (by unfold VR; exact ⟨_, rfl⟩))⟩
theorem AB_mul_ii {i j : Int} {K : V → Prop} (hm : IntMulOk i j) (h : K (.int (i * j))) : AB c .Mult (.int i) (.int j) K := by
  intro A s ρ u v Q E hu hv q
  unfold VR at hu hv
  obtain ⟨t, rfl⟩ := hu
  obtain ⟨t', rfl⟩ := hv
  exact ⟨mul_int (q _ _ _ h (by unfold VR; exact ⟨_, rfl⟩)) hm, imul_int (q _ _ _ h (by unfold VR; exact ⟨_, rfl⟩)) hm⟩
theorem AB_div_ii {i j : Int} {K : V → Prop} (h0 : j ≠ 0) (hp : Builtin.divisionGoesByPylong i j = false) (h : K (.int (i.fdiv j))) : AB c .FloorDiv (.int i) (.int j) K := by
  intro A s ρ u v Q E hu hv q
  unfold VR at hu hv
  obtain ⟨t, rfl⟩ := hu
  obtain ⟨t', rfl⟩ := hv
  exact ⟨floordiv_int h0 (q _ _ _ h (by unfold VR; exact ⟨_, rfl⟩)) (.inl hp), ifloordiv_int h0 (q _ _ _ h (by unfold VR; exact ⟨_, rfl⟩)) (.inl hp)⟩
theorem AB_mod_ii {i j : Int} {K : V → Prop} (h0 : j ≠ 0) (h : K (.int (i.fmod j))) : AB c .Mod (.int i) (.int j) K := by
  intro A s ρ u v Q E hu hv q
  unfold VR at hu hv
  obtain ⟨t, rfl⟩ := hu
  obtain ⟨t', rfl⟩ := hv
  exact ⟨mod_int' h0 (q _ _ _ h (by unfold VR; exact ⟨_, rfl⟩)), imod_int h0 (q _ _ _ h (by unfold VR; exact ⟨_, rfl⟩))⟩
theorem AB_add_ss {x y : List Nat} {K : V → Prop} (hz : x.length + y.length ≤ sizeLine) (h : K (.str (x ++ y))) : AB c .Add (.str x) (.str y) K := by
  intro A s ρ u v Q E hu hv q
  unfold VR at hu hv
  obtain ⟨_, t, rfl⟩ := hu
  obtain ⟨_, t', rfl⟩ := hv
  have e : ∀ t', VR c ρ s.heap (.str (x ++ y)) (.str (St x ++ St y) t') := fun t' => by
    unfold VR; exact ⟨by rw [List.length_append]; exact hz, t', by congr 1; exact Str.ext' (by rw [Str.cps_append]; simp)⟩
  exact ⟨add_str (fun t' tk => q _ _ _ h (e t')) hz, iadd_str (fun t' tk => q _ _ _ h (e t')) hz⟩

/-- a comparison of two values -/
def AC (c : Cx) (op : CmpOp) (σ : List O) (x y : V) (K : Bool → Prop) : Prop :=
  ∀ ⦃A : Around⦄ ⦃s : Shared⦄ ⦃ρ : List Addr⦄ ⦃u v : Value⦄ ⦃Q : Value → Shared → Prop⦄ ⦃E : Value → Shared → Prop⦄, Room A 1 → Glo c ρ σ s.heap → VR c ρ s.heap x u → VR c ρ s.heap y v →
    (∀ b tk, K b → Q (.bool b) { s with toks := tk }) → wpAny (model P c.w) A (compareOp op u v) Q E s

theorem EV_cmp {e1 e2 : Expr} {op : CmpOp} {pos : Pos} {R : V → List O → Prop}
    (h : EV c sc (d+1) e1 l σ fun x σ₁ => EV c sc (d+1) e2 l σ₁ fun y σ₂ => AC c op σ₂ x y fun b => R (.bool b) σ₂) (hm : behindInMarks op e2 = false := by with_unfolding_all rfl) : EV c sc (d+1) (.Compare e1 [op] [e2] pos) l σ R := by
  intro en A s ρ Q E r i q
  refine wpAny_Compare1 (h r i fun x v h1 tk1 ρ1 σ1 hx i1 k1 vx => ?_) hm
  refine hx r i1 fun y u h2 tk2 ρ2 σ2 hy i2 k2 vy => ?_
  exact hy (s := { s with heap := h2, toks := tk2 }) (r.le (by omega)) i2.glo (VR.mono i1.glo.st noS k2 x v vx) vy fun b tk hb => q _ _ h2 tk ρ2 σ2 hb i2 (k1.trans k2) (by unfold VR; rfl)

theorem ET_cmp {e1 e2 : Expr} {op : CmpOp} {pos : Pos} {R : Bool → List O → Prop}
    (h : EV c sc (d+1) e1 l σ fun x σ₁ => EV c sc (d+1) e2 l σ₁ fun y σ₂ => AC c op σ₂ x y fun b => R b σ₂) (hm : behindInMarks op e2 = false := by with_unfolding_all rfl) : ET c sc (d+1) (.Compare e1 [op] [e2] pos) l σ R := by
  intro en A s ρ Q E r i q
  refine wpAny_isTrue_Compare1 (h r i fun x v h1 tk1 ρ1 σ1 hx i1 k1 vx => ?_) hm
  refine hx r i1 fun y u h2 tk2 ρ2 σ2 hy i2 k2 vy => ?_
  exact hy (s := { s with heap := h2, toks := tk2 }) (r.le (by omega)) i2.glo (VR.mono i1.glo.st noS k2 x v vx) vy fun b tk hb => wpAny_truthy_bool (q _ h2 tk ρ2 σ2 hb i2 (k1.trans k2))

theorem EV_cmp2 {e1 e2 e3 : Expr} {op1 op2 : CmpOp} {pos : Pos} {R : V → List O → Prop}
    (h : EV c sc (d+1) e1 l σ fun x σ₁ => EV c sc (d+1) e2 l σ₁ fun y σ₂ => AC c op1 σ₂ x y fun b => if b then EV c sc (d+1) e3 l σ₂ fun z σ₃ => AC c op2 σ₃ y z fun b => R (.bool b) σ₃ else R (.bool false) σ₂)
    (hm : lastMarks [op1, op2] [e2, e3] = false := by with_unfolding_all rfl) : EV c sc (d+1) (.Compare e1 [op1, op2] [e2, e3] pos) l σ R := by
  intro en A s ρ Q E r i q
  refine Compare_chain (h r i fun x v h1 tk1 ρ1 σ1 hx i1 k1 vx => ?_) hm
  refine chain_link (hx r i1 fun y u h2 tk2 ρ2 σ2 hy i2 k2 vy => ?_)
  refine hy (s := { s with heap := h2, toks := tk2 }) (r.le (by omega)) i2.glo (VR.mono i1.glo.st noS k2 x v vx) vy fun b tk hb => wpAny_truthy_bool ?_
  cases b with
  | false => exact q _ _ h2 tk ρ2 σ2 hb i2 (k1.trans k2) (by unfold VR; rfl)
  | true =>
    refine chain_last (hb r i2 fun z w h3 tk3 ρ3 σ3 hz i3 k3 vz => ?_)
    exact hz (s := { s with heap := h3, toks := tk3 }) (r.le (by omega)) i3.glo (VR.mono i2.glo.st noS k3 y u vy) vz fun b tk hb => q _ _ h3 tk ρ3 σ3 hb i3 ((k1.trans k2).trans k3) (by unfold VR; rfl)

theorem ET_cmp2 {e1 e2 e3 : Expr} {op1 op2 : CmpOp} {pos : Pos} {R : Bool → List O → Prop}
    (h : EV c sc (d+1) e1 l σ fun x σ₁ => EV c sc (d+1) e2 l σ₁ fun y σ₂ => AC c op1 σ₂ x y fun b => if b then EV c sc (d+1) e3 l σ₂ fun z σ₃ => AC c op2 σ₃ y z fun b => R b σ₃ else R false σ₂)
    (hm : lastMarks [op1, op2] [e2, e3] = false := by with_unfolding_all rfl) : ET c sc (d+1) (.Compare e1 [op1, op2] [e2, e3] pos) l σ R := by
  intro en A s ρ Q E r i q
  refine isTrue_chain (h r i fun x v h1 tk1 ρ1 σ1 hx i1 k1 vx => ?_) hm
  refine test_link (hx r i1 fun y u h2 tk2 ρ2 σ2 hy i2 k2 vy => ?_)
  refine hy (s := { s with heap := h2, toks := tk2 }) (r.le (by omega)) i2.glo (VR.mono i1.glo.st noS k2 x v vx) vy fun b tk hb => wpAny_truthy_bool ?_
  cases b with
  | false => exact q _ h2 tk ρ2 σ2 hb i2 (k1.trans k2)
  | true =>
    refine test_last (hb r i2 fun z w h3 tk3 ρ3 σ3 hz i3 k3 vz => ?_)
    exact hz (s := { s with heap := h3, toks := tk3 }) (r.le (by omega)) i3.glo (VR.mono i2.glo.st noS k3 y u vy) vz fun b tk hb => wpAny_truthy_bool (q _ h3 tk ρ3 σ3 hb i3 ((k1.trans k2).trans k3))

theorem AC_eq_ss {x y : List Nat} {K : Bool → Prop} (h : K (decide (x = y))) : AC c .Eq σ (.str x) (.str y) K := by
  intro A s ρ u v Q E r g hu hv q
  unfold VR at hu hv
  obtain ⟨_, t, rfl⟩ := hu
  obtain ⟨_, t', rfl⟩ := hv
  exact eq_str (by rw [St_beq]; exact q _ _ h)
theorem AC_ne_ss {x y : List Nat} {K : Bool → Prop} (h : K (!decide (x = y))) : AC c .NotEq σ (.str x) (.str y) K := by
  intro A s ρ u v Q E r g hu hv q
  unfold VR at hu hv
  obtain ⟨_, t, rfl⟩ := hu
  obtain ⟨_, t', rfl⟩ := hv
  exact PyProof.Rows.ne_str (by show Q (.bool (!(St x == St y))) s; rw [St_beq]; exact q _ _ h)
theorem AC_le_ss {x y : List Nat} {K : Bool → Prop} (h : K (!decide (y < x))) : AC c .LtE σ (.str x) (.str y) K := by
  intro A s ρ u v Q E r g hu hv q
  unfold VR at hu hv
  obtain ⟨_, t, rfl⟩ := hu
  obtain ⟨_, t', rfl⟩ := hv
  exact PySem.P.le_str (q _ _ h)
theorem AC_eq_ii {x y : Int} {K : Bool → Prop} (h : K (decide (x = y))) : AC c .Eq σ (.int x) (.int y) K := by
  intro A s ρ u v Q E r g hu hv q
  unfold VR at hu hv
  obtain ⟨t, rfl⟩ := hu
  obtain ⟨t', rfl⟩ := hv
  exact eq_int (q _ _ h)
theorem AC_ne_ii {x y : Int} {K : Bool → Prop} (h : K (!decide (x = y))) : AC c .NotEq σ (.int x) (.int y) K := by
  intro A s ρ u v Q E r g hu hv q
  unfold VR at hu hv
  obtain ⟨t, rfl⟩ := hu
  obtain ⟨t', rfl⟩ := hv
  exact PyProof.Rows.ne_int (q _ _ h)
theorem AC_lt_ii {x y : Int} {K : Bool → Prop} (h : K (decide (x < y))) : AC c .Lt σ (.int x) (.int y) K := by
  intro A s ρ u v Q E r g hu hv q
  unfold VR at hu hv
  obtain ⟨t, rfl⟩ := hu
  obtain ⟨t', rfl⟩ := hv
  exact PyProof.Rows.lt_int (q _ _ h)
theorem AC_le_ii {x y : Int} {K : Bool → Prop} (h : K (decide (x ≤ y))) : AC c .LtE σ (.int x) (.int y) K := by
  intro A s ρ u v Q E r g hu hv q
  unfold VR at hu hv
  obtain ⟨t, rfl⟩ := hu
  obtain ⟨t', rfl⟩ := hv
  exact PyProof.Rows.le_int (q _ _ h)
theorem AC_gt_ii {x y : Int} {K : Bool → Prop} (h : K (decide (x > y))) : AC c .Gt σ (.int x) (.int y) K := by
  intro A s ρ u v Q E r g hu hv q
  unfold VR at hu hv
  obtain ⟨t, rfl⟩ := hu
  obtain ⟨t', rfl⟩ := hv
  exact PyProof.Rows.gt_int (q _ _ h)
theorem AC_ge_ii {x y : Int} {K : Bool → Prop} (h : K (decide (x ≥ y))) : AC c .GtE σ (.int x) (.int y) K := by
  intro A s ρ u v Q E r g hu hv q
  unfold VR at hu hv
  obtain ⟨t, rfl⟩ := hu
  obtain ⟨t', rfl⟩ := hv
  exact PyProof.Rows.ge_int (q _ _ h)
theorem AC_in1 {x : Nat} {y : List Nat} {K : Bool → Prop} (h : K (decide (x ∈ y))) : AC c .In σ (.str [x]) (.str y) K := by
  intro A s ρ u v Q E r g hu hv q
  unfold VR at hu hv
  obtain ⟨_, t, rfl⟩ := hu
  obtain ⟨_, t', rfl⟩ := hv
  exact in_str (by rw [StrLaws.found_one (St y) x]; exact q _ _ h)
theorem AC_notin1 {x : Nat} {y : List Nat} {K : Bool → Prop} (h : K (!decide (x ∈ y))) : AC c .NotIn σ (.str [x]) (.str y) K := by
  intro A s ρ u v Q E r g hu hv q
  unfold VR at hu hv
  obtain ⟨_, t, rfl⟩ := hu
  obtain ⟨_, t', rfl⟩ := hv
  exact PySem.P.notIn_str (by rw [StrLaws.found_one (St y) x]; exact q _ _ h)
/-- text in text, both written -/
def insub (x y : List Nat) : Bool := !(Builtin.Str.occurrences (St y) (St x) 0 (St y).length 1).isEmpty
theorem AC_in_ss {x y : List Nat} {K : Bool → Prop} (h : K (insub x y)) : AC c .In σ (.str x) (.str y) K := by
  intro A s ρ u v Q E r g hu hv q
  unfold VR at hu hv
  obtain ⟨_, t, rfl⟩ := hu
  obtain ⟨_, t', rfl⟩ := hv
  exact in_str (q _ _ h)

theorem strsAre {c : Cx} {ρ : List Addr} {h : Heap} : ∀ {ys : List (List Nat)} {vs : List Value}, VRs c ρ h (ys.map V.str) vs → StrsAre vs (ys.map St)
  | [], vs, e => by
    simp only [List.map_nil] at e; unfold VRs at e; subst e; exact .nil
  | y :: ys, vs, e => by
    simp only [List.map_cons] at e; unfold VRs at e
    obtain ⟨v, r, rfl, e1, e2⟩ := e
    unfold VR at e1
    obtain ⟨_, t, rfl⟩ := e1
    exact .cons _ t (strsAre e2)
theorem any_strs (x : List Nat) : ∀ ys : List (List Nat), (ys.map St).any (· == St x) = decide (x ∈ ys)
  | [] => by simp
  | y :: ys => by
    rw [List.map_cons, List.any_cons, any_strs x ys, St_beq]
    by_cases h : y = x
    · subst h; simp
    · have h' : ¬ x = y := fun e => h e.symm
      simp [h, h']
theorem AC_in_tup {x : List Nat} {ys : List (List Nat)} {K : Bool → Prop} (h : K (decide (x ∈ ys))) : AC c .In σ (.str x) (.tup (ys.map V.str)) K := by
  intro A s ρ u v Q E r g hu hv q
  unfold VR at hu hv
  obtain ⟨_, t, rfl⟩ := hu
  obtain ⟨a, vs, rfl, ht, hr⟩ := hv
  exact in_tuple_strs ht (by simpa using strsAre hr) (by rw [any_strs]; exact q _ _ h)
theorem AC_notin_tup {x : List Nat} {ys : List (List Nat)} {K : Bool → Prop} (h : K (!decide (x ∈ ys))) : AC c .NotIn σ (.str x) (.tup (ys.map V.str)) K := by
  intro A s ρ u v Q E r g hu hv q
  unfold VR at hu hv
  obtain ⟨_, t, rfl⟩ := hu
  obtain ⟨a, vs, rfl, ht, hr⟩ := hv
  exact notin_tuple_strs ht (by simpa using strsAre hr) (by rw [any_strs]; exact q _ _ h)

def isNone : V → Bool | .none => true | _ => false
theorem vr_none {c : Cx} {ρ : List Addr} {h : Heap} : ∀ {x : V} {v : Value}, VR c ρ h x v → (v == .none) = isNone x := by
  intro x v e
  cases x <;> unfold VR at e
  · subst e; rfl
  · subst e; rfl
  · obtain ⟨t, rfl⟩ := e; rfl
  · obtain ⟨_, t, rfl⟩ := e; rfl
  · obtain ⟨a, vs, rfl, _⟩ := e; rfl
  · obtain ⟨a, rfl, _⟩ := e; rfl
  · obtain ⟨a, rfl, _⟩ := e; rfl
theorem AC_is_none {x : V} {K : Bool → Prop} (h : K (isNone x)) : AC c .Is σ x .none K := by
  intro A s ρ u v Q E r g hu hv q
  have e := vr_none hu
  unfold VR at hv; subst hv
  exact PySem.is_none (by rw [e]; exact q _ _ h)
theorem AC_isnot_none {x : V} {K : Bool → Prop} (h : K (!isNone x)) : AC c .IsNot σ x .none K := by
  intro A s ρ u v Q E r g hu hv q
  have e := vr_none hu
  unfold VR at hv; subst hv
  exact PySem.isNot_none (by rw [e]; exact q _ _ h)

end

section
variable {c : Cx} {sc : Scope} {d : Nat} {l : Loc} {σ : List O}

theorem EV_and {e1 e2 : Expr} {rest : List Expr} {pos : Pos} {R : V → List O → Prop}
    (h : EV c sc d e1 l σ fun x σ₁ => ∃ b, x = .bool b ∧ if b then EV c sc d (.BoolOp .And (e2 :: rest) pos) l σ₁ R else R (.bool false) σ₁) : EV c sc d (.BoolOp .And (e1 :: e2 :: rest) pos) l σ R := by
  intro en A s ρ Q E r i q
  refine BoolOp_and (h r i fun x v h1 tk1 ρ1 σ1 hx i1 k1 vx => ?_)
  obtain ⟨b, rfl, hb⟩ := hx
  unfold VR at vx; subst vx
  refine wpAny_truthy_bool ?_
  cases b with
  | false => exact q _ _ h1 tk1 ρ1 σ1 hb i1 k1 (by unfold VR; rfl)
  | true => exact hb r i1 fun y u h2 tk2 ρ2 σ2 hy i2 k2 vy => q y u h2 tk2 ρ2 σ2 hy i2 (k1.trans k2) vy
theorem EV_or {e1 e2 : Expr} {rest : List Expr} {pos : Pos} {R : V → List O → Prop}
    (h : EV c sc d e1 l σ fun x σ₁ => ∃ b, x = .bool b ∧ if b then R (.bool true) σ₁ else EV c sc d (.BoolOp .Or (e2 :: rest) pos) l σ₁ R) : EV c sc d (.BoolOp .Or (e1 :: e2 :: rest) pos) l σ R := by
  intro en A s ρ Q E r i q
  refine BoolOp_or (h r i fun x v h1 tk1 ρ1 σ1 hx i1 k1 vx => ?_)
  obtain ⟨b, rfl, hb⟩ := hx
  unfold VR at vx; subst vx
  refine wpAny_truthy_bool ?_
  cases b with
  | true => exact q _ _ h1 tk1 ρ1 σ1 hb i1 k1 (by unfold VR; rfl)
  | false => exact hb r i1 fun y u h2 tk2 ρ2 σ2 hy i2 k2 vy => q y u h2 tk2 ρ2 σ2 hy i2 (k1.trans k2) vy
theorem EV_op1 {op : BoolOp} {e : Expr} {pos : Pos} {R : V → List O → Prop} (h : EV c sc d e l σ R) : EV c sc d (.BoolOp op [e] pos) l σ R := by
  intro en A s ρ Q E r i q
  exact BoolOp_one (h r i q)

theorem ET_and {x : Expr} {rest : List Expr} {pos : Pos} {R : Bool → List O → Prop}
    (h : ET c sc d x l σ fun b σ₁ => if b then ET c sc d (.BoolOp .And rest pos) l σ₁ R else R false σ₁) : ET c sc d (.BoolOp .And (x :: rest) pos) l σ R := by
  intro en A s ρ Q E r i q
  refine isTrue_and (h r i fun b h1 tk1 ρ1 σ1 hb i1 k1 => ?_)
  cases b with
  | false => exact q _ h1 tk1 ρ1 σ1 hb i1 k1
  | true => exact hb r i1 fun y h2 tk2 ρ2 σ2 hy i2 k2 => q y h2 tk2 ρ2 σ2 hy i2 (k1.trans k2)
theorem ET_or {x : Expr} {rest : List Expr} {pos : Pos} {R : Bool → List O → Prop}
    (h : ET c sc d x l σ fun b σ₁ => if b then R true σ₁ else ET c sc d (.BoolOp .Or rest pos) l σ₁ R) : ET c sc d (.BoolOp .Or (x :: rest) pos) l σ R := by
  intro en A s ρ Q E r i q
  refine isTrue_or (h r i fun b h1 tk1 ρ1 σ1 hb i1 k1 => ?_)
  cases b with
  | true => exact q _ h1 tk1 ρ1 σ1 hb i1 k1
  | false => exact hb r i1 fun y h2 tk2 ρ2 σ2 hy i2 k2 => q y h2 tk2 ρ2 σ2 hy i2 (k1.trans k2)
theorem ET_and_nil {pos : Pos} {R : Bool → List O → Prop} (h : R true σ) : ET c sc d (.BoolOp .And [] pos) l σ R := by
  intro en A s ρ Q E r i q
  exact isTrue_and_nil (q true s.heap s.toks ρ σ h i (Stp.refl _ _ _))
theorem ET_or_nil {pos : Pos} {R : Bool → List O → Prop} (h : R false σ) : ET c sc d (.BoolOp .Or [] pos) l σ R := by
  intro en A s ρ Q E r i q
  exact isTrue_or_nil (q false s.heap s.toks ρ σ h i (Stp.refl _ _ _))
theorem ET_not {x : Expr} {pos : Pos} {R : Bool → List O → Prop} (h : ET c sc d x l σ fun b σ₁ => R (!b) σ₁) : ET c sc d (.UnaryOp .Not x pos) l σ R := by
  intro en A s ρ Q E r i q
  exact isTrue_not (h r i fun b h1 tk1 ρ1 σ1 hb i1 k1 => q _ h1 tk1 ρ1 σ1 hb i1 k1)
theorem ET_val {e : Expr} {R : Bool → List O → Prop} (h : EV c sc d e l σ fun x σ₁ => ∃ b, x = .bool b ∧ R b σ₁)
    (he : ∀ env whole, isTrue e env whole = (do let v ← whole; standAt e.pos; holding [v] (truthy v)) := by intro _ _; with_unfolding_all rfl) : ET c sc d e l σ R := by
  intro en A s ρ Q E r i q
  refine isTrue_plain (h r i fun x v h1 tk1 ρ1 σ1 hx i1 k1 vx => ?_) (he _ _)
  obtain ⟨b, rfl, hb⟩ := hx
  unfold VR at vx; subst vx
  exact wpAny_truthy_bool (q b h1 tk1 ρ1 σ1 hb i1 k1)
theorem EV_not {x : Expr} {pos : Pos} {R : V → List O → Prop} (h : EV c sc d x l σ fun y σ₁ => ∃ b, y = .bool b ∧ R (.bool (!b)) σ₁) : EV c sc d (.UnaryOp .Not x pos) l σ R := by
  intro en A s ρ Q E r i q
  refine UnaryOp_ (h r i fun x v h1 tk1 ρ1 σ1 hx i1 k1 vx => ?_)
  obtain ⟨b, rfl, hb⟩ := hx
  unfold VR at vx; subst vx
  exact not_of (wpAny_truthy_bool (q _ _ h1 tk1 ρ1 σ1 hb i1 k1 (by unfold VR; rfl)))
theorem EV_neg {x : Expr} {pos : Pos} {R : V → List O → Prop} (h : EV c sc d x l σ fun y σ₁ => ∃ n, y = .int n ∧ R (.int (-n)) σ₁) : EV c sc d (.UnaryOp .USub x pos) l σ R := by
  intro en A s ρ Q E r i q
  refine UnaryOp_ (h r i fun x v h1 tk1 ρ1 σ1 hx i1 k1 vx => ?_)
  obtain ⟨n, rfl, hb⟩ := hx
  unfold VR at vx
  obtain ⟨t, rfl⟩ := vx
  exact PyProof.Rows.neg_int (q _ _ h1 _ ρ1 σ1 hb i1 k1 (by unfold VR; exact ⟨_, rfl⟩))
theorem EV_ife {t b o : Expr} {pos : Pos} {R : V → List O → Prop} (h : ET c sc d t l σ fun k σ₁ => if k then EV c sc d b l σ₁ R else EV c sc d o l σ₁ R) : EV c sc d (.IfExp t b o pos) l σ R := by
  intro en A s ρ Q E r i q
  refine IfExp_ (h r i fun k h1 tk1 ρ1 σ1 hk i1 k1 => ?_)
  cases k with
  | true => exact hk r i1 fun y u h2 tk2 ρ2 σ2 hy i2 k2 vy => q y u h2 tk2 ρ2 σ2 hy i2 (k1.trans k2) vy
  | false => exact hk r i1 fun y u h2 tk2 ρ2 σ2 hy i2 k2 vy => q y u h2 tk2 ρ2 σ2 hy i2 (k1.trans k2) vy

/-- the arguments' trees -/
def EVs (c : Cx) (sc : Scope) (d : Nat) (es : List Expr) (l : Loc) (σ : List O) (R : List V → List O → Prop) : Prop :=
  ∀ ⦃en : Env⦄ ⦃A : Around⦄ ⦃s : Shared⦄ ⦃ρ : List Addr⦄ ⦃pos : Pos⦄ ⦃Q : List Value → Shared → Prop⦄ ⦃E : Value → Shared → Prop⦄,
    Room A d → Inv c sc en ρ σ l s.heap →
    (∀ xs vs h' tk ρ' σ', R xs σ' → Inv c sc en ρ' σ' l h' → Stp No ρ ρ' s.heap h' → VRs c ρ' h' xs vs → Q vs { s with heap := h', toks := tk }) →
    wpAny (model P c.w) A (spliced (backTo pos (starEach es en))) Q E s

theorem EVs_nil {R : List V → List O → Prop} (h : R [] σ) : EVs c sc d [] l σ R := by
  intro en A s ρ pos Q E r i q
  exact Calls.spliced_nil (q [] [] s.heap s.toks ρ σ h i (Stp.refl _ _ _) (by unfold VRs; rfl))
theorem EVs_cons {e : Expr} {es : List Expr} {R : List V → List O → Prop} (h : EV c sc d e l σ fun x σ₁ => EVs c sc d es l σ₁ fun xs σ₂ => R (x :: xs) σ₂)
    (he : ∀ env, starEach (e :: es) env = (false, eval e env) :: starEach es env := by intro _; with_unfolding_all rfl) : EVs c sc d (e :: es) l σ R := by
  intro en A s ρ pos Q E r i q
  rw [he]
  show wpAny _ _ (spliced ((false, eval e _) :: backTo pos (starEach es _))) _ _ _
  refine Calls.spliced_cons (h r i fun x v h1 tk1 ρ1 σ1 hx i1 k1 vx => ?_)
  refine hx r i1 fun xs vs h2 tk2 ρ2 σ2 hy i2 k2 vy => ?_
  exact q (x :: xs) (v :: vs) h2 tk2 ρ2 σ2 hy i2 (k1.trans k2) (by unfold VRs; exact ⟨v, vs, rfl, VR.mono i1.glo.st noS k2 x v vx, vy⟩)

/-- the arguments of a call -/
def EA (c : Cx) (sc : Scope) (d : Nat) (es : List Expr) (l : Loc) (σ : List O) (R : List V → List O → Prop) : Prop :=
  ∀ ⦃en : Env⦄ ⦃A : Around⦄ ⦃s : Shared⦄ ⦃ρ : List Addr⦄ ⦃pos : Pos⦄ ⦃f : Value⦄ ⦃Q : Args → Shared → Prop⦄ ⦃E : Value → Shared → Prop⦄,
    Room A d → Inv c sc en ρ σ l s.heap →
    (∀ xs vs h' tk ρ' σ', R xs σ' → Inv c sc en ρ' σ' l h' → Stp No ρ ρ' s.heap h' → VRs c ρ' h' xs vs → Q ⟨vs, []⟩ { s with heap := h', toks := tk }) →
    wpAny (model P c.w) A (evalArgs f true (backTo pos (starEach es en)) []) Q E s
theorem EA_nil {R : List V → List O → Prop} (h : R [] σ) : EA c sc d [] l σ R := by
  intro en A s ρ pos f Q E r i q
  exact evalArgs_nil3 (q [] [] s.heap s.toks ρ σ h i (Stp.refl _ _ _) (by unfold VRs; rfl))
theorem EA_cons {e : Expr} {es : List Expr} {R : List V → List O → Prop} (h : EVs c sc d (e :: es) l σ R)
    (he : ∀ env, starEach (e :: es) env = (false, eval e env) :: starEach es env := by intro _; with_unfolding_all rfl) : EA c sc d (e :: es) l σ R := by
  intro en A s ρ pos f Q E r i q
  have h' := h (en := en) (pos := pos) (E := E) (Q := fun vs s' => Q ⟨vs, []⟩ s') r i q
  rw [he] at h' ⊢
  exact Calls.evalArgs_plain h'

theorem back {h h' : Heap} (k : ∀ b o, h.get? b = some o → h'.get? b = some o) {a : Addr} (q : h'.get? a = none) : h.get? a = none := by
  cases e : h.get? a with
  | none => rfl
  | some o => rw [k a o e] at q; cases q
theorem SAt.live {ρ : List Addr} {h : Heap} (x : SAt c ρ σ h) {a : Addr} (m : a ∈ ρ) : ∃ o, h.get? a = some o := by
  obtain ⟨i, hi, e⟩ := List.getElem_of_mem m
  have hs : i < σ.length := x.1 ▸ hi
  have y := x.2.2 i a σ[i] (by simp [hi, e]) (by simp [hs])
  cases ho : σ[i] with
  | list fz l => rw [ho] at y; obtain ⟨_, o, n, vs, h1, _⟩ := y; exact ⟨o, h1⟩
  | dict fz d => rw [ho] at y; obtain ⟨_, kvs, ⟨o, es, ep, h1, _⟩, _⟩ := y; exact ⟨o, h1⟩

theorem OAt.keep {ρ : List Addr} {h h' : Heap} (s : SAt c ρ σ h) (k : ∀ b o, h.get? b = some o → h'.get? b = some o) {a : Addr} : ∀ {o : O}, OAt c ρ h a o → OAt c ρ h' a o
  | .list fz l, ⟨f, o, n, vs, h1, h2, h3, h4, h5⟩ => ⟨f, o, n, vs, k _ _ h1, h2, h3, h4, VRs.mono s noS (Stp.keep k) _ _ h5⟩
  | .dict fz d, ⟨f, kvs, h1, h2, h3⟩ => ⟨f, kvs, h1.keep k, h2, VRs.mono s noS (Stp.keep k) _ _ h3⟩
theorem SAt.keep {ρ : List Addr} {h h' : Heap} (s : SAt c ρ σ h) (k : ∀ b o, h.get? b = some o → h'.get? b = some o) : SAt c ρ σ h' :=
  ⟨s.1, s.2.1, fun i a o e1 e2 => (s.2.2 i a o e1 e2).keep s k⟩
theorem Glo.keep {ρ : List Addr} {h h' : Heap} (g : Glo c ρ σ h) (k : ∀ b o, h.get? b = some o → h'.get? b = some o) : Glo c ρ σ h' :=
  ⟨fun b o e => k b o (g.base b o e), g.pre, g.st.keep k⟩
theorem Inv.keep {en : Env} {ρ : List Addr} {h h' : Heap} (i : Inv c sc en ρ σ l h) (k : ∀ b o, h.get? b = some o → h'.get? b = some o) : Inv c sc en ρ σ l h' :=
  ⟨i.glo.keep k, by
    obtain ⟨m, hn, hm⟩ := i.locs
    exact ⟨m, Heap.Ns.keeps hn k, fun x y e => by obtain ⟨v, h1, h2⟩ := hm x y e; exact ⟨v, h1.mono (S := No) (fun _ q => q.elim) (Stp.keep k), VR.mono i.glo.st noS (Stp.keep k) _ _ h2⟩⟩, i.out, i.low, i.es, i.gl, i.bl⟩

theorem Inv.step {en : Env} {ρ ρ' : List Addr} {σ' : List O} {h h' : Heap} (i : Inv c sc en ρ σ l h) (g : Glo c ρ' σ' h') (k : Stp No ρ ρ' h h') : Inv c sc en ρ' σ' l h' := by
  obtain ⟨m, hn, hm⟩ := i.locs
  obtain ⟨o, es, ep, a1, a2⟩ := hn
  refine ⟨g, ⟨m, ⟨o, es, ep, k.ext _ _ a1 id i.out, a2⟩, fun x y e => ?_⟩, fun hin => ?_, i.low, i.es, i.gl, i.bl⟩
  · obtain ⟨v, h1, h2⟩ := hm x y e
    exact ⟨v, h1.mono (S := No) (fun _ q => q.elim) k, VR.mono i.glo.st noS k _ _ h2⟩
  · rcases k.new en.locals hin with q | q
    · exact i.out q
    · rw [a1] at q; cases q

def mkLoc (ns : List Str) (xs : List V) : Loc := fun y => (ns.zip xs).reverse.lookup y
theorem VRs.len {ρ : List Addr} {h : Heap} : ∀ {xs : List V} {vs : List Value}, VRs c ρ h xs vs → vs.length = xs.length
  | [], vs, e => by unfold VRs at e; subst e; rfl
  | x :: xs, vs, e => by unfold VRs at e; obtain ⟨v, r, rfl, _, e2⟩ := e; simp [VRs.len e2]
theorem lookup_zip {ρ : List Addr} {h : Heap} : ∀ {ns : List Str} {xs : List V} {vs : List Value}, VRs c ρ h xs vs → ∀ (a1 : List (Str × V)) (a2 : List (Str × Value)), (∀ y x, a1.lookup y = some x → ∃ v, a2.lookup y = some v ∧ VR c ρ h x v) →
    ∀ y x, ((ns.zip xs).reverse ++ a1).lookup y = some x → ∃ v, ((ns.zip vs).reverse ++ a2).lookup y = some v ∧ VR c ρ h x v
  | [], xs, vs, e, a1, a2, hk, y, x, hx => by simpa using hk y x (by simpa using hx)
  | n :: ns, [], vs, e, a1, a2, hk, y, x, hx => by
    unfold VRs at e; subst e
    simpa using hk y x (by simpa using hx)
  | n :: ns, z :: xs, vs, e, a1, a2, hk, y, x, hx => by
    unfold VRs at e
    obtain ⟨v, r, rfl, e1, e2⟩ := e
    have := lookup_zip (ns := ns) e2 ((n, z) :: a1) ((n, v) :: a2) (fun y x hx => by
      rw [List.lookup_cons] at hx ⊢
      cases hb : y == n with
      | true => rw [hb] at hx; cases hx; exact ⟨v, rfl, e1⟩
      | false => rw [hb] at hx; exact hk y x hx) y x (by simpa using hx)
    simpa using this

theorem run_body {en : Env} {A : Around} {s : Shared} {ρ : List Addr} {h₀ : Heap} {tk : Nat} {body : List Stmt} {R : V → List O → Prop} {Q : Value → Shared → Prop} {E : Value → Shared → Prop} (hL : en.locals = s.heap.objs.size)
    (hkp : ∀ b o, s.heap.get? b = some o → h₀.get? b = some o) (r : Room A d) (inv : Inv c sc en ρ σ l h₀)
    (h : EX c sc d body l σ fun o _ σ' => ∃ x, (o = .ret x ∨ (o = .next ∧ x = .none)) ∧ R x σ')
    (q : ∀ x v h' tk ρ' σ', R x σ' → Glo c ρ' σ' h' → Stp No ρ ρ' s.heap h' → VR c ρ' h' x v → Q v { s with heap := h', toks := tk }) :
    wpAny (model P c.w) A (execs body en) (fun f s' => Q (match f with | .ret v => v | _ => .none) s') E { s with heap := h₀, toks := tk } := by
  refine h (s := { s with heap := h₀, toks := tk }) r inv fun o f h' tk ρ' l' σ' ho' i' k' fr => ?_
  obtain ⟨x, hox, hx⟩ := ho'
  have stp : Stp No ρ ρ' s.heap h' := ⟨fun b o e _ n2 => k'.ext b o (hkp b o e) (fun (e' : b = en.locals) => absurd (Heap.lt_size e) (by rw [e', hL]; exact Nat.lt_irrefl _)) n2, k'.pre,
    fun a m => (k'.new a m).imp id (back hkp), fun a q => back hkp (k'.fre a q)⟩
  rcases hox with rfl | ⟨rfl, rfl⟩
  · obtain ⟨v, rfl, hvr⟩ := fr
    exact q x v h' tk ρ' σ' hx i'.glo stp hvr
  · have fr : f = .next := fr
    subst fr
    exact q .none .none h' tk ρ' σ' hx i'.glo stp (by unfold VR; rfl)

theorem new_out {h : Heap} {ρ : List Addr} (g : Glo c ρ σ h) {a : Addr} (ha : h.objs.size ≤ a) : a ∉ ρ ∧ c.hb.get? a = none :=
  ⟨fun hin => by
      obtain ⟨o, ho⟩ := g.st.live hin
      exact absurd (Heap.lt_size ho) (Nat.not_lt.mpr ha), by
      cases hq : c.hb.get? a with
      | none => rfl
      | some o => exact absurd (Heap.lt_size (g.base _ _ hq)) (Nat.not_lt.mpr ha)⟩

theorem lookup_mem {α : Type} {x : Str} {v : α} : ∀ {l : List (Str × α)}, l.lookup x = some v → (x, v) ∈ l
  | [], e => by cases e
  | (k, w) :: l, e => by
    rw [List.lookup_cons] at e
    cases hb : x == k with
    | true => rw [hb] at e; cases e; rw [beq_iff_eq.mp hb]; exact List.mem_cons_self
    | false => rw [hb] at e; exact List.mem_cons_of_mem _ (lookup_mem e)
theorem mkLoc_name {ns : List Str} {xs : List V} {x : Str} {v : V} (e : mkLoc ns xs x = some v) : x ∈ ns :=
  (List.of_mem_zip (List.mem_reverse.mp (lookup_mem e))).1

theorem CA_of {f : Str} {rec : DefRec} {xs : List V} {R : V → List O → Prop} (ok : Ok c) (hf : ftab f = some rec)
    (hbind : ∀ vs : List Value, vs.length = xs.length → ∀ pm code doc, bindArgs (Calls.docDef rec.name rec.params rec.body rec.scope pm code doc) ⟨vs, []⟩ = pure ((rec.params.args.map (·.arg)).zip vs))
    (h : EX c rec.scope d rec.body (mkLoc (rec.params.args.map (·.arg)) xs) σ (Fin R))
    (hloc : (rec.params.args.all fun a => rec.scope.names.lookup a.arg == some .local) = true := by with_unfolding_all rfl)
    (hcell : (rec.scope.names.all fun x => x.2 != .cell) = true := by with_unfolding_all rfl)
    (hco : rec.scope.isCoroutine = false := by with_unfolding_all rfl) (hgen : rec.scope.isGenerator = false := by with_unfolding_all rfl) (hk : rec.scope.kind = .function := by with_unfolding_all rfl) :
    CA c (d + 1) f xs σ R := by
  intro A s ρ fa vs Q E r hm g hv q
  obtain ⟨fa', o, pm, code, doc, hm', ho, hdata, hcd⟩ := ok.fn f rec hf
  rw [hm] at hm'; cases hm'
  have hl : ∀ x ∈ rec.params.args.map (·.arg), rec.scope.names.lookup x = some .local := fun x hx => by
    obtain ⟨a, ha, e⟩ := List.mem_map.mp hx
    have := List.all_eq_true.mp hloc a ha
    rw [← e]; exact beq_iff_eq.mp this
  refine wpAny_call (codeAny_call_def (binds := (rec.params.args.map (·.arg)).zip vs) (fd := Calls.docDef rec.name rec.params rec.body rec.scope pm code doc) (body := rec.body) (Nat.lt_of_lt_of_le (Nat.lt_of_le_of_lt (Nat.le_add_right _ _) r.depth) (by decide)) (g.base _ _ ho) hdata
    (Heap.NoLimit.keeps ok.lim g.base) (Heap.CodeRec.keeps hcd g.base) rfl (BindsTo.of_eq (hbind vs hv.len pm code doc)) (fun x hx => ?_) (fun x hx => ?_) (fun h₀ hn hkp => ?_) hco hgen hk)
  · have := List.all_eq_true.mp hcell x hx
    simpa using this
  · exact hl _ (List.of_mem_zip (a := x.1) (b := x.2) hx).1
  · have g0 := g.keep hkp
    have out := new_out g (Nat.le_refl s.heap.objs.size)
    have inv : Inv c rec.scope (callEnv (Calls.docDef rec.name rec.params rec.body rec.scope pm code doc) s.heap.objs.size fa) ρ σ (mkLoc (rec.params.args.map (·.arg)) xs) h₀ := ⟨g0, ⟨_, hn, fun y x hx => by
        have := lookup_zip (ns := rec.params.args.map (·.arg)) (c := c) (h := h₀) (ρ := ρ) (VRs.mono g.st noS (Stp.keep hkp) _ _ hv) [] [] (fun y x hx => by cases hx) y x (by simpa [mkLoc] using hx)
        obtain ⟨v, e1, e2⟩ := this
        exact ⟨v, .inl ⟨hl _ (mkLoc_name hx), by simpa using e1⟩, e2⟩⟩, out.1, out.2, rfl, rfl, rfl⟩
    exact run_body rfl hkp r.deeper inv (EX.mono h fun _ _ _ x => fin_old x) q

theorem bindC_all {kindOf : Str → Option NameKind} {y : Str} : ∀ {binds : List (Str × Value)} (hk : ∀ x ∈ binds, kindOf x.1 = some .cell) (l : List (Str × Value)), bindC kindOf binds (fun y => l.lookup y) y = (binds.reverse ++ l).lookup y
  | [], _, l => rfl
  | (n, v) :: r, hk, l => by
    have e : kindOf n = some .cell := hk (n, v) List.mem_cons_self
    show bindC kindOf r (if kindOf n = some .local then _ else _) y = _
    rw [e, if_neg (by simp)]
    have ih := bindC_all (y := y) (fun x hx => hk x (List.mem_cons_of_mem _ hx)) ((n, v) :: l)
    rw [List.reverse_cons, List.append_assoc, List.singleton_append, ← ih]
    congr 1
    funext z
    rw [List.lookup_cons]
    by_cases hz : z = n
    · subst hz; simp
    · have : (z == n) = false := beq_eq_false_iff_ne.mpr hz
      simp [hz, this]

theorem CA_ofC {f : Str} {rec : DefRec} {xs : List V} {R : V → List O → Prop} (ok : Ok c) (hf : ftab f = some rec)
    (hbind : ∀ vs : List Value, vs.length = xs.length → ∀ pm code doc, bindArgs (Calls.docDef rec.name rec.params rec.body rec.scope pm code doc) ⟨vs, []⟩ = pure ((rec.params.args.map (·.arg)).zip vs))
    (h : EX c rec.scope d rec.body (mkLoc (rec.params.args.map (·.arg)) xs) σ (Fin R))
    (hloc : (rec.params.args.all fun a => rec.scope.names.lookup a.arg == some .cell) = true := by with_unfolding_all rfl)
    (hcell : ∀ n, (rec.params.args.all fun a => ((cellsFrom n rec.scope.names []).lookup a.arg).isSome) = true := by intro _; with_unfolding_all rfl)
    (hco : rec.scope.isCoroutine = false := by with_unfolding_all rfl) (hgen : rec.scope.isGenerator = false := by with_unfolding_all rfl) (hk : rec.scope.kind = .function := by with_unfolding_all rfl) :
    CA c (d + 1) f xs σ R := by
  intro A s ρ fa vs Q E r hm g hv q
  obtain ⟨fa', o, pm, code, doc, hm', ho, hdata, hcd⟩ := ok.fn f rec hf
  rw [hm] at hm'; cases hm'
  have hl : ∀ x ∈ rec.params.args.map (·.arg), rec.scope.names.lookup x = some .cell ∧ ∀ n, ((cellsFrom n rec.scope.names []).lookup x).isSome = true := fun x hx => by
    obtain ⟨a, ha, e⟩ := List.mem_map.mp hx
    have := List.all_eq_true.mp hloc a ha
    rw [← e]; exact ⟨beq_iff_eq.mp this, fun n => List.all_eq_true.mp (hcell n) a ha⟩
  refine wpAny_call (codeAny_call_cells (binds := (rec.params.args.map (·.arg)).zip vs) (fd := Calls.docDef rec.name rec.params rec.body rec.scope pm code doc) (body := rec.body) (Nat.lt_of_lt_of_le (Nat.lt_of_le_of_lt (Nat.le_add_right _ _) r.depth) (by decide)) (g.base _ _ ho) hdata
    (Heap.NoLimit.keeps ok.lim g.base) (Heap.CodeRec.keeps hcd g.base) rfl (hbind vs hv.len pm code doc) rfl (fun x hx => ?_) (fun s₁ X => ?_) hco hgen hk)
  · have := hl _ (List.of_mem_zip (a := x.1) (b := x.2) hx).1
    exact .inr ⟨this.1, this.2 _⟩
  · obtain ⟨h₀, tk, rfl, hkp⟩ := X.done
    have g0 := g.keep hkp
    have out := new_out g (Nat.le_refl s.heap.objs.size)
    have inv : Inv c rec.scope (callEnvC (Calls.docDef rec.name rec.params rec.body rec.scope pm code doc) s.heap.objs.size fa) ρ σ (mkLoc (rec.params.args.map (·.arg)) xs) h₀ := ⟨g0, ⟨_, X.toInCall.ns, fun y x hx => by
        have := lookup_zip (ns := rec.params.args.map (·.arg)) (c := c) (h := h₀) (ρ := ρ) (VRs.mono g.st noS (Stp.keep hkp) _ _ hv) [] [] (fun y x hx => by cases hx) y x (by simpa [mkLoc] using hx)
        obtain ⟨v, e1, e2⟩ := this
        have hy := hl _ (mkLoc_name hx)
        obtain ⟨a, ha⟩ := Option.isSome_iff_exists.mp (hy.2 (s.heap.objs.size + 1))
        have ab := X.above y a (lookup_mem ha)
        refine ⟨v, .inr ⟨hy.1, a, ha, ?_, (new_out g (Nat.le_of_lt ab)).1, Nat.ne_of_gt ab⟩, e2⟩
        have e3 := X.cell y a ha
        rw [show bindC (callEnvC (Calls.docDef rec.name rec.params rec.body rec.scope pm code doc) s.heap.objs.size fa).kindOf ((rec.params.args.map (·.arg)).zip vs) (fun _ => none) y = some v from
          (bindC_all (fun x hx => (hl _ (List.of_mem_zip (a := x.1) (b := x.2) hx).1).1) []).trans e1] at e3
        exact e3⟩, out.1, out.2, rfl, rfl, rfl⟩
    exact wpAny_mono (run_body (E := fun _ _ => False) rfl hkp r.deeper inv (EX.mono h fun _ _ _ x => fin_old x) q) (fun _ _ x => x) fun _ _ x => x.elim

theorem EV_call {f : Str} {p pos : Pos} {args : List Expr} {rec : DefRec} {R : V → List O → Prop} (ok : Ok c) (hf : ftab f = some rec) (h : EA c sc d args l σ fun xs σ' => CA c d f xs σ' R)
    (hk : sc.kind = .function := by with_unfolding_all rfl) (hl : sc.names.lookup f = some .globalImplicit := by with_unfolding_all rfl) (hd : (f == ("__debug__" : Str)) = false := by decide) : EV c sc d (.Call (.Name f p) args [] pos) l σ R := by
  intro en A s ρ Q E r i q
  obtain ⟨fa, o, pm, code, doc, hm, ho, hdata, hcd⟩ := ok.fn f rec hf
  refine wpAny_Call_Name_kw (glo_name ok i hm ?_ hk hl hd)
  show wpAny _ _ (callWith pos (.ref fa) [] (backTo pos (starEach args _)) []) _ _ _
  refine Calls.callWith_function (o := o) (fd := Calls.docDef rec.name rec.params rec.body rec.scope pm code doc) (h r i fun xs vs h1 tk1 ρ1 σ1 hx i1 k1 vx => ?_)
  refine ⟨⟨i1.glo.base _ _ ho, hdata⟩, ?_⟩
  exact hx (s := { s with heap := h1, toks := tk1 }) r hm i1.glo vx fun x v h2 tk2 ρ2 σ2 hy g2 k2 vy => by
    have i2 : Inv c sc en ρ2 σ2 l h2 := i1.step g2 k2
    exact q x v h2 tk2 ρ2 σ2 hy i2 (k1.trans k2) vy
end

theorem boot_l : bootBuiltins "len" = some (.builtin "len") := by boot_fast
theorem boot_s : bootBuiltins "str" = some (.type "str") := by boot_fast
theorem boot_i : bootBuiltins "int" = some (.type "int") := by boot_fast
theorem boot_r : bootBuiltins "range" = some (.type "range") := by boot_fast

section
variable {c : Cx} {sc : Scope} {d : Nat} {l : Loc} {σ : List O}

/-- a built-in function or class applied -/
def AK (c : Cx) (f : Value) (xs : List V) (σ : List O) (R : V → List O → Prop) : Prop :=
  ∀ ⦃A : Around⦄ ⦃s : Shared⦄ ⦃ρ : List Addr⦄ ⦃vs : List Value⦄ ⦃Q : Value → Shared → Prop⦄ ⦃E : Value → Shared → Prop⦄, Room A 1 → Glo c ρ σ s.heap → VRs c ρ s.heap xs vs →
    (∀ x v h' tk ρ' σ', R x σ' → Glo c ρ' σ' h' → Stp No ρ ρ' s.heap h' → VR c ρ' h' x v → Q v { s with heap := h', toks := tk }) →
    wpAny (model P c.w) A (call f vs) Q E s

theorem backTo_plain {pos : Pos} : ∀ {es : List (Bool × Sem Value)}, es.any (·.1) = false → (backTo pos es).any (·.1) = false
  | [], _ => rfl
  | (b, t) :: r, h => by
    simp only [List.any_cons, Bool.or_eq_false_iff] at h
    show (b || (backTo pos r).any (·.1)) = false
    rw [h.1, backTo_plain h.2]; rfl

theorem EV_blt {f : Str} {fv : Value} {p pos : Pos} {args : List Expr} {R : V → List O → Prop} (ok : Ok c) (hf : f ∈ (["len", "range", "str", "int"] : List Str)) (hb : bootBuiltins f = some fv)
    (hv : (∃ i, fv = .builtin i) ∨ ∃ T, fv = .type T)
    (h : EA c sc (d+1) args l σ fun xs σ' => AK c fv xs σ' R)
    (hs : ∀ env, (starEach args env).any (·.1) = false := by intro _; with_unfolding_all rfl)
    (hn : f ≠ ("__name__" : Str) := by decide)
    (hk : sc.kind = .function := by with_unfolding_all rfl) (hl : sc.names.lookup f = some .globalImplicit := by with_unfolding_all rfl) (hd : (f == ("__debug__" : Str)) = false := by decide) : EV c sc (d+1) (.Call (.Name f p) args [] pos) l σ R := by
  intro en A s ρ Q E r i q
  refine wpAny_Call_Name_kw (Calls.Name_function_global (i.fn hk) ((i.kind f).trans hl) (Calls.loadGlobal_builtin (by rw [i.gl]; exact Heap.Ns.keeps ok.g i.glo.base) (ok.free f hf) (by rw [i.bl]; exact Heap.Ns.keeps ok.b i.glo.base) ((ok.blt f hn).trans hb) ?_) hd)
  show wpAny _ _ (callWith pos fv [] (backTo pos (starEach args _)) []) _ _ _
  have hp := backTo_plain (pos := pos) (hs en)
  rcases hv with ⟨id, rfl⟩ | ⟨T, rfl⟩
  · exact Calls.callWith_builtin hp (h r i fun xs vs h1 tk1 ρ1 σ1 hx i1 k1 vx =>
      hx (s := { s with heap := h1, toks := tk1 }) (r.le (by omega)) i1.glo vx fun x v h2 tk2 ρ2 σ2 hy g2 k2 vy => q x v h2 tk2 ρ2 σ2 hy (i1.step g2 k2) (k1.trans k2) vy)
  · exact PyProof.Rows.callWith_type hp (h r i fun xs vs h1 tk1 ρ1 σ1 hx i1 k1 vx =>
      hx (s := { s with heap := h1, toks := tk1 }) (r.le (by omega)) i1.glo vx fun x v h2 tk2 ρ2 σ2 hy g2 k2 vy => q x v h2 tk2 ρ2 σ2 hy (i1.step g2 k2) (k1.trans k2) vy)

theorem VRs.one {ρ : List Addr} {h : Heap} {x : V} {vs : List Value} (e : VRs c ρ h [x] vs) : ∃ v, vs = [v] ∧ VR c ρ h x v := by
  unfold VRs at e
  obtain ⟨v, r, rfl, e1, e2⟩ := e
  unfold VRs at e2; subst e2
  exact ⟨v, rfl, e1⟩
theorem VRs.get {ρ : List Addr} {h : Heap} : ∀ {xs : List V} {vs : List Value} {k : Nat} {x : V}, VRs c ρ h xs vs → xs[k]? = some x → ∃ v, vs[k]? = some v ∧ VR c ρ h x v
  | [], vs, k, x, e, hx => by simp at hx
  | y :: xs, vs, 0, x, e, hx => by
    unfold VRs at e
    obtain ⟨v, r, rfl, e1, e2⟩ := e
    cases hx; exact ⟨v, rfl, e1⟩
  | y :: xs, vs, k + 1, x, e, hx => by
    unfold VRs at e
    obtain ⟨v, r, rfl, e1, e2⟩ := e
    exact VRs.get (k := k) e2 (by simpa using hx)

theorem SAt.at {ρ : List Addr} {h : Heap} (s : SAt c ρ σ h) {n : Nat} {o : O} (hn : σ[n]? = some o) {a : Addr} (ha : ρ[n]? = some a) : OAt c ρ h a o := s.2.2 n a o ha hn
theorem SAt.addr {ρ : List Addr} {h : Heap} (s : SAt c ρ σ h) {n : Nat} {o : O} (hn : σ[n]? = some o) : ∃ a, ρ[n]? = some a := by
  have : n < σ.length := (List.getElem?_eq_some_iff.mp hn).1
  exact ⟨ρ[n]'(s.1 ▸ this), by simp [s.1 ▸ this]⟩

theorem AK_len_str {x : List Nat} {R : V → List O → Prop} (h : R (.int x.length) σ) : AK c (.builtin "len") [.str x] σ R := by
  intro A s ρ vs Q E r g hv q
  obtain ⟨v, rfl, e⟩ := hv.one
  unfold VR at e
  obtain ⟨hz, t, rfl⟩ := e
  have e2 : (St x).length = x.length := by simp [Str.length]
  refine P.len_str (by rw [e2]; rw [sizeLine_eq] at hz; omega) ?_
  rw [e2]
  exact q _ _ s.heap _ ρ σ h g (Stp.refl _ _ _) (by unfold VR; exact ⟨_, rfl⟩)
theorem AK_len_list {n : Nat} {fz : Bool} {xs : List V} {R : V → List O → Prop} (hn : σ[n]? = some (.list fz xs)) (hz : xs.length ≤ 1000000) (h : R (.int xs.length) σ) : AK c (.builtin "len") [.obj n] σ R := by
  intro A s ρ vs Q E r g hv q
  obtain ⟨v, rfl, e⟩ := hv.one
  unfold VR at e
  obtain ⟨a, rfl, ha⟩ := e
  obtain ⟨_, o, k, ws, h1, h2, h3, h4, h5⟩ := g.st.at hn ha
  have e2 : ws.toArray.size = xs.length := by rw [List.size_toArray]; exact h5.len
  refine Calls.call_len_list ⟨o, h1, h2, k, h4⟩ (by rw [e2]; omega) ?_
  rw [e2]
  exact q _ _ s.heap _ ρ σ h g (Stp.refl _ _ _) (by unfold VR; exact ⟨_, rfl⟩)

/-- an item of a value -/
def AX (c : Cx) (σ : List O) (x i : V) (K : V → Prop) : Prop :=
  ∀ ⦃A : Around⦄ ⦃s : Shared⦄ ⦃ρ : List Addr⦄ ⦃u v : Value⦄ ⦃Q : Value → Shared → Prop⦄ ⦃E : Value → Shared → Prop⦄, Room A 1 → Glo c ρ σ s.heap → VR c ρ s.heap x u → VR c ρ s.heap i v →
    (∀ z w tk, K z → VR c ρ s.heap z w → Q w { s with toks := tk }) → ItemOn (model P c.w) A E u v Q s

theorem EV_idx {e1 e2 : Expr} {pos : Pos} {R : V → List O → Prop} (h : EV c sc (d+1) e1 l σ fun x σ₁ => EV c sc (d+1) e2 l σ₁ fun i σ₂ => AX c σ₂ x i fun z => R z σ₂)
    (hs : ∀ o i, subscripted e2 false o i = operate [o, i] (getItem o i) := by intro _ _; with_unfolding_all rfl) : EV c sc (d+1) (.Subscript e1 e2 pos) l σ R := by
  intro en A s ρ Q E r i q
  refine Subscript_ (h r i fun x v h1 tk1 ρ1 σ1 hx i1 k1 vx => ?_)
  refine hx r i1 fun y u h2 tk2 ρ2 σ2 hy i2 k2 vy => ?_
  obtain ⟨T, id, hl, hT, hg⟩ := hy (A := A) (E := E) (s := { s with heap := h2, toks := tk2 }) (r.le (by omega)) i2.glo (VR.mono i1.glo.st noS k2 x v vx) vy fun z w tk hz vz => q z w h2 tk ρ2 σ2 hz i2 (k1.trans k2) vz
  exact tail_any hT hl hg (hs _ _)

theorem AX_str {x : List Nat} {i : Int} {cc : Nat} {K : V → Prop} (h0 : 0 ≤ i) (hc : x[i.toNat]? = some cc) (h : K (.str [cc])) : AX c σ (.str x) (.int i) K := by
  intro A s ρ u v Q E r g hu hv q
  unfold VR at hu hv
  obtain ⟨hz, t, rfl⟩ := hu
  obtain ⟨t', rfl⟩ := hv
  have hlt : i.toNat < x.length := (List.getElem?_eq_some_iff.mp hc).1
  rw [sizeLine_eq] at hz
  refine ⟨"str", _, F.slot_str_getitem.lookup, typeIs_str _ _ _, P.getItem_str (c := cc) (by simp; omega) ?_ (q _ _ _ h (by unfold VR; exact ⟨by rw [sizeLine_eq]; simp, _, rfl⟩))⟩
  have e2 : (St x).length = x.length := by simp [Str.length]
  unfold seqIndex?
  rw [e2]
  have : ¬ i < 0 := by omega
  simp only [this, if_false]
  rw [if_pos (by simp; omega)]
  simpa using hc
theorem AX_tup {xs : List V} {i : Int} {z : V} {K : V → Prop} (h0 : 0 ≤ i) (hi : i < 1000) (hc : xs[i.toNat]? = some z) (h : K z) : AX c σ (.tup xs) (.int i) K := by
  intro A s ρ u v Q E r g hu hv q
  unfold VR at hu hv
  obtain ⟨a, ws, rfl, ht, hr⟩ := hu
  obtain ⟨t', rfl⟩ := hv
  obtain ⟨w, hw, vw⟩ := hr.get hc
  have hlt : i.toNat < xs.length := (List.getElem?_eq_some_iff.mp hc).1
  refine ⟨"tuple", _, slot_tuple_getitem.lookup, ht.typeIs, getItem_tuple (j := i.toNat) ht (by omega) (by omega) ?_ (by simpa using hw) (q _ _ s.toks h vw)⟩
  unfold seqIndex?
  have : ¬ i < 0 := by omega
  simp only [this, if_false]
  rw [if_pos (by simp [hr.len]; omega)]
theorem AX_list {n : Nat} {fz : Bool} {xs : List V} {i : Int} {z : V} {K : V → Prop} (hn : σ[n]? = some (.list fz xs)) (h0 : 0 ≤ i) (hi : i < 1000000) (hc : xs[i.toNat]? = some z) (h : K z) : AX c σ (.obj n) (.int i) K := by
  intro A s ρ u v Q E r g hu hv q
  unfold VR at hu hv
  obtain ⟨a, rfl, ha⟩ := hu
  obtain ⟨t', rfl⟩ := hv
  obtain ⟨_, o, k, ws, h1, h2, h3, h4, h5⟩ := g.st.at hn ha
  obtain ⟨w, hw, vw⟩ := h5.get hc
  have hl : s.heap.IsList a ws.toArray := ⟨o, h1, h2, k, h4⟩
  exact ⟨"list", _, slot_list_getitem.lookup, hl.typeIs, wpAny_getItem_list hl h0 (by omega) (by simpa using hw) (q _ _ s.toks h vw)⟩

theorem lookup_pairs {ρ : List Addr} {h : Heap} : ∀ {dd : List (Str × V)} {kvs : List (Str × Value)}, kvs.map (·.1) = dd.map (·.1) → VRs c ρ h (dd.map (·.2)) (kvs.map (·.2)) → ∀ {y : Str},
    (∀ {z : V}, dd.lookup y = some z → ∃ w, valueAt kvs y = some w ∧ VR c ρ h z w) ∧ (dd.lookup y = none → valueAt kvs y = none)
  | [], [], _, _, y => ⟨fun e => (by cases e), fun _ => rfl⟩
  | [], _ :: _, e, _, y => by cases e
  | _ :: _, [], e, _, y => by cases e
  | (k, z) :: dd, (k', w) :: kvs, e, hv, y => by
    simp only [List.map_cons, List.cons.injEq] at e
    obtain ⟨e1, e2⟩ := e
    simp only [List.map_cons] at hv
    unfold VRs at hv
    obtain ⟨w', r', er, v1, v2⟩ := hv
    cases er
    subst e1
    have ih := lookup_pairs (y := y) e2 v2
    unfold valueAt at ih ⊢
    rw [List.find?_cons, List.lookup_cons]
    by_cases hy : y = k'
    · subst hy
      simp only [decide_true, beq_self_eq_true, Option.map_some, Option.some.injEq]
      refine ⟨fun {z'} e => ⟨w, rfl, e ▸ v1⟩, ?_⟩
      intro e; cases e
    · have h1 : decide (k' = y) = false := decide_eq_false (fun e => hy e.symm)
      have h2 : (y == k') = false := beq_eq_false_iff_ne.mpr hy
      simp only [h1, h2]
      exact ih

theorem AX_dict {n : Nat} {fz : Bool} {dd : List (Str × V)} {y : List Nat} {z : V} {K : V → Prop} (hn : σ[n]? = some (.dict fz dd)) (hc : dd.lookup (St y) = some z) (h : K z) : AX c σ (.obj n) (.str y) K := by
  intro A s ρ u v Q E r g hu hv q
  unfold VR at hu hv
  obtain ⟨a, rfl, ha⟩ := hu
  obtain ⟨_, t', rfl⟩ := hv
  obtain ⟨_, kvs, h1, h2, h3⟩ := g.st.at hn ha
  obtain ⟨w, hw, vw⟩ := (lookup_pairs h2 h3).1 hc
  exact ⟨"dict", _, slot_dict_getitem.lookup, h1.mapOf.typeIs, wpAny_getItem_of (strKind_is _ _ _ _) h1.mapOf hw (q _ _ _ h vw)⟩

theorem AC_in_dict {n : Nat} {fz : Bool} {dd : List (Str × V)} {y : List Nat} {K : Bool → Prop} (hn : σ[n]? = some (.dict fz dd)) (hsys : ∀ ρ : List Addr, c.g0 <+: ρ → ∀ a, ρ[n]? = some a → (a == sysModules) = false) (h : K (dd.lookup (St y)).isSome) : AC c .In σ (.str y) (.obj n) K := by
  intro A s ρ u v Q E r g hu hv q
  unfold VR at hu hv
  obtain ⟨a, rfl, ha⟩ := hv
  obtain ⟨_, t', rfl⟩ := hu
  obtain ⟨_, kvs, h1, h2, h3⟩ := g.st.at hn ha
  refine wpAny_in_of (strKind_is _ _ _ _) (hsys ρ g.pre a ha) h1.mapOf ?_
  have e : (valueAt kvs (St y)).isSome = (dd.lookup (St y)).isSome := by
    cases hq : dd.lookup (St y) with
    | none => rw [(lookup_pairs h2 h3).2 hq]; rfl
    | some z => obtain ⟨w, hw, _⟩ := (lookup_pairs h2 h3).1 hq; rw [hw]; rfl
  rw [e]; exact q _ _ h

/-- an optional bound of a slice -/
def EO (c : Cx) (sc : Scope) (d : Nat) (e : Option Expr) (l : Loc) (σ : List O) (R : Option Int → List O → Prop) : Prop :=
  match e with
  | none => R none σ
  | some e => EV c sc d e l σ fun x σ' => ∃ i, x = .int i ∧ R (some i) σ'
def slc (x : List Nat) (lo hi : Option Int) : List Nat := (Txt.slice (St x) lo hi).cps.toList
theorem EO.run {e : Option Expr} {R : Option Int → List O → Prop} (h : EO c sc d e l σ R) {en : Env} {A : Around} {s : Shared} {ρ : List Addr} {Q : Value → Shared → Prop} {E : Value → Shared → Prop}
    (r : Room A d) (i : Inv c sc en ρ σ l s.heap)
    (q : ∀ o h' tk ρ' σ', R (o.map (·.1)) σ' → Inv c sc en ρ' σ' l h' → Stp No ρ ρ' s.heap h' → Q (partValue o) { s with heap := h', toks := tk }) : wpAny (model P c.w) A (evalPart e en) Q E s := by
  cases e with
  | none => exact wpAny_pure (q none s.heap s.toks ρ σ h i (Stp.refl _ _ _))
  | some e =>
    rw [evalPart_some]
    refine EV.mono h (fun x σ' y => y) r i fun x v h1 tk1 ρ1 σ1 hx i1 k1 vx => ?_
    obtain ⟨n, rfl, hn⟩ := hx
    unfold VR at vx
    obtain ⟨t, rfl⟩ := vx
    exact q (some (n, t)) h1 tk1 ρ1 σ1 hn i1 k1

theorem sliceAny {prog : Program} {w : World} {A : Around} {E : Value → Shared → Prop} {s : Shared} {x : Str} {t : Tok} {Q : Value → Shared → Prop} (lo hi : Option (Int × Tok))
    (h : ∀ t' k, Q (.str (Txt.slice x (lo.map (·.1)) (hi.map (·.1))) t') { s with heap := s.heap.push { cls := .type "slice", data := .fields #[partValue lo, partValue hi, .none] }, toks := k }) (hsz : x.length ≤ sizeLine) :
    ItemOn (model prog w) A E (.str x t) (.ref s.heap.objs.size) Q { s with heap := s.heap.push { cls := .type "slice", data := .fields #[partValue lo, partValue hi, .none] } } := by
  exact ⟨"str", _, F.slot_str_getitem.lookup, typeIs_str _ _ _, wpAny_getItem_str_slice (l := lo) (u := hi) (st := none) ⟨_, Heap.get?_push_size _ rfl, rfl, rfl⟩ rfl
    (post_val_or_str ⟨Nat.le_trans (Txt.slice_le x _ _) hsz, fun t' k => h t' k⟩)⟩

theorem push_keep {h : Heap} (ob : Obj) : ∀ b o, h.get? b = some o → (h.push ob).get? b = some o := fun _ _ e => Heap.get?_push_of_some ob e

theorem EV_slice {e : Expr} {lo hi : Option Expr} {p pos : Pos} {R : V → List O → Prop}
    (h : EV c sc d e l σ fun x σ₁ => EO c sc d lo l σ₁ fun i σ₂ => EO c sc d hi l σ₂ fun j σ₃ => ∃ y, x = .str y ∧ R (.str (slc y i j)) σ₃) : EV c sc d (.Subscript e (.Slice lo hi none p) pos) l σ R := by
  intro en A s ρ Q E r i q
  refine Subscript_ (h r i fun x v h1 tk1 ρ1 σ1 hx i1 k1 vx => ?_)
  refine wpAny_Slice (EO.run hx r i1 fun o1 h2 tk2 ρ2 σ2 hy i2 k2 => EO.run hy r i2 fun o2 h3 tk3 ρ3 σ3 hz i3 k3 => ?_)
  obtain ⟨y, rfl, hR⟩ := hz
  rw [evalPart_none]
  refine wpAny_pure ?_
  unfold VR at vx
  obtain ⟨hsz, t, rfl⟩ := vx
  obtain ⟨T, id, hl, hT, hg⟩ := sliceAny (prog := P) (w := c.w) (A := A) (E := E) (s := { s with heap := h3, toks := tk3 }) (x := St y) (t := t) (Q := Q) o1 o2 (fun t' k =>
    q _ _ _ k ρ3 σ3 hR (i3.keep (push_keep _)) (((k1.trans k2).trans k3).trans (Stp.keep (push_keep _))) (by
      unfold VR
      refine ⟨?_, t', rfl⟩
      have := Txt.slice_le (St y) (o1.map (·.1)) (o2.map (·.1))
      have e2 : (St y).length = y.length := by simp [Str.length]
      have e3 : (slc y (o1.map (·.1)) (o2.map (·.1))).length = (Txt.slice (St y) (o1.map (·.1)) (o2.map (·.1))).length := by simp [slc, Str.length]
      omega)) (by simpa [Str.length] using hsz)
  exact tail_any hT hl hg rfl
end

section
variable {c : Cx} {sc : Scope} {d : Nat} {l : Loc} {σ : List O}

theorem OAt.stp {ρ ρ' : List Addr} {h h' : Heap} {a : Addr} (s : SAt c ρ σ h) (k : Stp No ρ ρ' h h') (e : h'.get? a = h.get? a) : ∀ {o : O}, OAt c ρ h a o → OAt c ρ' h' a o
  | .list fz l, ⟨f, o, n, vs, h1, h2, h3, h4, h5⟩ => ⟨f, o, n, vs, e.trans h1, h2, h3, h4, VRs.mono s noS k _ _ h5⟩
  | .dict fz d, ⟨f, kvs, h1, h2, h3⟩ => ⟨f, kvs, h1.at (fun o q => e.trans q), h2, VRs.mono s noS k _ _ h3⟩

theorem stp_in {ρ : List Addr} {h h' : Heap} {a : Addr} (m : a ∈ ρ) (hs : Heap.SameBut a h h') (live : h'.get? a ≠ none) : Stp No ρ ρ h h' :=
  ⟨fun b o e _ n => (hs.2 b fun (q : b = a) => n (q ▸ m)).trans e, List.prefix_refl _, fun _ m => .inl m, fun b q => by
    by_cases hb : b = a
    · subst hb; exact absurd q live
    · rw [← hs.2 b hb]; exact q⟩

theorem Glo.upd {ρ : List Addr} {h h' : Heap} {n : Nat} {a : Addr} {o : O} (g : Glo c ρ σ h) (ha : ρ[n]? = some a) (hs : Heap.SameBut a h h') (live : h'.get? a ≠ none) (low : c.hb.get? a = none)
    (ho : OAt c ρ h' a o) : Glo c ρ (σ.set n o) h' ∧ Stp No ρ ρ h h' := by
  have k := stp_in (List.mem_of_getElem? ha) hs live
  refine ⟨⟨fun b o e => ?_, g.pre, by rw [List.length_set]; exact g.st.1, g.st.2.1, fun i b o' e1 e2 => ?_⟩, k⟩
  · have : b ≠ a := fun q => by rw [q, low] at e; cases e
    exact (hs.2 b this).trans (g.base b o e)
  · by_cases hi : i = n
    · subst hi
      rw [ha] at e1; cases e1
      have : i < σ.length := by have := (List.getElem?_eq_some_iff.mp e2).1; simpa using this
      rw [List.getElem?_set_self this] at e2
      cases e2; exact ho
    · rw [List.getElem?_set_ne (Ne.symm hi)] at e2
      have hne : b ≠ a := fun q => by
        subst q
        obtain ⟨hi1, q1⟩ := List.getElem?_eq_some_iff.mp e1
        obtain ⟨hi2, q2⟩ := List.getElem?_eq_some_iff.mp ha
        exact hi ((List.getElem_inj g.st.2.1).mp (q1.trans q2.symm))
      exact (g.st.2.2 i b o' e1 e2).stp g.st k (hs.2 b hne)

theorem Glo.push {ρ : List Addr} {h : Heap} {ob : Obj} {o : O} (g : Glo c ρ σ h) (ho : OAt c (ρ ++ [h.objs.size]) (h.push ob) h.objs.size o) :
    Glo c (ρ ++ [h.objs.size]) (σ ++ [o]) (h.push ob) ∧ Stp No ρ (ρ ++ [h.objs.size]) h (h.push ob) := by
  have hnone : h.get? h.objs.size = none := by
    cases q : h.get? h.objs.size with
    | none => rfl
    | some o => exact absurd (Heap.lt_size q) (Nat.lt_irrefl _)
  have k : Stp No ρ (ρ ++ [h.objs.size]) h (h.push ob) := ⟨fun b o e _ _ => push_keep ob b o e, List.prefix_append _ _, fun a m => by
    rcases List.mem_append.mp m with m | m
    · exact .inl m
    · rw [List.mem_singleton.mp m]; exact .inr hnone, fun a q => back (push_keep ob) q⟩
  refine ⟨⟨fun b o e => push_keep ob b o (g.base b o e), g.pre.trans (List.prefix_append _ _), by simp [g.st.1], ?_, fun i b o' e1 e2 => ?_⟩, k⟩
  · rw [List.nodup_append]
    refine ⟨g.st.2.1, by simp, fun x hx y hy e => ?_⟩
    rw [List.mem_singleton] at hy
    subst hy; subst e
    obtain ⟨o, ho⟩ := g.st.live hx
    rw [hnone] at ho; cases ho
  · by_cases hi : i < ρ.length
    · rw [List.getElem?_append_left hi] at e1
      rw [List.getElem?_append_left (g.st.1 ▸ hi)] at e2
      have y := g.st.2.2 i b o' e1 e2
      obtain ⟨ob', hob⟩ := g.st.live (List.mem_of_getElem? e1)
      exact y.stp g.st k ((push_keep ob b ob' hob).trans hob.symm)
    · have hi' : ρ.length ≤ i := by omega
      rw [List.getElem?_append_right hi'] at e1
      rw [List.getElem?_append_right (g.st.1 ▸ hi')] at e2
      have hz : i - ρ.length = 0 := by
        cases q : i - ρ.length with
        | zero => rfl
        | succ n => rw [q] at e1; simp at e1
      rw [hz] at e1
      rw [← g.st.1, hz] at e2
      simp at e1 e2
      subst e1; subst e2; exact ho

theorem Inv.stepG {en : Env} {ρ ρ' : List Addr} {σ' : List O} {h h' : Heap} (i : Inv c sc en ρ σ l h) (x : Glo c ρ' σ' h' ∧ Stp No ρ ρ' h h') : Inv c sc en ρ' σ' l h' := i.step x.1 x.2

theorem EV_tup {es : List Expr} {k : Nat} {pos : Pos} {R : V → List O → Prop} (h : EVs c sc d es l σ fun xs σ' => R (.tup xs) σ' ∧ xs.length ≤ 1000) : EV c sc d (.Tuple es k pos) l σ R := by
  intro en A s ρ Q E r i q
  refine PySem.wpAny_Tuple (h r i fun xs vs h1 tk1 ρ1 σ1 hx i1 k1 vx => ?_)
  refine ⟨by rw [vx.len, sizeLine_eq]; omega, ?_⟩
  refine q (.tup xs) _ _ tk1 ρ1 σ1 hx.1 (i1.keep (push_keep _)) (k1.trans (Stp.keep (push_keep _))) ?_
  unfold VR
  exact ⟨_, vs, rfl, ⟨_, Heap.get?_push_size _ rfl, rfl, 0, rfl⟩, VRs.mono i1.glo.st noS (Stp.keep (push_keep _)) _ _ vx⟩

theorem EV_list {es : List Expr} {pos : Pos} {R : V → List O → Prop} (h : EVs c sc d es l σ fun xs σ' => R (.obj σ'.length) (σ' ++ [.list false xs]) ∧ xs.length ≤ 1000) : EV c sc d (.List es pos) l σ R := by
  intro en A s ρ Q E r i q
  refine PySem.wpAny_List (h r i fun xs vs h1 tk1 ρ1 σ1 hx i1 k1 vx => ?_)
  refine ⟨by rw [vx.len, sizeLine_eq]; omega, ?_⟩
  have hnone : h1.get? h1.objs.size = none := by
    cases q : h1.get? h1.objs.size with
    | none => rfl
    | some o => exact absurd (Heap.lt_size q) (Nat.lt_irrefl _)
  have st : Stp No ρ1 (ρ1 ++ [h1.objs.size]) h1 (h1.push { cls := .type "list", data := .seq vs.toArray }) := ⟨fun b o e _ _ => push_keep _ b o e, List.prefix_append _ _, fun a m => by
    rcases List.mem_append.mp m with m | m
    · exact .inl m
    · rw [List.mem_singleton.mp m]; exact .inr hnone, fun a q => back (push_keep _) q⟩
  have g := i1.glo.push (ob := { cls := .type "list", data := .seq vs.toArray }) (o := .list false xs) ⟨fun _ => back i1.glo.base hnone, _, 0, vs, Heap.get?_push_size _ rfl, rfl, rfl, rfl, VRs.mono i1.glo.st noS st _ _ vx⟩
  refine q (.obj σ1.length) _ _ tk1 _ _ hx.1 (i1.stepG g) (k1.trans g.2) ?_
  unfold VR
  exact ⟨_, rfl, by rw [← i1.glo.st.1]; simp⟩

/-- a local name stored -/
def upd (l : Loc) (x : Str) (v : V) : Loc := fun y => if y = x then some v else l y

theorem Inv.store {en : Env} {ρ : List Addr} {h h' : Heap} {x : Str} {v : Value} {y : V} {m : Str → Option Value} (i : Inv c sc en ρ σ l h) (hl : sc.names.lookup x = some .local) (hm : ∀ x V, l x = some V → ∃ v, Held sc en ρ h m x v ∧ VR c ρ h V v) (hn0 : h.Ns en.locals m)
    (hn : h'.Ns en.locals (fun z => if z = x then some v else m z)) (hs : Heap.SameBut en.locals h h') (vr : VR c ρ h y v) : Inv c sc en ρ σ (upd l x y) h' ∧ Stp (At en.locals) ρ ρ h h' := by
  have live : h'.get? en.locals ≠ none := by obtain ⟨o, es, ep, e, _⟩ := hn; rw [e]; exact fun q => by cases q
  have k : Stp (At en.locals) ρ ρ h h' := ⟨fun b o e n _ => (hs.2 b n).trans e, List.prefix_refl _, fun _ m => .inl m, fun b q => by
    by_cases hb : b = en.locals
    · subst hb; exact absurd q live
    · rw [← hs.2 b hb]; exact q⟩
  have hS := atS hn0
  have g : Glo c ρ σ h' := ⟨fun b o e => (hs.2 b fun q => by rw [q, i.low] at e; cases e).trans (i.glo.base b o e), i.glo.pre, i.glo.st.1, i.glo.st.2.1, fun n b o e1 e2 => by
    have hb : b ≠ en.locals := fun q => i.out (q ▸ List.mem_of_getElem? e1)
    have y := i.glo.st.2.2 n b o e1 e2
    cases o with
    | list fz xs => obtain ⟨f, o, n, vs, h1, h2, h3, h4, h5⟩ := y; exact ⟨f, o, n, vs, (hs.2 b hb).trans h1, h2, h3, h4, VRs.mono i.glo.st hS k _ _ h5⟩
    | dict fz xs => obtain ⟨f, kvs, h1, h2, h3⟩ := y; exact ⟨f, kvs, h1.at (fun o q => (hs.2 b hb).trans q), h2, VRs.mono i.glo.st hS k _ _ h3⟩⟩
  refine ⟨⟨g, ⟨_, hn, fun z w e => ?_⟩, i.out, i.low, i.es, i.gl, i.bl⟩, k⟩
  unfold upd at e
  by_cases hz : z = x
  · subst hz
    simp only [if_true] at e
    cases e
    exact ⟨v, .inl ⟨hl, by simp⟩, VR.mono i.glo.st hS k _ _ vr⟩
  · simp only [hz, if_false] at e
    obtain ⟨w', e1, e2⟩ := hm z w e
    refine ⟨w', ?_, VR.mono i.glo.st hS k _ _ e2⟩
    have := e1.mono (fun _ q => q) k
    rcases this with ⟨q1, q2⟩ | q
    · exact .inl ⟨q1, by simp [hz, q2]⟩
    · exact .inr q

theorem storing {en : Env} {A : Around} {s : Shared} {ρ : List Addr} {Q : Unit → Shared → Prop} {E : Value → Shared → Prop} {x : Str} {v : Value} {y : V} (i : Inv c sc en ρ σ l s.heap) (vr : VR c ρ s.heap y v)
    (q : ∀ h' tk, Inv c sc en ρ σ (upd l x y) h' → Stp (At en.locals) ρ ρ s.heap h' → Q () { s with heap := h', toks := tk }) (hk : sc.kind = .function) (hl : sc.names.lookup x = some .local) :
    wpAny (model P c.w) A (storeName en x v) Q E s := by
  obtain ⟨m, hn, hm⟩ := i.locs
  exact wpAny_storeName_local ((i.kind x).trans hl) hn (fun h' hn' hs' => have z := i.store hl hm hn hn' hs' vr; q h' _ z.1 z.2) (by rw [i.fn hk]; rfl)

theorem E1_assign {x : Str} {px pos : Pos} {e : Expr} {R : Out → Loc → List O → Prop} (h : EV c sc d e l σ fun y σ' => R .next (upd l x y) σ')
    (hs : ∀ env, swapsWith e (some (.Name x px)) pos.line env = pure false := by intro _; with_unfolding_all rfl) (hk : sc.kind = .function := by with_unfolding_all rfl) (hl : sc.names.lookup x = some .local := by with_unfolding_all rfl) : E1 c sc d (.Assign [.Name x px] e pos) l σ R := by
  intro en A s ρ Q E r i q
  refine wpAny_Assign_Name (h r i fun y v h1 tk1 ρ1 σ1 hy i1 k1 vy => ?_) (hs _)
  exact storing (s := { s with heap := h1, toks := tk1 }) i1 vy (fun h2 tk2 i2 k2 => q .next .next h2 tk2 ρ1 _ σ1 hy i2 (k1.weak.trans k2) rfl) hk hl
theorem E1_aug {x : Str} {px pos : Pos} {op : Operator} {e : Expr} {R : Out → Loc → List O → Prop} {y : V} (hx : l x = some y) (h : EV c sc d e l σ fun z σ' => AB c op y z fun w => R .next (upd l x w) σ')
    (hk : sc.kind = .function := by with_unfolding_all rfl) (hl : sc.names.lookup x = some .local := by with_unfolding_all rfl) : E1 c sc d (.AugAssign (.Name x px) op e pos) l σ R := by
  intro en A s ρ Q E r i q
  obtain ⟨m, hn, hm⟩ := i.locs
  obtain ⟨v, hv, vr⟩ := hm x y hx
  rcases hv with ⟨_, hv⟩ | ⟨hv, _⟩
  case inr => rw [hl] at hv; cases hv
  refine wpAny_AugAssign_Name (wpAny_loadName_local (i.fn hk) ((i.kind x).trans hl) hn hv (h r i fun z u h1 tk1 ρ1 σ1 hz i1 k1 vz => ?_))
  refine (hz (s := { s with heap := h1, toks := tk1 }) (VR.mono i.glo.st noS k1 y v vr) vz fun w uw tk hw vw => ?_).2
  exact storing (s := { s with heap := h1, toks := tk }) i1 vw (fun h2 tk2 i2 k2 => q .next .next h2 tk2 ρ1 _ σ1 hw i2 (k1.weak.trans k2) rfl) hk hl

theorem EX_nil {R : Out → Loc → List O → Prop} (h : R .next l σ) : EX c sc d [] l σ R := by
  intro en A s ρ Q E r i q
  exact wpAny_execs_nil (q .next .next s.heap s.toks ρ l σ h i (Stp.refl _ _ _) rfl)
theorem EX_cons {st : Stmt} {rest : List Stmt} {R : Out → Loc → List O → Prop} (h : E1 c sc d st l σ (Seq (fun l' σ' => EX c sc d rest l' σ' R) R)) : EX c sc d (st :: rest) l σ R := by
  intro en A s ρ Q E r i q
  refine wpAny_execs_cons (h r i fun o f h1 tk1 ρ1 l1 σ1 ho i1 k1 fr => ?_)
  cases o with
  | next =>
    have fr : f = .next := fr
    subst fr
    exact ho r i1 fun o f h2 tk2 ρ2 l2 σ2 ho2 i2 k2 fr2 => q o f h2 tk2 ρ2 l2 σ2 ho2 i2 (k1.trans k2) fr2
  | brk =>
    have e : f = .brk := fr
    subst e
    exact q .brk .brk h1 tk1 ρ1 l1 σ1 ho i1 k1 rfl
  | cont =>
    have e : f = .cont := fr
    subst e
    exact q .cont .cont h1 tk1 ρ1 l1 σ1 ho i1 k1 rfl
  | ret x =>
    obtain ⟨v, e, vr⟩ := fr
    subst e
    exact q (.ret x) (.ret v) h1 tk1 ρ1 l1 σ1 ho i1 k1 ⟨v, rfl, vr⟩

theorem E1_ret {e : Expr} {pos : Pos} {R : Out → Loc → List O → Prop} (h : EV c sc d e l σ fun y σ' => R (.ret y) l σ') : E1 c sc d (.Return (some e) pos) l σ R := by
  intro en A s ρ Q E r i q
  exact wpAny_Return_some (h r i fun y v h1 tk1 ρ1 σ1 hy i1 k1 vy => q (.ret y) (.ret v) h1 tk1 ρ1 l σ1 hy i1 k1.weak ⟨v, rfl, vy⟩)
theorem E1_brk {pos : Pos} {R : Out → Loc → List O → Prop} (h : R .brk l σ) : E1 c sc d (.Break pos) l σ R := by
  intro en A s ρ Q E r i q
  exact wpAny_Break (q .brk .brk s.heap s.toks ρ l σ h i (Stp.refl _ _ _) rfl)
theorem E1_cont {pos : Pos} {R : Out → Loc → List O → Prop} (h : R .cont l σ) : E1 c sc d (.Continue pos) l σ R := by
  intro en A s ρ Q E r i q
  exact wpAny_Continue (q .cont .cont s.heap s.toks ρ l σ h i (Stp.refl _ _ _) rfl)
theorem E1_if {t : Expr} {b o : List Stmt} {pos : Pos} {R : Out → Loc → List O → Prop} (h : ET c sc d t l σ fun k σ' => if k then EX c sc d b l σ' R else EX c sc d o l σ' R) : E1 c sc d (.If t b o pos) l σ R := by
  intro en A s ρ Q E r i q
  refine wpAny_If (h r i fun k h1 tk1 ρ1 σ1 hk i1 k1 => ?_)
  cases k with
  | true => exact hk r i1 fun o f h2 tk2 ρ2 l2 σ2 ho2 i2 k2 fr2 => q o f h2 tk2 ρ2 l2 σ2 ho2 i2 (k1.weak.trans k2) fr2
  | false => exact hk r i1 fun o f h2 tk2 ρ2 l2 σ2 ho2 i2 k2 fr2 => q o f h2 tk2 ρ2 l2 σ2 ho2 i2 (k1.weak.trans k2) fr2
theorem E1_expr {e : Expr} {pos : Pos} {R : Out → Loc → List O → Prop} (h : EV c sc d e l σ fun y σ' => y = .none ∧ R .next l σ') (hs : ∀ env, swapsWith e none pos.line env = pure false := by intro _; with_unfolding_all rfl)
    (hk : sc.kind = .function := by with_unfolding_all rfl) : E1 c sc d (.Expr e pos) l σ R := by
  intro en A s ρ Q E r i q
  refine wpAny_Expr (h r i fun y v h1 tk1 ρ1 σ1 hy i1 k1 vy => ?_) (by show (en.scope.kind == .module && _) = false; rw [i.fn hk]; rfl) (hs _)
  obtain ⟨rfl, hR⟩ := hy
  unfold VR at vy; subst vy
  exact q .next .next h1 tk1 ρ1 l σ1 hR i1 k1.weak rfl

theorem E1_while {t : Expr} {body : List Stmt} {pos : Pos} {R : Out → Loc → List O → Prop} (I : Nat → Loc → List O → Prop) (n : Nat) (h0 : I n l σ)
    (turn : ∀ n l σ, I n l σ → ET c sc d t l σ fun b σ' => if b then EX c sc d body l σ' (Lp (fun l' σ'' => ∃ m, m < n ∧ I m l' σ'') R) else R .next l σ') :
    E1 c sc d (.While t body [] pos) l σ R := by
  intro en A s ρ Q E r i q
  refine wpAny_While (codeAny_whileLoop (fun n s' => ∃ h1 tk1 ρ1 l1 σ1, s' = { s with heap := h1, toks := tk1 } ∧ Inv c sc en ρ1 σ1 l1 h1 ∧ Stp (At en.locals) ρ ρ1 s.heap h1 ∧ I n l1 σ1) ?_ n ⟨s.heap, s.toks, ρ, l, σ, rfl, i, Stp.refl _ _ _, h0⟩)
  rintro n s' ⟨h1, tk1, ρ1, l1, σ1, rfl, i1, k1, hI⟩
  refine turn n l1 σ1 hI (s := { s with heap := h1, toks := tk1 }) (A := A) r i1 fun b h2 tk2 ρ2 σ2 hb i2 k2 => ?_
  cases b with
  | false => exact wpAny_execs_nil (q .next .next h2 tk2 ρ2 l1 σ2 hb i2 (k1.trans k2.weak) rfl)
  | true =>
    refine hb (s := { s with heap := h2, toks := tk2 }) (A := A) r i2 fun o f h3 tk3 ρ3 l3 σ3 ho i3 k3 fr => ?_
    have k := (k1.trans k2.weak).trans k3
    cases o with
    | next =>
      have fr : f = .next := fr
      subst fr
      obtain ⟨m, hm, hI⟩ := ho
      exact ⟨m, hm, h3, tk3, ρ3, l3, σ3, rfl, i3, k, hI⟩
    | cont =>
      have fr : f = .cont := fr
      subst fr
      obtain ⟨m, hm, hI⟩ := ho
      exact ⟨m, hm, h3, tk3, ρ3, l3, σ3, rfl, i3, k, hI⟩
    | brk =>
      have fr : f = .brk := fr
      subst fr
      exact q .next .next h3 tk3 ρ3 l3 σ3 ho i3 k rfl
    | ret x =>
      obtain ⟨v, rfl, vr⟩ := fr
      exact q (.ret x) (.ret v) h3 tk3 ρ3 l3 σ3 ho i3 k ⟨v, rfl, vr⟩
end

section
variable {c : Cx} {sc : Scope} {d : Nat} {l : Loc} {σ : List O}

theorem Inv.aside {en : Env} {it : Addr} {ρ : List Addr} {h h' : Heap} (i : Inv c sc en ρ σ l h) (k : ∀ b o, b ≠ it → h.get? b = some o → h'.get? b = some o) (n1 : it ∉ ρ) (n2 : it ≠ en.locals) (n3 : c.hb.get? it = none) (nt : ∀ vs, ¬ IsTup h it vs) (nc : ∀ v, ¬ h.IsCell it v) : Inv c sc en ρ σ l h' := by
  have hS : ∀ a vs, At it a → ¬ IsTup h a vs := fun a vs e t => by
    have e : a = it := e
    subst e; exact nt _ t
  have ke : ∀ b o, h.get? b = some o → ¬ At it b → b ∉ ρ → h'.get? b = some o := fun b o e n _ => k b o n e
  have kp : ρ <+: ρ := List.prefix_refl _
  have st : SAt c ρ σ h' := ⟨i.glo.st.1, i.glo.st.2.1, fun n b o e1 e2 => by
    have hb : b ≠ it := fun q => n1 (q ▸ List.mem_of_getElem? e1)
    have y := i.glo.st.2.2 n b o e1 e2
    cases o with
    | list fz xs => obtain ⟨f, o, n, vs, h1, h2, h3, h4, h5⟩ := y; exact ⟨f, o, n, vs, k _ _ hb h1, h2, h3, h4, VRs.mon i.glo.st hS ke kp _ _ h5⟩
    | dict fz xs => obtain ⟨f, kvs, h1, h2, h3⟩ := y; exact ⟨f, kvs, h1.at (fun o q => k _ _ hb q), h2, VRs.mon i.glo.st hS ke kp _ _ h3⟩⟩
  refine ⟨⟨fun b o e => k b o (fun q => by rw [q, n3] at e; cases e) (i.glo.base b o e), i.glo.pre, st⟩, ?_, i.out, i.low, i.es, i.gl, i.bl⟩
  obtain ⟨m, ⟨o, es, ep, a1, a2⟩, hm⟩ := i.locs
  exact ⟨m, ⟨o, es, ep, k _ _ (Ne.symm n2) a1, a2⟩, fun x y e => by
    obtain ⟨v, h1, h2⟩ := hm x y e
    refine ⟨v, ?_, VR.mon i.glo.st hS ke kp _ _ h2⟩
    rcases h1 with h1 | ⟨h1, a, e1, ⟨o, e2, e3⟩, e4⟩
    · exact .inl h1
    · exact .inr ⟨h1, a, e1, ⟨o, k _ _ (fun q => nc _ ⟨o, q ▸ e2, e3⟩) e2, e3⟩, e4⟩⟩

theorem stp_aside {en : Env} {it : Addr} {ρ ρ₁ : List Addr} {h₀ h h' : Heap} (i' : Inv c sc en ρ₁ σ l h') (k0 : Stp (At en.locals) ρ ρ₁ h₀ h) (hn : h₀.get? it = none) (k : ∀ b o, b ≠ it → h.get? b = some o → h'.get? b = some o) : Stp (At en.locals) ρ ρ₁ h₀ h' := by
  have ext : ∀ b o, h₀.get? b = some o → ¬ At en.locals b → b ∉ ρ → h'.get? b = some o := fun b o e n1 n2 => k b o (fun q => by rw [q, hn] at e; cases e) (k0.ext b o e n1 n2)
  refine ⟨ext, k0.pre, k0.new, fun a q => ?_⟩
  cases e : h₀.get? a with
  | none => rfl
  | some o =>
    exfalso
    by_cases h1 : a = en.locals
    · obtain ⟨m, ⟨o, es, ep, a1, _⟩, _⟩ := i'.locs
      rw [← h1, q] at a1; cases a1
    · by_cases h2 : a ∈ ρ
      · obtain ⟨o, ho⟩ := i'.glo.st.live (k0.pre.subset h2)
        rw [q] at ho; cases ho
      · rw [ext a o e h1 h2] at q; cases q

theorem for_core {x : Str} {px : Pos} {body : List Stmt} {R : Out → Loc → List O → Prop} {it : Addr} (n : Nat) (item : Nat → V) (It : Nat → Heap → Prop) (I : Nat → Loc → List O → Prop)
    (ItNe : ∀ k h vs, It k h → ¬ IsTup h it vs) (ItNc : ∀ k h v, It k h → ¬ h.IsCell it v) (ItEq : ∀ k h h', It k h → h'.get? it = h.get? it → It k h')
    {en : Env} {A : Around} {s : Shared} {ρ₀ ρ : List Addr} {h₀ : Heap} {Q : Flow → Shared → Prop} {E : Value → Shared → Prop}
    (r : Room A d) (i : Inv c sc en ρ σ l s.heap) (k0 : Stp (At en.locals) ρ₀ ρ h₀ s.heap) (n1 : it ∉ ρ) (n2 : it ≠ en.locals) (n3 : c.hb.get? it = none) (n4 : h₀.get? it = none) (hit : It 0 s.heap) (live : ∀ k h, It k h → h.get? it ≠ none)
    (next : ∀ k (s' : Shared), k < n → It k s'.heap → ∀ (Q : Option Value → Shared → Prop) (E : Value → Shared → Prop), (∀ h' v tk, It (k + 1) h' → Heap.SameBut it s'.heap h' → (∀ ρ h, VR c ρ h (item k) v) → Q (some v) { s' with heap := h', toks := tk }) → wpAny (model P c.w) A (pyNext (.ref it)) Q E s')
    (stop : ∀ (s' : Shared), It n s'.heap → ∀ (Q : Option Value → Shared → Prop) (E : Value → Shared → Prop), (∀ h', Heap.ExtBut it s'.heap h' → Q none { s' with heap := h' }) → wpAny (model P c.w) A (pyNext (.ref it)) Q E s')
    (h0 : I 0 l σ)
    (turn : ∀ k l σ, k < n → I k l σ → EX c sc d body (upd l x (item k)) σ (Lp (I (k + 1)) R))
    (fin : ∀ l σ, I n l σ → R .next l σ)
    (q : ∀ o f h' tk ρ' l' σ', R o l' σ' → Inv c sc en ρ' σ' l' h' → Stp (At en.locals) ρ₀ ρ' h₀ h' → FR c ρ' h' o f → Q f { s with heap := h', toks := tk })
    (hk : sc.kind = .function) (hl : sc.names.lookup x = some .local) :
    codeAny (model P c.w) A (.forLoop (.Name x px) (.ref it) body [] en) (fun r s' => match r with | .ok f => Q f s' | .error e => cameBackBy (model P c.w) A en E e s') s := by
  refine codeAny_forLoop (fun j s' => ∃ k h1 tk1 ρ1 l1 σ1, j = n - k ∧ k ≤ n ∧ s' = { s with heap := h1, toks := tk1 } ∧ Inv c sc en ρ1 σ1 l1 h1 ∧ Stp (At en.locals) ρ₀ ρ1 h₀ h1 ∧ It k h1 ∧ it ∉ ρ1 ∧ I k l1 σ1) ?_ n ⟨0, s.heap, s.toks, ρ, l, σ, rfl, Nat.zero_le _, rfl, i, k0, hit, n1, h0⟩
  rintro j s' ⟨k, h1, tk1, ρ1, l1, σ1, rfl, hkn, rfl, i1, k1, hit1, m1, hI⟩
  by_cases hlt : k < n
  · refine next k { s with heap := h1, toks := tk1 } hlt hit1 _ _ fun h2 v tk2 hit2 hs2 vr => ?_
    have i2 := i1.aside (h' := h2) (fun b o hb e => (hs2.2 b hb).trans e) m1 n2 n3 (fun vs => ItNe k _ vs hit1) (fun v => ItNc k _ v hit1)
    have k2 := stp_aside i2 k1 n4 (fun b o hb e => (hs2.2 b hb).trans e)
    refine wpAny_assign_Name (storing (s := { s with heap := h2, toks := tk2 }) (y := item k) i2 (vr _ _) (fun h3 tk3 i3 k3 => ?_) hk hl)
    have hit3 : It (k + 1) h3 := ItEq _ _ _ hit2 (by
      cases e : h2.get? it with
      | none => exact absurd e (live _ _ hit2)
      | some o => exact k3.ext it o e n2 m1)
    refine turn k l1 σ1 hlt hI (s := { s with heap := h3, toks := tk3 }) (A := A) r i3 fun o f h4 tk4 ρ4 l4 σ4 ho i4 k4 fr => ?_
    have kk := (k2.trans k3).trans k4
    have hit4 : It (k + 1) h4 := ItEq _ _ _ hit3 (by
      cases e : h3.get? it with
      | none => exact absurd e (live _ _ hit3)
      | some o => exact k4.ext it o e n2 m1)
    have m4 : it ∉ ρ4 := fun m => (k4.new it m).elim m1 (live _ _ hit3)
    cases o with
    | next =>
      have fr : f = .next := fr
      subst fr
      exact ⟨n - (k + 1), by omega, k + 1, h4, tk4, ρ4, l4, σ4, rfl, hlt, rfl, i4, kk, hit4, m4, ho⟩
    | cont =>
      have fr : f = .cont := fr
      subst fr
      exact ⟨n - (k + 1), by omega, k + 1, h4, tk4, ρ4, l4, σ4, rfl, hlt, rfl, i4, kk, hit4, m4, ho⟩
    | brk =>
      have fr : f = .brk := fr
      subst fr
      exact q .next .next h4 tk4 ρ4 l4 σ4 ho i4 kk rfl
    | ret y =>
      obtain ⟨v, rfl, vr⟩ := fr
      exact q (.ret y) (.ret v) h4 tk4 ρ4 l4 σ4 ho i4 kk ⟨v, rfl, vr⟩
  · have hkn : k = n := by omega
    subst hkn
    refine stop { s with heap := h1, toks := tk1 } hit1 _ _ fun h2 he => wpAny_execs_nil ?_
    have i2 := i1.aside (h' := h2) he m1 n2 n3 (fun vs => ItNe k _ vs hit1) (fun v => ItNc k _ v hit1)
    exact q .next .next h2 tk1 ρ1 l1 σ1 (fin _ _ hI) i2 (stp_aside i2 k1 n4 he) rfl

theorem size_none {h : Heap} : h.get? h.objs.size = none := by
  cases q : h.get? h.objs.size with
  | none => rfl
  | some o => exact absurd (Heap.lt_size q) (Nat.lt_irrefl _)

/-- the bounds that a range's arguments say -/
def rng : List V → Option (Int × Int × Int)
  | [.int b] => some (0, b, 1)
  | [.int a, .int b] => some (a, b, 1)
  | [.int a, .int b, .int s] => some (a, b, s)
  | _ => none

theorem VRs.two {ρ : List Addr} {h : Heap} {x y : V} {vs : List Value} (e : VRs c ρ h [x, y] vs) : ∃ v w, vs = [v, w] ∧ VR c ρ h x v ∧ VR c ρ h y w := by
  unfold VRs at e
  obtain ⟨v, r, rfl, e1, e2⟩ := e
  obtain ⟨w, rfl, e3⟩ := e2.one
  exact ⟨v, w, rfl, e1, e3⟩
theorem VRs.three {ρ : List Addr} {h : Heap} {x y z : V} {vs : List Value} (e : VRs c ρ h [x, y, z] vs) : ∃ v w u, vs = [v, w, u] ∧ VR c ρ h x v ∧ VR c ρ h y w ∧ VR c ρ h z u := by
  unfold VRs at e
  obtain ⟨v, r, rfl, e1, e2⟩ := e
  obtain ⟨w, u, rfl, e3, e4⟩ := e2.two
  exact ⟨v, w, u, rfl, e1, e3, e4⟩

theorem call_range {A : Around} {E : Value → Shared → Prop} {s : Shared} {ρ : List Addr} {xs : List V} {vs : List Value} {a b st : Int} {Q : Value → Shared → Prop} (hr : rng xs = some (a, b, st)) (hst : st ≠ 0) (hp : Builtin.divisionGoesByPylong (b - a) st = false)
    (vx : VRs c ρ s.heap xs vs) (q : ∀ t u v tk, Q (.ref s.heap.objs.size) { s with heap := s.heap.push { cls := .type "range", data := .fields #[.int a t, .int b u, .int st v] }, toks := tk }) : wpAny (model P c.w) A (call (.type "range") vs) Q E s := by
  unfold rng at hr
  split at hr <;> cases hr
  · obtain ⟨v, rfl, e⟩ := vx.one
    unfold VR at e; obtain ⟨t, rfl⟩ := e
    exact call_range_1 (q _ _ _ _)
  · obtain ⟨v, w, rfl, e1, e2⟩ := vx.two
    unfold VR at e1 e2; obtain ⟨t, rfl⟩ := e1; obtain ⟨u, rfl⟩ := e2
    exact call_range_2 (q _ _ _ _)
  · obtain ⟨v, w, z, rfl, e1, e2, e3⟩ := vx.three
    unfold VR at e1 e2 e3; obtain ⟨t, rfl⟩ := e1; obtain ⟨u, rfl⟩ := e2; obtain ⟨u', rfl⟩ := e3
    exact call_range_3 hst (q _ _ _ _) (.inl hp)

theorem E1_for_range {x : Str} {px p pf pos : Pos} {args : List Expr} {body : List Stmt} {R : Out → Loc → List O → Prop} (ok : Ok c)
    (h : EA c sc d args l σ fun xs σ' => ∃ a b st, rng xs = some (a, b, st) ∧ st ≠ 0 ∧ Builtin.divisionGoesByPylong (b - a) st = false ∧ Builtin.Range.small a b st = true ∧ ∃ I : Nat → Loc → List O → Prop, I 0 l σ' ∧
      (∀ (k : Nat) (l : Loc) (σ : List O), (k : Int) < Builtin.Range.rangeSize a b st → I k l σ → EX c sc d body (upd l x (.int (a + k * st))) σ (Lp (I (k + 1)) R)) ∧
      (∀ l σ, I (Builtin.Range.rangeSize a b st).toNat l σ → R .next l σ))
    (hs : ∀ env, (starEach args env).any (·.1) = false := by intro _; with_unfolding_all rfl)
    (hk : sc.kind = .function := by with_unfolding_all rfl) (hl : sc.names.lookup x = some .local := by with_unfolding_all rfl) (hg : sc.names.lookup ("range" : Str) = some .globalImplicit := by with_unfolding_all rfl) :
    E1 c sc d (.For (.Name x px) (.Call (.Name "range" p) args [] pf) body [] pos) l σ R := by
  intro en A s ρ Q E r i q
  refine wpAny_For (wpAny_Call_Name_kw (Calls.Name_function_global (i.fn hk) ((i.kind "range").trans hg) (Calls.loadGlobal_builtin (by rw [i.gl]; exact Heap.Ns.keeps ok.g i.glo.base) (ok.free "range" (by simp)) (by rw [i.bl]; exact Heap.Ns.keeps ok.b i.glo.base) ((ok.blt "range" (by decide)).trans boot_r) ?_)))
  show wpAny _ _ (callWith pf (.type "range") [] (backTo pf (starEach args _)) []) _ _ _
  refine PyProof.Rows.callWith_type (backTo_plain (pos := pf) (hs en)) (h r i fun xs vs h1 tk1 ρ1 σ1 hx i1 k1 vx => ?_)
  obtain ⟨ra, rb, st, hr, hst, hp, hsm, I, hI0, turn, fin⟩ := hx
  refine call_range (s := { s with heap := h1, toks := tk1 }) hr hst hp vx fun t u v tk2 => ?_
  refine wpAny_pyIter_range (Heap.get?_push_size _ rfl) hsm ?_
  have hpos : 0 ≤ Builtin.Range.rangeSize ra rb st := by
    unfold Builtin.Range.rangeSize
    split <;> split <;> first | omega | (have := Int.ediv_nonneg (a := rb - ra - 1) (b := st) (by omega) (by omega); omega) | (have := Int.ediv_nonneg (a := ra - rb - 1) (b := -st) (by omega) (by omega); omega)
  generalize hob : ({ cls := .type "range", data := .fields #[.int ra t, .int rb u, .int st v] } : Obj) = ob
  have keep : ∀ b o, h1.get? b = some o → ((h1.push ob).push { cls := .type "range_iterator", data := .fields #[rawInt ra, rawInt (Builtin.Range.rangeSize ra rb st), rawInt st] }).get? b = some o := fun b o e => push_keep _ b o (push_keep _ b o e)
  have i2 := i1.keep keep
  have hn : h1.get? (h1.push ob).objs.size = none := by
    cases q : h1.get? (h1.push ob).objs.size with
    | none => rfl
    | some o => exact absurd (Heap.lt_size (push_keep ob _ _ q)) (Nat.lt_irrefl _)
  refine for_core (it := (h1.push ob).objs.size) (Builtin.Range.rangeSize ra rb st).toNat (fun k => .int (ra + k * st)) (fun k h => IsRangeIter h (h1.push ob).objs.size (ra + k * st) (Builtin.Range.rangeSize ra rb st - k) st) I ?_ ?_ ?_ (h₀ := s.heap) (ρ₀ := ρ) r i2 ((k1.weak).trans (Stp.keep keep)) ?_ ?_ ?_ ?_ ?_ ?_ ?_ ?_ hI0 (fun k l σ hk => turn k l σ (by omega)) fin (fun o f h' tk ρ' l' σ' hR i' k' fr => q o f h' tk ρ' l' σ' hR i' k' fr) hk hl
  · intro k h vs e t
    obtain ⟨o, h1, h2, _⟩ := t
    rw [show h.get? _ = _ from e] at h1; cases h1
    exact absurd (Value.type.inj h2) (by decide)
  · rintro k h v e ⟨o, h1, h2⟩
    rw [show h.get? _ = _ from e] at h1; cases h1
    cases h2
  · intro k h h' e q; exact q.trans e
  · intro m; obtain ⟨o, ho⟩ := i1.glo.st.live m; rw [hn] at ho; cases ho
  · intro e
    obtain ⟨m, ⟨o, es, ep, a1, _⟩, _⟩ := i1.locs
    rw [← e, hn] at a1; cases a1
  · exact back i1.glo.base hn
  · exact k1.fre _ hn
  · show (Heap.push _ _).get? _ = _
    rw [Heap.get?_push_size _ rfl]; simp
  · intro k h e q; rw [show h.get? _ = _ from e] at q; cases q
  · intro k s' hk hit Q E q
    exact wpAny_pyNext_range_item hit (by omega) fun h' hit' hs' => q h' _ _ (by
      have e1 : ra + ((k + 1 : Nat) : Int) * st = ra + (k : Int) * st + st := by push_cast; rw [Int.add_mul, Int.one_mul, Int.add_assoc]
      have e2 : Builtin.Range.rangeSize ra rb st - ((k + 1 : Nat) : Int) = Builtin.Range.rangeSize ra rb st - (k : Int) - 1 := by push_cast; omega
      rw [e1, e2]; exact hit') hs' fun ρ h => by unfold VR; exact ⟨_, rfl⟩
  · intro s' hit Q E q
    exact wpAny_pyNext_range_end r.hand hit (by omega) q

theorem E1_for_str {x : Str} {px pos : Pos} {e : Expr} {body : List Stmt} {R : Out → Loc → List O → Prop}
    (h : EV c sc d e l σ fun z σ' => ∃ y : List Nat, z = .str y ∧ (∀ n ∈ y, n < 128) ∧ ∃ I : Nat → Loc → List O → Prop, I 0 l σ' ∧
      (∀ k l σ (hk : k < y.length), I k l σ → EX c sc d body (upd l x (.str [y[k]])) σ (Lp (I (k + 1)) R)) ∧
      (∀ l σ, I y.length l σ → R .next l σ))
    (hf : ∀ env x, foldedSetIterable e env x = pure x := by intro _ _; with_unfolding_all rfl)
    (hk : sc.kind = .function := by with_unfolding_all rfl) (hl : sc.names.lookup x = some .local := by with_unfolding_all rfl) :
    E1 c sc d (.For (.Name x px) e body [] pos) l σ R := by
  intro en A s ρ Q E r i q
  refine wpAny_For (h r i fun z v h1 tk1 ρ1 σ1 hz i1 k1 vz => ?_) (hf _)
  obtain ⟨y, rfl, hasc, I, hI0, turn, fin⟩ := hz
  unfold VR at vz
  obtain ⟨hsz, t, rfl⟩ := vz
  refine wpAny_pyIter_ascii (by simpa using hasc) ?_
  generalize hob : ({ cls := .type "str_ascii_iterator", data := .fields #[.str (St y) t, .int 0 0] } : Obj) = ob
  have keep : ∀ b o, h1.get? b = some o → (h1.push ob).get? b = some o := push_keep ob
  have hn : h1.get? h1.objs.size = none := size_none
  refine for_core (it := h1.objs.size) y.length (fun k => .str [y.getD k 0]) (fun k h => h.IsStrIter h1.objs.size "str_ascii_iterator" (St y) t k) I ?_ ?_ ?_ (h₀ := s.heap) (ρ₀ := ρ) r (i1.keep keep) ((k1.weak).trans (Stp.keep keep)) ?_ ?_ ?_ ?_ ?_ ?_ ?_ ?_ hI0 (fun k l σ hk hI => by
      rw [show y.getD k 0 = y[k] by simp [List.getD, hk]]; exact turn k l σ hk hI) fin (fun o f h' tk ρ' l' σ' hR i' k' fr => q o f h' tk ρ' l' σ' hR i' k' fr) hk hl
  · rintro k h vs ⟨o, e1, e2, _⟩ t
    obtain ⟨o', h1, h2, _⟩ := t
    rw [e1] at h1; cases h1
    rw [e2] at h2; exact absurd (Value.type.inj h2) (by decide)
  · rintro k h v ⟨o, e1, e2, e3⟩ ⟨o', h1, h2⟩
    rw [e1] at h1; cases h1
    rw [e3] at h2; cases h2
  · rintro k h h' ⟨o, e1, e2⟩ q; exact ⟨o, q.trans e1, e2⟩
  · intro m; obtain ⟨o, ho⟩ := i1.glo.st.live m; rw [hn] at ho; cases ho
  · intro e
    obtain ⟨m, ⟨o, es, ep, a1, _⟩, _⟩ := i1.locs
    rw [← e, hn] at a1; cases a1
  · exact back i1.glo.base hn
  · exact k1.fre _ hn
  · exact ⟨ob, Heap.get?_push_size _ (by rw [← hob]; rfl), by rw [← hob], by rw [← hob]; rfl⟩
  · rintro k h ⟨o, e, _⟩ q; rw [e] at q; cases q
  · intro k s' hk hit Q E q
    exact wpAny_pyNext_ascii_item (c := y.getD k 0) hit (by simp [List.getD, hk]) fun h' hit' hs' => q h' _ _ hit' hs' fun ρ h => by unfold VR; exact ⟨by rw [sizeLine_eq]; simp, _, rfl⟩
  · intro s' hit Q E q
    exact wpAny_pyNext_ascii_end r.hand hit (by simp) q
end
section
variable {c : Cx} {sc : Scope} {d : Nat} {l : Loc} {σ : List O}

/-- the method of a value -/
def GMt (c : Cx) (name : Str) (id : String) (x : V) (σ : List O) : Prop :=
  ∀ ⦃A : Around⦄ ⦃s : Shared⦄ ⦃ρ : List Addr⦄ ⦃u : Value⦄ ⦃pl : Sem Bool⦄ ⦃Q : Value × List Value → Shared → Prop⦄ ⦃E : Value → Shared → Prop⦄, Glo c ρ σ s.heap → VR c ρ s.heap x u → Q (.builtin id, [u]) s → wpAny (model P c.w) A (getMethod u name pl) Q E s

theorem EV_meth {e : Expr} {name : Str} {id : String} {ap pos : Pos} {args : List Expr} {R : V → List O → Prop}
    (h : EV c sc (d+1) e l σ fun x σ₁ => GMt c name id x σ₁ ∧ EA c sc (d+1) args l σ₁ fun xs σ₂ => AK c (.builtin id) (x :: xs) σ₂ R)
    (hs : ∀ env, (starEach args env).any (·.1) = false := by intro _; with_unfolding_all rfl)
    (he : ∀ env, ∃ pl, eval (.Call (.Attribute e name ap) args [] pos) env = (do
      let ov ← eval e env
      standAt ap.atName
      let (f, first) ← holding [ov] (getMethod ov name pl)
      callWith pos f first (backTo pos (starEach args env)) []) := by intro _; with_unfolding_all exact ⟨_, rfl⟩) : EV c sc (d+1) (.Call (.Attribute e name ap) args [] pos) l σ R := by
  intro en A s ρ Q E r i q
  obtain ⟨pl, he⟩ := he en
  refine MethodCall_ (h r i fun x v h1 tk1 ρ1 σ1 hx i1 k1 vx => ?_) he
  obtain ⟨hg, hx⟩ := hx
  refine hg (s := { s with heap := h1, toks := tk1 }) i1.glo vx ?_
  refine Calls.callWith_builtin (backTo_plain (pos := pos) (hs en)) (hx r i1 fun xs vs h2 tk2 ρ2 σ2 hy i2 k2 vy => ?_)
  exact hy (s := { s with heap := h2, toks := tk2 }) (r.le (by omega)) i2.glo (by unfold VRs; exact ⟨v, vs, rfl, VR.mono i1.glo.st noS k2 x v vx, vy⟩) fun x v h3 tk3 ρ3 σ3 hz g3 k3 vz =>
    q x v h3 tk3 ρ3 σ3 hz (i2.step g3 k3) ((k1.trans k2).trans k3) vz

theorem GMt_strip {x : List Nat} : GMt c "strip" "str.strip" (.str x) σ := by
  intro A s ρ u pl Q E g hu h
  unfold VR at hu; obtain ⟨_, t, rfl⟩ := hu
  exact GM.strip h
theorem GMt_rindex {x : List Nat} : GMt c "rindex" "str.rindex" (.str x) σ := by
  intro A s ρ u pl Q E g hu h
  unfold VR at hu; obtain ⟨_, t, rfl⟩ := hu
  exact GM.rindex h
theorem GMt_join {x : List Nat} : GMt c "join" "str.join" (.str x) σ := by
  intro A s ρ u pl Q E g hu h
  unfold VR at hu; obtain ⟨_, t, rfl⟩ := hu
  exact GM.join h
theorem GMt_append {n : Nat} {fz : Bool} {xs : List V} (hn : σ[n]? = some (.list fz xs)) : GMt c "append" "list.append" (.obj n) σ := by
  intro A s ρ u pl Q E g hu h
  unfold VR at hu; obtain ⟨a, rfl, ha⟩ := hu
  obtain ⟨_, o, k, ws, h1, h2, h3, h4, h5⟩ := g.st.at hn ha
  exact Calls.getMethod_list_append h1 h2 h3 h

theorem AK_strip {x y z : List Nat} {R : V → List O → Prop} (hz : Txt.stripChars (St x) (St y) = St z) (h : R (.str z) σ) : AK c (.builtin "str.strip") [.str x, .str y] σ R := by
  intro A s ρ vs Q E r g hv q
  obtain ⟨v, w, rfl, e1, e2⟩ := hv.two
  unfold VR at e1 e2
  obtain ⟨hs, t, rfl⟩ := e1
  obtain ⟨_, u, rfl⟩ := e2
  have hl : (St z).length ≤ (St x).length := by rw [← hz]; exact PyProof.Rows.len_stripChars _ _
  refine SC.stripChars (fun t' k => ?_) (by simpa [Str.length] using hs)
  rw [hz]
  exact q _ _ s.heap _ ρ σ h g (Stp.refl _ _ _) (by unfold VR; exact ⟨by simp [Str.length] at hl; omega, _, rfl⟩)
theorem AK_rindex {x y : List Nat} {i : Nat} {R : V → List O → Prop} (hz : Builtin.Str.lastOccurrence (St x) (St y) 0 (St x).length = some i) (h : R (.int i) σ) : AK c (.builtin "str.rindex") [.str x, .str y] σ R := by
  intro A s ρ vs Q E r g hv q
  obtain ⟨v, w, rfl, e1, e2⟩ := hv.two
  unfold VR at e1 e2
  obtain ⟨hs, t, rfl⟩ := e1
  obtain ⟨_, u, rfl⟩ := e2
  refine call_gives F.slot_str_rindex (typeIs_str _ _ _) F.entry_str_rindex (F.args_str_rindex_2 _ _) (gives_str_rindex _ _ t u i hz) ?_
  exact q _ _ s.heap _ ρ σ h g (Stp.refl _ _ _) (by unfold VR; exact ⟨_, rfl⟩)
theorem strVals {ρ : List Addr} {h : Heap} : ∀ {ys : List (List Nat)} {vs : List Value}, VRs c ρ h (ys.map V.str) vs → ∃ l : List (Str × Tok), vs = strValues l ∧ l.map (·.1) = ys.map St
  | [], vs, e => by
    simp only [List.map_nil] at e; unfold VRs at e; subst e; exact ⟨[], rfl, rfl⟩
  | y :: ys, vs, e => by
    simp only [List.map_cons] at e; unfold VRs at e
    obtain ⟨v, r, rfl, e1, e2⟩ := e
    unfold VR at e1
    obtain ⟨_, t, rfl⟩ := e1
    obtain ⟨l, rfl, hl⟩ := strVals e2
    exact ⟨(St y, t) :: l, rfl, by simp [hl]⟩
theorem AK_join {n : Nat} {fz : Bool} {ys : List (List Nat)} {z : List Nat} {R : V → List O → Prop} (hn : σ[n]? = some (.list fz (ys.map V.str))) (hj : JoinOk (St []) (ys.map St) = true) (hz : Txt.join (St []) (ys.map St) = St z) (hl : z.length ≤ sizeLine) (h : R (.str z) σ) : AK c (.builtin "str.join") [.str [], .obj n] σ R := by
  intro A s ρ vs Q E r g hv q
  obtain ⟨v, w, rfl, e1, e2⟩ := hv.two
  unfold VR at e1 e2
  obtain ⟨hs, t, rfl⟩ := e1
  obtain ⟨a, rfl, ha⟩ := e2
  obtain ⟨_, o, k, ws, h1, h2, h3, h4, h5⟩ := g.st.at hn ha
  obtain ⟨l', rfl, hl'⟩ := strVals h5
  refine SC.join (l := l') (texts := ys.map St) ⟨o, h1, h2, k, h4⟩ hl' hj (fun t' k => ?_)
  rw [hz]
  exact q _ _ s.heap _ ρ σ h g (Stp.refl _ _ _) (by unfold VR; exact ⟨hl, _, rfl⟩)
theorem VRs.app {ρ : List Addr} {h : Heap} : ∀ {xs : List V} {vs : List Value} {y : V} {v : Value}, VRs c ρ h xs vs → VR c ρ h y v → VRs c ρ h (xs ++ [y]) (vs ++ [v])
  | [], vs, y, v, e, ey => by unfold VRs at e; subst e; simp only [List.nil_append]; unfold VRs; exact ⟨v, [], rfl, ey, by unfold VRs; rfl⟩
  | x :: xs, vs, y, v, e, ey => by
    unfold VRs at e
    obtain ⟨w, r, rfl, e1, e2⟩ := e
    simp only [List.cons_append]; unfold VRs
    exact ⟨w, r ++ [v], rfl, e1, VRs.app e2 ey⟩
theorem VRs.put {ρ : List Addr} {h : Heap} : ∀ {xs : List V} {vs : List Value} {k : Nat} {y : V} {v : Value}, VRs c ρ h xs vs → VR c ρ h y v → VRs c ρ h (xs.set k y) (vs.set k v)
  | [], vs, k, y, v, e, ey => by unfold VRs at e; subst e; simp only [List.set_nil]; unfold VRs; rfl
  | x :: xs, vs, 0, y, v, e, ey => by
    unfold VRs at e
    obtain ⟨w, r, rfl, e1, e2⟩ := e
    simp only [List.set_cons_zero]; unfold VRs
    exact ⟨v, r, rfl, ey, e2⟩
  | x :: xs, vs, k + 1, y, v, e, ey => by
    unfold VRs at e
    obtain ⟨w, r, rfl, e1, e2⟩ := e
    simp only [List.set_cons_succ]; unfold VRs
    exact ⟨w, r.set k v, rfl, e1, VRs.put e2 ey⟩

theorem VRs.mono' {ρ : List Addr} {h h' : Heap} (g : Glo c ρ σ h) (k : Stp No ρ ρ h h') {xs : List V} {vs : List Value} (e : VRs c ρ h xs vs) : VRs c ρ h' xs vs := VRs.mono g.st noS k _ _ e
theorem VR.mono' {ρ : List Addr} {h h' : Heap} (g : Glo c ρ σ h) (k : Stp No ρ ρ h h') {x : V} {v : Value} (e : VR c ρ h x v) : VR c ρ h' x v := VR.mono g.st noS k _ _ e

theorem Obj.dict_mapSeq (o : Obj) (f) : (o.mapSeq f).dict = o.dict := by
  obtain ⟨c, d, dt, sl⟩ := o; cases dt <;> rfl

theorem AK_append {n : Nat} {xs : List V} {y : V} {R : V → List O → Prop} (hn : σ[n]? = some (.list false xs)) (hz : xs.length ≤ 1000000) (h : R .none (σ.set n (.list false (xs ++ [y])))) : AK c (.builtin "list.append") [.obj n, y] σ R := by
  intro A s ρ vs Q E r g hv q
  obtain ⟨v, w, rfl, e1, e2⟩ := hv.two
  unfold VR at e1
  obtain ⟨a, rfl, ha⟩ := e1
  obtain ⟨low, o, k, ws, h1, h2, h3, h4, h5⟩ := g.st.at hn ha
  have hl : s.heap.IsList a ws.toArray := ⟨o, h1, h2, k, h4⟩
  obtain ⟨n', hd'⟩ := Obj.data_mapSeq h4 (·.push w)
  refine wpAny_call_entry slot_list_append hl.typeIs entry_list_append ?_ (args_list_append _ _)
  show wpAny _ _ (updateSeq a (·.push w) >>= fun _ => ret .none) _ _ s
  refine wpAny_bind ?_
  refine wpAny_updateSeq h1 h4 (wpAny_pure ⟨.none, rfl, ?_⟩) (by simp [h5.len, sizeLine_eq]; omega) (by simp [h5.len, sizeLine_eq]; omega)
  have hs : Heap.SameBut a s.heap (s.heap.update a (Obj.mapSeq (·.push w))) := Heap.SameBut.update ..
  have hg := Heap.get?_update_self (Obj.mapSeq (·.push w)) h1 (Obj.isFreed_of_seq hd')
  have live : (s.heap.update a (Obj.mapSeq (·.push w))).get? a ≠ none := by rw [hg]; exact fun q => by cases q
  have st := stp_in (List.mem_of_getElem? ha) hs live
  have z := g.upd ha hs live (low rfl) (o := .list false (xs ++ [y])) ⟨fun _ => low rfl, _, n', ws ++ [w], hg, (Obj.cls_mapSeq ..).trans h2, (Obj.dict_mapSeq ..).trans h3, by rw [hd']; simp, (h5.mono' g st).app (e2.mono' g st)⟩
  exact q .none .none _ s.toks ρ _ h z.1 z.2 (by unfold VR; rfl)

/-- an item stored -/
def AS (c : Cx) (σ : List O) (x i y : V) (K : List O → Prop) : Prop :=
  ∀ ⦃A : Around⦄ ⦃s : Shared⦄ ⦃ρ : List Addr⦄ ⦃u v w : Value⦄ ⦃Q : Unit → Shared → Prop⦄ ⦃E : Value → Shared → Prop⦄, Glo c ρ σ s.heap → VR c ρ s.heap x u → VR c ρ s.heap i v → VR c ρ s.heap y w →
    (∀ h' tk σ', K σ' → Glo c ρ σ' h' → Stp No ρ ρ s.heap h' → Q () { s with heap := h', toks := tk }) → wpAny (model P c.w) A (setItem u v w) Q E s

theorem AS_list {n : Nat} {xs : List V} {i : Int} {y : V} {K : List O → Prop} (hn : σ[n]? = some (.list false xs)) (h0 : 0 ≤ i) (hi : i < xs.length) (hz : xs.length ≤ 1000000) (h : K (σ.set n (.list false (xs.set i.toNat y)))) : AS c σ (.obj n) (.int i) y K := by
  intro A s ρ u v w Q E g hu hv hw q
  unfold VR at hu hv
  obtain ⟨a, rfl, ha⟩ := hu
  obtain ⟨t, rfl⟩ := hv
  obtain ⟨low, o, k, ws, h1, h2, h3, h4, h5⟩ := g.st.at hn ha
  have hl : s.heap.IsList a ws.toArray := ⟨o, h1, h2, k, h4⟩
  have hfit : i < 2 ^ 63 := by omega
  unfold setItem
  try with_reducible refine wpAny_holding ?_
  first | refine wpAny_bind (wpAny_pure ?_) | skip
  refine wpAny_bind (wpAny_sequenceKey hl.typeIs (by decide) ?_)
  refine wpAny_bind (wpAny_callSpecial?_slot (name := Str.ofString "__setitem__") hl.typeIs slot_list_setitem
    (wpAny_call_entry slot_list_setitem hl.typeIs entry_list_setitem ?_ (args_list_setitem _ _ _)))
  show wpAny _ _ (Builtin.List.listSubscript? (.int i t) >>= _) _ _ s
  refine wpAny_bind (wpAny_listSubscript_int (fitsIndex_of h0 hfit) ?_)
  clear hfit
  obtain ⟨j, rfl⟩ := Int.eq_ofNat_of_zero_le h0
  have hj : j < ws.toArray.size := by rw [List.size_toArray, h5.len]; omega
  have hx' : ws.toArray[j]? = some ws.toArray[j] := Array.getElem?_eq_getElem hj
  obtain ⟨n', hd'⟩ := Obj.data_mapSeq h4 (·.setIfInBounds j w)
  have hs : Heap.SameBut a s.heap (s.heap.update a (Obj.mapSeq (·.setIfInBounds j w))) := Heap.SameBut.update ..
  have hg := Heap.get?_update_self (Obj.mapSeq (·.setIfInBounds j w)) h1 (Obj.isFreed_of_seq hd')
  have live : (s.heap.update a (Obj.mapSeq (·.setIfInBounds j w))).get? a ≠ none := by rw [hg]; exact fun q => by cases q
  have st := stp_in (List.mem_of_getElem? ha) hs live
  have z := g.upd ha hs live (low rfl) (o := .list false (xs.set j y)) ⟨fun _ => low rfl, _, n', ws.set j w, hg, (Obj.cls_mapSeq ..).trans h2, (Obj.dict_mapSeq ..).trans h3, by rw [hd']; simp, (h5.mono' g st).put (hw.mono' g st)⟩
  have fin := q _ s.toks _ h z.1 z.2
  show wpAny _ _ ((seqItemAt a j >>= fun r => pure (r.map (j, ·))) >>= _) _ _ s
  refine wpAny_bind (wpAny_bind (wpAny_seqItemAt h1 h4 (wpAny_pure ?_)))
  rw [hx']
  show wpAny _ _ (setSeqItemAt a j w >>= _) _ _ s
  refine wpAny_bind (wpAny_setSeqItemAt h1 h4 ?_)
  first
    | exact wpAny_bind (wpAny_pure (wpAny_pure ⟨.none, rfl, wpAny_pure fin⟩))
    | exact wpAny_pure ⟨.none, rfl, wpAny_pure fin⟩
def put (dd : List (Str × V)) (k : Str) (y : V) : List (Str × V) :=
  if (dd.any fun kv => decide (kv.1 = k)) = true then dd.map (fun kv => if kv.1 = k then (kv.1, y) else kv) else dd ++ [(k, y)]
theorem stored_any {k : Str} : ∀ {dd : List (Str × V)} {kvs : List (Str × Value)}, kvs.map (·.1) = dd.map (·.1) → (kvs.any fun kv => decide (kv.1 = k)) = (dd.any fun kv => decide (kv.1 = k))
  | [], [], _ => rfl
  | [], _ :: _, e => by cases e
  | _ :: _, [], e => by cases e
  | x :: dd, z :: kvs, e => by
    simp only [List.map_cons, List.cons.injEq] at e
    rw [List.any_cons, List.any_cons, e.1, stored_any e.2]
theorem stored_map {k : Str} {y : V} {v : Value} {ρ : List Addr} {h : Heap} (ry : VR c ρ h y v) : ∀ {dd : List (Str × V)} {kvs : List (Str × Value)}, kvs.map (·.1) = dd.map (·.1) → VRs c ρ h (dd.map (·.2)) (kvs.map (·.2)) →
    (kvs.map (fun kv => if kv.1 = k then (kv.1, v) else kv)).map (·.1) = (dd.map (fun kv => if kv.1 = k then (kv.1, y) else kv)).map (·.1) ∧
    VRs c ρ h ((dd.map (fun kv => if kv.1 = k then (kv.1, y) else kv)).map (·.2)) ((kvs.map (fun kv => if kv.1 = k then (kv.1, v) else kv)).map (·.2))
  | [], [], _, r => ⟨rfl, r⟩
  | [], _ :: _, e, _ => by cases e
  | _ :: _, [], e, _ => by cases e
  | x :: dd, z :: kvs, e, r => by
    simp only [List.map_cons, List.cons.injEq] at e
    simp only [List.map_cons] at r
    unfold VRs at r
    obtain ⟨w, r', er, e1, e2⟩ := r
    simp only [List.cons.injEq] at er
    obtain ⟨rfl, rfl⟩ := er
    have ih := stored_map (k := k) ry e.2 e2
    simp only [List.map_cons]
    by_cases hk : x.1 = k
    · rw [if_pos hk, if_pos (e.1.trans hk)]
      refine ⟨by rw [ih.1, e.1], ?_⟩
      unfold VRs; exact ⟨v, _, rfl, ry, ih.2⟩
    · rw [if_neg hk, if_neg (fun q => hk (e.1.symm.trans q))]
      refine ⟨by rw [ih.1, e.1], ?_⟩
      unfold VRs; exact ⟨z.2, _, rfl, e1, ih.2⟩
theorem stored_keys {dd : List (Str × V)} {kvs : List (Str × Value)} {k : Str} {y : V} {v : Value} {ρ : List Addr} {h : Heap} (e : kvs.map (·.1) = dd.map (·.1)) (r : VRs c ρ h (dd.map (·.2)) (kvs.map (·.2))) (ry : VR c ρ h y v) :
    (stored kvs k v).map (·.1) = (put dd k y).map (·.1) ∧ VRs c ρ h ((put dd k y).map (·.2)) ((stored kvs k v).map (·.2)) := by
  unfold stored put
  rw [stored_any e]
  by_cases hk : (dd.any fun kv => decide (kv.1 = k)) = true
  · rw [if_pos hk, if_pos hk]; exact stored_map ry e r
  · rw [if_neg hk, if_neg hk]
    exact ⟨by simp [e], by simpa using r.app ry⟩
theorem AS_dict {n : Nat} {dd : List (Str × V)} {i : List Nat} {y : V} {K : List O → Prop} (hn : σ[n]? = some (.dict false dd)) (hz : dd.length ≤ 1000000) (h : K (σ.set n (.dict false (put dd (St i) y)))) : AS c σ (.obj n) (.str i) y K := by
  intro A s ρ u v w Q E g hu hv hw q
  unfold VR at hu hv
  obtain ⟨a, rfl, ha⟩ := hu
  obtain ⟨_, t, rfl⟩ := hv
  obtain ⟨low, kvs, h1, h2, h3⟩ := g.st.at hn ha
  refine wpAny_setItem_pairs (strKind_is _ _ _ _) h1 (fun h' hd hs => ?_) (by have := congrArg List.length h2; simp at this; rw [this, sizeLine_eq]; omega)
  have live : h'.get? a ≠ none := by obtain ⟨o, es, ep, e, _⟩ := hd; rw [e]; exact fun q => by cases q
  have st := stp_in (List.mem_of_getElem? ha) hs live
  have sk := stored_keys (k := St i) h2 h3 hw
  have z := g.upd ha hs live (low rfl) (o := .dict false (put dd (St i) y)) ⟨fun _ => low rfl, _, hd, sk.1, sk.2.mono' g st⟩
  exact q _ _ _ h z.1 z.2
end
section
variable {c : Cx} {sc : Scope} {d : Nat} {l : Loc} {σ : List O}

theorem E1_asub {o i value : Expr} {p pos : Pos} {R : Out → Loc → List O → Prop} (h : EV c sc d value l σ fun y σ₁ => EV c sc d o l σ₁ fun x σ₂ => EV c sc d i l σ₂ fun j σ₃ => AS c σ₃ x j y fun σ₄ => R .next l σ₄)
    (hs : ∀ env, swapsWith value (some (o.Subscript i p)) pos.line env = pure false := by intro _; with_unfolding_all rfl) : E1 c sc d (.Assign [.Subscript o i p] value pos) l σ R := by
  intro en A s ρ Q E r i q
  refine wpAny_Assign_Subscript (h r i fun y v h1 tk1 ρ1 σ1 hy i1 k1 vy => ?_) (hs _)
  refine hy r i1 fun x u h2 tk2 ρ2 σ2 hx i2 k2 vx => ?_
  refine hx r i2 fun j w h3 tk3 ρ3 σ3 hj i3 k3 vj => ?_
  refine hj (s := { s with heap := h3, toks := tk3 }) i3.glo (VR.mono i2.glo.st noS k3 x u vx) vj (VR.mono i1.glo.st noS (k2.trans k3) y v vy) fun h4 tk4 σ4 hz g4 k4 => ?_
  exact q .next .next h4 tk4 ρ3 l σ4 hz (i3.step g4 k4) (((k1.trans k2).trans k3).trans k4).weak rfl

theorem E1_augsub {o i value : Expr} {op : Operator} {p pos : Pos} {R : Out → Loc → List O → Prop}
    (h : EV c sc (d+1) o l σ fun x σ₁ => EV c sc (d+1) i l σ₁ fun j σ₂ => AX c σ₂ x j fun z => EV c sc (d+1) value l σ₂ fun y σ₃ => AB c op z y fun u => AS c σ₃ x j u fun σ₄ => R .next l σ₄)
    (hs : ∀ ov iv new, augStore i ov iv new = (do
            holding [new, ov, iv] (setItem ov iv new)
            release [new, ov, iv] []
            pure Flow.next) := by intro _ _ _; with_unfolding_all rfl) : E1 c sc (d+1) (.AugAssign (.Subscript o i p) op value pos) l σ R := by
  intro en A s ρ Q E r i q
  refine wpAny_AugAssign_SubscriptAny (h r i fun x v h1 tk1 ρ1 σ1 hx i1 k1 vx => ?_) hs
  refine hx r i1 fun j u h2 tk2 ρ2 σ2 hj i2 k2 vj => ?_
  obtain ⟨T, id, _, _, hg⟩ := hj (s := { s with heap := h2, toks := tk2 }) (A := A) (E := E) (r.le (by omega)) i2.glo (VR.mono i1.glo.st noS k2 x v vx) vj fun z w tk hz vz =>
    hz (s := { s with heap := h2, toks := tk }) r i2 fun y t h3 tk3 ρ3 σ3 hy i3 k3 vy =>
      (hy (s := { s with heap := h3, toks := tk3 }) (VR.mono i2.glo.st noS k3 z w vz) vy fun a b tk4 ha va =>
        ha (s := { s with heap := h3, toks := tk4 }) (Q := fun _ => Q .next) i3.glo (VR.mono i1.glo.st noS (k2.trans k3) x v vx) (VR.mono i2.glo.st noS k3 j u vj) va fun h4 tk5 σ4 hz g4 k4 =>
          q .next .next h4 tk5 ρ3 l σ4 hz (i3.step g4 k4) (((k1.trans k2).trans k3).trans k4).weak rfl).2
  exact hg

/-- names that stand in a target -/
def nmsOf : List Expr → Option (List Str)
  | [] => some []
  | .Name x _ :: r => (nmsOf r).map (x :: ·)
  | _ => none
def updAll (l : Loc) : List Str → List V → Loc
  | x :: xs, v :: vs => updAll (upd l x v) xs vs
  | _, _ => l

theorem assign_all {en : Env} {A : Around} : ∀ {ns : List Str} {ts : List (Value → Sem Unit)} (ht : ts.length = ns.length)
    (hh : ∀ (k : Nat) (n : Str) (t : Value → Sem Unit), ns[k]? = some n → ts[k]? = some t → ∀ (v : Value) (s : Shared) (Q : Unit → Shared → Prop) (E : Value → Shared → Prop), wpAny (model P c.w) A (storeName en n v) Q E s → wpAny (model P c.w) A (t v) Q E s)
    {xs : List V} {vs : List Value} {l : Loc} {s : Shared} {ρ : List Addr} {Q : Unit → Shared → Prop} {E : Value → Shared → Prop} (i : Inv c sc en ρ σ l s.heap) (vr : VRs c ρ s.heap xs vs) (hlen : ns.length = xs.length)
    (hk : sc.kind = .function) (hl : ∀ n ∈ ns, sc.names.lookup n = some .local)
    (q : ∀ h' tk, Inv c sc en ρ σ (updAll l ns xs) h' → Stp (At en.locals) ρ ρ s.heap h' → Q () { s with heap := h', toks := tk }), wpAny (model P c.w) A (assignInOrder ts vs) Q E s
  | [], [], _, _, xs, vs, l, s, ρ, Q, E, i, vr, hlen, hk, hl, q => by
    cases xs with
    | nil => exact assignInOrder_nil (q s.heap s.toks i (Stp.refl _ _ _))
    | cons _ _ => cases hlen
  | n :: ns, t :: ts, ht, hh, [], vs, l, s, ρ, Q, E, i, vr, hlen, hk, hl, q => by cases hlen
  | n :: ns, t :: ts, ht, hh, x :: xs, vs, l, s, ρ, Q, E, i, vr, hlen, hk, hl, q => by
    unfold VRs at vr
    obtain ⟨v, r, rfl, e1, e2⟩ := vr
    obtain ⟨m, hn, _⟩ := i.locs
    refine assignInOrder_cons (hh 0 n t rfl rfl v s _ _ (storing i e1 (fun h1 tk1 i1 k1 => ?_) hk (hl n List.mem_cons_self)))
    exact assign_all (ns := ns) (ts := ts) (by simpa using ht) (fun k n' t' e1 e2 => hh (k + 1) n' t' e1 e2) (s := { s with heap := h1, toks := tk1 }) i1 (VRs.mono i.glo.st (atS hn) k1 _ _ e2) (by simpa using hlen) hk (fun n' m => hl n' (List.mem_cons_of_mem _ m))
      fun h2 tk2 i2 k2 => q h2 tk2 i2 (k1.trans k2)
  | [], _ :: _, ht, _, _, _, _, _, _, _, _, _, _, _, _, _, _ => by cases ht
  | _ :: _, [], ht, _, _, _, _, _, _, _, _, _, _, _, _, _, _ => by cases ht

theorem nms_len : ∀ {es : List Expr} {ns : List Str} {en : Env}, nmsOf es = some ns → (assignEach es en).length = ns.length ∧ (assignEach es en).findIdx? (·.1) = none ∧
    ∀ (k : Nat) (n : Str) (t : Value → Sem Unit), ns[k]? = some n → ((assignEach es en).map (·.2))[k]? = some t → ∃ p, t = assign (.Name n p) en
  | [], ns, en, h => by
    unfold nmsOf at h; cases h
    exact ⟨rfl, rfl, fun k n t e => by simp at e⟩
  | e :: es, ns, en, h => by
    cases e
    case Name x p =>
      unfold nmsOf at h
      cases q : nmsOf es with
      | none => rw [q] at h; cases h
      | some ns' =>
        rw [q] at h; cases h
        obtain ⟨a, b, d⟩ := nms_len (en := en) q
        have e : assignEach (.Name x p :: es) en = (false, assign (.Name x p) en) :: assignEach es en := rfl
        rw [e]
        refine ⟨by simp [a], by simp [List.findIdx?_cons, b], fun k n t e1 e2 => ?_⟩
        cases k with
        | zero => simp at e1 e2; subst e1; exact ⟨p, e2.symm⟩
        | succ k => exact d k n t (by simpa using e1) (by simpa using e2)
    all_goals (unfold nmsOf at h; cases h)

theorem E1_unp {elts : List Expr} {k : Nat} {tp pos : Pos} {value : Expr} {ns : List Str} {R : Out → Loc → List O → Prop} (hn : nmsOf elts = some ns)
    (h : EV c sc d value l σ fun y σ' => ∃ xs, y = .tup xs ∧ ns.length = xs.length ∧ R .next (updAll l ns xs) σ')
    (hk : sc.kind = .function := by with_unfolding_all rfl) (hl : (ns.all fun n => sc.names.lookup n == some .local) = true := by with_unfolding_all rfl)
    (h1 : ∀ env, swapsWithSole [.Tuple elts k tp] value pos.line env = pure false := by intro _; with_unfolding_all rfl) (h2 : ∀ env, swappedStores [.Tuple elts k tp] value env = pure none := by intro _; with_unfolding_all rfl) : E1 c sc d (.Assign [.Tuple elts k tp] value pos) l σ R := by
  intro en A s ρ Q E r i q
  refine Assign_Tuple (h r i fun y v h1 tk1 ρ1 σ1 hy i1 k1 vy => ?_) (h1 _) (h2 _)
  obtain ⟨xs, rfl, hlen, hR⟩ := hy
  unfold VR at vy
  obtain ⟨a, vs, rfl, ht, hr⟩ := vy
  obtain ⟨e1, e2, e3⟩ := nms_len (en := en) hn
  refine assign_Tuple_tuple (s := { s with heap := h1, toks := tk1 }) r.hand ht (by rw [e1, hlen, List.size_toArray, hr.len]) e2 fun h2 hx => ?_
  have hnone : h1.get? h1.objs.size = none := size_none
  have i2 := i1.aside (h' := h2) (it := h1.objs.size) (fun b o hb e => hx b o hb e) (new_out i1.glo (Nat.le_refl _)).1 (fun e => by
    obtain ⟨m, ⟨o, es, ep, a1, _⟩, _⟩ := i1.locs
    rw [← e, hnone] at a1; cases a1) (new_out i1.glo (Nat.le_refl _)).2 (fun vs ⟨o, e, _⟩ => by rw [hnone] at e; cases e) (fun v ⟨o, e, _⟩ => by rw [hnone] at e; cases e)
  have kx : Stp No ρ1 ρ1 h1 h2 := Stp.keep fun b o e => hx b o (fun q => by rw [q, hnone] at e; cases e) e
  refine assign_all (s := { s with heap := h2, toks := tk1 }) (ns := ns) (by rw [List.length_map, e1]) (fun k n t a1 a2 v s Q E w => ?_) i2 (VRs.mono i1.glo.st noS kx _ _ hr) hlen hk (fun n hm => beq_iff_eq.mp (List.all_eq_true.mp hl n hm)) fun h3 tk3 i3 k3 => ?_
  · obtain ⟨p, rfl⟩ := e3 k n t a1 a2
    exact wpAny_assign_Name w
  · exact q .next .next h3 tk3 ρ1 _ σ1 hR i3 ((k1.trans kx).weak.trans k3) rfl

theorem VRs.rev {ρ : List Addr} {h : Heap} : ∀ {xs : List V} {vs : List Value}, VRs c ρ h xs vs → VRs c ρ h xs.reverse vs.reverse
  | [], vs, e => by unfold VRs at e; subst e; simp only [List.reverse_nil]; unfold VRs; rfl
  | x :: xs, vs, e => by
    unfold VRs at e
    obtain ⟨v, r, rfl, e1, e2⟩ := e
    simp only [List.reverse_cons]
    exact (VRs.rev e2).app e1

theorem E1_swp {elts : List Expr} {k : Nat} {tp pos : Pos} {value : Expr} {ns : List Str} {R : Out → Loc → List O → Prop}
    (h2 : ∀ env, env.scope = sc → swappedStores [.Tuple elts k tp] value env = pure (some ns))
    (h : EV c sc d value l σ fun y σ' => ∃ xs, y = .tup xs ∧ ns.length = xs.length ∧ R .next (updAll l ns.reverse xs.reverse) σ')
    (hk : sc.kind = .function := by with_unfolding_all rfl) (hl : (ns.all fun n => sc.names.lookup n == some .local) = true := by with_unfolding_all rfl)
    (h1 : ∀ env, swapsWithSole [.Tuple elts k tp] value pos.line env = pure false := by intro _; with_unfolding_all rfl) : E1 c sc d (.Assign [.Tuple elts k tp] value pos) l σ R := by
  intro en A s ρ Q E r i q
  refine Assign_Tuple_swapped (names := ns) (h r i fun y v h1 tk1 ρ1 σ1 hy i1 k1 vy => ?_) (h1 _) (h2 _ i.es)
  obtain ⟨xs, rfl, hlen, hR⟩ := hy
  unfold VR at vy
  obtain ⟨a, vs, rfl, ht, hr⟩ := vy
  have e0 : ns.length = vs.toArray.size := by rw [hlen, List.size_toArray, hr.len]
  rw [e0]
  refine unpackItems_tuple (s := { s with heap := h1, toks := tk1 }) r.hand ht fun h2 hx => ?_
  have hnone : h1.get? h1.objs.size = none := size_none
  have i2 := i1.aside (h' := h2) (it := h1.objs.size) (fun b o hb e => hx b o hb e) (new_out i1.glo (Nat.le_refl _)).1 (fun e => by
    obtain ⟨m, ⟨o, es, ep, a1, _⟩, _⟩ := i1.locs
    rw [← e, hnone] at a1; cases a1) (new_out i1.glo (Nat.le_refl _)).2 (fun vs ⟨o, e, _⟩ => by rw [hnone] at e; cases e) (fun v ⟨o, e, _⟩ => by rw [hnone] at e; cases e)
  have kx : Stp No ρ1 ρ1 h1 h2 := Stp.keep fun b o e => hx b o (fun q => by rw [q, hnone] at e; cases e) e
  refine assign_all (s := { s with heap := h2, toks := tk1 }) (ns := ns.reverse) (xs := xs.reverse) (by simp) (fun k n t a1 a2 v s Q E w => ?_) i2 (VRs.rev (VRs.mono i1.glo.st noS kx _ _ hr)) (by simpa using hlen) hk (fun n hm => beq_iff_eq.mp (List.all_eq_true.mp hl n (List.mem_reverse.mp hm))) fun h3 tk3 i3 k3 => ?_
  · rw [List.getElem?_map, a1] at a2
    cases a2
    exact wpAny_bindName w
  · exact q .next .next h3 tk3 ρ1 _ σ1 hR i3 ((k1.trans kx).weak.trans k3) rfl

theorem EV_callv {func : Expr} {pos : Pos} {args : List Expr} {R : V → List O → Prop} (ok : Ok c) (h : EV c sc d func l σ fun x σ₁ => ∃ f rec, x = .fn f ∧ ftab f = some rec ∧ EA c sc d args l σ₁ fun xs σ' => CA c d f xs σ' R)
    (he : ∀ env, eval (.Call func args [] pos) env = (do callWith pos (← eval func env) [] (backTo pos (starEach args env)) (backToKw pos (keywordEach [] env))) := by intro _; with_unfolding_all rfl) : EV c sc d (.Call func args [] pos) l σ R := by
  intro en A s ρ Q E r i q
  refine Call_ (h r i fun y v h0 tk0 ρ0 σ0 hy i0 k0 vy => ?_) (he _)
  obtain ⟨f, rec, rfl, hf, h⟩ := hy
  unfold VR at vy
  obtain ⟨fa, rfl, hm⟩ := vy
  obtain ⟨fa', o, pm, code, doc, hm', ho, hdata, hcd⟩ := ok.fn f rec hf
  rw [hm] at hm'; cases hm'
  refine Calls.callWith_function (o := o) (fd := Calls.docDef rec.name rec.params rec.body rec.scope pm code doc) (h r i0 fun xs vs h1 tk1 ρ1 σ1 hx i1 k1 vx => ?_)
  refine ⟨⟨i1.glo.base _ _ ho, hdata⟩, ?_⟩
  exact hx (s := { s with heap := h1, toks := tk1 }) r hm i1.glo vx fun x v h2 tk2 ρ2 σ2 hy g2 k2 vy =>
    q x v h2 tk2 ρ2 σ2 hy (i1.step g2 k2) ((k0.trans k1).trans k2) vy

def dec (n : Int) : List Nat := (Str.ofString (toString n)).cps.toList
theorem AK_str {n : Int} {R : V → List O → Prop} (hn : n.natAbs.log2 < 1920) (hz : (dec n).length ≤ sizeLine) (h : R (.str (dec n)) σ) : AK c (.type "str") [.int n] σ R := by
  intro A s ρ vs Q E r g hv q
  obtain ⟨v, rfl, e⟩ := hv.one
  unfold VR at e
  obtain ⟨t, rfl⟩ := e
  exact P.str_of_int hn (q _ _ s.heap _ ρ σ h g (Stp.refl _ _ _) (by unfold VR; exact ⟨hz, _, rfl⟩))
theorem AK_int {n : Int} {R : V → List O → Prop} (h0 : 0 ≤ n) (h1 : n < 10 ^ 10) (h : R (.int n) σ) : AK c (.type "int") [.str (dec n)] σ R := by
  intro A s ρ vs Q E r g hv q
  obtain ⟨v, rfl, e⟩ := hv.one
  unfold VR at e
  obtain ⟨_, t, rfl⟩ := e
  exact KIN.call_num h0 h1 (q _ _ s.heap _ ρ σ h g (Stp.refl _ _ _) (by unfold VR; exact ⟨_, rfl⟩))

theorem GMt_dget {n : Nat} {fz : Bool} {dd : List (Str × V)} (hn : σ[n]? = some (.dict fz dd)) : GMt c "get" "dict.get" (.obj n) σ := by
  intro A s ρ u pl Q E g hu h
  unfold VR at hu; obtain ⟨a, rfl, ha⟩ := hu
  obtain ⟨_, kvs, ⟨o, es, ep, ho, hc, _⟩, _⟩ := g.st.at hn ha
  exact getMethod_builtin ⟨o, ho, hc.1⟩ PySem.F.plainAttrs_dict PySem.F.slot_dict_get PySem.F.type_dict_get (fun b e => by injection e with e; subst e; exact ⟨o, ho, hc.2.1⟩) h
end
section
variable {c : Cx} {sc : Scope} {d : Nat} {l : Loc} {σ : List O}

theorem AK_dget {n : Nat} {fz : Bool} {dd : List (Str × V)} {y : List Nat} {x z : V} {R : V → List O → Prop} (hn : σ[n]? = some (.dict fz dd)) (hsys : ∀ ρ : List Addr, c.g0 <+: ρ → ∀ a, ρ[n]? = some a → (a == sysModules) = false)
    (hz : (dd.lookup (St y)).getD x = z) (h : R z σ) : AK c (.builtin "dict.get") [.obj n, .str y, x] σ R := by
  intro A s ρ vs Q E r g hv q
  obtain ⟨u, v, w, rfl, e1, e2, e3⟩ := hv.three
  unfold VR at e1 e2
  obtain ⟨a, rfl, ha⟩ := e1
  obtain ⟨_, t, rfl⟩ := e2
  obtain ⟨_, kvs, h1, h2, h3⟩ := g.st.at hn ha
  refine call_meetsIn F.slot_dict_get h1.mapOf.typeIs F.entry_dict_get (F.args_dict_get_3 _ _ _) (meets_dict_get_default (strKind P c.w) a (strKind_is _ _ _ _) (hsys ρ g.pre a ha) w) ⟨_, h1.mapOf, ?_⟩
  have vr : VR c ρ s.heap z ((valueAt kvs (St y)).getD w) := by
    subst hz
    cases hq : dd.lookup (St y) with
    | none => rw [(lookup_pairs h2 h3).2 hq]; exact e3
    | some z => obtain ⟨w', hw, vw⟩ := (lookup_pairs h2 h3).1 hq; rw [hw]; exact vw
  exact q z _ s.heap _ ρ σ h g (Stp.refl _ _ _) vr

theorem EV_ltake {e hi : Expr} {p pos : Pos} {R : V → List O → Prop}
    (h : EV c sc d e l σ fun x σ₁ => EV c sc d hi l σ₁ fun j σ₂ => ∃ n fz xs, ∃ k : Nat, x = .obj n ∧ σ₂[n]? = some (.list fz xs) ∧ xs.length ≤ 1000 ∧ j = .int k ∧ R (.obj σ₂.length) (σ₂ ++ [.list false (xs.take k)]))
    (ht : ∀ o r, letTemporaryGo e o r = pure () := by intro _ _; with_unfolding_all rfl) : EV c sc d (.Subscript e (.Slice none (some hi) none p) pos) l σ R := by
  intro en A s ρ Q E r i q
  refine wpAny_Subscript_list_slice (h r i fun x v h1 tk1 ρ1 σ1 hx i1 k1 vx => ?_) ht
  rw [evalPart_none]
  refine wpAny_pure ?_
  rw [evalPart_some]
  refine hx r i1 fun j u h2 tk2 ρ2 σ2 hy i2 k2 vy => ?_
  obtain ⟨n, fz, xs, k, rfl, hn, hz, rfl, hR⟩ := hy
  have vx := VR.mono i1.glo.st noS k2 _ v vx
  unfold VR at vx vy
  obtain ⟨a, rfl, ha⟩ := vx
  obtain ⟨t, rfl⟩ := vy
  obtain ⟨_, o, n', ws, e1, e2, e3, e4, e5⟩ := i2.glo.st.at hn ha
  refine ⟨a, ws.toArray, none, some (k : Int), rfl, ⟨o, e1, e2, n', e4⟩, by rw [List.size_toArray, e5.len, sizeLine_eq]; omega, .none, .int _ _, ?_⟩
  rw [slicePick_upto']
  generalize hsl : ({ cls := .type "slice", data := .fields #[Value.none, .int k t, .none] } : Obj) = sl
  have i3 := i2.keep (push_keep sl)
  have e5' : VRs c ρ2 (h2.push sl) xs ws := VRs.mono i2.glo.st noS (Stp.keep (push_keep sl)) _ _ e5
  have hnone : (h2.push sl).get? (h2.push sl).objs.size = none := size_none
  have st : Stp No ρ2 (ρ2 ++ [(h2.push sl).objs.size]) (h2.push sl) ((h2.push sl).push { cls := .type "list", data := .seq (ws.take k).toArray }) := ⟨fun b o e _ _ => push_keep _ b o e, List.prefix_append _ _, fun a m => by
    rcases List.mem_append.mp m with m | m
    · exact .inl m
    · rw [List.mem_singleton.mp m]; exact .inr hnone, fun a q => back (push_keep _) q⟩
  have hvt : ∀ (k : Nat) {xs : List V} {ws : List Value}, VRs c ρ2 (h2.push sl) xs ws → VRs c ρ2 (h2.push sl) (xs.take k) (ws.take k) := by
    intro k
    induction k with
    | zero => intro xs ws _; simp only [List.take_zero]; unfold VRs; rfl
    | succ k ih =>
      intro xs ws e
      cases xs with
      | nil => unfold VRs at e; subst e; simp only [List.take_nil]; unfold VRs; rfl
      | cons x xs =>
        unfold VRs at e
        obtain ⟨v, r, rfl, a1, a2⟩ := e
        simp only [List.take_succ_cons]; unfold VRs
        exact ⟨v, _, rfl, a1, ih a2⟩
  have g := i3.glo.push (ob := { cls := .type "list", data := .seq (ws.take k).toArray }) (o := .list false (xs.take k)) ⟨fun _ => back i3.glo.base hnone, _, 0, ws.take k, Heap.get?_push_size _ rfl, rfl, rfl, rfl, VRs.mono i3.glo.st noS st _ _ (hvt k e5')⟩
  have hsz : h2.objs.size + 1 = (h2.push sl).objs.size := by rw [Heap.size_push]
  rw [hsz]
  refine q (.obj σ2.length) _ _ tk2 _ _ hR (i3.stepG g) (((k1.trans k2).trans (Stp.keep (push_keep sl))).trans g.2) ?_
  unfold VR
  exact ⟨_, rfl, by rw [← i3.glo.st.1]; simp⟩

def prs : List (Option Expr) → List Expr → Option (List (Expr × Expr))
  | [], [] => some []
  | some k :: ks, v :: vs => (prs ks vs).map ((k, v) :: ·)
  | _, _ => none
/-- the pairs of a dict display -/
def EVp (c : Cx) (sc : Scope) (d : Nat) (ps : List (Expr × Expr)) (l : Loc) (σ : List O) (R : List (Str × V) → List O → Prop) : Prop :=
  ∀ ⦃en : Env⦄ ⦃A : Around⦄ ⦃s : Shared⦄ ⦃ρ : List Addr⦄ ⦃pos : Pos⦄ ⦃Q : List (Value × Value) → Shared → Prop⦄ ⦃E : Value → Shared → Prop⦄,
    Room A d → Inv c sc en ρ σ l s.heap →
    (∀ xs vs h' tk ρ' σ', R xs σ' → Inv c sc en ρ' σ' l h' → Stp No ρ ρ' s.heap h' → (∃ kvs : List (Str × Value), Carries (strKind P c.w) vs kvs ∧ kvs.map (·.1) = xs.map (·.1) ∧ VRs c ρ' h' (xs.map (·.2)) (kvs.map (·.2))) → Q vs { s with heap := h', toks := tk }) →
    wpAny (model P c.w) A (evalPairs (ps.map fun p => (eval p.1 en, do let x ← eval p.2 en; standAt pos; pure x))) Q E s

theorem EVp_nil {R : List (Str × V) → List O → Prop} (h : R [] σ) : EVp c sc d [] l σ R := by
  intro en A s ρ pos Q E r i q
  exact evalPairs_nil (q [] [] s.heap s.toks ρ σ h i (Stp.refl _ _ _) ⟨[], trivial, rfl, by simp only [List.map_nil]; unfold VRs; rfl⟩)
theorem EVp_cons {y : Str} {k : Nat} {kp : Pos} {e : Expr} {ps : List (Expr × Expr)} {R : List (Str × V) → List O → Prop} (h : EV c sc d e l σ fun x σ₁ => EVp c sc d ps l σ₁ fun xs σ₂ => R ((y, x) :: xs) σ₂) : EVp c sc d ((.Constant (.str y) k kp, e) :: ps) l σ R := by
  intro en A s ρ pos Q E r i q
  rw [List.map_cons]
  refine evalPairs_cons (Calls.Constant_str ?_)
  refine wpAny_bind (h (s := { s with toks := _ }) r i fun x v h1 tk1 ρ1 σ1 hx i1 k1 vx => wpAny_bind (wpAny_standAt (wpAny_pure ?_)))
  refine hx r i1 fun xs vs h2 tk2 ρ2 σ2 hy i2 k2 hc => ?_
  obtain ⟨kvs, c1, c2, c3⟩ := hc
  refine q ((y, x) :: xs) _ h2 tk2 ρ2 σ2 hy i2 (k1.trans k2) ⟨(y, v) :: kvs, ⟨strKind_is _ _ _ _, rfl, c1⟩, by simp [c2], ?_⟩
  simp only [List.map_cons]; unfold VRs
  exact ⟨v, _, rfl, VR.mono i1.glo.st noS k2 x v vx, c3⟩

def mergeV (dd xs : List (Str × V)) : List (Str × V) := xs.foldl (fun a p => put a p.1 p.2) dd
theorem merge_keys {ρ : List Addr} {h : Heap} : ∀ {xs : List (Str × V)} {ws : List (Str × Value)} {dd : List (Str × V)} {kvs : List (Str × Value)}, kvs.map (·.1) = dd.map (·.1) → VRs c ρ h (dd.map (·.2)) (kvs.map (·.2)) → ws.map (·.1) = xs.map (·.1) → VRs c ρ h (xs.map (·.2)) (ws.map (·.2)) →
    (merged kvs ws).map (·.1) = (mergeV dd xs).map (·.1) ∧ VRs c ρ h ((mergeV dd xs).map (·.2)) ((merged kvs ws).map (·.2))
  | [], [], dd, kvs, a, b, _, _ => ⟨a, b⟩
  | [], _ :: _, dd, kvs, a, b, e, _ => by cases e
  | _ :: _, [], dd, kvs, a, b, e, _ => by cases e
  | x :: xs, z :: ws, dd, kvs, a, b, e, r => by
    simp only [List.map_cons, List.cons.injEq] at e
    simp only [List.map_cons] at r
    unfold VRs at r
    obtain ⟨w, r', er, e1, e2⟩ := r
    simp only [List.cons.injEq] at er
    obtain ⟨rfl, rfl⟩ := er
    have sk := stored_keys (k := x.1) a b e1
    have := merge_keys (xs := xs) (ws := ws) sk.1 sk.2 e.2 e2
    show (merged (stored kvs z.1 z.2) ws).map (·.1) = (mergeV (put dd x.1 x.2) xs).map (·.1) ∧ VRs c ρ h ((mergeV (put dd x.1 x.2) xs).map (·.2)) ((merged (stored kvs z.1 z.2) ws).map (·.2))
    rw [e.1]
    exact this

theorem Glo.aside {ρ : List Addr} {h h' : Heap} {it : Addr} (g : Glo c ρ σ h) (k : ∀ b o, b ≠ it → h.get? b = some o → h'.get? b = some o) (n1 : it ∉ ρ) (n3 : c.hb.get? it = none) (nt : ∀ vs, ¬ IsTup h it vs) : Glo c ρ σ h' := by
  have hS : ∀ a vs, At it a → ¬ IsTup h a vs := fun a vs e t => by
    have e : a = it := e
    subst e; exact nt _ t
  have ke : ∀ b o, h.get? b = some o → ¬ At it b → b ∉ ρ → h'.get? b = some o := fun b o e n _ => k b o n e
  have kp : ρ <+: ρ := List.prefix_refl _
  exact ⟨fun b o e => k b o (fun q => by rw [q, n3] at e; cases e) (g.base b o e), g.pre, g.st.1, g.st.2.1, fun n b o e1 e2 => by
    have hb : b ≠ it := fun q => n1 (q ▸ List.mem_of_getElem? e1)
    have y := g.st.2.2 n b o e1 e2
    cases o with
    | list fz xs => obtain ⟨f, o, n, vs, h1, h2, h3, h4, h5⟩ := y; exact ⟨f, o, n, vs, k _ _ hb h1, h2, h3, h4, VRs.mon g.st hS ke kp _ _ h5⟩
    | dict fz xs => obtain ⟨f, kvs, h1, h2, h3⟩ := y; exact ⟨f, kvs, h1.at (fun o q => k _ _ hb q), h2, VRs.mon g.st hS ke kp _ _ h3⟩⟩

/-- an object that lay beside the store joins it -/
theorem Glo.join {ρ : List Addr} {h : Heap} {a : Addr} {o : O} (g : Glo c ρ σ h) (n1 : a ∉ ρ) (live : h.get? a ≠ none) (ho : OAt c (ρ ++ [a]) h a o) : Glo c (ρ ++ [a]) (σ ++ [o]) h := by
  have ke : ∀ b o, h.get? b = some o → ¬ No b → b ∉ ρ → h.get? b = some o := fun b o e _ _ => e
  have kp : ρ <+: ρ ++ [a] := List.prefix_append _ _
  refine ⟨g.base, g.pre.trans kp, by simp [g.st.1], ?_, fun i b o' e1 e2 => ?_⟩
  · rw [List.nodup_append]
    refine ⟨g.st.2.1, by simp, fun x hx y hy e => ?_⟩
    rw [List.mem_singleton] at hy
    subst hy; subst e; exact n1 hx
  · by_cases hi : i < ρ.length
    · rw [List.getElem?_append_left hi] at e1
      rw [List.getElem?_append_left (g.st.1 ▸ hi)] at e2
      have y := g.st.2.2 i b o' e1 e2
      cases o' with
      | list fz xs => obtain ⟨f, o, n, vs, h1, h2, h3, h4, h5⟩ := y; exact ⟨f, o, n, vs, h1, h2, h3, h4, VRs.mon g.st noS ke kp _ _ h5⟩
      | dict fz xs => obtain ⟨f, kvs, h1, h2, h3⟩ := y; exact ⟨f, kvs, h1, h2, VRs.mon g.st noS ke kp _ _ h3⟩
    · have hi' : ρ.length ≤ i := by omega
      rw [List.getElem?_append_right hi'] at e1
      rw [List.getElem?_append_right (g.st.1 ▸ hi')] at e2
      have hz : i - ρ.length = 0 := by
        cases q : i - ρ.length with
        | zero => rfl
        | succ n => rw [q] at e1; simp at e1
      rw [hz] at e1
      rw [← g.st.1, hz] at e2
      simp at e1 e2
      subst e1; subst e2; exact ho

theorem EV_dict {keys : List (Option Expr)} {values : List Expr} {pos : Pos} {ps : List (Expr × Expr)} {R : V → List O → Prop} (hp : prs keys values = some ps) (h0 : ps ≠ []) (hlen : ps.length ≤ 15)
    (h : EVp c sc d ps l σ fun xs σ' => R (.obj σ'.length) (σ' ++ [.dict false (mergeV [] xs)]))
    (hz : ∀ en pos, (evalEachOpt keys en).zip ((evalEach values en).map fun v => do let x ← v; standAt pos; pure x) = (ps.map fun p => (eval p.1 en, do let x ← eval p.2 en; standAt pos; pure x)).map fun p => (some p.1, p.2) := by intro _ _; with_unfolding_all rfl) :
    EV c sc d (.Dict keys values pos) l σ R := by
  intro en A s ρ Q E r i q
  refine wpAny_Dict_pairs (knd := strKind P c.w) (hz en pos) (by simpa using h0) (by simpa using hlen) ?_
  generalize hob : ({ cls := .type "dict", data := .dict #[] } : Obj) = ob
  have hnone : s.heap.get? s.heap.objs.size = none := size_none
  have hself : (s.heap.push ob).get? s.heap.objs.size = some ob := Heap.get?_push_size _ (by rw [← hob]; rfl)
  have out := new_out i.glo (Nat.le_refl s.heap.objs.size)
  refine h (s := { s with heap := s.heap.push ob }) r (i.keep (push_keep ob)) fun xs vs h1 tk1 ρ1 σ1 hx i1 k1 hc => ?_
  obtain ⟨kvs, c1, c2, c3⟩ := hc
  have h1self := k1.ext _ _ hself id out.1
  have n1 : s.heap.objs.size ∉ ρ1 := fun m => (k1.new _ m).elim out.1 fun e => by rw [hself] at e; cases e
  refine ⟨kvs, c1, ?_, fun h2 hd hs => ?_⟩
  · show Heap.DictOf _ h1 _ _
    exact Heap.DictOf.at (h := s.heap.push ob) (by rw [← hob]; exact Heap.DictOf.new _) (fun o e => by rw [hself] at e; cases e; exact h1self)
  · have nt : ∀ ws, ¬ IsTup h1 s.heap.objs.size ws := fun ws ⟨o, e1, e2, _⟩ => by
      rw [h1self] at e1; cases e1
      rw [← hob] at e2
      exact absurd (Value.type.inj e2) (by decide)
    have ke : ∀ b o, b ≠ s.heap.objs.size → h1.get? b = some o → h2.get? b = some o := fun b o hb e => (hs.2 b hb).trans e
    have g2 := i1.glo.aside ke n1 out.2 nt
    have live : h2.get? s.heap.objs.size ≠ none := by obtain ⟨o, es, ep, e, _⟩ := hd; rw [e]; exact fun q => by cases q
    have c3' : VRs c (ρ1 ++ [s.heap.objs.size]) h2 (xs.map (·.2)) (kvs.map (·.2)) := VRs.mon i1.glo.st (S := At s.heap.objs.size) (fun a ws e t => by
      have e : a = s.heap.objs.size := e
      subst e; exact nt _ t) (fun b o e n _ => ke b o n e) (List.prefix_append _ _) _ _ c3
    have mk := merge_keys (dd := []) (kvs := []) (c := c) (ρ := ρ1 ++ [s.heap.objs.size]) (h := h2) rfl (by simp only [List.map_nil]; unfold VRs; rfl) c2 c3'
    have g3 := g2.join n1 live (o := .dict false (mergeV [] xs)) ⟨fun _ => out.2, _, hd, mk.1, mk.2⟩
    have ext : ∀ b o, s.heap.get? b = some o → ¬ No b → b ∉ ρ → h2.get? b = some o := fun b o e n1' n2 => ke b o (fun q => by rw [q, hnone] at e; cases e) (k1.ext b o (push_keep ob b o e) n1' n2)
    have st : Stp No ρ (ρ1 ++ [s.heap.objs.size]) s.heap h2 := ⟨ext, k1.pre.trans (List.prefix_append _ _), fun a m => by
      rcases List.mem_append.mp m with m | m
      · exact (k1.new a m).imp id (back (push_keep ob))
      · rw [List.mem_singleton.mp m]; exact .inr hnone, fun a q' => by
      cases e : s.heap.get? a with
      | none => rfl
      | some o =>
        exfalso
        by_cases h2' : a ∈ ρ
        · obtain ⟨o, ho⟩ := g2.st.live (k1.pre.subset h2')
          rw [q'] at ho; cases ho
        · rw [ext a o e id h2'] at q'; cases q'⟩
    refine q (.obj σ1.length) _ h2 _ _ _ hx (i.step g3 st) st ?_
    unfold VR
    exact ⟨_, rfl, by rw [← i1.glo.st.1]; simp⟩
end

def rel (scope sc : Scope) : Scope :=
  { scope with names := scope.names.map fun (n, k) => if (k == .free && sc.kind == .function && sc.names.lookup n == some .cell) then (n, .cell) else (n, k) }
theorem rel_eq {scope sc : Scope} {en : Env} (h : en.scope = sc) : relabel scope en = rel scope sc := by subst h; rfl

def closOf (scope : Scope) (en : Env) : List (Str × NameKind) → List (Str × Addr) → List (Str × Addr)
  | [], acc => acc
  | (n, k) :: r, acc => closOf scope en r (if k == .free then (n, (en.cells.lookup n).getD 0) :: acc else acc)

theorem closFor_go {scope : Scope} {en : Env} : ∀ (names : List (Str × NameKind)) (acc : List (Str × Addr)), (∀ x ∈ names, x.2 = .free → (en.cells.lookup x.1).isSome = true) →
    (forIn (m := Sem) names acc fun x r => do
      let cs := r
      if x.2 == .free then do let a ← cellOf en x.1; pure (ForInStep.yield ((x.1, a) :: cs)) else pure (ForInStep.yield cs)) = pure (closOf scope en names acc)
  | [], acc, _ => by rw [List.forIn_nil]; rfl
  | (n, k) :: r, acc, h => by
    rw [List.forIn_cons]
    have ih := fun acc => closFor_go (scope := scope) r acc (fun x m => h x (List.mem_cons_of_mem _ m))
    cases hk : k == NameKind.free with
    | false =>
      simp only [hk, Bool.false_eq_true, if_false, pure_bind]
      rw [ih]; simp [closOf, hk]
    | true =>
      have hs := h (n, k) List.mem_cons_self (beq_iff_eq.mp hk)
      obtain ⟨a, ha⟩ := Option.isSome_iff_exists.mp hs
      have e : cellOf en n = pure a := by unfold cellOf; simp only at ha; rw [ha]
      simp only [hk, if_true, e, pure_bind]
      rw [ih]; simp only [closOf, hk, if_true]; simp only at ha; rw [ha]; rfl

theorem closureFor_of {scope : Scope} {en : Env} (h : ∀ x ∈ scope.names, x.2 = .free → (en.cells.lookup x.1).isSome = true) : closureFor scope en = pure (closOf scope en scope.names []) := by
  rw [← closFor_go (scope := scope) scope.names [] h]
  unfold closureFor
  simp only [bind_pure]

theorem closOf_get {scope : Scope} {en : Env} {x : Str} : ∀ (names : List (Str × NameKind)) (acc : List (Str × Addr)), (∀ y ∈ names, y.2 = .free → (en.cells.lookup y.1).isSome = true) → (acc.lookup x = en.cells.lookup x ∨ (x, NameKind.free) ∈ names) → (closOf scope en names acc).lookup x = en.cells.lookup x
  | [], acc, _, h => by rcases h with h | h; exact h; cases h
  | (n, k) :: r, acc, hs, h => by
    unfold closOf
    refine closOf_get r _ (fun y m => hs y (List.mem_cons_of_mem _ m)) ?_
    by_cases hr : (x, NameKind.free) ∈ r
    · exact .inr hr
    · left
      by_cases hk : (k == NameKind.free) = true
      · rw [if_pos hk, List.lookup_cons]
        cases hb : x == n with
        | true =>
          have := beq_iff_eq.mp hb
          subst this
          obtain ⟨a, ha⟩ := Option.isSome_iff_exists.mp (hs (x, k) List.mem_cons_self (beq_iff_eq.mp hk))
          simp only at ha
          rw [ha]; rfl
        | false =>
          rcases h with h | h
          · exact h
          · rcases List.mem_cons.mp h with h | h
            · simp only [Prod.mk.injEq] at h
              rw [h.1] at hb; simp at hb
            · exact absurd h hr
      · rw [if_neg hk]
        rcases h with h | h
        · exact h
        · rcases List.mem_cons.mp h with h | h
          · simp only [Prod.mk.injEq] at h
            rw [← h.2] at hk; exact absurd rfl hk
          · exact absurd h hr

section
variable {c : Cx} {sc : Scope} {d : Nat} {l : Loc} {σ : List O}

theorem Inv.weak {en : Env} {ρ : List Addr} {h : Heap} {l' : Loc} (i : Inv c sc en ρ σ l h) (k : ∀ x V, l' x = some V → l x = some V) : Inv c sc en ρ σ l' h := by
  obtain ⟨m, hn, hm⟩ := i.locs
  exact ⟨i.glo, ⟨m, hn, fun x V e => hm x V (k x V e)⟩, i.out, i.low, i.es, i.gl, i.bl⟩

/-- a step that only touches a thing that the start did not know -/
theorem Stp.beside {ρ₀ ρ₁ ρ₂ : List Addr} {S : Addr → Prop} {h₀ h₁ h₂ : Heap} (k : Stp No ρ₀ ρ₁ h₀ h₁) (hS : ∀ a, S a → h₀.get? a = none) (e : ∀ b o, h₁.get? b = some o → ¬ S b → b ∉ ρ₁ → h₂.get? b = some o) (kp : ρ₁ <+: ρ₂) (kn : ∀ a ∈ ρ₂, a ∈ ρ₁ ∨ h₁.get? a = none) (live : ∀ a ∈ ρ₂, h₂.get? a ≠ none) : Stp No ρ₀ ρ₂ h₀ h₂ := by
  have ext : ∀ b o, h₀.get? b = some o → ¬ No b → b ∉ ρ₀ → h₂.get? b = some o := fun b o q n1 n2 =>
    e b o (k.ext b o q n1 n2) (fun s => by rw [hS b s] at q; cases q) (fun m => (k.new b m).elim n2 fun z => by rw [q] at z; cases z)
  refine ⟨ext, k.pre.trans kp, fun a m => (kn a m).elim (fun m => k.new a m) fun z => .inr (k.fre a z), fun a q => ?_⟩
  cases z : h₀.get? a with
  | none => rfl
  | some o =>
    exfalso
    by_cases m : a ∈ ρ₀
    · exact live a ((k.pre.trans kp).subset m) q
    · rw [ext a o z id m] at q; cases q

theorem SAt.live' {ρ : List Addr} {h : Heap} (x : SAt c ρ σ h) : ∀ a ∈ ρ, h.get? a ≠ none := fun a m q => by obtain ⟨o, ho⟩ := x.live m; rw [q] at ho; cases ho

/-- what the clause's names mean inside a comprehension -/
def capt (scope sc : Scope) (l : Loc) : Loc := fun x => if (rel scope sc).names.lookup x = some .cell then l x else none

theorem comp_core {x : Str} {px : Pos} {elt iter : Expr} {scope : Scope} {pos : Pos} {it : Addr} (n : Nat) (item : Nat → V) (It : Nat → Heap → Prop) (I : Nat → List V → List O → Prop)
    (ItNe : ∀ k h vs, It k h → ¬ IsTup h it vs) (ItNc : ∀ k h v, It k h → ¬ h.IsCell it v) (ItEq : ∀ k h h', It k h → h'.get? it = h.get? it → It k h') (ItLive : ∀ k h, It k h → h.get? it ≠ none)
    {en : Env} {A : Around} {s : Shared} {ρ₀ ρ : List Addr} {h₀ : Heap} {Q : Value → Shared → Prop} {E : Value → Shared → Prop}
    (r : Room A (d + 1)) (i0 : Inv c sc en ρ₀ σ l h₀) (i : Inv c sc en ρ σ l s.heap) (k0 : Stp No ρ₀ ρ h₀ s.heap) (n1 : it ∉ ρ) (n3 : c.hb.get? it = none) (n4 : h₀.get? it = none) (hit : It 0 s.heap)
    (self : ∀ (s' : Shared), It 0 s'.heap → ∀ (Q : Value → Shared → Prop) (E : Value → Shared → Prop), Q (.ref it) s' → wpAny (model P c.w) A (pyIter (.ref it)) Q E s')
    (next : ∀ k (s' : Shared) ρ' σ' ys, k < n → It k s'.heap → ρ <+: ρ' → Glo c ρ' (σ' ++ [.list false ys]) s'.heap → I k ys σ' → ∀ (Q : Option Value → Shared → Prop) (E : Value → Shared → Prop), (∀ h' v tk, It (k + 1) h' → Heap.SameBut it s'.heap h' → VR c ρ' h' (item k) v → Q (some v) { s' with heap := h', toks := tk }) → wpAny (model P c.w) A (pyNext (.ref it)) Q E s')
    (stop : ∀ (s' : Shared) ρ' σ' ys, It n s'.heap → ρ <+: ρ' → Glo c ρ' (σ' ++ [.list false ys]) s'.heap → I n ys σ' → ∀ (Q : Option Value → Shared → Prop) (E : Value → Shared → Prop), (∀ h', Heap.ExtBut it s'.heap h' → Q none { s' with heap := h' }) → wpAny (model P c.w) A (pyNext (.ref it)) Q E s')
    (h0 : I 0 [] σ) (hn : n ≤ 100000)
    (turn : ∀ k ys σ', k < n → σ'.length = σ.length → ys.length = k → I k ys σ' → EV c (rel scope sc) (d + 1) elt (upd (capt scope sc l) x (item k)) (σ' ++ [.list false ys]) (fun z σ'' => ∃ σ3, σ'' = σ3 ++ [.list false ys] ∧ σ3.length = σ.length ∧ I (k + 1) (ys ++ [z]) σ3))
    (q : ∀ ys σ' h' tk ρ', I n ys σ' → σ'.length = σ.length → Inv c sc en ρ' (σ' ++ [.list false ys]) l h' → Stp No ρ₀ ρ' h₀ h' → VR c ρ' h' (.obj σ.length) (.ref s.heap.objs.size) → Q (.ref s.heap.objs.size) { s with heap := h', toks := tk })
    (hfree : ∀ y ∈ scope.names, y.2 = .free → (l y.1).isSome = true ∧ sc.names.lookup y.1 = some .cell)
    (hcell : ∀ y ∈ scope.names, y.2 ≠ .cell) (hkind : scope.kind = .function) (hx : (rel scope sc).names.lookup x = some .local)
    (hlt : ∀ v, letOwnedTupleGo (.Name x px) (.ref it) v = pure ()) :
    wpAny (model P c.w) A (newList []) (fun acc s₃ => wpAny (model P c.w) A (newFunctionEnv scope en.globals (closOf scope en scope.names []) [] en.qual none .none (some en)) (fun cenv s₄ =>
        codeAny (model P c.w) A (.compStart (.ListComp elt [⟨.Name x px, iter, [], 0⟩] scope pos) 0 (.ref it) acc { cenv with scope := relabel scope en }) (compPost (model P c.w) A E none Q acc cenv.locals) s₄) E s₃) E s := by
  generalize hL : ({ cls := .type "list", data := .seq ([] : List Value).toArray } : Obj) = ol
  have nD : s.heap.get? s.heap.objs.size = none := size_none
  have hself : (s.heap.push ol).get? s.heap.objs.size = some ol := Heap.get?_push_size _ (by rw [← hL]; rfl)
  have g1 := i.glo.push (ob := ol) (o := .list false []) ⟨fun _ => back i.glo.base nD, _, 0, [], hself, by rw [← hL], by rw [← hL], by rw [← hL], by unfold VRs; rfl⟩
  refine wpAny_newList ?_ (by simp)
  rw [hL]
  refine wpAny_newFunctionEnv hcell (by intro y hy; cases hy) (fun h₁ hns hsb => ?_) hkind
  dsimp only at hns hsb ⊢
  have nC : (s.heap.push ol).get? (s.heap.push ol).objs.size = none := size_none
  have hC : (s.heap.push ol).objs.size = s.heap.objs.size + 1 := Heap.size_push _ _
  have keep1 : ∀ b o, (s.heap.push ol).get? b = some o → h₁.get? b = some o := fun b o e => (hsb.2 b (fun q => by rw [q, nC] at e; cases e)).trans (push_keep _ b o e)
  have keep0 : ∀ b o, s.heap.get? b = some o → h₁.get? b = some o := fun b o e => keep1 b o (push_keep ol b o e)
  have g2 := g1.1.keep keep1
  have outC := new_out g1.1 (Nat.le_refl (s.heap.push ol).objs.size)
  have hit1 : It 0 h₁ := ItEq _ _ _ hit (by
    cases e : s.heap.get? it with
    | none => exact absurd e (ItLive _ _ hit)
    | some o => exact keep0 _ _ e)
  have n5 : it ≠ s.heap.objs.size := fun q => ItLive _ _ hit (q ▸ nD)
  have n6 : it ≠ (s.heap.push ol).objs.size := fun q => by
    cases e : s.heap.get? it with
    | none => exact absurd e (ItLive _ _ hit)
    | some o => exact absurd (Heap.lt_size e) (by rw [q, hC]; exact Nat.not_lt.mpr (Nat.le_succ _))
  have nC0 : h₀.get? (s.heap.push ol).objs.size = none := by
    cases e : h₀.get? (s.heap.push ol).objs.size with
    | none => rfl
    | some o =>
      by_cases m : (s.heap.push ol).objs.size ∈ ρ₀
      · exact absurd ((List.prefix_append _ _).subset (k0.pre.subset m)) outC.1
      · exact absurd (Heap.lt_size (k0.ext _ _ e id m)) (by rw [hC]; exact Nat.not_lt.mpr (Nat.le_succ _))
  have stp1 : Stp No ρ₀ (ρ ++ [s.heap.objs.size]) h₀ h₁ := (k0.trans g1.2).trans (Stp.keep keep1)
  let en' : Env := { newEnv scope (s.heap.push ol).objs.size en.globals (closOf scope en scope.names []) en.qual none .none (some en) builtinsNs with scope := relabel scope en }
  have hce : ∀ y ∈ scope.names, y.2 = .free → (en.cells.lookup y.1).isSome = true := fun y hy hk => by
    obtain ⟨h1, h2⟩ := hfree y hy hk
    obtain ⟨V, hV⟩ := Option.isSome_iff_exists.mp h1
    obtain ⟨m, _, hm⟩ := i.locs
    obtain ⟨v, hv, _⟩ := hm y.1 V hV
    rcases hv with ⟨q, _⟩ | ⟨_, a, e1, _⟩
    · rw [h2] at q; cases q
    · rw [e1]; rfl
  have inv : Inv c (rel scope sc) en' (ρ ++ [s.heap.objs.size]) (σ ++ [.list false []]) (capt scope sc l) h₁ := by
    refine ⟨g2, ⟨_, hns, fun y V e => ?_⟩, outC.1, outC.2, rel_eq i.es, i.gl, i.bl⟩
    unfold capt at e
    by_cases hc : (rel scope sc).names.lookup y = some .cell
    · rw [if_pos hc] at e
      have hm := lookup_mem hc
      simp only [rel, List.mem_map] at hm
      obtain ⟨⟨n', k'⟩, hm1, hm2⟩ := hm
      by_cases hq : (k' == NameKind.free && sc.kind == .function && sc.names.lookup n' == some .cell) = true
      · simp only [hq, if_true, Prod.mk.injEq] at hm2
        obtain ⟨rfl, _⟩ := hm2
        simp only [Bool.and_eq_true, beq_iff_eq] at hq
        obtain ⟨⟨rfl, _⟩, hq⟩ := hq
        obtain ⟨m, _, hm⟩ := i.locs
        obtain ⟨v, hv, vr⟩ := hm n' V e
        rcases hv with ⟨q, _⟩ | ⟨_, a, e1, ⟨o, e2, e3⟩, e4, e5⟩
        · rw [hq] at q; cases q
        · refine ⟨v, .inr ⟨hc, a, ?_, ⟨o, keep0 _ _ e2, e3⟩, fun m => ?_, fun q => ?_⟩, ?_⟩
          · show (closOf scope en scope.names []).lookup n' = some a
            rw [closOf_get scope.names [] hce (.inr hm1)]; exact e1
          · rcases List.mem_append.mp m with m | m
            · exact e4 m
            · rw [List.mem_singleton.mp m, nD] at e2; cases e2
          · have : a = (s.heap.push ol).objs.size := q
            exact absurd (Heap.lt_size e2) (by rw [this, hC]; exact Nat.not_lt.mpr (Nat.le_succ _))
          · exact VR.mono i.glo.st noS (g1.2.trans (Stp.keep keep1)) _ _ vr
      · rw [if_neg hq] at hm2
        simp only [Prod.mk.injEq] at hm2
        exact absurd hm2.2 (hcell _ hm1)
    · rw [if_neg hc] at e; cases e
  have enL : en'.locals = (s.heap.push ol).objs.size := rfl
  have loop : ∀ s₃ : Shared, s₃ = { s with heap := h₁, toks := s.toks + ([] : List (Str × Value)).length } → codeAny (model P c.w) A (.compLoop (.ListComp elt [⟨.Name x px, iter, [], 0⟩] scope pos) 0 (.ref it) (.ref s.heap.objs.size) en') (compPost (model P c.w) A E none Q (.ref s.heap.objs.size) (s.heap.push ol).objs.size) s₃ := by
    rintro s₃ rfl
    refine codeAny_compLoop_list (fun j s' => ∃ k h1 tk1 ρ1 σ1 ys, j = n - k ∧ k ≤ n ∧ s' = { s with heap := h1, toks := tk1 } ∧ Inv c (rel scope sc) en' ρ1 (σ1 ++ [.list false ys]) (capt scope sc l) h1 ∧ Stp No ρ₀ ρ1 h₀ h1 ∧ ρ ++ [s.heap.objs.size] <+: ρ1 ∧ It k h1 ∧ it ∉ ρ1 ∧ I k ys σ1 ∧ σ1.length = σ.length ∧ ys.length = k) ?_ n
      ⟨0, h₁, _, ρ ++ [s.heap.objs.size], σ, [], rfl, Nat.zero_le _, rfl, inv, stp1, List.prefix_refl _, hit1, (fun m => by
        rcases List.mem_append.mp m with m | m
        · exact n1 m
        · exact n5 (List.mem_singleton.mp m)), h0, rfl, rfl⟩ hlt
    rintro j s' ⟨k, h1, tk1, ρ1, σ1, ys, rfl, hkn, rfl, i1, k1, p1, hit1, m1, hI, hl1, hy⟩
    have hpre : ρ <+: ρ1 := (List.prefix_append _ _).trans p1
    by_cases hlt' : k < n
    · refine next k { s with heap := h1, toks := tk1 } ρ1 σ1 ys hlt' hit1 hpre i1.glo hI _ _ fun h2 v tk2 hit2 hs2 vr => ?_
      have i2 := i1.aside (h' := h2) (fun b o hb e => (hs2.2 b hb).trans e) m1 n6 n3 (fun vs => ItNe k _ vs hit1) (fun v => ItNc k _ v hit1)
      have k2 := k1.beside (S := At it) (h₂ := h2) (fun a e => by rw [show a = it from e]; exact n4) (fun b o e n _ => (hs2.2 b n).trans e) (List.prefix_refl _) (fun _ m => .inl m) i2.glo.st.live'
      refine wpAny_assign_Name (storing (s := { s with heap := h2, toks := tk2 }) (y := item k) i2 vr (fun h3 tk3 i3 k3 => ?_) hkind hx)
      have k3' := k2.beside (S := At en'.locals) (h₂ := h3) (fun a e => by rw [show a = _ from e]; exact nC0) k3.ext k3.pre k3.new i3.glo.st.live'
      have hit3 : It (k + 1) h3 := ItEq _ _ _ hit2 (by
        cases e : h2.get? it with
        | none => exact absurd e (ItLive _ _ hit2)
        | some o => exact k3.ext it o e n6 m1)
      refine turn k ys σ1 hlt' hl1 hy hI (s := { s with heap := h3, toks := tk3 }) r i3 fun z u h4 tk4 ρ4 σ4 hz i4 k4 vz => ?_
      obtain ⟨σ3, rfl, hl3, hI3⟩ := hz
      have hit4 : It (k + 1) h4 := ItEq _ _ _ hit3 (by
        cases e : h3.get? it with
        | none => exact absurd e (ItLive _ _ hit3)
        | some o => exact k4.ext it o e id m1)
      have m4 : it ∉ ρ4 := fun m => (k4.new it m).elim m1 (ItLive _ _ hit3)
      have p4 := p1.trans k4.pre
      have ha : ρ4[σ.length]? = some s.heap.objs.size := pre_get p4 (by rw [← i.glo.st.1]; simp)
      have hget : (σ3 ++ [O.list false ys])[σ.length]? = some (.list false ys) := by rw [← hl3]; simp
      refine AK_append (y := z) (xs := ys) hget (by omega) (R := fun y σ' => y = .none ∧ σ' = σ3 ++ [.list false (ys ++ [z])]) ⟨rfl, by rw [← hl3]; simp⟩ (s := { s with heap := h4, toks := tk4 }) (r.le (by omega)) i4.glo (ρ := ρ4) ?_ fun y v' h5 tk5 ρ5 σ5 hy5 g5 k5 _ => ?_
      · unfold VRs
        refine ⟨.ref s.heap.objs.size, [u], rfl, ?_, ?_⟩
        · unfold VR; exact ⟨_, rfl, ha⟩
        · unfold VRs; exact ⟨u, [], rfl, vz, by unfold VRs; rfl⟩
      · obtain ⟨rfl, rfl⟩ := hy5
        have i5 := (i4.step g5 k5).weak (l' := capt scope sc l) (fun y V e => by
          unfold upd
          by_cases hyx : y = x
          · subst hyx
            unfold capt at e
            rw [hx] at e
            simp at e
          · simp [hyx, e])
        have hit5 : It (k + 1) h5 := ItEq _ _ _ hit4 (by
          cases e : h4.get? it with
          | none => exact absurd e (ItLive _ _ hit4)
          | some o => exact k5.ext it o e id m4)
        exact ⟨n - (k + 1), by omega, k + 1, h5, tk5, ρ5, σ3, ys ++ [z], rfl, hlt', rfl, i5, (k3'.trans k4).trans k5, p4.trans k5.pre, hit5, fun m => (k5.new it m).elim m4 (ItLive _ _ hit4), hI3, hl3, by simp [hy]⟩
    · have hkn : k = n := by omega
      subst hkn
      refine stop { s with heap := h1, toks := tk1 } ρ1 σ1 ys hit1 hpre i1.glo hI _ _ fun h2 he => ?_
      have i2 := i1.aside (h' := h2) he m1 n6 n3 (fun vs => ItNe k _ vs hit1) (fun v => ItNc k _ v hit1)
      have k2 := k1.beside (S := At it) (h₂ := h2) (fun a e => by rw [show a = it from e]; exact n4) (fun b o e n _ => he b o n e) (List.prefix_refl _) (fun _ m => .inl m) i2.glo.st.live'
      obtain ⟨m, hnC, _⟩ := i2.locs
      refine ⟨m, hnC, fun h3 hs3 => ?_⟩
      have ntC : ∀ vs, ¬ IsTup h2 (s.heap.push ol).objs.size vs := fun vs t => Ns.noTup hnC t
      have g3 := i2.glo.aside (h' := h3) (fun b o hb e => (hs3.2 b hb).trans e) i2.out i2.low ntC
      have k3 := k2.beside (S := At en'.locals) (h₂ := h3) (fun a e => by rw [show a = _ from e]; exact nC0) (fun b o e n _ => (hs3.2 b n).trans e) (List.prefix_refl _) (fun _ m => .inl m) g3.st.live'
      refine q ys σ1 h3 tk1 ρ1 hI hl1 (i0.step g3 k3) k3 ?_
      unfold VR
      exact ⟨_, rfl, pre_get p1 (by rw [← i.glo.st.1]; simp)⟩
  exact codeAny_compStart_list (loop _ rfl) (self _ hit1 _ _ (loop _ rfl))
end
section
variable {c : Cx} {sc : Scope} {d : Nat} {l : Loc} {σ : List O}

theorem size_pos {a b st : Int} : 0 ≤ Builtin.Range.rangeSize a b st := by
  unfold Builtin.Range.rangeSize
  split <;> split <;> first | omega | (have := Int.ediv_nonneg (a := b - a - 1) (b := st) (by omega) (by omega); omega) | (have := Int.ediv_nonneg (a := a - b - 1) (b := -st) (by omega) (by omega); omega)

theorem EV_comp_range {x : Str} {px p pf pos : Pos} {elt : Expr} {args : List Expr} {scope : Scope} {R : V → List O → Prop} (ok : Ok c)
    (h : EA c sc (d+1) args l σ fun xs σ' => ∃ a b st, rng xs = some (a, b, st) ∧ st ≠ 0 ∧ Builtin.divisionGoesByPylong (b - a) st = false ∧ Builtin.Range.small a b st = true ∧ (Builtin.Range.rangeSize a b st).toNat ≤ 100000 ∧ ∃ I : Nat → List V → List O → Prop, I 0 [] σ' ∧
      (∀ (k : Nat) (ys : List V) (σ'' : List O), (k : Int) < Builtin.Range.rangeSize a b st → σ''.length = σ'.length → ys.length = k → I k ys σ'' →
        EV c (rel scope sc) (d + 1) elt (upd (capt scope sc l) x (.int (a + k * st))) (σ'' ++ [.list false ys]) (fun z σ4 => ∃ σ3, σ4 = σ3 ++ [.list false ys] ∧ σ3.length = σ'.length ∧ I (k + 1) (ys ++ [z]) σ3)) ∧
      (∀ ys σ'', σ''.length = σ'.length → I (Builtin.Range.rangeSize a b st).toNat ys σ'' → R (.obj σ'.length) (σ'' ++ [.list false ys])))
    (hfree : ∀ y ∈ scope.names, y.2 = .free → (l y.1).isSome = true ∧ sc.names.lookup y.1 = some .cell)
    (hs : ∀ env, (starEach args env).any (·.1) = false := by intro _; with_unfolding_all rfl)
    (hcell : ∀ y ∈ scope.names, y.2 ≠ .cell := by decide) (hkind : scope.kind = .function := by with_unfolding_all rfl) (hnames : ∀ y ∈ scope.names, y.2 = .local → scope.names.lookup y.1 = some .local := by decide) (hx : (rel scope sc).names.lookup x = some .local := by with_unfolding_all rfl)
    (hf : ∀ env x, foldedSetIterable (.Call (.Name "range" p) args [] pf) env x = pure x := by intro _ _; with_unfolding_all rfl)
    (hlt : ∀ it v, letOwnedTupleGo (.Name x px) it v = pure () := by intro _ _; with_unfolding_all rfl)
    (hk : sc.kind = .function := by with_unfolding_all rfl) (hg : sc.names.lookup ("range" : Str) = some .globalImplicit := by with_unfolding_all rfl) :
    EV c sc (d+1) (.ListComp elt [⟨.Name x px, .Call (.Name "range" p) args [] pf, [], 0⟩] scope pos) l σ R := by
  intro en A s ρ Q E r i q
  have hce : ∀ y ∈ scope.names, y.2 = .free → (en.cells.lookup y.1).isSome = true := fun y hy hk => by
    obtain ⟨h1, h2⟩ := hfree y hy hk
    obtain ⟨V, hV⟩ := Option.isSome_iff_exists.mp h1
    obtain ⟨m, _, hm⟩ := i.locs
    obtain ⟨v, hv, _⟩ := hm y.1 V hV
    rcases hv with ⟨q, _⟩ | ⟨_, a, e1, _⟩
    · rw [h2] at q; cases q
    · rw [e1]; rfl
  rw [eval_ListComp]
  refine wpAny_comprehension_free (use := none) rfl (hf _) (closureFor_of hce) hkind hnames ?_
  show wpAny _ _ (eval (.Call (.Name "range" p) args [] pf) en) _ _ _
  refine wpAny_Call_Name_kw (Calls.Name_function_global (i.fn hk) ((i.kind "range").trans hg) (Calls.loadGlobal_builtin (by rw [i.gl]; exact Heap.Ns.keeps ok.g i.glo.base) (ok.free "range" (by simp)) (by rw [i.bl]; exact Heap.Ns.keeps ok.b i.glo.base) ((ok.blt "range" (by decide)).trans boot_r) ?_))
  show wpAny _ _ (callWith pf (.type "range") [] (backTo pf (starEach args _)) []) _ _ _
  refine PyProof.Rows.callWith_type (backTo_plain (pos := pf) (hs en)) (h r i fun xs vs h1 tk1 ρ1 σ1 hx1 i1 k1 vx => ?_)
  obtain ⟨ra, rb, st, hr, hst, hp, hsm, hsz, I, hI0, turn, fin⟩ := hx1
  refine call_range (s := { s with heap := h1, toks := tk1 }) hr hst hp vx fun t u v tk2 => ?_
  refine wpAny_pyIter_range (Heap.get?_push_size _ rfl) hsm ?_
  have hpos : 0 ≤ Builtin.Range.rangeSize ra rb st := size_pos
  generalize hob : ({ cls := .type "range", data := .fields #[.int ra t, .int rb u, .int st v] } : Obj) = ob
  have keep : ∀ b o, h1.get? b = some o → ((h1.push ob).push { cls := .type "range_iterator", data := .fields #[rawInt ra, rawInt (Builtin.Range.rangeSize ra rb st), rawInt st] }).get? b = some o := fun b o e => push_keep _ b o (push_keep _ b o e)
  have i2 := i1.keep keep
  have hn : h1.get? (h1.push ob).objs.size = none := by
    cases q : h1.get? (h1.push ob).objs.size with
    | none => rfl
    | some o => exact absurd (Heap.lt_size (push_keep ob _ _ q)) (Nat.lt_irrefl _)
  refine comp_core (it := (h1.push ob).objs.size) (s := { s with heap := (h1.push ob).push _, toks := tk2 }) (Builtin.Range.rangeSize ra rb st).toNat (fun k => .int (ra + k * st)) (fun k h => IsRangeIter h (h1.push ob).objs.size (ra + k * st) (Builtin.Range.rangeSize ra rb st - k) st) I ?_ ?_ ?_ ?_ r i1 i2 (Stp.keep keep) ?_ ?_ ?_ ?_ ?_ ?_ ?_ hI0 hsz
    (fun k ys σ' hk => turn k ys σ' (by omega)) (fun ys σ' h' tk ρ' hI hl i' k' vr => q (.obj σ1.length) _ h' tk ρ' _ (fin ys σ' hl hI) i' (k1.trans k') vr) hfree hcell hkind hx (hlt _)
  · intro k h vs e t
    obtain ⟨o, h1, h2, _⟩ := t
    rw [show h.get? _ = _ from e] at h1; cases h1
    exact absurd (Value.type.inj h2) (by decide)
  · rintro k h v e ⟨o, h1, h2⟩
    rw [show h.get? _ = _ from e] at h1; cases h1
    cases h2
  · intro k h h' e q; exact q.trans e
  · intro k h e q; rw [show h.get? _ = _ from e] at q; cases q
  · intro m; obtain ⟨o, ho⟩ := i1.glo.st.live m; rw [hn] at ho; cases ho
  · exact back i1.glo.base hn
  · exact hn
  · show (Heap.push _ _).get? _ = _
    rw [Heap.get?_push_size _ rfl]; simp
  · intro s' hit Q E q
    exact wpAny_pyIter_rangeiter hit q
  · intro k s' ρ' σ' ys hk hit _ _ _ Q E q
    exact wpAny_pyNext_range_item hit (by omega) fun h' hit' hs' => q h' _ _ (by
      have e1 : ra + ((k + 1 : Nat) : Int) * st = ra + (k : Int) * st + st := by push_cast; rw [Int.add_mul, Int.one_mul, Int.add_assoc]
      have e2 : Builtin.Range.rangeSize ra rb st - ((k + 1 : Nat) : Int) = Builtin.Range.rangeSize ra rb st - (k : Int) - 1 := by push_cast; omega
      show IsRangeIter h' _ (ra + ((k + 1 : Nat) : Int) * st) (Builtin.Range.rangeSize ra rb st - ((k + 1 : Nat) : Int)) st
      rw [e1, e2]; exact hit') hs' (by unfold VR; exact ⟨_, rfl⟩)
  · intro s' ρ' σ' ys hit _ _ _ Q E q
    exact wpAny_pyNext_range_end r.hand hit (by omega) q

theorem EV_comp_list {x : Str} {px pos : Pos} {elt iter : Expr} {scope : Scope} {R : V → List O → Prop} (ok : Ok c)
    (h : EV c sc (d+1) iter l σ fun z σ' => ∃ n fz xs, z = .obj n ∧ σ'[n]? = some (.list fz xs) ∧ xs.length ≤ 100000 ∧ ∃ I : Nat → List V → List O → Prop, I 0 [] σ' ∧
      (∀ k ys σ'', I k ys σ'' → σ''[n]? = some (.list fz xs)) ∧
      (∀ (k : Nat) (ys : List V) (σ'' : List O) (hk : k < xs.length), σ''.length = σ'.length → ys.length = k → I k ys σ'' →
        EV c (rel scope sc) (d + 1) elt (upd (capt scope sc l) x xs[k]) (σ'' ++ [.list false ys]) (fun z σ4 => ∃ σ3, σ4 = σ3 ++ [.list false ys] ∧ σ3.length = σ'.length ∧ I (k + 1) (ys ++ [z]) σ3)) ∧
      (∀ ys σ'', σ''.length = σ'.length → I xs.length ys σ'' → R (.obj σ'.length) (σ'' ++ [.list false ys])))
    (hfree : ∀ y ∈ scope.names, y.2 = .free → (l y.1).isSome = true ∧ sc.names.lookup y.1 = some .cell)
    (hcell : ∀ y ∈ scope.names, y.2 ≠ .cell := by decide) (hkind : scope.kind = .function := by with_unfolding_all rfl) (hnames : ∀ y ∈ scope.names, y.2 = .local → scope.names.lookup y.1 = some .local := by decide) (hx : (rel scope sc).names.lookup x = some .local := by with_unfolding_all rfl)
    (hf : ∀ env x, foldedSetIterable iter env x = pure x := by intro _ _; with_unfolding_all rfl)
    (hlt : ∀ it v, letOwnedTupleGo (.Name x px) it v = pure () := by intro _ _; with_unfolding_all rfl) :
    EV c sc (d+1) (.ListComp elt [⟨.Name x px, iter, [], 0⟩] scope pos) l σ R := by
  intro en A s ρ Q E r i q
  have hce : ∀ y ∈ scope.names, y.2 = .free → (en.cells.lookup y.1).isSome = true := fun y hy hk => by
    obtain ⟨h1, h2⟩ := hfree y hy hk
    obtain ⟨V, hV⟩ := Option.isSome_iff_exists.mp h1
    obtain ⟨m, _, hm⟩ := i.locs
    obtain ⟨v, hv, _⟩ := hm y.1 V hV
    rcases hv with ⟨q, _⟩ | ⟨_, a, e1, _⟩
    · rw [h2] at q; cases q
    · rw [e1]; rfl
  rw [eval_ListComp]
  refine wpAny_comprehension_free (use := none) rfl (hf _) (closureFor_of hce) hkind hnames ?_
  show wpAny _ _ (eval iter en) _ _ _
  refine h r i fun z u h1 tk1 ρ1 σ1 hx1 i1 k1 vx => ?_
  obtain ⟨n, fz, xs, rfl, hn, hsz, I, hI0, hget, turn, fin⟩ := hx1
  unfold VR at vx
  obtain ⟨a, rfl, ha⟩ := vx
  obtain ⟨_, o, no, ws, e1, e2, e3, e4, e5⟩ := i1.glo.st.at hn ha
  refine wpAny_pyIter_list (s := { s with heap := h1, toks := tk1 }) (items := ws.toArray) ⟨o, e1, e2, no, e4⟩ ?_
  generalize hob : ({ cls := .type "list_iterator", data := .fields #[.ref a, .int 0 0] } : Obj) = ob
  have keep : ∀ b o, h1.get? b = some o → (h1.push ob).get? b = some o := push_keep ob
  have i2 := i1.keep keep
  have hn1 : h1.get? h1.objs.size = none := size_none
  have src : ∀ (s' : Shared) ρ' σ' ys, ρ1 <+: ρ' → Glo c ρ' (σ' ++ [.list false ys]) s'.heap → σ'[n]? = some (.list fz xs) → ∃ ws : List Value, s'.heap.IsList a ws.toArray ∧ VRs c ρ' s'.heap xs ws := by
    intro s' ρ' σ' ys hp g hs
    have hlt := (List.getElem?_eq_some_iff.mp hs).1
    obtain ⟨_, o, no, ws, e1, e2, e3, e4, e5⟩ := g.st.at (n := n) (o := .list fz xs) (by rw [List.getElem?_append_left hlt]; exact hs) (pre_get hp ha)
    exact ⟨ws, ⟨o, e1, e2, no, e4⟩, e5⟩
  refine comp_core (it := h1.objs.size) (s := { s with heap := h1.push ob, toks := tk1 }) xs.length (fun k => xs.getD k .none) (fun k h => h.IsListIter h1.objs.size a k) I ?_ ?_ ?_ ?_ r i1 i2 (Stp.keep keep) ?_ ?_ ?_ ?_ ?_ ?_ ?_ hI0 hsz
    (fun k ys σ' hk a b d => by
      rw [show xs.getD k V.none = xs[k] by simp [List.getD, hk]]; exact turn k ys σ' hk a b d) (fun ys σ' h' tk ρ' hI hl i' k' vr => q (.obj σ1.length) _ h' tk ρ' _ (fin ys σ' hl hI) i' (k1.trans k') vr) hfree hcell hkind hx (hlt _)
  · rintro k h vs ⟨o, e1, e2, _⟩ t
    obtain ⟨o', h1, h2, _⟩ := t
    rw [e1] at h1; cases h1
    rw [e2] at h2; exact absurd (Value.type.inj h2) (by decide)
  · rintro k h v ⟨o, e1, e2, e3⟩ ⟨o', h1, h2⟩
    rw [e1] at h1; cases h1
    rw [e3] at h2; cases h2
  · rintro k h h' ⟨o, e1, e2⟩ q; exact ⟨o, q.trans e1, e2⟩
  · rintro k h ⟨o, e, _⟩ q; rw [e] at q; cases q
  · intro m; obtain ⟨o, ho⟩ := i1.glo.st.live m; rw [hn1] at ho; cases ho
  · exact back i1.glo.base hn1
  · exact hn1
  · exact ⟨ob, Heap.get?_push_size _ (by rw [← hob]; rfl), by rw [← hob], by rw [← hob]; rfl⟩
  · intro s' hit Q E q
    exact wpAny_pyIter_listiter hit q
  · intro k s' ρ' σ' ys hk hit hp g hI Q E q
    obtain ⟨ws, hl, hr⟩ := src s' ρ' σ' ys hp g (hget k ys σ' hI)
    obtain ⟨w, hw, vw⟩ := hr.get (k := k) (x := xs[k]) (by simp [hk])
    refine wpAny_pyNext_list_item hit hl (x := w) (by simpa using hw) fun h' hit' hs' => q h' w _ hit' hs' ?_
    rw [show xs.getD k V.none = xs[k] by simp [List.getD, hk]]
    obtain ⟨oi, hoi, hci, hdi⟩ := hit
    exact VR.mon g.st (S := At h1.objs.size) (fun b vs e t => by
      obtain ⟨o', a1, a2, _⟩ := t
      rw [show b = _ from e, hoi] at a1; cases a1
      rw [hci] at a2; exact absurd (Value.type.inj a2) (by decide)) (fun b o e n _ => (hs'.2 b n).trans e) (List.prefix_refl _) _ _ vw
  · intro s' ρ' σ' ys hit hp g hI Q E q
    obtain ⟨ws, hl, hr⟩ := src s' ρ' σ' ys hp g (hget _ ys σ' hI)
    exact wpAny_pyNext_list_end r.hand hit hl (by simp [hr.len]) q

mutual
def dat : V → PyData
  | .none => .none | .bool b => .bool b | .int i => .int i | .str l => .str (St l) | .tup l => .tuple (dats l) | .fn _ => .none | .obj _ => .none
def dats : List V → List PyData
  | [] => [] | v :: l => dat v :: dats l
end
mutual
def flat : V → Bool
  | .tup l => flats l | .fn _ => false | .obj _ => false | _ => true
def flats : List V → Bool
  | [] => true | v :: l => flat v && flats l
end
mutual
theorem reads_of {ρ : List Addr} {h : Heap} : ∀ {x : V} {v : Value}, flat x = true → VR c ρ h x v → Reads h v (dat x) []
  | .none, v, _, e => by unfold VR at e; subst e; unfold dat; exact .none
  | .bool b, v, _, e => by unfold VR at e; subst e; unfold dat; exact .bool b
  | .int i, v, _, e => by unfold VR at e; obtain ⟨t, rfl⟩ := e; unfold dat; exact .int i t
  | .str l, v, _, e => by unfold VR at e; obtain ⟨_, t, rfl⟩ := e; unfold dat; exact .str _ t
  | .tup l, v, f, e => by
    unfold VR at e; obtain ⟨a, vs, rfl, ⟨o, e1, e2, n, e3⟩, r⟩ := e
    unfold dat; exact .tuple e1 e2 e3 (reads_all (by unfold flat at f; exact f) r)
  | .fn _, v, f, _ => by unfold flat at f; cases f
  | .obj _, v, f, _ => by unfold flat at f; cases f
theorem reads_all {ρ : List Addr} {h : Heap} : ∀ {x : List V} {v : List Value}, flats x = true → VRs c ρ h x v → ReadsAll h v (dats x) []
  | [], v, _, e => by unfold VRs at e; subst e; unfold dats; exact .nil
  | x :: l, v, f, e => by
    unfold VRs at e; obtain ⟨w, r, rfl, e1, e2⟩ := e
    unfold flats at f
    rw [Bool.and_eq_true] at f
    unfold dats
    exact ReadsAll.cons (as := []) (bs := []) (reads_of f.1 e1) (reads_all f.2 e2)
end

theorem AC_eq_res {b : Bool} {f : List Nat} {n1 n2 : Nat} {z1 z2 : Bool} {xs : List V} {K : Bool → Prop} (h1 : σ[n1]? = some (.list z1 xs)) (h2 : σ[n2]? = some (.list z2 xs)) (hf : flats xs = true) (hl : PyData.canLayAll0 (dats xs) = true) (hd : PyData.depthAll (dats xs) ≤ 60) (hs : PyData.strOk (St f) = true) (h : K true) :
    AC c .Eq σ (.tup [.bool b, .obj n1, .str f]) (.tup [.bool b, .obj n2, .str f]) K := by
  intro A s ρ u v Q E r g hu hv q
  have rd : ∀ {n : Nat} {z : Bool} {u : Value}, σ[n]? = some (.list z xs) → VR c ρ s.heap (.tup [.bool b, .obj n, .str f]) u → ∃ as, Reads s.heap u (.tuple [.bool b, .list (dats xs), .str (St f)]) as := by
    intro n z u hn hu
    unfold VR at hu
    obtain ⟨a, vs, rfl, ⟨o, e1, e2, m, e3⟩, r⟩ := hu
    obtain ⟨v1, v2, v3, rfl, r1, r2, r3⟩ := r.three
    unfold VR at r1 r2 r3
    subst r1
    obtain ⟨a2, rfl, ha⟩ := r2
    obtain ⟨_, t, rfl⟩ := r3
    obtain ⟨_, o', k, ws, x1, x2, x3, x4, x5⟩ := g.st.at hn ha
    exact ⟨_, .tuple e1 e2 e3 (.cons (.bool b) (.cons (.list x1 x2 x4 (reads_all hf x5)) (.cons (.str _ t) .nil)))⟩
  obtain ⟨as, ra⟩ := rd h1 hu
  obtain ⟨bs, rb⟩ := rd h2 hv
  have hc : PyData.canLay0 (.tuple [.bool b, .list (dats xs), .str (St f)]) = true := by simp [PyData.canLay0, PyData.canLayAll0, hl, hs]
  have hsh : SeqAt.shaped (.tuple [.bool b, .list (dats xs), .str (St f)]) = true := by
    unfold SeqAt.shaped
    rw [hc]
    rw [Bool.true_and, decide_eq_true_eq]
    show max 0 (max (PyData.depthAll (dats xs) + 1) (max 0 0)) + 1 ≤ 64
    have : max 0 (max (PyData.depthAll (dats xs) + 1) (max 0 0)) ≤ 61 := Nat.max_le.mpr ⟨by omega, Nat.max_le.mpr ⟨by omega, by decide⟩⟩
    omega
  refine eq_dataH ra rb hsh hsh (by have := r.units; omega) ?_
  rw [SeqAt.eqv_refl _ hc]
  exact q true s.toks h
end
theorem L0 : lit "" = [] := by rfl
theorem L1 : lit "01234567" = [48, 49, 50, 51, 52, 53, 54, 55] := by rfl
theorem L2 : lit "x" = [120] := by rfl
theorem L3 : lit "\\" = [92] := by rfl
theorem L4 : lit "{" = [123] := by rfl
theorem L5 : lit "o" = [111] := by rfl
theorem L6 : lit "N" = [78] := by rfl
theorem L7 : lit "{U+" = [123, 85, 43] := by rfl
theorem L8 : lit "Signs by their names are left out" = [83, 105, 103, 110, 115, 32, 98, 121, 32, 116, 104, 101, 105, 114, 32, 110, 97, 109, 101, 115, 32, 97, 114, 101, 32, 108, 101, 102, 116, 32, 111, 117, 116] := by rfl
theorem L9 : lit "c" = [99] := by rfl
theorem L10 : lit "a" = [97] := by rfl
theorem L11 : lit "z" = [122] := by rfl
theorem L12 : lit "A" = [65] := by rfl
theorem L13 : lit "Z" = [90] := by rfl
theorem L14 : lit "0" = [48] := by rfl
theorem L15 : lit "9" = [57] := by rfl
theorem L16 : lit "_" = [95] := by rfl
theorem L17 : lit "::" = [58, 58] := by rfl
theorem L18 : lit "'" = [39] := by rfl
theorem L19 : lit "\"" = [34] := by rfl
theorem L20 : lit " \t\n" = [32, 9, 10] := by rfl
theorem L21 : lit "[" = [91] := by rfl
theorem L22 : lit "->" = [45, 62] := by rfl
theorem L23 : lit "$" = [36] := by rfl
theorem L24 : lit "#" = [35] := by rfl
theorem L25 : lit ")|" = [41, 124] := by rfl
theorem L26 : lit "+[" = [43, 91] := by rfl
theorem L27 : lit "text" = [116, 101, 120, 116] := by rfl
theorem L28 : lit "@" = [64] := by rfl
theorem L29 : lit "expr" = [101, 120, 112, 114] := by rfl
theorem L30 : lit "ULFQulE" = [85, 76, 70, 81, 117, 108, 69] := by rfl
theorem L31 : lit ")" = [41] := by rfl
theorem L32 : lit "(" = [40] := by rfl
theorem L33 : lit ":" = [58] := by rfl
theorem L34 : lit "sub" = [115, 117, 98] := by rfl
theorem L35 : lit "->[" = [45, 62, 91] := by rfl
theorem L36 : lit "->{" = [45, 62, 123] := by rfl
theorem L37 : lit "-" = [45] := by rfl
theorem L38 : lit "\\$@" = [92, 36, 64] := by rfl
theorem L39 : lit "\\Q\\E" = [92, 81, 92, 69] := by rfl
theorem L40 : lit "\\u" = [92, 117] := by rfl
theorem L41 : lit "func" = [102, 117, 110, 99] := by rfl
theorem L42 : lit "str" = [115, 116, 114] := by rfl
theorem L43 : lit "ul" = [117, 108] := by rfl
theorem L44 : lit "elem" = [101, 108, 101, 109] := by rfl
theorem L45 : lit "name" = [110, 97, 109, 101] := by rfl
theorem L46 : lit "]" = [93] := by rfl
theorem L47 : lit "}" = [125] := by rfl
theorem L48 : lit "${" = [36, 123] := by rfl
theorem L49 : lit "helem" = [104, 101, 108, 101, 109] := by rfl
theorem L50 : lit "\\E" = [92, 69] := by rfl
theorem L51 : lit "u" = [117] := by rfl
theorem L52 : lit "l" = [108] := by rfl
theorem L53 : lit "qq" = [113, 113] := by rfl
theorem L54 : lit "interp" = [105, 110, 116, 101, 114, 112] := by rfl
theorem L55 : lit " !~ " = [32, 33, 126, 32] := by rfl
theorem L56 : lit " =~ " = [32, 61, 126, 32] := by rfl
theorem L57 : lit "m" = [109] := by rfl
theorem L58 : lit "match" = [109, 97, 116, 99, 104] := by rfl
theorem L59 : lit "subst" = [115, 117, 98, 115, 116] := by rfl
theorem L60 : lit "trans" = [116, 114, 97, 110, 115] := by rfl
theorem L61 : lit "step" = [115, 116, 101, 112] := by rfl
theorem L62 : lit "path" = [112, 97, 116, 104] := by rfl
theorem L63 : lit "abc" = [97, 98, 99] := by rfl
theorem L64 : lit "num" = [110, 117, 109] := by rfl
theorem L65 : lit "{}" = [123, 125] := by rfl
theorem L66 : lit "$t =~ " = [36, 116, 32, 61, 126, 32] := by rfl
theorem L67 : lit "$t !~ " = [36, 116, 32, 33, 126, 32] := by rfl
theorem L68 : lit "!" = [33] := by rfl
theorem L69 : lit "i" = [105] := by rfl
theorem L70 : lit "ab" = [97, 98] := by rfl
theorem L71 : lit "C" = [67] := by rfl
theorem L72 : lit " x" = [32, 120] := by rfl
theorem L73 : lit "t" = [116] := by rfl
theorem L74 : lit "ABCDEFGHIJKLMNOPQRSTUVWXYZabcdefghijklmnopqrstuvwxyz_0123456789" = [65, 66, 67, 68, 69, 70, 71, 72, 73, 74, 75, 76, 77, 78, 79, 80, 81, 82, 83, 84, 85, 86, 87, 88, 89, 90, 97, 98, 99, 100, 101, 102, 103, 104, 105, 106, 107, 108, 109, 110, 111, 112, 113, 114, 115, 116, 117, 118, 119, 120, 121, 122, 95, 48, 49, 50, 51, 52, 53, 54, 55, 56, 57] := by rfl
theorem L75 : lit "/!,~%;|^`#?+*&" = [47, 33, 44, 126, 37, 59, 124, 94, 96, 35, 63, 43, 42, 38] := by rfl
noncomputable def recs : {r : List DefRec // recsOf P = r} := ⟨[_, _, _, _, _, _, _, _, _, _, _, _, _, _, _, _, _, _, _, _, _, _, _, _, _, _, _, _, _, _, _, _, _, _, _, _, _, _, _, _, _, _, _, _, _, _, _, _, _, _, _, _, _, _, _, _, _, _, _, _, _, _, _, _, _, _, _, _, _, _, _], by rfl⟩
def nms : List (List Nat) := [[99, 108, 111, 115, 101, 114, 95, 111, 102], [100, 105, 103, 105, 116, 115, 95, 118, 97, 108, 117, 101], [99, 111, 100, 101, 100, 95, 115, 105, 103, 110], [98, 114, 97, 99, 101, 100, 95, 99, 111, 100, 101], [101, 115, 99, 97, 112, 101, 95, 97, 116], [103, 114, 101, 97, 116, 95, 108, 101, 116, 116, 101, 114], [115, 109, 97, 108, 108, 95, 108, 101, 116, 116, 101, 114], [105, 115, 95, 112, 108, 97, 105, 110, 95, 119, 111, 114, 100, 95, 115, 105, 103, 110], [99, 97, 115, 101, 100, 95, 116, 101, 120, 116], [105, 115, 95, 110, 97, 109, 101, 95, 115, 116, 97, 114, 116], [118, 97, 114, 105, 97, 98, 108, 101, 95, 110, 97, 109, 101, 95, 101, 110, 100], [113, 117, 111, 116, 101, 95, 115, 107, 105, 112], [115, 117, 98, 115, 99, 114, 105, 112, 116, 95, 101, 110, 100], [100, 105, 103, 105, 116, 115, 95, 111, 110, 108, 121], [105, 115, 95, 112, 97, 116, 116, 101, 114, 110, 95, 112, 97, 114, 116], [111, 110, 101, 95, 115, 117, 98, 115, 99, 114, 105, 112, 116], [97, 108, 108, 95, 115, 117, 98, 115, 99, 114, 105, 112, 116, 115], [98, 97, 115, 101, 95, 101, 110, 100], [105, 115, 95, 98, 114, 97, 99, 101, 100, 95, 110, 97, 109, 101], [115, 99, 97, 108, 97, 114, 95, 101, 110, 100], [97, 114, 114, 97, 121, 95, 101, 110, 100], [97, 100, 100, 95, 112, 97, 114, 116], [99, 108, 111, 115, 101, 95, 99, 97, 115, 101], [101, 110, 100, 95, 99, 97, 115, 101], [101, 110, 100, 95, 108, 101, 116, 116, 101, 114, 115], [98, 101, 103, 105, 110, 95, 99, 97, 115, 101], [116, 97, 107, 101, 95, 99, 97, 115, 101], [116, 97, 107, 101, 95, 112, 105, 101, 99, 101], [119, 105, 116, 104, 95, 103, 114, 111, 117, 112, 115], [112, 97, 114, 116, 115, 95, 111, 102], [115, 104, 111, 119, 95, 110, 111, 100, 101], [115, 104, 111, 119, 95, 98, 114, 97, 99, 101, 100], [105, 115, 95, 119, 111, 114, 100, 95, 110, 97, 109, 101], [98, 101, 103, 105, 110, 115, 95, 119, 105, 116, 104, 95, 119, 111, 114, 100], [115, 101, 101, 109, 115, 95, 115, 117, 98, 115, 99, 114, 105, 112, 116], [103, 117, 97, 114, 100, 101, 100, 95, 116, 101, 120, 116], [107, 101, 112, 116, 95, 115, 105, 103, 110, 115], [114, 97, 119, 95, 112, 105, 101, 99, 101], [119, 105, 116, 104, 111, 117, 116, 95, 103, 117, 97, 114, 100, 115], [99, 97, 115, 101, 100, 95, 112, 105, 101, 99, 101], [105, 115, 95, 111, 112, 101, 110, 95, 112, 97, 114, 116], [99, 97, 110, 95, 98, 101, 95, 98, 114, 97, 99, 101, 100], [115, 104, 111, 119, 95, 98, 97, 115, 101], [115, 104, 111, 119, 95, 101, 108, 101, 109, 101, 110, 116], [115, 104, 111, 119, 95, 112, 97, 114, 116], [105, 115, 95, 119, 97, 105, 116, 105, 110, 103], [115, 104, 111, 119, 95, 99, 97, 115, 101, 100], [115, 104, 111, 119, 95, 113, 117, 111, 116, 101, 100], [115, 104, 111, 119, 95, 116, 101, 120, 116], [115, 104, 111, 119, 95, 112, 97, 114, 116, 115], [113, 117, 111, 116, 101, 95, 115, 105, 103, 110], [108, 105, 115, 116, 95, 105, 110, 116, 101, 114, 112], [115, 104, 111, 119, 95, 112, 97, 116, 116, 101, 114, 110], [105, 115, 95, 98, 97, 114, 101, 95, 112, 97, 116, 116, 101, 114, 110], [115, 116, 97, 110, 100, 115, 95, 114, 97, 119], [105, 115, 95, 113, 117, 111, 116, 97, 98, 108, 101], [108, 105, 115, 116, 95, 109, 97, 116, 99, 104], [98, 111, 117, 110, 100, 95, 116, 101, 120, 116], [108, 105, 115, 116, 95, 100, 111, 117, 98, 108, 101, 100], [98, 97, 114, 101, 95, 114, 101, 112, 108, 97, 99, 101, 109, 101, 110, 116], [115, 104, 111, 119, 95, 99, 111, 100, 101], [108, 105, 115, 116, 95, 115, 117, 98, 115, 116], [108, 105, 115, 116, 95, 116, 114, 97, 110, 115], [113, 117, 111, 116, 101, 95, 108, 105, 115, 116, 101, 114, 115], [95, 108, 97, 119, 95, 109, 111, 118, 101], [95, 108, 97, 119, 95, 100, 114, 97, 119, 110], [95, 108, 97, 119, 95, 112, 97, 114, 116, 115], [95, 108, 97, 119, 95, 108, 105, 115, 116, 101, 100], [95, 108, 97, 119, 95, 110, 111, 100, 101], [95, 108, 97, 119, 95, 114, 101, 97, 100], [108, 97, 119]]
theorem nms_eq : recs.1.map (fun (d : DefRec) => lit d.name) = nms := by rfl
theorem find_at {x : Str} {z : List Nat} (hx : lit x = z) : ∀ (k : Nat) {l : List DefRec} {ns : List (List Nat)} (he : l.map (fun d => lit d.name) = ns), ns[k]? = some z → (ns.take k).contains z = false → (l.find? fun d => d.name == x) = l[k]?
  | k, [], ns, he, h1, _ => by subst he; simp at h1
  | 0, d :: l, ns, he, h1, _ => by
    subst he
    have e : lit d.name = z := by simpa using h1
    have : d.name = x := Str.ext' (by have := e.trans hx.symm; simpa [lit] using this)
    rw [List.find?_cons]
    have hb : (d.name == x) = true := beq_iff_eq.mpr this
    rw [hb]; rfl
  | k + 1, d :: l, ns, he, h1, h2 => by
    subst he
    simp only [List.map_cons, List.take_succ_cons, List.contains_cons, Bool.or_eq_false_iff] at h2
    rw [List.find?_cons]
    have hb : (d.name == x) = false := by
      refine beq_eq_false_iff_ne.mpr fun q => ?_
      have := h2.1
      rw [← hx, q] at this
      simp at this
    rw [hb]
    exact find_at hx k rfl (by simpa using h1) h2.2
theorem ftab_at {x : Str} {z : List Nat} (hx : lit x = z) (k : Nat) (h1 : nms[k]? = some z) (h2 : (nms.take k).contains z = false) : ftab x = recs.1[k]? := by
  have e : ftab x = recs.1.find? fun (d : DefRec) => d.name == x := congrArg (fun l => List.find? (fun (d : DefRec) => d.name == x) l) recs.2
  rw [e]; exact find_at hx k nms_eq h1 h2
theorem ft_closer_of : ftab "closer_of" = recs.1[0]? := ftab_at (show lit "closer_of" = [99, 108, 111, 115, 101, 114, 95, 111, 102] from by rfl) 0 rfl (by decide)
noncomputable def r_closer_of : {r : DefRec // ftab "closer_of" = some r} := ⟨_, ft_closer_of.trans (by rfl)⟩
theorem ft_escape_at : ftab "escape_at" = recs.1[4]? := ftab_at (show lit "escape_at" = [101, 115, 99, 97, 112, 101, 95, 97, 116] from by rfl) 4 rfl (by decide)
noncomputable def r_escape_at : {r : DefRec // ftab "escape_at" = some r} := ⟨_, ft_escape_at.trans (by rfl)⟩
theorem ft_is_plain_word_sign : ftab "is_plain_word_sign" = recs.1[7]? := ftab_at (show lit "is_plain_word_sign" = [105, 115, 95, 112, 108, 97, 105, 110, 95, 119, 111, 114, 100, 95, 115, 105, 103, 110] from by rfl) 7 rfl (by decide)
noncomputable def r_is_plain_word_sign : {r : DefRec // ftab "is_plain_word_sign" = some r} := ⟨_, ft_is_plain_word_sign.trans (by rfl)⟩
theorem ft_is_name_start : ftab "is_name_start" = recs.1[9]? := ftab_at (show lit "is_name_start" = [105, 115, 95, 110, 97, 109, 101, 95, 115, 116, 97, 114, 116] from by rfl) 9 rfl (by decide)
noncomputable def r_is_name_start : {r : DefRec // ftab "is_name_start" = some r} := ⟨_, ft_is_name_start.trans (by rfl)⟩
theorem ft_variable_name_end : ftab "variable_name_end" = recs.1[10]? := ftab_at (show lit "variable_name_end" = [118, 97, 114, 105, 97, 98, 108, 101, 95, 110, 97, 109, 101, 95, 101, 110, 100] from by rfl) 10 rfl (by decide)
noncomputable def r_variable_name_end : {r : DefRec // ftab "variable_name_end" = some r} := ⟨_, ft_variable_name_end.trans (by rfl)⟩
theorem ft_subscript_end : ftab "subscript_end" = recs.1[12]? := ftab_at (show lit "subscript_end" = [115, 117, 98, 115, 99, 114, 105, 112, 116, 95, 101, 110, 100] from by rfl) 12 rfl (by decide)
noncomputable def r_subscript_end : {r : DefRec // ftab "subscript_end" = some r} := ⟨_, ft_subscript_end.trans (by rfl)⟩
theorem ft_digits_only : ftab "digits_only" = recs.1[13]? := ftab_at (show lit "digits_only" = [100, 105, 103, 105, 116, 115, 95, 111, 110, 108, 121] from by rfl) 13 rfl (by decide)
noncomputable def r_digits_only : {r : DefRec // ftab "digits_only" = some r} := ⟨_, ft_digits_only.trans (by rfl)⟩
theorem ft_one_subscript : ftab "one_subscript" = recs.1[15]? := ftab_at (show lit "one_subscript" = [111, 110, 101, 95, 115, 117, 98, 115, 99, 114, 105, 112, 116] from by rfl) 15 rfl (by decide)
noncomputable def r_one_subscript : {r : DefRec // ftab "one_subscript" = some r} := ⟨_, ft_one_subscript.trans (by rfl)⟩
theorem ft_all_subscripts : ftab "all_subscripts" = recs.1[16]? := ftab_at (show lit "all_subscripts" = [97, 108, 108, 95, 115, 117, 98, 115, 99, 114, 105, 112, 116, 115] from by rfl) 16 rfl (by decide)
noncomputable def r_all_subscripts : {r : DefRec // ftab "all_subscripts" = some r} := ⟨_, ft_all_subscripts.trans (by rfl)⟩
theorem ft_base_end : ftab "base_end" = recs.1[17]? := ftab_at (show lit "base_end" = [98, 97, 115, 101, 95, 101, 110, 100] from by rfl) 17 rfl (by decide)
noncomputable def r_base_end : {r : DefRec // ftab "base_end" = some r} := ⟨_, ft_base_end.trans (by rfl)⟩
theorem ft_is_braced_name : ftab "is_braced_name" = recs.1[18]? := ftab_at (show lit "is_braced_name" = [105, 115, 95, 98, 114, 97, 99, 101, 100, 95, 110, 97, 109, 101] from by rfl) 18 rfl (by decide)
noncomputable def r_is_braced_name : {r : DefRec // ftab "is_braced_name" = some r} := ⟨_, ft_is_braced_name.trans (by rfl)⟩
theorem ft_scalar_end : ftab "scalar_end" = recs.1[19]? := ftab_at (show lit "scalar_end" = [115, 99, 97, 108, 97, 114, 95, 101, 110, 100] from by rfl) 19 rfl (by decide)
noncomputable def r_scalar_end : {r : DefRec // ftab "scalar_end" = some r} := ⟨_, ft_scalar_end.trans (by rfl)⟩
theorem ft_array_end : ftab "array_end" = recs.1[20]? := ftab_at (show lit "array_end" = [97, 114, 114, 97, 121, 95, 101, 110, 100] from by rfl) 20 rfl (by decide)
noncomputable def r_array_end : {r : DefRec // ftab "array_end" = some r} := ⟨_, ft_array_end.trans (by rfl)⟩
theorem ft_add_part : ftab "add_part" = recs.1[21]? := ftab_at (show lit "add_part" = [97, 100, 100, 95, 112, 97, 114, 116] from by rfl) 21 rfl (by decide)
noncomputable def r_add_part : {r : DefRec // ftab "add_part" = some r} := ⟨_, ft_add_part.trans (by rfl)⟩
theorem ft_take_piece : ftab "take_piece" = recs.1[27]? := ftab_at (show lit "take_piece" = [116, 97, 107, 101, 95, 112, 105, 101, 99, 101] from by rfl) 27 rfl (by decide)
noncomputable def r_take_piece : {r : DefRec // ftab "take_piece" = some r} := ⟨_, ft_take_piece.trans (by rfl)⟩
theorem ft_parts_of : ftab "parts_of" = recs.1[29]? := ftab_at (show lit "parts_of" = [112, 97, 114, 116, 115, 95, 111, 102] from by rfl) 29 rfl (by decide)
noncomputable def r_parts_of : {r : DefRec // ftab "parts_of" = some r} := ⟨_, ft_parts_of.trans (by rfl)⟩
theorem ft_show_node : ftab "show_node" = recs.1[30]? := ftab_at (show lit "show_node" = [115, 104, 111, 119, 95, 110, 111, 100, 101] from by rfl) 30 rfl (by decide)
noncomputable def r_show_node : {r : DefRec // ftab "show_node" = some r} := ⟨_, ft_show_node.trans (by rfl)⟩
theorem ft_is_word_name : ftab "is_word_name" = recs.1[32]? := ftab_at (show lit "is_word_name" = [105, 115, 95, 119, 111, 114, 100, 95, 110, 97, 109, 101] from by rfl) 32 rfl (by decide)
noncomputable def r_is_word_name : {r : DefRec // ftab "is_word_name" = some r} := ⟨_, ft_is_word_name.trans (by rfl)⟩
theorem ft_begins_with_word : ftab "begins_with_word" = recs.1[33]? := ftab_at (show lit "begins_with_word" = [98, 101, 103, 105, 110, 115, 95, 119, 105, 116, 104, 95, 119, 111, 114, 100] from by rfl) 33 rfl (by decide)
noncomputable def r_begins_with_word : {r : DefRec // ftab "begins_with_word" = some r} := ⟨_, ft_begins_with_word.trans (by rfl)⟩
theorem ft_seems_subscript : ftab "seems_subscript" = recs.1[34]? := ftab_at (show lit "seems_subscript" = [115, 101, 101, 109, 115, 95, 115, 117, 98, 115, 99, 114, 105, 112, 116] from by rfl) 34 rfl (by decide)
noncomputable def r_seems_subscript : {r : DefRec // ftab "seems_subscript" = some r} := ⟨_, ft_seems_subscript.trans (by rfl)⟩
theorem ft_guarded_text : ftab "guarded_text" = recs.1[35]? := ftab_at (show lit "guarded_text" = [103, 117, 97, 114, 100, 101, 100, 95, 116, 101, 120, 116] from by rfl) 35 rfl (by decide)
noncomputable def r_guarded_text : {r : DefRec // ftab "guarded_text" = some r} := ⟨_, ft_guarded_text.trans (by rfl)⟩
theorem ft_kept_signs : ftab "kept_signs" = recs.1[36]? := ftab_at (show lit "kept_signs" = [107, 101, 112, 116, 95, 115, 105, 103, 110, 115] from by rfl) 36 rfl (by decide)
noncomputable def r_kept_signs : {r : DefRec // ftab "kept_signs" = some r} := ⟨_, ft_kept_signs.trans (by rfl)⟩
theorem ft_raw_piece : ftab "raw_piece" = recs.1[37]? := ftab_at (show lit "raw_piece" = [114, 97, 119, 95, 112, 105, 101, 99, 101] from by rfl) 37 rfl (by decide)
noncomputable def r_raw_piece : {r : DefRec // ftab "raw_piece" = some r} := ⟨_, ft_raw_piece.trans (by rfl)⟩
theorem ft_is_open_part : ftab "is_open_part" = recs.1[40]? := ftab_at (show lit "is_open_part" = [105, 115, 95, 111, 112, 101, 110, 95, 112, 97, 114, 116] from by rfl) 40 rfl (by decide)
noncomputable def r_is_open_part : {r : DefRec // ftab "is_open_part" = some r} := ⟨_, ft_is_open_part.trans (by rfl)⟩
theorem ft_show_element : ftab "show_element" = recs.1[43]? := ftab_at (show lit "show_element" = [115, 104, 111, 119, 95, 101, 108, 101, 109, 101, 110, 116] from by rfl) 43 rfl (by decide)
noncomputable def r_show_element : {r : DefRec // ftab "show_element" = some r} := ⟨_, ft_show_element.trans (by rfl)⟩
theorem ft_show_part : ftab "show_part" = recs.1[44]? := ftab_at (show lit "show_part" = [115, 104, 111, 119, 95, 112, 97, 114, 116] from by rfl) 44 rfl (by decide)
noncomputable def r_show_part : {r : DefRec // ftab "show_part" = some r} := ⟨_, ft_show_part.trans (by rfl)⟩
theorem ft_show_quoted : ftab "show_quoted" = recs.1[47]? := ftab_at (show lit "show_quoted" = [115, 104, 111, 119, 95, 113, 117, 111, 116, 101, 100] from by rfl) 47 rfl (by decide)
noncomputable def r_show_quoted : {r : DefRec // ftab "show_quoted" = some r} := ⟨_, ft_show_quoted.trans (by rfl)⟩
theorem ft_show_text : ftab "show_text" = recs.1[48]? := ftab_at (show lit "show_text" = [115, 104, 111, 119, 95, 116, 101, 120, 116] from by rfl) 48 rfl (by decide)
noncomputable def r_show_text : {r : DefRec // ftab "show_text" = some r} := ⟨_, ft_show_text.trans (by rfl)⟩
theorem ft_show_parts : ftab "show_parts" = recs.1[49]? := ftab_at (show lit "show_parts" = [115, 104, 111, 119, 95, 112, 97, 114, 116, 115] from by rfl) 49 rfl (by decide)
noncomputable def r_show_parts : {r : DefRec // ftab "show_parts" = some r} := ⟨_, ft_show_parts.trans (by rfl)⟩
theorem ft_quote_sign : ftab "quote_sign" = recs.1[50]? := ftab_at (show lit "quote_sign" = [113, 117, 111, 116, 101, 95, 115, 105, 103, 110] from by rfl) 50 rfl (by decide)
noncomputable def r_quote_sign : {r : DefRec // ftab "quote_sign" = some r} := ⟨_, ft_quote_sign.trans (by rfl)⟩
theorem ft_list_interp : ftab "list_interp" = recs.1[51]? := ftab_at (show lit "list_interp" = [108, 105, 115, 116, 95, 105, 110, 116, 101, 114, 112] from by rfl) 51 rfl (by decide)
noncomputable def r_list_interp : {r : DefRec // ftab "list_interp" = some r} := ⟨_, ft_list_interp.trans (by rfl)⟩
theorem ft_show_pattern : ftab "show_pattern" = recs.1[52]? := ftab_at (show lit "show_pattern" = [115, 104, 111, 119, 95, 112, 97, 116, 116, 101, 114, 110] from by rfl) 52 rfl (by decide)
noncomputable def r_show_pattern : {r : DefRec // ftab "show_pattern" = some r} := ⟨_, ft_show_pattern.trans (by rfl)⟩
theorem ft_is_bare_pattern : ftab "is_bare_pattern" = recs.1[53]? := ftab_at (show lit "is_bare_pattern" = [105, 115, 95, 98, 97, 114, 101, 95, 112, 97, 116, 116, 101, 114, 110] from by rfl) 53 rfl (by decide)
noncomputable def r_is_bare_pattern : {r : DefRec // ftab "is_bare_pattern" = some r} := ⟨_, ft_is_bare_pattern.trans (by rfl)⟩
theorem ft_is_quotable : ftab "is_quotable" = recs.1[55]? := ftab_at (show lit "is_quotable" = [105, 115, 95, 113, 117, 111, 116, 97, 98, 108, 101] from by rfl) 55 rfl (by decide)
noncomputable def r_is_quotable : {r : DefRec // ftab "is_quotable" = some r} := ⟨_, ft_is_quotable.trans (by rfl)⟩
theorem ft_list_match : ftab "list_match" = recs.1[56]? := ftab_at (show lit "list_match" = [108, 105, 115, 116, 95, 109, 97, 116, 99, 104] from by rfl) 56 rfl (by decide)
noncomputable def r_list_match : {r : DefRec // ftab "list_match" = some r} := ⟨_, ft_list_match.trans (by rfl)⟩
theorem ft_quote_listers : ftab "quote_listers" = recs.1[63]? := ftab_at (show lit "quote_listers" = [113, 117, 111, 116, 101, 95, 108, 105, 115, 116, 101, 114, 115] from by rfl) 63 rfl (by decide)
noncomputable def r_quote_listers : {r : DefRec // ftab "quote_listers" = some r} := ⟨_, ft_quote_listers.trans (by rfl)⟩
theorem ft_law_move : ftab "_law_move" = recs.1[64]? := ftab_at (show lit "_law_move" = [95, 108, 97, 119, 95, 109, 111, 118, 101] from by rfl) 64 rfl (by decide)
noncomputable def r_law_move : {r : DefRec // ftab "_law_move" = some r} := ⟨_, ft_law_move.trans (by rfl)⟩
theorem ft_law_drawn : ftab "_law_drawn" = recs.1[65]? := ftab_at (show lit "_law_drawn" = [95, 108, 97, 119, 95, 100, 114, 97, 119, 110] from by rfl) 65 rfl (by decide)
noncomputable def r_law_drawn : {r : DefRec // ftab "_law_drawn" = some r} := ⟨_, ft_law_drawn.trans (by rfl)⟩
theorem ft_law_parts : ftab "_law_parts" = recs.1[66]? := ftab_at (show lit "_law_parts" = [95, 108, 97, 119, 95, 112, 97, 114, 116, 115] from by rfl) 66 rfl (by decide)
noncomputable def r_law_parts : {r : DefRec // ftab "_law_parts" = some r} := ⟨_, ft_law_parts.trans (by rfl)⟩
theorem ft_law_listed : ftab "_law_listed" = recs.1[67]? := ftab_at (show lit "_law_listed" = [95, 108, 97, 119, 95, 108, 105, 115, 116, 101, 100] from by rfl) 67 rfl (by decide)
noncomputable def r_law_listed : {r : DefRec // ftab "_law_listed" = some r} := ⟨_, ft_law_listed.trans (by rfl)⟩
theorem ft_law_node : ftab "_law_node" = recs.1[68]? := ftab_at (show lit "_law_node" = [95, 108, 97, 119, 95, 110, 111, 100, 101] from by rfl) 68 rfl (by decide)
noncomputable def r_law_node : {r : DefRec // ftab "_law_node" = some r} := ⟨_, ft_law_node.trans (by rfl)⟩
theorem ft_law_read : ftab "_law_read" = recs.1[69]? := ftab_at (show lit "_law_read" = [95, 108, 97, 119, 95, 114, 101, 97, 100] from by rfl) 69 rfl (by decide)
noncomputable def r_law_read : {r : DefRec // ftab "_law_read" = some r} := ⟨_, ft_law_read.trans (by rfl)⟩
theorem ft_law : ftab "law" = recs.1[70]? := ftab_at (show lit "law" = [108, 97, 119] from by rfl) 70 rfl (by decide)
noncomputable def r_law : {r : DefRec // ftab "law" = some r} := ⟨_, ft_law.trans (by rfl)⟩
theorem ft_list_subst : ftab "list_subst" = recs.1[61]? := ftab_at (show lit "list_subst" = [108, 105, 115, 116, 95, 115, 117, 98, 115, 116] from by rfl) 61 rfl (by decide)
noncomputable def r_list_subst : {r : DefRec // ftab "list_subst" = some r} := ⟨_, ft_list_subst.trans (by rfl)⟩
theorem ft_list_trans : ftab "list_trans" = recs.1[62]? := ftab_at (show lit "list_trans" = [108, 105, 115, 116, 95, 116, 114, 97, 110, 115] from by rfl) 62 rfl (by decide)
noncomputable def r_list_trans : {r : DefRec // ftab "list_trans" = some r} := ⟨_, ft_list_trans.trans (by rfl)⟩
theorem if_t {b : Bool} {A B : Prop} (h : b = true) (a : A) : if b then A else B := by rw [if_pos h]; exact a
theorem if_f {b : Bool} {A B : Prop} (h : b = false) (a : B) : if b then A else B := by rw [h]; exact a
theorem if_s {b : Bool} {A B : Prop} (h1 : b = true → A) (h2 : b = false → B) : if b then A else B := by cases b; exact h2 rfl; exact h1 rfl
theorem exb {x : Bool} {Q : Bool → Prop} (h : Q x) : ∃ b, V.bool x = V.bool b ∧ Q b := ⟨x, rfl, h⟩
theorem exi {x : Int} {Q : Int → Prop} (h : Q x) : ∃ b, V.int x = V.int b ∧ Q b := ⟨x, rfl, h⟩
theorem exsl {t z : List Nat} {i j : Option Int} {Q : List Nat → Prop} (e : slc t i j = z) (h : Q z) : ∃ y w, V.str t = V.str y ∧ slc y i j = w ∧ Q w := ⟨t, z, rfl, e, h⟩
theorem len0 {vs : List Value} (h : vs.length = ([] : List V).length) : vs = [] := by cases vs with
  | nil => rfl
  | cons a l => simp at h
theorem lenS {x : V} {xs : List V} {vs : List Value} (h : vs.length = (x :: xs).length) : ∃ a r, vs = a :: r ∧ r.length = xs.length := by
  cases vs with
  | nil => simp at h
  | cons a r => exact ⟨a, r, rfl, Nat.succ.inj h⟩
theorem len1 {x0 : V} {vs : List Value} (h : vs.length = [x0].length) : ∃ a0, vs = [a0] := by
  obtain ⟨a, r, rfl, hh⟩ := lenS h
  obtain rfl := len0 hh
  exact ⟨a, rfl⟩
theorem len2 {x0 x1 : V} {vs : List Value} (h : vs.length = [x0, x1].length) : ∃ a0 a1, vs = [a0, a1] := by
  obtain ⟨a, r, rfl, hh⟩ := lenS h
  obtain ⟨b, rfl⟩ := len1 hh
  exact ⟨a, b, rfl⟩
theorem len3 {x0 x1 x2 : V} {vs : List Value} (h : vs.length = [x0, x1, x2].length) : ∃ a0 a1 a2, vs = [a0, a1, a2] := by
  obtain ⟨a, r, rfl, hh⟩ := lenS h
  obtain ⟨b, d, rfl⟩ := len2 hh
  exact ⟨a, b, d, rfl⟩
theorem len4 {x0 x1 x2 x3 : V} {vs : List Value} (h : vs.length = [x0, x1, x2, x3].length) : ∃ a0 a1 a2 a3, vs = [a0, a1, a2, a3] := by
  obtain ⟨a, r, rfl, hh⟩ := lenS h
  obtain ⟨b, d, e, rfl⟩ := len3 hh
  exact ⟨a, b, d, e, rfl⟩
theorem len5 {x0 x1 x2 x3 x4 : V} {vs : List Value} (h : vs.length = [x0, x1, x2, x3, x4].length) : ∃ a0 a1 a2 a3 a4, vs = [a0, a1, a2, a3, a4] := by
  obtain ⟨a, r, rfl, hh⟩ := lenS h
  obtain ⟨b, d, e, f, rfl⟩ := len4 hh
  exact ⟨a, b, d, e, f, rfl⟩
theorem nd_t {p : Prop} [Decidable p] (h : ¬ p) : (!decide p) = true := by rw [decide_eq_false h]; rfl
theorem nd_f {p : Prop} [Decidable p] (h : p) : (!decide p) = false := by rw [decide_eq_true h]; rfl
section
variable {c : Cx} {sc : Scope} {d : Nat} {l : Loc} {σ : List O}
theorem EV_strN {y : Str} {z : List Nat} {k : Nat} {pos : Pos} {R : V → List O → Prop} (e : lit y = z) (hR : R (.str z) σ) (hz : y.length ≤ sizeLine := by decide) : EV c sc d (.Constant (.str y) k pos) l σ R :=
  EV_str (by rw [e]; exact hR) hz
theorem EV_ctxtN {x : Str} {pos : Pos} {y : Str} {z : List Nat} {R : V → List O → Prop} (ok : Ok c) (hf : valOf P x = some (.str y)) (e : lit y = z) (hR : R (.str z) σ) (hz : y.length ≤ sizeLine := by decide)
    (hk : sc.kind = .function := by with_unfolding_all rfl) (hl : sc.names.lookup x = some .globalImplicit := by with_unfolding_all rfl) (hd : (x == ("__debug__" : Str)) = false := by decide) : EV c sc d (.Name x pos) l σ R :=
  EV_ctxt ok hf (by rw [e]; exact hR) hz hk hl hd
theorem AC_le_11 {x y : Nat} {K : Bool → Prop} (h : K (decide (x ≤ y))) : AC c .LtE σ (.str [x]) (.str [y]) K :=
  AC_le_ss (by
    have : (!decide ([y] < [x])) = decide (x ≤ y) := by
      have e : ([y] < [x]) ↔ y < x := by rw [List.cons_lt_cons_iff]; simp
      by_cases h : x ≤ y
      · have h2 : ¬ [y] < [x] := by rw [e]; omega
        simp only [h, h2, decide_true, decide_false, Bool.not_false]
      · have h2 : [y] < [x] := by rw [e]; omega
        simp only [h, h2, decide_true, decide_false, Bool.not_true]
    rw [this]; exact h)
theorem AC_eq_11 {x y : Nat} {K : Bool → Prop} (h : K (decide (x = y))) : AC c .Eq σ (.str [x]) (.str [y]) K :=
  AC_eq_ss (by simpa using h)
theorem AC_ne_11 {x y : Nat} {K : Bool → Prop} (h : K (!decide (x = y))) : AC c .NotEq σ (.str [x]) (.str [y]) K :=
  AC_ne_ss (by simpa using h)
theorem AC_in_t2 {x a b : List Nat} {K : Bool → Prop} (h : K (decide (x = a) || decide (x = b))) : AC c .In σ (.str x) (.tup [.str a, .str b]) K :=
  AC_in_tup (ys := [a, b]) (by simpa using h)
theorem AC_notin_t2 {x a b : List Nat} {K : Bool → Prop} (h : K (!(decide (x = a) || decide (x = b)))) : AC c .NotIn σ (.str x) (.tup [.str a, .str b]) K :=
  AC_notin_tup (ys := [a, b]) (by simpa using h)
theorem CA.use {d0 : Nat} {f : Str} {xs : List V} {v : V} {σ' : List O} {R : V → List O → Prop} (h : CA c d0 f xs σ fun x s => x = v ∧ s = σ') (k : d0 ≤ d) (r : R v σ') : CA c d f xs σ R :=
  CA.mono (CA.le h k) fun x s e => by obtain ⟨rfl, rfl⟩ := e; exact r
/-- a slice whose result is known -/
theorem EV_sl {e : Expr} {lo hi : Option Expr} {p pos : Pos} {R : V → List O → Prop}
    (h : EV c sc d e l σ fun x σ₁ => EO c sc d lo l σ₁ fun i σ₂ => EO c sc d hi l σ₂ fun j σ₃ => ∃ y z, x = .str y ∧ slc y i j = z ∧ R (.str z) σ₃) : EV c sc d (.Subscript e (.Slice lo hi none p) pos) l σ R :=
  EV_slice (h.mono fun x s1 h1 => by
    unfold EO at h1 ⊢
    cases lo <;> cases hi
    · obtain ⟨y, z, e1, e2, e3⟩ := h1; exact ⟨y, e1, by rw [e2]; exact e3⟩
    · exact EV.mono h1 fun a s2 h2 => by obtain ⟨i, e0, y, z, e1, e2, e3⟩ := h2; exact ⟨i, e0, y, e1, by rw [e2]; exact e3⟩
    · exact EV.mono h1 fun a s2 h2 => by obtain ⟨i, e0, y, z, e1, e2, e3⟩ := h2; exact ⟨i, e0, y, e1, by rw [e2]; exact e3⟩
    · exact EV.mono h1 fun a s2 h2 => by
        obtain ⟨i, e0, h2⟩ := h2
        exact ⟨i, e0, EV.mono h2 fun b s3 h3 => by obtain ⟨j, e9, y, z, e1, e2, e3⟩ := h3; exact ⟨j, e9, y, e1, by rw [e2]; exact e3⟩⟩)
theorem EO_none {R : Option Int → List O → Prop} (h : R none σ) : EO c sc d none l σ R := h
theorem EO_some {e : Expr} {R : Option Int → List O → Prop} (h : EV c sc d e l σ fun x σ' => ∃ i, x = .int i ∧ R (some i) σ') : EO c sc d (some e) l σ R := h
theorem AX_strN {x : List Nat} {i : Int} {z : Nat} {K : V → Prop} (hc : 0 ≤ i ∧ x[i.toNat]? = some z) (h : K (.str [z])) : AX c σ (.str x) (.int i) K := AX_str hc.1 hc.2 h

theorem AX_listN {n : Nat} {fz : Bool} {xs : List V} {i : Int} {z : V} {K : V → Prop} (hn : σ[n]? = some (.list fz xs)) (hc : 0 ≤ i ∧ i < 1000000 ∧ xs[i.toNat]? = some z) (h : K z) : AX c σ (.obj n) (.int i) K := AX_list hn hc.1 hc.2.1 hc.2.2 h

/-- the text from a place on -/
def At' (t : List Nat) (p : Int) (suf : List Nat) : Prop := 0 ≤ p ∧ p.toNat ≤ t.length ∧ t.drop p.toNat = suf
theorem At'.len {t suf : List Nat} {p : Int} (h : At' t p suf) : (t.length : Int) = p + suf.length := by
  obtain ⟨h0, h1, h2⟩ := h
  have := congrArg List.length h2
  rw [List.length_drop] at this
  omega
theorem At'.get {t suf : List Nat} {p : Int} (h : At' t p suf) {a : Int} (ha : 0 ≤ a) {z : Nat} (hz : suf[a.toNat]? = some z) : 0 ≤ p + a ∧ t[(p + a).toNat]? = some z := by
  obtain ⟨h0, h1, h2⟩ := h
  refine ⟨by omega, ?_⟩
  rw [← h2, List.getElem?_drop] at hz
  rw [show (p + a).toNat = p.toNat + a.toNat by omega]; exact hz
theorem At'.get0 {t suf : List Nat} {p : Int} (h : At' t p suf) {z : Nat} (hz : suf[0]? = some z) : 0 ≤ p ∧ t[p.toNat]? = some z := by
  have := h.get (a := 0) (by omega) (z := z) (by simpa using hz)
  simpa using this
theorem At'.step {t suf : List Nat} {p : Int} (h : At' t p suf) {a : Int} (ha : 0 ≤ a) (hl : a.toNat ≤ suf.length) : At' t (p + a) (suf.drop a.toNat) := by
  have hlen := h.len
  obtain ⟨h0, h1, h2⟩ := h
  refine ⟨by omega, by omega, ?_⟩
  rw [← h2, List.drop_drop]
  congr 1; omega
theorem At'.zero (t : List Nat) : At' t 0 t := ⟨by omega, by simp, by simp⟩

end
def cl (i : Int) (n : Nat) : Nat := (max 0 (min (if i < 0 then i + n else i) n)).toNat
theorem cl_int (i : Int) (n : Nat) : ((cl i n : Nat) : Int) = max 0 (min (if i < 0 then i + n else i) n) := by
  unfold cl; omega
theorem cl_le (i : Int) (n : Nat) : cl i n ≤ n := by unfold cl; omega
theorem cl_pos {i : Int} {n : Nat} (h : 0 ≤ i) : cl i n = min i.toNat n := by
  unfold cl; rw [if_neg (by omega)]; omega
theorem idx_cl (a b : Int) (n : Nat) : Builtin.Str.strSliceIndices (some a) (some b) 1 n = Builtin.Str.strSliceIndices (some (cl a n : Nat)) (some (cl b n : Nat)) 1 n := by
  have e : ∀ i : Int, max 0 (min (if ((cl i n : Nat) : Int) < 0 then ((cl i n : Nat) : Int) + n else ((cl i n : Nat) : Int)) (n : Int)) = max 0 (min (if i < 0 then i + n else i) (n : Int)) := by
    intro i
    have h1 := cl_int i n
    have h2 := cl_le i n
    rw [if_neg (by omega)]
    omega
  unfold Builtin.Str.strSliceIndices
  simp only [show (1 : Int) > 0 by decide, if_true]
  rw [e a, e b]
theorem slc_ss (x : List Nat) (a b : Int) : slc x (some a) (some b) = (x.drop (cl a x.length)).take (cl b x.length - cl a x.length) := by
  have hl : (St x).length = x.length := by simp [Str.length]
  show (StrLaws.sliceText (St x) (some a) (some b)).cps.toList = _
  by_cases h : cl a x.length ≤ cl b x.length
  · have e : StrLaws.sliceText (St x) (some a) (some b) = StrLaws.sliceText (St x) (some (cl a x.length : Nat)) (some (cl b x.length : Nat)) := by
      unfold StrLaws.sliceText
      rw [hl, idx_cl a b x.length]
    rw [e, StrLaws.sliceText_nat (St x) h (by rw [hl]; exact cl_le _ _)]
  · have hb := cl_le b x.length
    have ha := cl_le a x.length
    have e : Builtin.Str.strSliceIndices (some a) (some b) 1 x.length = [] := by
      have h1 := cl_int a x.length
      have h2 := cl_int b x.length
      unfold Builtin.Str.strSliceIndices
      simp only [show (1 : Int) > 0 by decide, if_true]
      rw [← h1, ← h2]
      unfold sliceRange
      simp only [show (1 : Int) > 0 by decide, if_true]
      rw [if_neg (by omega)]
      rfl
    unfold StrLaws.sliceText
    rw [hl, e]
    have : x.length ≠ 0 := by omega
    rw [if_neg (by simp; omega), show cl b x.length - cl a x.length = 0 by omega]
    simp
theorem slc_ns (x : List Nat) (b : Int) : slc x none (some b) = slc x (some 0) (some b) := by
  show (StrLaws.sliceText (St x) none (some b)).cps.toList = (StrLaws.sliceText (St x) (some 0) (some b)).cps.toList
  unfold StrLaws.sliceText
  rw [StrLaws.sliceIdx_none_lo]
theorem slc_sn (x : List Nat) (a : Int) : slc x (some a) none = slc x (some a) (some (x.length : Int)) := by
  show (StrLaws.sliceText (St x) (some a) none).cps.toList = (StrLaws.sliceText (St x) (some a) (some (x.length : Int))).cps.toList
  have hl : (St x).length = x.length := by simp [Str.length]
  unfold StrLaws.sliceText
  rw [StrLaws.sliceIdx_none_hi, hl]
theorem slc_pp {x : List Nat} {a b : Int} (ha : 0 ≤ a) (hb : 0 ≤ b) : slc x (some a) (some b) = (x.drop a.toNat).take (b.toNat - a.toNat) := by
  rw [slc_ss, cl_pos ha, cl_pos hb]
  by_cases h : a.toNat ≤ x.length
  · rw [Nat.min_eq_left h]
    by_cases h2 : b.toNat ≤ x.length
    · rw [Nat.min_eq_left h2]
    · rw [Nat.min_eq_right (by omega), List.take_of_length_le (by rw [List.length_drop]; omega), List.take_of_length_le (by rw [List.length_drop]; omega)]
  · rw [Nat.min_eq_right (show x.length ≤ a.toNat by omega), List.drop_of_length_le (Nat.le_refl _), List.drop_of_length_le (show x.length ≤ a.toNat by omega)]
    simp
theorem slc_to {x : List Nat} {b : Int} (hb : 0 ≤ b) : slc x none (some b) = x.take b.toNat := by
  rw [slc_ns, slc_pp (by omega) hb]; simp
theorem slc_from {x : List Nat} {a : Int} (ha : 0 ≤ a) : slc x (some a) none = x.drop a.toNat := by
  rw [slc_sn, slc_pp ha (by omega)]
  rw [List.take_of_length_le]
  rw [List.length_drop]; omega
theorem slc_neg {x : List Nat} {a b : Int} (ha : 0 ≤ a) (hb : b < 0) (hl : 0 ≤ b + x.length) : slc x (some a) (some b) = (x.drop a.toNat).take ((b + x.length).toNat - a.toNat) := by
  rw [← slc_pp ha hl, slc_ss, slc_ss]
  have : cl b x.length = cl (b + x.length) x.length := by
    unfold cl; rw [if_pos hb, if_neg (by omega)]
  rw [this]

theorem At'.sl {t suf : List Nat} {p : Int} (h : At' t p suf) {a b : Int} (ha : 0 ≤ a) (hb : 0 ≤ b) : slc t (some (p + a)) (some (p + b)) = (suf.drop a.toNat).take (b.toNat - a.toNat) := by
  obtain ⟨h0, h1, h2⟩ := h
  rw [slc_pp (Int.add_nonneg h0 ha) (Int.add_nonneg h0 hb), Int.toNat_add h0 ha, Int.toNat_add h0 hb, ← h2, List.drop_drop, Nat.add_sub_add_left]
theorem At'.sl0 {t suf : List Nat} {p : Int} (h : At' t p suf) {b : Int} (hb : 0 ≤ b) : slc t (some p) (some (p + b)) = suf.take b.toNat := by
  have := h.sl (a := 0) (by omega) hb
  simpa using this
theorem At'.fr {t suf : List Nat} {p : Int} (h : At' t p suf) {a : Int} (ha : 0 ≤ a) : slc t (some (p + a)) none = suf.drop a.toNat := by
  obtain ⟨h0, h1, h2⟩ := h
  rw [slc_from (by omega), ← h2, List.drop_drop]
  congr 1; omega
theorem Ok.hs {c : Cx} (ok : Ok c) {n : Nat} (hn : n < 3) : ∀ ρ : List Addr, c.g0 <+: ρ → ∀ a, ρ[n]? = some a → (a == sysModules) = false := by
  intro ρ hp a ha
  obtain ⟨b, hb, _⟩ := ok.tab "CLOSERS" 2 rfl
  have hl := (List.getElem?_eq_some_iff.mp hb).1
  obtain ⟨t, rfl⟩ := hp
  rw [List.getElem?_append_left (by omega)] at ha
  exact ok.sys a (List.mem_of_getElem? ha)
theorem tw_nil {p : Nat → Bool} : ∀ {l : List Nat}, (∀ x ∈ l, p x = false) → l.takeWhile p = []
  | [], _ => rfl
  | a :: l, h => by rw [List.takeWhile_cons, h a List.mem_cons_self]; rfl
theorem st_contains (cs : List Nat) (x : Nat) : (St cs).cps.contains x = decide (x ∈ cs) := by
  show cs.toArray.contains x = _
  simp
theorem strip_id {x cs : List Nat} (h : ∀ a ∈ x, a ∉ cs) : Txt.stripChars (St x) (St cs) = St x := by
  have e1 : stripLo (St cs).cps.contains true (St x) = 0 := by
    unfold stripLo
    rw [if_pos rfl]
    rw [tw_nil]; rfl
    intro a ha
    rw [st_contains]
    exact decide_eq_false (h a (by simpa using ha))
  have e2 : stripHi (St cs).cps.contains true (St x) 0 = (St x).length := by
    unfold stripHi
    rw [if_pos rfl]
    rw [tw_nil]; rfl
    intro a ha
    rw [st_contains]
    exact decide_eq_false (h a (by simpa using ha))
  unfold Txt.stripChars Txt.stripBy stripSame
  rw [e1, e2]
  simp
theorem strip_br {x : List Nat} (h : ∀ a ∈ x, a ∉ [123, 125]) (hx : x ≠ []) : Txt.stripChars (St (123 :: (x ++ [125]))) (St [123, 125]) = St x := by
  have tw : ∀ l : List Nat, (∀ a ∈ l, a ∉ [123, 125]) → l.takeWhile (St [123, 125]).cps.contains = [] := fun l hl => tw_nil fun a ha => by
    rw [st_contains]; exact decide_eq_false (hl a ha)
  have e1 : stripLo (St [123, 125]).cps.contains true (St (123 :: (x ++ [125]))) = 1 := by
    unfold stripLo
    rw [if_pos rfl]
    show ((123 :: (x ++ [125])).takeWhile _).length = 1
    rw [List.takeWhile_cons, show (St [123, 125]).cps.contains 123 = true by rw [st_contains]; rfl]
    cases x with
    | nil => exact absurd rfl hx
    | cons a r =>
      have := h a List.mem_cons_self
      rw [List.cons_append, if_pos rfl, List.takeWhile_cons, st_contains, decide_eq_false this]
      rfl
  have e2 : stripHi (St [123, 125]).cps.contains true (St (123 :: (x ++ [125]))) 1 = x.length + 1 := by
    unfold stripHi
    rw [if_pos rfl]
    show (St (123 :: (x ++ [125]))).length - (((x ++ [125]).reverse).takeWhile _).length = _
    rw [List.reverse_append, List.reverse_singleton, List.singleton_append, List.takeWhile_cons, show (St [123, 125]).cps.contains 125 = true by rw [st_contains]; rfl, if_pos rfl, tw _ (by simpa using h)]
    simp [Str.length]
  unfold Txt.stripChars Txt.stripBy stripSame PySem.stripped
  rw [e1, e2]
  rw [if_neg (by simp [Str.length])]
  apply Str.ext'
  show (123 :: (x ++ [125])).toArray.extract 1 (x.length + 1) = x.toArray
  simp
theorem last_at {t pre post : List Nat} {s : Nat} (ht : t = pre ++ s :: post) (hs : s ∉ post) : Builtin.Str.lastOccurrence (St t) (St [s]) 0 (St t).length = some pre.length := by
  have sub : ∀ i, StrLaws.At (St t) (St [s]) (St t).length i ↔ t[i]? = some s := by
    intro i
    unfold StrLaws.At Builtin.Str.subAt
    have hl : (St t).length = t.length := by simp [Str.length]
    have hs1 : (St [s]).length = 1 := rfl
    rw [hl, hs1]
    show (i + 1 ≤ t.length ∧ (t.toArray.extract i (i + 1) == [s].toArray) = true) ↔ _
    rw [beq_iff_eq]
    simp only [List.extract_toArray, List.toArray_inj] 
    constructor
    · rintro ⟨h1, h2⟩
      have := congrArg (fun l => l[0]?) h2
      simpa [List.getElem?_take, List.getElem?_drop] using this
    · intro h
      obtain ⟨hi, he⟩ := List.getElem?_eq_some_iff.mp h
      refine ⟨by omega, ?_⟩
      rw [List.extract_eq_take_drop, Nat.add_sub_cancel_left, List.drop_eq_getElem_cons hi, he]; rfl
  have hat : t[pre.length]? = some s := by subst ht; simp
  rcases StrLaws.last_spec (St t) (St [s]) with ⟨_, h⟩ | ⟨i, h1, h2, h3⟩
  · exact absurd ((sub _).mpr hat) (h _)
  · rw [h1]
    have a2 := (sub i).mp h2
    by_cases h : i < pre.length
    · exact absurd ((sub _).mpr hat) (h3 _ h)
    · by_cases e : i = pre.length
      · rw [e]
      · exfalso
        subst ht
        rw [List.getElem?_append_right (by omega)] at a2
        obtain ⟨j, hj⟩ : ∃ j, i - pre.length = j + 1 := ⟨i - pre.length - 1, by omega⟩
        rw [hj, List.getElem?_cons_succ] at a2
        exact hs (List.mem_of_getElem? a2)
theorem dec_dg : ∀ k : Nat, k < 200 → dec (k : Int) ≠ [] ∧ (∀ x ∈ dec (k : Int), 48 ≤ x ∧ x ≤ 57) ∧ (dec (k : Int)).length ≤ 3 := by
  decide +kernel
theorem join_flat (xs : List (List Nat)) : Txt.join (St []) (xs.map St) = St xs.flatten := by
  have go : ∀ (xs : List (List Nat)) (a : Array Nat), ((xs.map St).foldl (fun acc p => acc ++ (St []).cps ++ p.cps) a) = a ++ xs.flatten.toArray := by
    intro xs
    induction xs with
    | nil => intro a; simp
    | cons x xs ih =>
      intro a
      rw [List.map_cons, List.foldl_cons, ih]
      simp
  unfold Txt.join Builtin.Str.glued
  cases xs with
  | nil => rfl
  | cons x xs =>
    apply Str.ext'
    show List.foldl _ ((St x).cps) (xs.map St) = _
    rw [go]
    simp
set_option hygiene false in
set_option compiler.extract_closed false in
local macro_rules | `(tactic| walk_at "q1") => `(tactic| with_reducible first | exact L0 | exact L1 | exact L2 | exact L3 | exact L4 | exact L5 | exact L6 | exact L9 | exact L10 | exact L11 | exact L12 | exact L13 | exact L14 | exact L15 | exact L16 | exact L17 | exact L18 | exact L19 | exact L20 | exact L21 | exact L22 | exact L23 | exact L24 | exact L25 | exact L27 | exact L28 | exact L29 | exact L30 | exact L33 | exact L34 | exact L35 | exact L36 | exact L37 | exact L38 | exact L41 | exact L42 | exact L43 | exact L44 | exact L45 | exact L46 | exact L47 | exact L49 | exact L51 | exact L52 | exact L53 | exact L54 | exact L55 | exact L56 | exact L57 | exact L58 | exact L61 | exact L62 | exact L63 | exact L64 | exact L65 | exact L66 | exact L67 | exact L68 | exact L69 | exact L70 | exact L71 | exact L72 | exact L73 | exact L74 | exact L75)
set_option hygiene false in
set_option compiler.extract_closed false in
local macro_rules | `(tactic| walk_at "q2") => `(tactic| with_reducible first | exact r_closer_of.2 | exact r_escape_at.2 | exact r_is_plain_word_sign.2 | exact r_is_name_start.2 | exact r_variable_name_end.2 | exact r_subscript_end.2 | exact r_digits_only.2 | exact r_one_subscript.2 | exact r_all_subscripts.2 | exact r_base_end.2 | exact r_is_braced_name.2 | exact r_scalar_end.2 | exact r_array_end.2 | exact r_add_part.2 | exact r_take_piece.2 | exact r_parts_of.2 | exact r_show_node.2 | exact r_is_word_name.2 | exact r_begins_with_word.2 | exact r_seems_subscript.2 | exact r_guarded_text.2 | exact r_kept_signs.2 | exact r_raw_piece.2 | exact r_is_open_part.2 | exact r_show_element.2 | exact r_show_part.2 | exact r_show_quoted.2 | exact r_show_text.2 | exact r_show_parts.2 | exact r_quote_sign.2 | exact r_list_interp.2 | exact r_show_pattern.2 | exact r_is_bare_pattern.2 | exact r_is_quotable.2 | exact r_list_match.2 | exact r_quote_listers.2 | exact r_law_move.2 | exact r_law_drawn.2 | exact r_law_parts.2 | exact r_law_listed.2 | exact r_law_node.2 | exact r_law_read.2)
set_option hygiene false in
set_option compiler.extract_closed false in
local macro_rules | `(tactic| walk_at "q3") => `(tactic| first | decide | (simp only [List.length_append, List.length_cons, List.length_nil, sizeLine_eq]; omega))
set_option hygiene false in
set_option compiler.extract_closed false in
local macro_rules | `(tactic| walk_at "q4") => `(tactic| first | with_reducible assumption | (with_unfolding_all first | rfl | assumption))
set_option hygiene false in
set_option compiler.extract_closed false in
local macro_rules | `(tactic| walk_at "qh") => `(tactic| with_unfolding_all rfl)
set_option hygiene false in
set_option compiler.extract_closed false in
local macro_rules | `(tactic| walk_at "q5") => `(tactic| first | ((with_reducible show EV _ _ _ (.Name _ _) _ _ _); (with_reducible first | refine EV_loc (hl := by walk_at "qh") (by walk_at "q4") ?_ | refine EV_cell (hl := by walk_at "qh") (by walk_at "q4") ?_ | refine EV_fn (by assumption) (by walk_at "q2") ?_ | refine EV_ctxtN (by assumption) (by with_unfolding_all rfl) (by walk_at "q1") ?_ | refine EV_tab (by assumption) (by with_unfolding_all rfl) ?_ | refine EV_cint (by assumption) (by with_unfolding_all rfl) ?_)) | ((with_reducible show EV _ _ _ (.Constant (.str _) _ _) _ _ _); (with_reducible first | refine EV_strN (by walk_at "q1") ?_)) | ((with_reducible show EV _ _ _ (.Constant _ _ _) _ _ _); (with_reducible first | refine EV_int ?_ | refine EV_none ?_ | refine EV_bool ?_)) | ((with_reducible show EV _ _ _ (.Subscript _ (.Slice _ _ _ _) _) _ _ _); (with_reducible first | refine EV_sl ?_)) | ((with_reducible show EV _ _ _ (.Subscript _ _ _) _ _ _); (with_reducible first | refine EV_idx ?_)) | ((with_reducible show EV _ _ _ (.Compare _ _ _ _) _ _ _); (with_reducible first | refine EV_cmp ?_ | refine EV_cmp2 ?_)) | ((with_reducible show EV _ _ _ (.BinOp _ _ _ _) _ _ _); (with_reducible first | refine EV_bin ?_)) | ((with_reducible show EV _ _ _ (.IfExp _ _ _ _) _ _ _); (with_reducible first | refine EV_ife ?_)) | ((with_reducible show EV _ _ _ (.Call (.Name _ _) _ _ _) _ _ _); (with_reducible first | refine EV_call (by assumption) (by walk_at "q2") ?_ | refine EV_blt (by assumption) (by decide) boot_l (.inl ⟨_, rfl⟩) ?_ | refine EV_blt (by assumption) (by decide) boot_s (.inr ⟨_, rfl⟩) ?_ | refine EV_blt (by assumption) (by decide) boot_i (.inr ⟨_, rfl⟩) ?_)) | ((with_reducible show EV _ _ _ (.Call (.Attribute _ _ _) _ _ _) _ _ _); (with_reducible first | refine EV_meth (name := ("get" : Str)) (id := "dict.get") ?_ | refine EV_meth (name := ("strip" : Str)) (id := "str.strip") ?_ | refine EV_meth (name := ("append" : Str)) (id := "list.append") ?_ | refine EV_meth (name := ("rindex" : Str)) (id := "str.rindex") ?_ | refine EV_meth (name := ("join" : Str)) (id := "str.join") ?_)) | ((with_reducible show EV _ _ _ (.Call (.Subscript _ _ _) _ _ _) _ _ _); (with_reducible first | refine EV_callv (by assumption) ?_)) | (with_reducible first | refine EV_and ?_ | refine EV_or ?_ | refine EV_op1 ?_ | refine EV_not ?_ | refine EV_neg ?_ | refine EV_tup ?_ | refine EV_list ?_))
set_option hygiene false in
set_option compiler.extract_closed false in
local macro_rules | `(tactic| walk_at "q6") => `(tactic| first | ((with_reducible show E1 _ _ _ (.AugAssign (.Name _ _) _ _ _) _ _ _); (with_reducible first | refine E1_aug (by walk_at "q4") ?_)) | (with_reducible first | refine E1_ret ?_ | refine E1_assign ?_ | refine E1_if ?_ | refine E1_asub ?_ | refine E1_augsub ?_ | refine E1_expr ?_ | refine E1_brk ?_))
set_option hygiene false in
set_option compiler.extract_closed false in
local macro_rules | `(tactic| walk_at "q7") => `(tactic| with_reducible first | refine ET_cmp ?_ | refine ET_cmp2 ?_ | refine ET_and ?_ | refine ET_and_nil ?_ | refine ET_or ?_ | refine ET_or_nil ?_ | refine ET_not ?_ | refine ET_val ?_)
set_option hygiene false in
set_option compiler.extract_closed false in
local macro_rules | `(tactic| walk_at "q8") => `(tactic| with_reducible first | refine AC_le_11 ?_ | refine AC_eq_11 ?_ | refine AC_ne_11 ?_ | refine AC_eq_ss ?_ | refine AC_ne_ss ?_ | refine AC_in1 ?_ | refine AC_notin1 ?_ | refine AC_in_t2 ?_ | refine AC_notin_t2 ?_ | refine AC_in_ss ?_ | refine AC_eq_ii ?_ | refine AC_lt_ii ?_ | refine AC_le_ii ?_ | refine AC_gt_ii ?_ | refine AC_is_none ?_ | refine AC_isnot_none ?_)
set_option hygiene false in
set_option compiler.extract_closed false in
local macro_rules | `(tactic| walk_at "q9") => `(tactic| first | (simp only [decide_eq_true_eq, decide_eq_false_iff_not]; omega) | (simp; done) | (simp; omega) | (simp [*]; done) | (simp [*]; omega))
set_option hygiene false in
set_option compiler.extract_closed false in
local macro_rules | `(tactic| walk_at "qa") => `(tactic| first | refine if_t (by with_reducible assumption) ?_ | refine if_f (by with_reducible assumption) ?_ | refine if_t (by rfl) ?_ | refine if_f (by rfl) ?_ | refine if_t (decide_eq_true (by omega)) ?_ | refine if_f (decide_eq_false (by omega)) ?_ | refine if_t (nd_t (by omega)) ?_ | refine if_f (nd_f (by omega)) ?_ | refine if_t (by walk_at "q9") ?_ | refine if_f (by walk_at "q9") ?_)
set_option hygiene false in
set_option compiler.extract_closed false in
local macro_rules | `(tactic| walk_at "qb") => `(tactic| first | ((with_reducible show AX _ _ (.str _) (_) _); (with_reducible first | refine AX_strN (by assumption) ?_)) | ((with_reducible show AX _ _ (.tup _) (_) _); (with_reducible first | refine AX_tup (by decide) (by decide) (by with_unfolding_all rfl) ?_)) | ((with_reducible show AX _ _ (.obj _) (.str _) _); (with_reducible first | refine AX_dict (by assumption) (by with_unfolding_all rfl) ?_)) | ((with_reducible show AX _ _ (.obj _) (_) _); (with_reducible first | refine AX_listN (by assumption) (by assumption) ?_)))
set_option hygiene false in
set_option compiler.extract_closed false in
local macro_rules | `(tactic| walk_at "qc") => `(tactic| first | with_reducible refine And.intro GMt_strip ?_ | with_reducible refine And.intro (GMt_append (by assumption)) ?_ | with_reducible refine And.intro (rfl : V.none = V.none) ?_ | refine And.intro ?_ (Nat.le_of_ble_eq_true rfl))
set_option hygiene false in
set_option compiler.extract_closed false in
local macro_rules | `(tactic| walk_at "qd") => `(tactic| first | with_reducible refine exb ?_ | with_reducible refine exi ?_ | with_reducible refine exsl (by assumption) ?_)
set_option hygiene false in
set_option compiler.extract_closed false in
local macro_rules | `(tactic| walk_at "qf") => `(tactic| with_reducible first | refine AB_add_ii ?_ | refine AB_sub_ii ?_ | refine AB_add_ss (by walk_at "q3") ?_)
set_option hygiene false in
set_option compiler.extract_closed false in
local macro_rules | `(tactic| walk_at "qg") => `(tactic| first | ((with_reducible show AK _ _ [.str _] _ _); (with_reducible first | refine AK_len_str ?_)) | ((with_reducible show AK _ _ [.obj _] _ _); (with_reducible first | refine AK_len_list (by assumption) (by assumption) ?_)) | ((with_reducible show AK _ _ [_, _] _ _); (with_reducible first | refine AK_strip (by assumption) ?_)))
set_option hygiene false in
set_option compiler.extract_closed false in
local macro_rules | `(tactic| walk_at "qi") => `(tactic| with_reducible first | refine seq_n ?_ | refine seq_r ?_ | refine seq_c ?_ | refine seq_b ?_)
set_option hygiene false in
set_option compiler.extract_closed false in
local macro_rules | `(tactic| walk_at "qj") => `(tactic| with_reducible first | refine lp_n ?_ | refine lp_r ?_ | refine lp_c ?_ | refine lp_b ?_)
set_option hygiene false in
set_option compiler.extract_closed false in
local macro_rules | `(tactic| walk_at "qk") => `(tactic| with_reducible first | refine fin_n ?_ | refine fin_r ?_)
set_option hygiene false in
set_option compiler.extract_closed false in
local macro_rules | `(tactic| walk_at "qe") => `(tactic| first | ((with_reducible show Seq _ _ _ _ _); walk_at "qi") | ((with_reducible show Lp _ _ _ _ _); walk_at "qj") | ((with_reducible show Fin _ _ _ _); walk_at "qk") | ((with_reducible show EV _ _ _ _ _ _ _); walk_at "q5") | ((with_reducible show EX _ _ _ _ _ _ _); (first | refine EX_cons ?_ | refine EX_nil ?_)) | ((with_reducible show E1 _ _ _ _ _ _ _); walk_at "q6") | ((with_reducible show EA _ _ _ _ _ _ _); (with_reducible first | refine EA_nil ?_ | refine EA_cons ?_)) | ((with_reducible show EVs _ _ _ _ _ _ _); (with_reducible first | refine EVs_cons ?_ | refine EVs_nil ?_)) | ((with_reducible show EO _ _ _ _ _ _ _); (with_reducible first | refine EO_none ?_ | refine EO_some ?_)) | ((with_reducible show ET _ _ _ _ _ _ _); walk_at "q7") | ((with_reducible show AB _ _ _ _ _); walk_at "qf") | ((with_reducible show AC _ _ _ _ _ _); walk_at "q8") | ((with_reducible show AK _ _ _ _ _); walk_at "qg") | ((with_reducible show AX _ _ _ _ _); walk_at "qb") | ((with_reducible show And _ _); walk_at "qc") | ((with_reducible show Exists _); walk_at "qd"))
set_option hygiene false in
set_option compiler.extract_closed false in
local macro_rules | `(tactic| walk_at "w") => `(tactic| repeat' (first | ((with_reducible show ite _ _ _); walk_at "qa") | walk_at "qe"))
set_option hygiene false in
set_option compiler.extract_closed false in
local macro_rules | `(tactic| walk_at "x") => `(tactic| repeat' (first | ((with_reducible show ite _ _ _); (first | walk_at "qa" | refine if_s (fun h => ?_) (fun h => ?_))) | walk_at "qe"))
set_option hygiene false in
set_option compiler.extract_closed false in
local macro_rules | `(tactic| walk_at "w1") => `(tactic| (first | ((with_reducible show ite _ _ _); walk_at "qa") | walk_at "qe"))
def pw (n : Nat) : Bool := (decide (97 ≤ n) && decide (n ≤ 122)) || (decide (65 ≤ n) && decide (n ≤ 90)) || (decide (48 ≤ n) && decide (n ≤ 57)) || decide (n = 95)
def clos : List (Str × V) := [("(", .str [41]), ("[", .str [93]), ("{", .str [125]), ("<", .str [62])]
def escs : List (Str × V) := [("n", .str [10]), ("t", .str [9]), ("r", .str [13]), ("f", .str [12]), ("b", .str [8]), ("a", .str [7]), ("e", .str [27])]
def sgs : List (List Nat) := ["\\Q", "\\$", "$", "[1]", "\\", "'", "\"", "E", "{2}", "->[0]", "@b", "/", "\\u", "x", "-", "\\1"].map fun (x : String) => lit (Str.ofString x)
structure Base (σ : List O) : Prop where
  sg : σ[0]? = some (.list true (sgs.map V.str))
  es : σ[1]? = some (.dict true escs)
  cl : σ[2]? = some (.dict true clos)
abbrev abc (n : Nat) : Prop := 97 ≤ n ∧ n ≤ 99
section
variable {c : Cx} {σ : List O}
theorem c_plain (ok : Ok c) (n : Nat) : CA c 2 "is_plain_word_sign" [.str [n]] σ fun x s => x = .bool (pw n) ∧ s = σ := by
  refine CA_of ok r_is_plain_word_sign.2 ?_ ?_
  · intro vs hv pm code doc
    obtain ⟨v0, rfl⟩ := len1 hv
    rfl
  walk_at "x"
  all_goals (refine ⟨?_, rfl⟩; unfold pw; congr 1; simp only [decide_eq_true_eq, decide_eq_false_iff_not] at *; simp; omega)
theorem c_name_start (ok : Ok c) (n : Nat) : CA c 3 "is_name_start" [.str [n]] σ fun x s => x = .bool (pw n && !(decide (48 ≤ n) && decide (n ≤ 57))) ∧ s = σ := by
  refine CA_of ok r_is_name_start.2 ?_ ?_
  · intro vs hv pm code doc
    obtain ⟨v0, rfl⟩ := len1 hv
    rfl
  walk_at "w"
  refine CA.use (c_plain ok n) (by decide) ?_
  walk_at "x"
  all_goals (refine ⟨?_, rfl⟩; congr 1; simp_all)
theorem c_closer (ok : Ok c) (b : Base σ) (op cl : Nat) (h : (op = 91 ∧ cl = 93) ∨ (op = 123 ∧ cl = 125)) : CA c 3 "closer_of" [.str [op]] σ fun x s => x = .str [cl] ∧ s = σ := by
  refine CA_of ok r_closer_of.2 ?_ ?_
  · intro vs hv pm code doc
    obtain ⟨v0, rfl⟩ := len1 hv
    rfl
  walk_at "w"
  refine ⟨GMt_dget b.cl, ?_⟩
  walk_at "w"
  refine AK_dget b.cl (ok.hs (by decide)) (z := .str [cl]) (by rcases h with ⟨rfl, rfl⟩ | ⟨rfl, rfl⟩ <;> rfl) ?_
  walk_at "w"
  exact ⟨rfl, rfl⟩
theorem c_digits (ok : Ok c) (n : Nat) (r : List Nat) (hn : abc n) (ha : ∀ m ∈ n :: r, m < 128) : CA c 3 "digits_only" [.str (n :: r)] σ fun x s => x = .bool false ∧ s = σ := by
  refine CA_of ok r_digits_only.2 ?_ ?_
  · intro vs hv pm code doc
    obtain ⟨v0, rfl⟩ := len1 hv
    rfl
  walk_at "w"
  refine E1_for_str ?_
  walk_at "w"
  refine ⟨_, rfl, ha, fun k l s => k = 0 ∧ s = σ, ⟨rfl, rfl⟩, ?_, ?_⟩
  · rintro k l s hk ⟨rfl, rfl⟩
    show EX _ _ _ _ (upd l _ (.str [n])) _ _
    walk_at "w"
    exact ⟨rfl, rfl⟩
  · rintro l s ⟨h, _⟩
    simp at h
def wchars : List Nat := lit "ABCDEFGHIJKLMNOPQRSTUVWXYZabcdefghijklmnopqrstuvwxyz_0123456789"
theorem abc_word {n : Nat} (hn : abc n) : n ∈ wchars := by
  obtain ⟨h1, h2⟩ := hn
  have : n = 97 ∨ n = 98 ∨ n = 99 := by omega
  rcases this with rfl | rfl | rfl <;> decide
theorem abc_word' {n : Nat} (hn : abc n) : decide (n ∈ [65, 66, 67, 68, 69, 70, 71, 72, 73, 74, 75, 76, 77, 78, 79, 80, 81, 82, 83, 84, 85, 86, 87, 88, 89, 90, 97, 98, 99, 100, 101, 102, 103, 104, 105, 106, 107, 108, 109, 110, 111, 112, 113, 114, 115, 116, 117, 118, 119, 120, 121, 122, 95, 48, 49, 50, 51, 52, 53, 54, 55, 56, 57]) = true := decide_eq_true (abc_word hn)
theorem c_word_name (ok : Ok c) (n : Nat) (hn : abc n) : CA c 2 "is_word_name" [.str [n]] σ fun x s => x = .bool true ∧ s = σ := by
  refine CA_of ok r_is_word_name.2 ?_ ?_
  · intro vs hv pm code doc
    obtain ⟨v0, rfl⟩ := len1 hv
    rfl
  walk_at "w"
  refine E1_for_str ?_
  walk_at "w"
  refine ⟨_, rfl, fun m hm => by rw [List.mem_singleton.mp hm]; exact Nat.lt_of_le_of_lt hn.2 (by decide), fun k l s => s = σ, rfl, ?_, ?_⟩
  · rintro k l s hk rfl
    have : k = 0 := Nat.lt_one_iff.mp hk
    subst this
    show EX _ _ _ _ (upd l _ (.str [n])) _ _
    have hw := abc_word' hn
    have hw2 : (!decide (n ∈ [65, 66, 67, 68, 69, 70, 71, 72, 73, 74, 75, 76, 77, 78, 79, 80, 81, 82, 83, 84, 85, 86, 87, 88, 89, 90, 97, 98, 99, 100, 101, 102, 103, 104, 105, 106, 107, 108, 109, 110, 111, 112, 113, 114, 115, 116, 117, 118, 119, 120, 121, 122, 95, 48, 49, 50, 51, 52, 53, 54, 55, 56, 57])) = false := by rw [hw]; rfl
    walk_at "w"
    exact rfl
  · rintro l s rfl
    walk_at "w"
    exact ⟨rfl, rfl⟩
end
section
variable {c : Cx} {σ : List O}
theorem pw_abc {n : Nat} (h : abc n) : pw n = true := by unfold pw; simp; omega
theorem c_plain_abc (ok : Ok c) {n : Nat} (h : abc n) : CA c 2 "is_plain_word_sign" [.str [n]] σ fun x s => x = .bool true ∧ s = σ := by
  have := c_plain (σ := σ) ok n
  rw [pw_abc h] at this; exact this
theorem c_ns_abc (ok : Ok c) {n : Nat} (h : abc n) : CA c 3 "is_name_start" [.str [n]] σ fun x s => x = .bool true ∧ s = σ := by
  have := c_name_start (σ := σ) ok n
  rw [show (pw n && !(decide (48 ≤ n) && decide (n ≤ 57))) = true by rw [pw_abc h]; simp; omega] at this; exact this
theorem cons_ne {n m : Nat} {q r : List Nat} (h : n ≠ m) : decide (n :: q = m :: r) = false := decide_eq_false (by intro e; injection e with e; exact h e)

theorem c_vne (ok : Ok c) {t r : List Nat} {p : Int} {n : Nat} (hA : At' t p (n :: r)) (hn : abc n) (hr : r = [] ∨ ∃ r', r = 91 :: r') : CA c 5 "variable_name_end" [.str t, .int p] σ fun x s => x = .int (p + 1) ∧ s = σ := by
  refine CA_of ok r_variable_name_end.2 ?_ ?_
  · intro vs hv pm code doc
    obtain ⟨v0, v1, rfl⟩ := len2 hv
    rfl
  have s1 : slc t (some p) (some (p + 2)) = n :: r.take 1 := hA.sl0 (by decide)
  have h1 : decide (n :: r.take 1 = [58, 58]) = false := cons_ne (by omega)
  have s2 : slc t (some p) (some (p + 1)) = [n] := hA.sl0 (by decide)
  have hlen : (t.length : Int) = p + (r.length + 1) := by have := hA.len; simpa using this
  have g0 := hA.get0 (z := n) rfl
  walk_at "w"
  refine CA.use (c_ns_abc ok hn) (by decide) ?_
  walk_at "w"
  refine E1_while (fun m l s => s = σ ∧ l "text" = some (.str t) ∧ ((m = 1 ∧ l "end" = some (.int p)) ∨ (m = 0 ∧ l "end" = some (.int (p + 1))))) 1 ⟨rfl, rfl, .inl ⟨rfl, rfl⟩⟩ ?_
  rintro m l s ⟨rfl, ht, h⟩
  rcases h with ⟨rfl, he⟩ | ⟨rfl, he⟩
  · walk_at "w"
    refine CA.use (c_plain_abc ok hn) (by decide) ?_
    walk_at "w"
    exact ⟨0, by decide, rfl, ht, .inr ⟨rfl, rfl⟩⟩
  · rcases hr with rfl | ⟨r', rfl⟩
    · have hl2 : (t.length : Int) = p + 1 := by simpa using hlen
      walk_at "w"
      exact ⟨rfl, rfl⟩
    · have hl2 : (t.length : Int) = p + (r'.length + 2) := by have := hlen; simp at this; omega
      have hB : At' t (p + 1) (91 :: r') := hA.step (a := 1) (by decide) (by simp)
      have g1 := hB.get0 (z := 91) rfl
      have s3 : slc t (some (p + 1)) (some (p + 1 + 2)) = 91 :: r'.take 1 := hB.sl0 (by decide)
      walk_at "w"
      refine CA.use (c_plain ok 91) (by decide) ?_
      walk_at "w"
      exact ⟨rfl, rfl⟩
end
section
variable {c : Cx} {σ : List O}
theorem c_sub (ok : Ok c) (b : Base σ) {t body rest : List Nat} {p : Int} {op cl : Nat} (h : (op = 91 ∧ cl = 93) ∨ (op = 123 ∧ cl = 125)) (hA : At' t p (op :: (body ++ cl :: rest)))
    (hb : ∀ x ∈ body, x ≠ 92 ∧ x ≠ 39 ∧ x ≠ 34 ∧ x ≠ op ∧ x ≠ cl) (hne : body ≠ []) (hst : Txt.stripChars (St body) (St [32, 9, 10]) = St body) :
    CA c 5 "subscript_end" [.str t, .int p] σ fun x s => x = .int (p + (body.length + 2)) ∧ s = σ := by
  refine CA_of ok r_subscript_end.2 ?_ ?_
  · intro vs hv pm code doc
    obtain ⟨v0, v1, rfl⟩ := len2 hv
    rfl
  have g0 := hA.get0 (z := op) rfl
  have hlen : (t.length : Int) = p + (body.length + rest.length + 2) := by have := hA.len; simp at this; omega
  walk_at "w"
  refine CA.use (c_closer ok b op cl h) (by decide) ?_
  walk_at "w"
  refine E1_while (fun m l s => ∃ k : Nat, m + k = body.length + 1 ∧ s = σ ∧ l "text" = some (.str t) ∧ l "at" = some (.int p) ∧ l "opening" = some (.str [op]) ∧ l "closing" = some (.str [cl]) ∧ l "end" = some (.int (p + k)) ∧ l "depth" = some (.int (if k = 0 then 0 else 1))) (body.length + 1)
    ⟨0, by omega, rfl, rfl, rfl, rfl, rfl, (by show some (V.int p) = _; simp), rfl⟩ ?_
  rintro m l s ⟨k, hk, rfl, ht, ha, ho, hc, he, hd⟩
  have htest : decide (p + (k : Int) < t.length) = true := decide_eq_true (by omega)
  have nxt : ∀ l' : Loc, k ≤ body.length → l' "text" = some (.str t) → l' "at" = some (.int p) → l' "opening" = some (.str [op]) → l' "closing" = some (.str [cl]) → l' "end" = some (.int (p + k + 1)) → l' "depth" = some (.int 1) →
      ∃ m', m' < m ∧ ∃ k : Nat, m' + k = body.length + 1 ∧ s = s ∧ l' "text" = some (.str t) ∧ l' "at" = some (.int p) ∧ l' "opening" = some (.str [op]) ∧ l' "closing" = some (.str [cl]) ∧ l' "end" = some (.int (p + k)) ∧ l' "depth" = some (.int (if k = 0 then 0 else 1)) := by
    intro l' hk' e1 e2 e3 e4 e5 e6
    exact ⟨m - 1, by omega, k + 1, by omega, rfl, e1, e2, e3, e4, by rw [e5, show p + (k : Int) + 1 = p + ((k + 1 : Nat) : Int) by omega], by rw [e6]; simp⟩
  have hop : op ≠ 92 ∧ op ≠ 39 ∧ op ≠ 34 := by omega
  have hcl : cl ≠ 92 ∧ cl ≠ 39 ∧ cl ≠ 34 ∧ cl ≠ op := by omega
  by_cases hk0 : k = 0
  · subst hk0
    have g1 := hA.get (a := ((0 : Nat) : Int)) (by decide) (z := op) rfl
    simp only [if_true] at hd
    walk_at "w"
    exact nxt _ (by omega) ht ha ho hc rfl rfl
  · rw [if_neg hk0] at hd
    by_cases hkb : k ≤ body.length
    · obtain ⟨x, hx⟩ : ∃ x, body[k - 1]? = some x := ⟨body[k - 1], by simp⟩
      have g1 := hA.get (a := (k : Int)) (by omega) (z := x) (by
        rw [Int.toNat_natCast]
        obtain ⟨j, rfl⟩ : ∃ j, k = j + 1 := ⟨k - 1, by omega⟩
        simp only [List.getElem?_cons_succ]
        rw [List.getElem?_append_left (by omega)]; simpa using hx)
      obtain ⟨n1, n2, n3, n4, n5⟩ := hb x (List.mem_of_getElem? hx)
      walk_at "w"
      exact nxt _ hkb ht ha ho hc rfl hd
    · have hkk : k = body.length + 1 := by omega
      subst hkk
      have g1 := hA.get (a := ((body.length + 1 : Nat) : Int)) (by omega) (z := cl) (by
        rw [Int.toNat_natCast]
        simp)
      have s1 : slc t (some (p + 1)) (some (p + ((body.length + 1 : Nat) : Int))) = body := by
        rw [hA.sl (by decide) (by omega)]
        simp
      have hne' : (!decide (body = [])) = true := by simp [hne]
      walk_at "w"
      refine ⟨?_, rfl⟩
      congr 1; push_cast; omega
end
theorem CA.useI {c : Cx} {σ : List O} {d d0 : Nat} {f : Str} {xs : List V} {i : Int} (j : Int) {σ' : List O} {R : V → List O → Prop} (h : CA c d0 f xs σ fun x s => x = .int i ∧ s = σ') (e : i = j) (k : d0 ≤ d) (r : R (.int j) σ') : CA c d f xs σ R := by
  subst e; exact CA.use h k r
def Quiet (r : List Nat) : Prop := (r.take 1 ≠ [91] ∧ r.take 1 ≠ [123]) ∧ (r.take 2 = [45, 62] → (r.drop 2).take 1 ≠ [91] ∧ (r.drop 2).take 1 ≠ [123])
/-- figures -/
def Dg (ds : List Nat) : Prop := ds ≠ [] ∧ ∀ x ∈ ds, 48 ≤ x ∧ x ≤ 57
section
variable {c : Cx} {σ : List O}
theorem c_one_q (ok : Ok c) {t suf : List Nat} {p : Int} {P : Bool} (hA : At' t p suf) (h1 : suf.take 1 ≠ [91]) (h2 : suf.take 1 ≠ [123]) : CA c 6 "one_subscript" [.str t, .int p, .bool P] σ fun x s => x = .int p ∧ s = σ := by
  refine CA_of ok r_one_subscript.2 ?_ ?_
  · intro vs hv pm code doc
    obtain ⟨v0, v1, v2, rfl⟩ := len3 hv
    rfl
  have s1 : slc t (some p) (some (p + 1)) = suf.take 1 := hA.sl0 (by decide)
  have e1 : (!decide (suf.take 1 = [91])) = true := by simp [h1]
  have e2 : (!decide (suf.take 1 = [123])) = true := by simp [h2]
  walk_at "w"
  exact ⟨rfl, rfl⟩
theorem c_one_s (ok : Ok c) (b : Base σ) {t ds rest : List Nat} {p : Int} (hA : At' t p (91 :: (ds ++ 93 :: rest))) (hd : Dg ds) (hst : Txt.stripChars (St ds) (St [32, 9, 10]) = St ds) :
    CA c 6 "one_subscript" [.str t, .int p, .bool false] σ fun x s => x = .int (p + (ds.length + 2)) ∧ s = σ := by
  refine CA_of ok r_one_subscript.2 ?_ ?_
  · intro vs hv pm code doc
    obtain ⟨v0, v1, v2, rfl⟩ := len3 hv
    rfl
  have s1 : slc t (some p) (some (p + 1)) = [91] := hA.sl0 (by decide)
  have hp := hA.1
  walk_at "w"
  refine CA.use (c_sub ok b (.inl ⟨rfl, rfl⟩) hA (fun x hx => by have := hd.2 x hx; omega) hd.1 hst) (by decide) ?_
  walk_at "w"
  exact ⟨rfl, rfl⟩
theorem c_all_q (ok : Ok c) {t suf : List Nat} {p : Int} {P : Bool} (hA : At' t p suf) (hq : Quiet suf) : CA c 7 "all_subscripts" [.str t, .int p, .bool P] σ fun x s => x = .int p ∧ s = σ := by
  refine CA_of ok r_all_subscripts.2 ?_ ?_
  · intro vs hv pm code doc
    obtain ⟨v0, v1, v2, rfl⟩ := len3 hv
    rfl
  have s1 : slc t (some p) (some (p + 2)) = suf.take 2 := hA.sl0 (by decide)
  walk_at "w"
  refine E1_while (fun m l s => s = σ ∧ l "text" = some (.str t) ∧ l "is_pattern" = some (.bool P) ∧ l "end" = some (.int p)) 0 ⟨rfl, rfl, rfl, rfl⟩ ?_
  rintro m l s ⟨rfl, ht, hp, he⟩
  by_cases h : suf.take 2 = [45, 62]
  · have e1 : decide (suf.take 2 = [45, 62]) = true := decide_eq_true h
    have hB : At' t (p + 2) (suf.drop 2) := hA.step (a := 2) (by decide) (by
      have := congrArg List.length h
      simp at this; simp; omega)
    have q := hq.2 h
    cases P
    · walk_at "w"
      refine CA.use (c_one_q ok hB q.1 q.2) (by decide) ?_
      walk_at "w"
      exact ⟨rfl, rfl⟩
    · walk_at "w"
      refine CA.use (c_one_q ok hB q.1 q.2) (by decide) ?_
      walk_at "w"
      exact ⟨rfl, rfl⟩
  · have e1 : decide (suf.take 2 = [45, 62]) = false := decide_eq_false h
    cases P
    · walk_at "w"
      refine CA.use (c_one_q ok hA hq.1.1 hq.1.2) (by decide) ?_
      walk_at "w"
      exact ⟨rfl, rfl⟩
    · walk_at "w"
      refine CA.use (c_one_q ok hA hq.1.1 hq.1.2) (by decide) ?_
      walk_at "w"
      exact ⟨rfl, rfl⟩
theorem c_all_s (ok : Ok c) (b : Base σ) {t ds rest : List Nat} {p : Int} (hA : At' t p (91 :: (ds ++ 93 :: rest))) (hd : Dg ds) (hst : Txt.stripChars (St ds) (St [32, 9, 10]) = St ds) (hq : Quiet rest) :
    CA c 7 "all_subscripts" [.str t, .int p, .bool false] σ fun x s => x = .int (p + (ds.length + 2)) ∧ s = σ := by
  refine CA_of ok r_all_subscripts.2 ?_ ?_
  · intro vs hv pm code doc
    obtain ⟨v0, v1, v2, rfl⟩ := len3 hv
    rfl
  have s1 : slc t (some p) (some (p + 2)) = 91 :: (ds ++ 93 :: rest).take 1 := hA.sl0 (by decide)
  have e1 : decide (91 :: (ds ++ 93 :: rest).take 1 = [45, 62]) = false := cons_ne (by decide)
  have hB : At' t (p + (ds.length + 2)) rest := by
    have := hA.step (a := ds.length + 2) (by omega) (by simp; omega)
    rw [show (((ds.length : Int) + 2).toNat) = (ds.length + 1) + 1 by omega, List.drop_succ_cons] at this
    simpa using this
  have s2 : slc t (some (p + (ds.length + 2))) (some (p + (ds.length + 2) + 2)) = rest.take 2 := hB.sl0 (by decide)
  walk_at "w"
  refine E1_while (fun m l s => s = σ ∧ l "text" = some (.str t) ∧ l "is_pattern" = some (.bool false) ∧ ((m = 1 ∧ l "end" = some (.int p)) ∨ (m = 0 ∧ l "end" = some (.int (p + (ds.length + 2)))))) 1 ⟨rfl, rfl, rfl, .inl ⟨rfl, rfl⟩⟩ ?_
  rintro m l s ⟨rfl, ht, hp, h⟩
  rcases h with ⟨rfl, he⟩ | ⟨rfl, he⟩
  · walk_at "w"
    refine CA.use (c_one_s ok b hA hd hst) (by decide) ?_
    walk_at "w"
    exact ⟨0, by decide, rfl, ht, hp, .inr ⟨rfl, rfl⟩⟩
  · by_cases h : rest.take 2 = [45, 62]
    · have e2 : decide (rest.take 2 = [45, 62]) = true := decide_eq_true h
      have hC : At' t (p + (ds.length + 2) + 2) (rest.drop 2) := hB.step (a := 2) (by decide) (by
        have := congrArg List.length h
        simp at this; simp; omega)
      have q := hq.2 h
      walk_at "w"
      refine CA.use (c_one_q ok hC q.1 q.2) (by decide) ?_
      walk_at "w"
      exact ⟨rfl, rfl⟩
    · have e2 : decide (rest.take 2 = [45, 62]) = false := decide_eq_false h
      walk_at "w"
      refine CA.use (c_one_q ok hB hq.1.1 hq.1.2) (by decide) ?_
      walk_at "w"
      exact ⟨rfl, rfl⟩
theorem c_base_b (ok : Ok c) (b : Base σ) {t body rest : List Nat} {p : Int} (hA : At' t p (123 :: (body ++ 125 :: rest))) (hb : ∀ x ∈ body, x ≠ 92 ∧ x ≠ 39 ∧ x ≠ 34 ∧ x ≠ 123 ∧ x ≠ 125) (hne : body ≠ []) (hst : Txt.stripChars (St body) (St [32, 9, 10]) = St body) :
    CA c 7 "base_end" [.str t, .int p] σ fun x s => x = .int (p + (body.length + 2)) ∧ s = σ := by
  refine CA_of ok r_base_end.2 ?_ ?_
  · intro vs hv pm code doc
    obtain ⟨v0, v1, rfl⟩ := len2 hv
    rfl
  have s1 : slc t (some p) (some (p + 1)) = [123] := hA.sl0 (by decide)
  have hp := hA.1
  walk_at "w"
  refine E1_while (fun m l s => s = σ ∧ l "text" = some (.str t) ∧ l "at" = some (.int p) ∧ l "end" = some (.int p)) 0 ⟨rfl, rfl, rfl, rfl⟩ ?_
  rintro m l s ⟨rfl, ht, ha, he⟩
  walk_at "w"
  refine CA.use (c_sub ok b (.inr ⟨rfl, rfl⟩) hA hb hne hst) (by decide) ?_
  walk_at "w"
  exact ⟨rfl, rfl⟩
theorem c_base_n (ok : Ok c) {t r : List Nat} {p : Int} {n : Nat} (hA : At' t p (n :: r)) (hn : abc n) (hr : r = [] ∨ ∃ r', r = 91 :: r') : CA c 7 "base_end" [.str t, .int p] σ fun x s => x = .int (p + 1) ∧ s = σ := by
  refine CA_of ok r_base_end.2 ?_ ?_
  · intro vs hv pm code doc
    obtain ⟨v0, v1, rfl⟩ := len2 hv
    rfl
  have s1 : slc t (some p) (some (p + 1)) = [n] := hA.sl0 (by decide)
  walk_at "w"
  refine E1_while (fun m l s => s = σ ∧ l "text" = some (.str t) ∧ l "at" = some (.int p) ∧ l "end" = some (.int p)) 0 ⟨rfl, rfl, rfl, rfl⟩ ?_
  rintro m l s ⟨rfl, ht, ha, he⟩
  walk_at "w"
  refine CA.use (c_vne ok hA hn hr) (by decide) ?_
  walk_at "w"
  exact ⟨rfl, rfl⟩
end
section
variable {c : Cx} {σ : List O}
theorem c_br_t (ok : Ok c) {t rest : List Nat} {p e : Int} {n : Nat} (hA : At' t p (123 :: n :: 125 :: rest)) (hn : abc n) (he : e = p + 3) : CA c 7 "is_braced_name" [.str t, .int p, .int e] σ fun x s => x = .bool true ∧ s = σ := by
  refine CA_of ok r_is_braced_name.2 ?_ ?_
  · intro vs hv pm code doc
    obtain ⟨v0, v1, v2, rfl⟩ := len3 hv
    rfl
  have s1 : slc t (some (p + 1)) (some (e - 1)) = [n] := by
    rw [he, show p + 3 - 1 = p + 2 by omega]; exact hA.sl (by decide) (by decide)
  have st : Txt.stripChars (St [n]) (St [32, 9, 10]) = St [n] := strip_id (by simp; omega)
  have g0 := hA.get0 (z := 123) rfl
  have h1 : decide ([n] = []) = false := by simp
  walk_at "w"
  refine CA.use (c_digits ok n [] hn (by simp; omega)) (by decide) ?_
  walk_at "w"
  refine CA.use (c_vne ok (At'.zero _) hn (.inl rfl)) (by decide) ?_
  walk_at "w"
  exact ⟨rfl, rfl⟩
theorem c_br_f (ok : Ok c) {t ds rest : List Nat} {p e : Int} {n : Nat} (hA : At' t p (123 :: n :: 91 :: (ds ++ 93 :: 125 :: rest))) (hn : abc n) (hd : Dg ds) (he : e = p + (ds.length + 5)) : CA c 7 "is_braced_name" [.str t, .int p, .int e] σ fun x s => x = .bool false ∧ s = σ := by
  refine CA_of ok r_is_braced_name.2 ?_ ?_
  · intro vs hv pm code doc
    obtain ⟨v0, v1, v2, rfl⟩ := len3 hv
    rfl
  have s1 : slc t (some (p + 1)) (some (e - 1)) = n :: 91 :: (ds ++ [93]) := by
    rw [he, show p + (ds.length + 5) - 1 = p + (ds.length + 4 : Int) by omega, hA.sl (by decide) (by omega)]
    rw [show ((ds.length : Int) + 4).toNat - Int.toNat 1 = (ds.length + 1) + 2 by omega]
    show (n :: 91 :: (ds ++ 93 :: 125 :: rest)).take _ = _
    rw [List.take_succ_cons, List.take_succ_cons, List.take_append, List.take_of_length_le (by omega)]
    simp
  have hall : ∀ a ∈ n :: 91 :: (ds ++ [93]), a < 128 ∧ a ∉ [32, 9, 10] := by
    intro a ha
    simp only [List.mem_cons, List.mem_append, List.mem_singleton, List.not_mem_nil, or_false] at ha ⊢
    rcases ha with rfl | rfl | ha | rfl
    · omega
    · omega
    · have := hd.2 a ha; omega
    · omega
  have st : Txt.stripChars (St (n :: 91 :: (ds ++ [93]))) (St [32, 9, 10]) = St (n :: 91 :: (ds ++ [93])) := strip_id fun a ha => (hall a ha).2
  have g0 := hA.get0 (z := 123) rfl
  have h1 : decide (n :: 91 :: (ds ++ [93]) = []) = false := by simp
  have h2 : decide (0 + 1 = (((n :: 91 :: (ds ++ [93])).length : Nat) : Int)) = false := decide_eq_false (by simp; omega)
  walk_at "w"
  refine CA.use (c_digits ok n _ hn (fun a ha => (hall a ha).1)) (by decide) ?_
  walk_at "w"
  refine CA.use (c_vne ok (At'.zero _) hn (.inr ⟨_, rfl⟩)) (by decide) ?_
  walk_at "w"
  exact ⟨by rw [h2], rfl⟩
theorem c_br_n (ok : Ok c) {t r : List Nat} {p e : Int} {n : Nat} (hA : At' t p (n :: r)) (hn : abc n) (he : e = p + 1) : CA c 7 "is_braced_name" [.str t, .int p, .int e] σ fun x s => x = .bool false ∧ s = σ := by
  refine CA_of ok r_is_braced_name.2 ?_ ?_
  · intro vs hv pm code doc
    obtain ⟨v0, v1, v2, rfl⟩ := len3 hv
    rfl
  have hp := hA.1
  have s1 : slc t (some (p + 1)) (some (e - 1)) = [] := by
    rw [he, slc_pp (by omega) (by omega), show (p + 1 - 1).toNat - (p + 1).toNat = 0 by omega]; simp
  have st : Txt.stripChars (St []) (St [32, 9, 10]) = St [] := strip_id (by simp)
  have g0 := hA.get0 (z := n) rfl
  walk_at "w"
  exact ⟨rfl, rfl⟩

theorem c_sc_v (ok : Ok c) (b : Base σ) {t rest : List Nat} {p : Int} {n : Nat} {P : Bool} (hA : At' t p (36 :: 123 :: n :: 125 :: rest)) (hn : abc n) (hq : Quiet rest) : CA c 9 "scalar_end" [.str t, .int p, .bool P] σ fun x s => x = .int (p + 4) ∧ s = σ := by
  refine CA_of ok r_scalar_end.2 ?_ ?_
  · intro vs hv pm code doc
    obtain ⟨v0, v1, v2, rfl⟩ := len3 hv
    rfl
  have hp := hA.1
  have s1 : slc t (some (p + 1)) (some (p + 2)) = [123] := hA.sl (by decide) (by decide)
  have hB : At' t (p + 1) (123 :: n :: 125 :: rest) := hA.step (a := 1) (by decide) (by simp)
  have hC : At' t (p + 4) rest := hA.step (a := 4) (by decide) (by simp)
  have s2 : slc t (some (p + 4)) (some (p + 4 + 2)) = rest.take 2 := hC.sl0 (by decide)
  have st : Txt.stripChars (St [n]) (St [32, 9, 10]) = St [n] := strip_id (by simp; omega)
  have cb := c_base_b ok b (body := [n]) hB (by simp; omega) (by simp) st
  have ca := c_all_q (σ := σ) (P := P) ok hC hq
  by_cases h : rest.take 2 = [45, 62]
  · have h2 : (!decide (rest.take 2 = [45, 62])) = false := by simp [h]
    cases P
    · walk_at "w"
      refine CA.useI (p + 4) cb (by simp; omega) (by decide) ?_
      walk_at "w"
      refine CA.use (c_br_t ok hB hn (by omega)) (by decide) ?_
      walk_at "w"
      refine CA.use ca (by decide) ?_
      walk_at "w"
      exact ⟨rfl, rfl⟩
    · walk_at "w"
      refine CA.useI (p + 4) cb (by simp; omega) (by decide) ?_
      walk_at "w"
      refine CA.use (c_br_t ok hB hn (by omega)) (by decide) ?_
      walk_at "w"
      refine CA.use ca (by decide) ?_
      walk_at "w"
      exact ⟨rfl, rfl⟩
  · have h2 : (!decide (rest.take 2 = [45, 62])) = true := by simp [h]
    cases P
    · walk_at "w"
      refine CA.useI (p + 4) cb (by simp; omega) (by decide) ?_
      walk_at "w"
      refine CA.use (c_br_t ok hB hn (by omega)) (by decide) ?_
      walk_at "w"
      exact ⟨rfl, rfl⟩
    · walk_at "w"
      refine CA.useI (p + 4) cb (by simp; omega) (by decide) ?_
      walk_at "w"
      refine CA.use (c_br_t ok hB hn (by omega)) (by decide) ?_
      walk_at "w"
      exact ⟨rfl, rfl⟩
theorem c_sc_e (ok : Ok c) (b : Base σ) {t ds rest : List Nat} {p : Int} {n : Nat} (hA : At' t p (36 :: n :: 91 :: (ds ++ 93 :: rest))) (hn : abc n) (hd : Dg ds) (hq : Quiet rest) : CA c 9 "scalar_end" [.str t, .int p, .bool false] σ fun x s => x = .int (p + (ds.length + 4)) ∧ s = σ := by
  refine CA_of ok r_scalar_end.2 ?_ ?_
  · intro vs hv pm code doc
    obtain ⟨v0, v1, v2, rfl⟩ := len3 hv
    rfl
  have hp := hA.1
  have s1 : slc t (some (p + 1)) (some (p + 2)) = [n] := hA.sl (by decide) (by decide)
  have hB : At' t (p + 1) (n :: 91 :: (ds ++ 93 :: rest)) := hA.step (a := 1) (by decide) (by simp)
  have hC : At' t (p + 2) (91 :: (ds ++ 93 :: rest)) := hA.step (a := 2) (by decide) (by simp)
  have st : Txt.stripChars (St ds) (St [32, 9, 10]) = St ds := strip_id (fun a ha => by have := hd.2 a ha; simp; omega)
  walk_at "w"
  refine CA.useI (p + 2) (c_base_n ok hB hn (.inr ⟨_, rfl⟩)) (by omega) (by decide) ?_
  walk_at "w"
  refine CA.use (c_br_n ok hB hn (by omega)) (by decide) ?_
  walk_at "w"
  refine CA.useI (p + (ds.length + 4)) (c_all_s ok b hC hd st hq) (by omega) (by decide) ?_
  walk_at "w"
  exact ⟨rfl, rfl⟩
theorem c_sc_b (ok : Ok c) (b : Base σ) {t ds rest : List Nat} {p : Int} {n : Nat} {P : Bool} (hA : At' t p (36 :: 123 :: n :: 91 :: (ds ++ 93 :: 125 :: rest))) (hn : abc n) (hd : Dg ds) (hq : Quiet rest) : CA c 9 "scalar_end" [.str t, .int p, .bool P] σ fun x s => x = .int (p + (ds.length + 6)) ∧ s = σ := by
  refine CA_of ok r_scalar_end.2 ?_ ?_
  · intro vs hv pm code doc
    obtain ⟨v0, v1, v2, rfl⟩ := len3 hv
    rfl
  have hp := hA.1
  have s1 : slc t (some (p + 1)) (some (p + 2)) = [123] := hA.sl (by decide) (by decide)
  have hB : At' t (p + 1) (123 :: n :: 91 :: (ds ++ 93 :: 125 :: rest)) := hA.step (a := 1) (by decide) (by simp)
  have hC : At' t (p + (ds.length + 6)) rest := by
    have := hA.step (a := ds.length + 6) (by omega) (by simp; omega)
    rw [show (((ds.length : Int) + 6).toNat) = ((ds.length + 1) + 1) + 1 + 1 + 1 + 1 by omega, List.drop_succ_cons, List.drop_succ_cons, List.drop_succ_cons, List.drop_succ_cons] at this
    simpa using this
  have hall : ∀ a ∈ n :: 91 :: (ds ++ [93]), a ∉ [32, 9, 10] ∧ a ≠ 92 ∧ a ≠ 39 ∧ a ≠ 34 ∧ a ≠ 123 ∧ a ≠ 125 := by
    intro a ha
    simp only [List.mem_cons, List.mem_append, List.mem_singleton, List.not_mem_nil, or_false] at ha ⊢
    rcases ha with rfl | rfl | ha | rfl
    · omega
    · omega
    · have := hd.2 a ha; omega
    · omega
  have st : Txt.stripChars (St (n :: 91 :: (ds ++ [93]))) (St [32, 9, 10]) = St (n :: 91 :: (ds ++ [93])) := strip_id fun a ha => (hall a ha).1
  have cb := c_base_b ok b (body := n :: 91 :: (ds ++ [93])) (rest := rest) (by simpa using hB) (fun a ha => (hall a ha).2) (by simp) st
  cases P
  · walk_at "w"
    refine CA.useI (p + (ds.length + 6)) cb (by simp; omega) (by decide) ?_
    walk_at "w"
    refine CA.use (c_br_f ok hB hn hd (by omega)) (by decide) ?_
    walk_at "w"
    refine CA.use (c_all_q ok hC hq) (by decide) ?_
    walk_at "w"
    exact ⟨rfl, rfl⟩
  · walk_at "w"
    refine CA.useI (p + (ds.length + 6)) cb (by simp; omega) (by decide) ?_
    walk_at "w"
    refine CA.use (c_br_f ok hB hn hd (by omega)) (by decide) ?_
    walk_at "w"
    refine CA.use (c_all_q ok hC hq) (by decide) ?_
    walk_at "w"
    exact ⟨rfl, rfl⟩
theorem c_ar (ok : Ok c) (b : Base σ) {t rest : List Nat} {p : Int} {n : Nat} {P : Bool} (hA : At' t p (64 :: 123 :: n :: 125 :: rest)) (hn : abc n) : CA c 9 "array_end" [.str t, .int p, .bool P] σ fun x s => x = .int (p + 4) ∧ s = σ := by
  refine CA_of ok r_array_end.2 ?_ ?_
  · intro vs hv pm code doc
    obtain ⟨v0, v1, v2, rfl⟩ := len3 hv
    rfl
  have hp := hA.1
  have hB : At' t (p + 1) (123 :: n :: 125 :: rest) := hA.step (a := 1) (by decide) (by simp)
  have st : Txt.stripChars (St [n]) (St [32, 9, 10]) = St [n] := strip_id (by simp; omega)
  walk_at "w"
  refine CA.useI (p + 4) (c_base_b ok b (body := [n]) hB (by simp; omega) (by simp) st) (by simp; omega) (by decide) ?_
  walk_at "w"
  refine CA.use (c_br_t ok hB hn (by omega)) (by decide) ?_
  walk_at "w"
  exact ⟨rfl, rfl⟩
theorem c_esc (ok : Ok c) (b : Base σ) {t r : List Nat} {p : Int} {n : Nat} (hA : At' t p (92 :: n :: r)) (hn : n = 92 ∨ n = 36 ∨ n = 64 ∨ n = 91 ∨ n = 123 ∨ n = 45) : CA c 5 "escape_at" [.str t, .int p] σ fun x s => x = .tup [.str [n], .int (p + 2)] ∧ s = σ := by
  refine CA_of ok r_escape_at.2 ?_ ?_
  · intro vs hv pm code doc
    obtain ⟨v0, v1, rfl⟩ := len2 hv
    rfl
  have s1 : slc t (some (p + 1)) (some (p + 2)) = [n] := hA.sl (by decide) (by decide)
  have e1 : (escs.lookup (St [n])).isSome = false := by rcases hn with rfl | rfl | rfl | rfl | rfl | rfl <;> rfl
  have e2 : decide (n ∈ [48, 49, 50, 51, 52, 53, 54, 55]) = false := by rcases hn with rfl | rfl | rfl | rfl | rfl | rfl <;> rfl
  walk_at "w"
  refine AC_in_dict b.es (ok.hs (by decide)) ?_
  walk_at "w"
  exact ⟨rfl, rfl⟩
end
inductive Vr where
  | nam (s n : Nat) | elm (n k : Nat)
def Vr.ok : Vr → Prop
  | .nam s n => (s = 36 ∨ s = 64) ∧ abc n
  | .elm n k => abc n ∧ k < 200
def Vr.tx (P : Bool) : Vr → List Nat
  | .nam s n => [s, 123, n, 125]
  | .elm n k => if P then 36 :: 123 :: n :: 91 :: (dec k ++ [93, 125]) else 36 :: n :: 91 :: (dec k ++ [93])
inductive Tk where
  | ch (n : Nat) | es (n : Nat) | va (v : Vr)
def Tk.tx (P : Bool) : Tk → List Nat
  | .ch n => [n] | .es n => [92, n] | .va v => v.tx P
def Tk.ok (P : Bool) : Tk → Prop
  | .ch n => n ≠ 92 ∧ n ≠ 36 ∧ n ≠ 64
  | .es n => P = false ∧ (n = 92 ∨ n = 36 ∨ n = 64 ∨ n = 91 ∨ n = 123 ∨ n = 45)
  | .va v => v.ok
def flat' (P : Bool) (l : List Tk) : List Nat := l.flatMap (Tk.tx P)
def TkOk (P : Bool) : List Tk → Prop
  | [] => True
  | t :: r => t.ok P ∧ ((∃ v, t = .va v) → Quiet (flat' P r)) ∧ TkOk P r
inductive Pc where
  | t (x : List Nat) | e (x : List Nat)
def Pc.v : Pc → V
  | .t x => .tup [.str [116, 101, 120, 116], .str x]
  | .e x => .tup [.str [101, 120, 112, 114], .str x]
def addT (acc : List Pc) (x : List Nat) : List Pc :=
  match acc.getLast? with
  | some (.t y) => acc.dropLast ++ [.t (y ++ x)]
  | _ => acc ++ [.t x]
def addTk (P : Bool) (acc : List Pc) : Tk → List Pc
  | .ch n => addT acc [n] | .es n => addT acc [n] | .va v => acc ++ [.e (v.tx P)]
theorem addT_t (i : List Pc) (y x : List Nat) : addT (i ++ [.t y]) x = i ++ [.t (y ++ x)] := by simp [addT]
theorem addT_e (i : List Pc) (y x : List Nat) : addT (i ++ [.e y]) x = i ++ [.e y] ++ [.t x] := by simp [addT]
theorem addT_n (x : List Nat) : addT [] x = [.t x] := rfl
theorem Vr.dg {n k : Nat} (h : Vr.ok (.elm n k)) : Dg (dec k) ∧ (dec k).length ≤ 3 := by
  have := dec_dg k h.2
  exact ⟨⟨this.1, this.2.1⟩, this.2.2⟩

theorem AK_appendN {c : Cx} {σ : List O} {n : Nat} {xs zs : List V} {y : V} {R : V → List O → Prop} (hn : σ[n]? = some (.list false xs)) (hz : xs.length ≤ 1000000) (e : xs ++ [y] = zs) (h : R .none (σ.set n (.list false zs))) : AK c (.builtin "list.append") [.obj n, y] σ R :=
  AK_append hn hz (by rw [e]; exact h)
theorem AS_listN {c : Cx} {σ : List O} {n : Nat} {xs zs : List V} {i : Int} {y z : V} {K : List O → Prop} (hn : σ[n]? = some (.list false xs)) (hc : 0 ≤ i ∧ i < 1000000 ∧ xs[i.toNat]? = some z) (hz : xs.length ≤ 1000000) (e : xs.set i.toNat y = zs) (h : K (σ.set n (.list false zs))) : AS c σ (.obj n) (.int i) y K :=
  AS_list hn hc.1 (by have := (List.getElem?_eq_some_iff.mp hc.2.2).1; omega) hz (by rw [e]; exact h)
theorem insub_nil (y : List Nat) : insub [] y = true := by
  unfold insub
  refine (StrLaws.found_iff (St y) (St [])).mpr ⟨0, by simp [Str.length], ?_⟩
  unfold Builtin.Str.subAt
  simp [Str.length]
structure Stk (σ : List O) (S E Q : Nat) (acc : List Pc) : Prop where
  b : Base σ
  s : σ[S]? = some (.list false [.obj E])
  e : σ[E]? = some (.list false [.str [], .obj Q])
  q : σ[Q]? = some (.list false (acc.map Pc.v))
  ne : Q ≠ S ∧ Q ≠ E ∧ 3 ≤ Q
theorem Stk.set {σ : List O} {S E Q : Nat} {acc acc' : List Pc} (h : Stk σ S E Q acc) : Stk (σ.set Q (.list false (acc'.map Pc.v))) S E Q acc' := by
  obtain ⟨b, s, e, q, n1, n2, n3⟩ := h
  have hl := (List.getElem?_eq_some_iff.mp q).1
  exact ⟨⟨by rw [List.getElem?_set_ne (by omega)]; exact b.sg, by rw [List.getElem?_set_ne (by omega)]; exact b.es, by rw [List.getElem?_set_ne (by omega)]; exact b.cl⟩,
    by rw [List.getElem?_set_ne n1]; exact s, by rw [List.getElem?_set_ne n2]; exact e, by rw [List.getElem?_set_self hl], n1, n2, n3⟩

section
variable {c : Cx} {σ : List O}
theorem c_add_t (ok : Ok c) {S E Q : Nat} {acc : List Pc} (h : Stk σ S E Q acc) (hl : acc.length ≤ 1000) (x : List Nat) (hx : x.length ≤ 1000) (hy : ∀ y, .t y ∈ acc → y.length ≤ 1000) :
    CA c 4 "add_part" [.obj S, .tup [.str [116, 101, 120, 116], .str x]] σ fun z s => z = .none ∧ s = σ.set Q (.list false ((addT acc x).map Pc.v)) := by
  refine CA_of ok r_add_part.2 ?_ ?_
  · intro vs hv pm code doc
    obtain ⟨v0, v1, rfl⟩ := len2 hv
    rfl
  have hs := h.s
  have he := h.e
  have hq := h.q
  have h' := h.set (acc' := addT acc x)
  have hs' := h'.s
  have he' := h'.e
  have hz : ([V.obj E] : List V).length ≤ 1000000 := by simp
  have hz2 : (acc.map Pc.v).length ≤ 1000000 := by simp; omega
  have hin : insub [] [117, 108] = true := insub_nil _
  have ix : (0 : Int) ≤ (([V.obj E] : List V).length : Nat) - 1 ∧ ((([V.obj E] : List V).length : Nat) - 1 : Int) < 1000000 ∧ ([V.obj E] : List V)[((([V.obj E] : List V).length : Nat) - 1 : Int).toNat]? = some (.obj E) := ⟨by simp, by simp, rfl⟩
  have ix1 : (0 : Int) ≤ 1 ∧ (1 : Int) < 1000000 ∧ ([V.str [], V.obj Q] : List V)[(1 : Int).toNat]? = some (.obj Q) := ⟨by decide, by decide, rfl⟩
  have ix0 : (0 : Int) ≤ 0 ∧ (0 : Int) < 1000000 ∧ ([V.str [], V.obj Q] : List V)[(0 : Int).toNat]? = some (.str []) := ⟨by decide, by decide, rfl⟩
  rcases List.eq_nil_or_concat acc with rfl | ⟨i, last, rfl⟩
  · walk_at "w"
    refine AK_appendN hq (by simp) (zs := (addT [] x).map Pc.v) rfl ?_
    walk_at "w"
    rfl
  · simp only [List.concat_eq_append] at *
    have hlast : ∀ z : Pc, (0 : Int) ≤ (((i ++ [z]).map Pc.v).length : Nat) - 1 ∧ ((((i ++ [z]).map Pc.v).length : Nat) - 1 : Int) < 1000000 ∧ ((i ++ [z]).map Pc.v)[((((i ++ [z]).map Pc.v).length : Nat) - 1 : Int).toNat]? = some z.v := fun z => by
      have e : ((((i ++ [z]).map Pc.v).length : Nat) - 1 : Int) = (i.length : Int) := by simp
      have hl' : i.length + 1 ≤ 1000 := by simpa using hl
      rw [e]
      exact ⟨by omega, by omega, by simp⟩
    have hgt : ∀ z : Pc, decide ((((i ++ [z]).map Pc.v).length : Int) > 0) = true := fun z => decide_eq_true (by simp)
    cases last with
    | t y =>
      have hl1 := hlast (.t y)
      have hg1 := hgt (.t y)
      have hy' := hy y (by simp)
      simp only [show Pc.v (.t y) = V.tup [.str [116, 101, 120, 116], .str y] from rfl] at hl1
      walk_at "w"
      refine AS_listN hq hl1 hz2 (zs := (addT (i ++ [.t y]) x).map Pc.v) (by
        have e : ((((i ++ [Pc.t y]).map Pc.v).length : Nat) - 1 : Int) = (i.length : Int) := by simp
        rw [addT_t, e]; simp [Pc.v]) ?_
      walk_at "w"
      rfl
    | e y =>
      have hl1 := hlast (.e y)
      have hg1 := hgt (.e y)
      simp only [show Pc.v (.e y) = V.tup [.str [101, 120, 112, 114], .str y] from rfl] at hl1
      walk_at "w"
      refine AK_appendN hq hz2 (zs := (addT (i ++ [.e y]) x).map Pc.v) (by rw [addT_e]; simp [Pc.v]) ?_
      walk_at "w"
      rfl
end
section
variable {c : Cx} {σ : List O}
theorem c_add_e (ok : Ok c) {S E Q : Nat} {acc : List Pc} (h : Stk σ S E Q acc) (hl : acc.length ≤ 1000) (x : List Nat) :
    CA c 4 "add_part" [.obj S, .tup [.str [101, 120, 112, 114], .str x]] σ fun z s => z = .none ∧ s = σ.set Q (.list false ((acc ++ [Pc.e x]).map Pc.v)) := by
  refine CA_of ok r_add_part.2 ?_ ?_
  · intro vs hv pm code doc
    obtain ⟨v0, v1, rfl⟩ := len2 hv
    rfl
  have hs := h.s
  have he := h.e
  have hq := h.q
  have hz : ([V.obj E] : List V).length ≤ 1000000 := by simp
  have hz2 : (acc.map Pc.v).length ≤ 1000000 := by simp; omega
  have ix : (0 : Int) ≤ (([V.obj E] : List V).length : Nat) - 1 ∧ ((([V.obj E] : List V).length : Nat) - 1 : Int) < 1000000 ∧ ([V.obj E] : List V)[((([V.obj E] : List V).length : Nat) - 1 : Int).toNat]? = some (.obj E) := ⟨by simp, by simp, rfl⟩
  have ix1 : (0 : Int) ≤ 1 ∧ (1 : Int) < 1000000 ∧ ([V.str [], V.obj Q] : List V)[(1 : Int).toNat]? = some (.obj Q) := ⟨by decide, by decide, rfl⟩
  walk_at "w"
  refine AK_appendN hq hz2 (zs := (acc ++ [Pc.e x]).map Pc.v) (by simp [Pc.v]) ?_
  walk_at "w"
  rfl
theorem c_take (ok : Ok c) {S E Q : Nat} {acc : List Pc} (h : Stk σ S E Q acc) (hl : acc.length ≤ 1000) (hy : ∀ y, .t y ∈ acc → y.length ≤ 1000) {P : Bool} {t rest : List Nat} {p : Int} {k : Tk} (hk : k.ok P) (hA : At' t p (k.tx P ++ rest)) (hq : (∃ v, k = .va v) → Quiet rest) :
    CA c 11 "take_piece" [.obj S, .str t, .int p, .bool P] σ fun z s => z = .int (p + (k.tx P).length) ∧ s = σ.set Q (.list false ((addTk P acc k).map Pc.v)) := by
  refine CA_of ok r_take_piece.2 ?_ ?_
  · intro vs hv pm code doc
    obtain ⟨v0, v1, v2, v3, rfl⟩ := len4 hv
    rfl
  have hp := hA.1
  cases k with
  | ch n =>
    obtain ⟨n1, n2, n3⟩ := hk
    have g0 := hA.get0 (z := n) rfl
    walk_at "w"
    refine CA.use (c_add_t ok h hl [n] (by simp) hy) (by decide) ?_
    walk_at "w"
    exact ⟨rfl, rfl⟩
  | es n =>
    obtain ⟨rfl, hn⟩ := hk
    have g0 := hA.get0 (z := 92) rfl
    walk_at "w"
    refine E1_unp (ns := ["piece", "behind"]) (by rfl) ?_
    walk_at "w"
    refine CA.use (c_esc ok h.b hA hn) (by decide) ?_
    refine ⟨_, rfl, rfl, ?_⟩
    walk_at "w"
    refine CA.use (c_add_t ok h hl [n] (by simp) hy) (by decide) ?_
    walk_at "w"
    exact ⟨rfl, rfl⟩
  | va v =>
    have q := hq ⟨v, rfl⟩
    cases v with
    | nam s n =>
      obtain ⟨rfl | rfl, hn⟩ := hk
      · have g0 := hA.get0 (z := 36) rfl
        have s1 : slc t (some p) (some (p + 4)) = [36, 123, n, 125] := hA.sl0 (by decide)
        walk_at "w"
        refine CA.use (c_sc_v ok h.b hA hn q) (by decide) ?_
        walk_at "w"
        refine CA.use (c_add_e ok h hl _) (by decide) ?_
        walk_at "w"
        exact ⟨rfl, rfl⟩
      · have g0 := hA.get0 (z := 64) rfl
        have s1 : slc t (some p) (some (p + 4)) = [64, 123, n, 125] := hA.sl0 (by decide)
        walk_at "w"
        refine CA.use (c_ar ok h.b hA hn) (by decide) ?_
        walk_at "w"
        refine CA.use (c_add_e ok h hl _) (by decide) ?_
        walk_at "w"
        exact ⟨rfl, rfl⟩
    | elm n j =>
      have hn := hk.1
      have hd := (Vr.dg hk).1
      cases P with
      | false =>
        have e : Tk.tx false (.va (.elm n j)) ++ rest = 36 :: n :: 91 :: (dec j ++ 93 :: rest) := by simp [Tk.tx, Vr.tx]
        have el : (((Tk.tx false (.va (.elm n j))).length : Nat) : Int) = (dec j).length + 4 := by simp [Tk.tx, Vr.tx]; omega
        rw [e] at hA
        have g0 := hA.get0 (z := 36) rfl
        have s1 : slc t (some p) (some (p + ((dec j).length + 4))) = Vr.tx false (.elm n j) := by
          rw [hA.sl0 (by omega), show (((dec j).length : Int) + 4).toNat = ((dec j).length + 1) + 1 + 1 + 1 by omega]
          simp [Vr.tx, List.take_append, List.take_of_length_le]
        rw [el]
        walk_at "w"
        refine CA.use (c_sc_e ok h.b hA hn hd q) (by decide) ?_
        walk_at "w"
        refine CA.use (c_add_e ok h hl _) (by decide) ?_
        walk_at "w"
        exact ⟨rfl, rfl⟩
      | true =>
        have e : Tk.tx true (.va (.elm n j)) ++ rest = 36 :: 123 :: n :: 91 :: (dec j ++ 93 :: 125 :: rest) := by simp [Tk.tx, Vr.tx]
        have el : (((Tk.tx true (.va (.elm n j))).length : Nat) : Int) = (dec j).length + 6 := by simp [Tk.tx, Vr.tx]; omega
        rw [e] at hA
        have g0 := hA.get0 (z := 36) rfl
        have s1 : slc t (some p) (some (p + ((dec j).length + 6))) = Vr.tx true (.elm n j) := by
          rw [hA.sl0 (by omega), show (((dec j).length : Int) + 6).toNat = ((dec j).length + 2) + 1 + 1 + 1 + 1 by omega]
          simp [Vr.tx, List.take_append, List.take_of_length_le]
        rw [el]
        walk_at "w"
        refine CA.use (c_sc_b ok h.b hA hn hd q) (by decide) ?_
        walk_at "w"
        refine CA.use (c_add_e ok h hl _) (by decide) ?_
        walk_at "w"
        exact ⟨rfl, rfl⟩
end
theorem addT_len (acc : List Pc) (x : List Nat) : (addT acc x).length ≤ acc.length + 1 := by
  rcases List.eq_nil_or_concat acc with rfl | ⟨i, last, rfl⟩
  · simp [addT]
  · simp only [List.concat_eq_append]
    cases last with
    | t y => rw [addT_t]; simp
    | e y => rw [addT_e]; simp
theorem addT_mem {acc : List Pc} {n : Nat} {N : Nat} (h : ∀ y, Pc.t y ∈ acc → y.length ≤ N) : ∀ y, Pc.t y ∈ addT acc [n] → y.length ≤ N + 1 := by
  rcases List.eq_nil_or_concat acc with rfl | ⟨i, last, rfl⟩
  · intro y hy; simp [addT] at hy; subst hy; simp
  · simp only [List.concat_eq_append] at *
    cases last with
    | t z =>
      rw [addT_t]
      intro y hy
      rcases List.mem_append.mp hy with hy | hy
      · have := h y (by simp [hy]); omega
      · simp at hy; subst hy
        have := h z (by simp); simp; omega
    | e z =>
      rw [addT_e]
      intro y hy
      rcases List.mem_append.mp hy with hy | hy
      · have := h y hy; omega
      · simp at hy; subst hy; simp
theorem fold_le (P : Bool) : ∀ (l : List Tk) (acc : List Pc) (N : Nat), acc.length ≤ N → (∀ y, Pc.t y ∈ acc → y.length ≤ N) → (l.foldl (addTk P) acc).length ≤ N + l.length ∧ ∀ y, Pc.t y ∈ l.foldl (addTk P) acc → y.length ≤ N + l.length
  | [], acc, N, h1, h2 => by simpa using ⟨h1, h2⟩
  | k :: l, acc, N, h1, h2 => by
    have a : (addTk P acc k).length ≤ N + 1 ∧ ∀ y, Pc.t y ∈ addTk P acc k → y.length ≤ N + 1 := by
      cases k with
      | ch n => exact ⟨by have := addT_len acc [n]; show (addT acc [n]).length ≤ _; omega, addT_mem h2⟩
      | es n => exact ⟨by have := addT_len acc [n]; show (addT acc [n]).length ≤ _; omega, addT_mem h2⟩
      | va v => exact ⟨by show (acc ++ [_]).length ≤ _; simp; omega, fun y hy => by
          rcases List.mem_append.mp hy with hy | hy
          · have := h2 y hy; omega
          · simp at hy⟩
    have := fold_le P l (addTk P acc k) (N + 1) a.1 a.2
    simp only [List.foldl_cons, List.length_cons]
    exact ⟨by omega, fun y hy => by have := this.2 y hy; omega⟩
theorem Tk.tx_ne (P : Bool) (k : Tk) : 0 < (k.tx P).length := by
  cases k with
  | ch n => simp [Tk.tx]
  | es n => simp [Tk.tx]
  | va v => cases v <;> cases P <;> simp [Tk.tx, Vr.tx]

def stOf (σ : List O) (acc : List Pc) : List O := σ ++ [.list false (acc.map Pc.v), .list false [.str [], .obj σ.length], .list false [.obj (σ.length + 1)]]
theorem stOf_set (σ : List O) (acc acc' : List Pc) : (stOf σ acc).set σ.length (.list false (acc'.map Pc.v)) = stOf σ acc' := by
  unfold stOf
  rw [List.set_append_right _ _ (Nat.le_refl _)]
  simp
theorem Base.app {σ : List O} (b : Base σ) (t : List O) : Base (σ ++ t) := by
  have h : ∀ {n : Nat} {o : O}, σ[n]? = some o → (σ ++ t)[n]? = some o := fun e => by
    rw [List.getElem?_append_left (List.getElem?_eq_some_iff.mp e).1]; exact e
  exact ⟨h b.sg, h b.es, h b.cl⟩
theorem Base.len {σ : List O} (b : Base σ) : 3 ≤ σ.length := (List.getElem?_eq_some_iff.mp b.cl).1
theorem stOf_stk {σ : List O} (b : Base σ) (acc : List Pc) : Stk (stOf σ acc) (σ.length + 2) (σ.length + 1) σ.length acc := by
  refine ⟨b.app _, ?_, ?_, ?_, by omega, by omega, b.len⟩ <;> unfold stOf <;> rw [List.getElem?_append_right (by omega)] <;> simp
section
variable {c : Cx} {σ : List O}
theorem c_parts (ok : Ok c) (b : Base σ) {P : Bool} {all : List Tk} (hok : TkOk P all) (hn : all.length ≤ 900) :
    CA c 13 "parts_of" [.str (flat' P all), .bool P] σ fun z s => z = .obj σ.length ∧ s = stOf σ (all.foldl (addTk P) []) := by
  refine CA_of ok r_parts_of.2 ?_ ?_
  · intro vs hv pm code doc
    obtain ⟨v0, v1, rfl⟩ := len2 hv
    rfl
  generalize ht : flat' P all = t
  walk_at "w"
  refine E1_while (fun m l s => ∃ done toks p, done ++ toks = all ∧ m = toks.length ∧ TkOk P toks ∧ l "stack" = some (.obj (σ.length + 2)) ∧ l "text" = some (.str t) ∧ l "is_pattern" = some (.bool P) ∧ l "at" = some (.int p) ∧ At' t p (flat' P toks) ∧ s = stOf σ (done.foldl (addTk P) [])) all.length
    ⟨[], all, 0, rfl, rfl, hok, (by show some (V.obj _) = _; simp), rfl, rfl, rfl, (by rw [ht]; exact At'.zero t), by simp [stOf]⟩ ?_
  rintro m l s ⟨done, toks, p, hall, rfl, hk, hs, htx, hp, ha, hA, rfl⟩
  have hlen := hA.len
  have S := stOf_stk b (done.foldl (addTk P) [])
  have fl := fold_le P done [] 0 (by simp) (by simp)
  have dl : done.length + toks.length = all.length := by rw [← hall]; simp
  cases toks with
  | nil =>
    have hl2 : (t.length : Int) = p := by simpa [flat'] using hlen
    have s1 := S.s
    have hz : ([V.obj (σ.length + 1)] : List V).length ≤ 1000000 := by simp
    walk_at "w"
    refine E1_while (fun m l s' => l "stack" = some (.obj (σ.length + 2)) ∧ s' = stOf σ (done.foldl (addTk P) [])) 0 ⟨hs, rfl⟩ ?_
    rintro m l' s' ⟨hs', rfl⟩
    have s2 := S.e
    have ix0 : (0 : Int) ≤ 0 ∧ (0 : Int) < 1000000 ∧ ([V.obj (σ.length + 1)] : List V)[(0 : Int).toNat]? = some (.obj (σ.length + 1)) := ⟨by decide, by decide, rfl⟩
    have ix1 : (0 : Int) ≤ 1 ∧ (1 : Int) < 1000000 ∧ ([V.str [], V.obj σ.length] : List V)[(1 : Int).toNat]? = some (.obj σ.length) := ⟨by decide, by decide, rfl⟩
    walk_at "w"
    refine ⟨rfl, ?_⟩
    rw [← hall]; simp
  | cons k r =>
    have ef : flat' P (k :: r) = k.tx P ++ flat' P r := by simp [flat']
    rw [ef] at hA hlen
    have hpos := Tk.tx_ne P k
    have htest : decide (p < (t.length : Int)) = true := decide_eq_true (by rw [hlen]; simp; omega)
    have hB : At' t (p + ((k.tx P).length : Nat)) (flat' P r) := by
      have := hA.step (a := ((k.tx P).length : Nat)) (by omega) (by simp)
      rw [Int.toNat_natCast, List.drop_left] at this
      exact this
    have dl' : done.length + (r.length + 1) = all.length := by simpa using dl
    have take := c_take ok S (by omega) (fun y hy => by have := fl.2 y hy; omega) hk.1 hA hk.2.1
    have fin : ∀ l' : Loc, l' "stack" = some (.obj (σ.length + 2)) → l' "text" = some (.str t) → l' "is_pattern" = some (.bool P) → l' "at" = some (.int (p + ((k.tx P).length : Nat))) → ∃ m', m' < (k :: r).length ∧ ∃ done' toks' p', done' ++ toks' = all ∧ m' = toks'.length ∧ TkOk P toks' ∧ l' "stack" = some (.obj (σ.length + 2)) ∧ l' "text" = some (.str t) ∧ l' "is_pattern" = some (.bool P) ∧ l' "at" = some (.int p') ∧ At' t p' (flat' P toks') ∧ (stOf σ (done.foldl (addTk P) [])).set σ.length (.list false ((addTk P (done.foldl (addTk P) []) k).map Pc.v)) = stOf σ (done'.foldl (addTk P) []) :=
      fun l' e1 e2 e3 e4 => ⟨r.length, by simp, done ++ [k], r, _, by rw [← hall]; simp, rfl, hk.2.2, e1, e2, e3, e4, hB, by rw [stOf_set]; simp⟩
    have s1 : slc t (some (p + 1)) (some (p + 2)) = ((k.tx P ++ flat' P r).drop 1).take 1 := hA.sl (by decide) (by decide)
    cases k with
    | ch n =>
      obtain ⟨n1, n2, n3⟩ := hk.1
      have g0 := hA.get0 (z := n) rfl
      walk_at "w"
      refine CA.use take (by decide) ?_
      walk_at "w"
      exact fin _ hs htx hp rfl
    | es n =>
      obtain ⟨rfl, hn⟩ := hk.1
      have g0 := hA.get0 (z := 92) rfl
      have s2 : slc t (some (p + 1)) (some (p + 2)) = [n] := s1
      clear s1
      have e1 : (!decide ([n] = [])) = true := by simp
      have e2 : decide (n ∈ [85, 76, 70, 81, 117, 108, 69]) = false := by rcases hn with rfl | rfl | rfl | rfl | rfl | rfl <;> rfl
      walk_at "w"
      refine CA.use take (by decide) ?_
      walk_at "w"
      exact fin _ hs htx hp rfl
    | va v =>
      obtain ⟨z, hz, g0⟩ : ∃ z, z ≠ 92 ∧ 0 ≤ p ∧ t[p.toNat]? = some z := by
        cases v with
        | nam s n =>
          obtain ⟨rfl | rfl, _⟩ := hk.1
          · exact ⟨36, by decide, hA.get0 (z := 36) rfl⟩
          · exact ⟨64, by decide, hA.get0 (z := 64) rfl⟩
        | elm n j =>
          cases P
          · exact ⟨36, by decide, hA.get0 (z := 36) rfl⟩
          · exact ⟨36, by decide, hA.get0 (z := 36) rfl⟩
      walk_at "w"
      refine CA.use take (by decide) ?_
      walk_at "w"
      exact fin _ hs htx hp rfl
end
def Vr.nd : Vr → V
  | .nam s n => .tup [.str [110, 97, 109, 101], .str [s], .str [n]]
  | .elm n k => .tup [.str [101, 108, 101, 109], .tup [.str [110, 97, 109, 101], .str [64], .str [n]], .tup [.str [110, 117, 109], .int k]]
inductive Pt where
  | txt (x : List Nat) | va (v : Vr)
def Pt.nd : Pt → V
  | .txt x => .tup [.str [115, 116, 114], .str x]
  | .va v => v.nd
def Pt.isV : Pt → Bool
  | .va _ => true | _ => false
def lst : List (Str × V) := [("interp", .fn "list_interp"), ("match", .fn "list_match"), ("subst", .fn "list_subst"), ("trans", .fn "list_trans"), ("num", .fn "_law_listed"), ("name", .fn "_law_listed")]
def seems (t : List Nat) : Bool := (decide (t.take 1 = [91]) || decide (t.take 1 = [123])) || ((decide (t.take 3 = [45, 62, 91]) || decide (t.take 3 = [45, 62, 123])) || (decide (t = [45]) || decide (t = [45, 62])))
def guard' (l : List Nat) : List Nat := l.flatMap fun x => if x ∈ [92, 36, 64] then [92, x] else [x]
theorem guard_len (l : List Nat) : (guard' l).length ≤ 2 * l.length := by
  induction l with
  | nil => simp [guard']
  | cons a l ih =>
    unfold guard' at ih ⊢
    rw [List.flatMap_cons, List.length_append, List.length_cons]
    have : (if a ∈ [92, 36, 64] then [92, a] else [a] : List Nat).length ≤ 2 := by split <;> simp
    omega
section
variable {c : Cx} {σ : List O}
theorem c_listed_num (ok : Ok c) (x : V) {k : Nat} (hk : k < 200) : CA c 4 "_law_listed" [x, .tup [.str [110, 117, 109], .int k]] σ fun z s => z = .tup [.str (dec k), .int 22] ∧ s = σ := by
  refine CA_of ok r_law_listed.2 ?_ ?_
  · intro vs hv pm code doc
    obtain ⟨v0, v1, rfl⟩ := len2 hv
    rfl
  have hd := (dec_dg k hk).2.2
  walk_at "w"
  refine AK_str (by
    have : ((k : Int).natAbs) = k := by simp
    rw [this]
    by_cases h : k = 0
    · subst h; decide
    · have := (Nat.log2_lt h (k := 1920)).mpr (Nat.lt_of_lt_of_le hk (Nat.le_trans (show 200 ≤ 2 ^ 8 by decide) (Nat.pow_le_pow_right (by decide) (by decide))))
      exact this) (by rw [sizeLine_eq]; omega) ?_
  walk_at "w"
  exact ⟨rfl, rfl⟩
theorem c_listed_name (ok : Ok c) (x : V) {a b : Nat} : CA c 4 "_law_listed" [x, .tup [.str [110, 97, 109, 101], .str [a], .str [b]]] σ fun z s => z = .tup [.str [a, b], .int 22] ∧ s = σ := by
  refine CA_of ok r_law_listed.2 ?_ ?_
  · intro vs hv pm code doc
    obtain ⟨v0, v1, rfl⟩ := len2 hv
    rfl
  walk_at "w"
  exact ⟨rfl, rfl⟩
theorem c_show_node (ok : Ok c) {Ls : Nat} (hL : σ[Ls]? = some (.dict false lst)) {key tx : List Nat} {f : Str} {rec : DefRec} {rest : List V} {least : Int} (hf : ftab f = some rec) (hk : lst.lookup (St key) = some (.fn f)) (hl : least ≤ 22) {d : Nat}
    (h : CA c (d + 2) f [.obj Ls, .tup (.str key :: rest)] σ fun z s => z = .tup [.str tx, .int 22] ∧ s = σ) : CA c (d + 3) "show_node" [.obj Ls, .tup (.str key :: rest), .int least] σ fun z s => z = .str tx ∧ s = σ := by
  refine CA_of ok r_show_node.2 ?_ ?_
  · intro vs hv pm code doc
    obtain ⟨v0, v1, v2, rfl⟩ := len3 hv
    rfl
  have h22 : decide ((22 : Int) < least) = false := decide_eq_false (by omega)
  walk_at "w"
  refine E1_unp (ns := ["text", "level"]) (by rfl) ?_
  walk_at "w"
  refine AX_dict hL hk ?_
  refine ⟨f, rec, rfl, hf, ?_⟩
  walk_at "w"
  refine CA.use h (by omega) ?_
  refine ⟨_, rfl, rfl, ?_⟩
  walk_at "w"
  exact ⟨rfl, rfl⟩
theorem c_seems (ok : Ok c) (t : List Nat) : CA c 3 "seems_subscript" [.str t] σ fun z s => z = .bool (seems t) ∧ s = σ := by
  refine CA_of ok r_seems_subscript.2 ?_ ?_
  · intro vs hv pm code doc
    obtain ⟨v0, rfl⟩ := len1 hv
    rfl
  have s1 : slc t none (some 1) = t.take 1 := slc_to (by decide)
  have s2 : slc t none (some 3) = t.take 3 := slc_to (by decide)
  walk_at "x"
  all_goals (refine ⟨?_, rfl⟩; unfold seems; congr 1; simp_all)
theorem c_guard (ok : Ok c) (t : List Nat) (B : Bool) (ha : ∀ x ∈ t, x < 128) (hl : t.length ≤ 1000) : CA c 5 "guarded_text" [.str t, .bool B] σ fun z s => z = .str (if B && seems t then 92 :: guard' t else guard' t) ∧ s = σ := by
  refine CA_of ok r_guarded_text.2 ?_ ?_
  · intro vs hv pm code doc
    obtain ⟨v0, v1, rfl⟩ := len2 hv
    rfl
  have gl := guard_len t
  walk_at "w"
  refine E1_for_str ?_
  walk_at "w"
  refine ⟨_, rfl, ha, fun k l s => l "text" = some (.str t) ∧ l "is_behind" = some (.bool B) ∧ l "out" = some (.str (guard' (t.take k))) ∧ s = σ, ⟨rfl, rfl, rfl, rfl⟩, ?_, ?_⟩
  · rintro k l s hk ⟨h1, h2, h3, rfl⟩
    have e : guard' (t.take (k + 1)) = guard' (t.take k) ++ (if t[k] ∈ [92, 36, 64] then [92, t[k]] else [t[k]]) := by
      unfold guard'
      rw [List.take_succ_eq_append_getElem hk, List.flatMap_append]
      simp
    have gk := guard_len (t.take k)
    rw [List.length_take] at gk
    by_cases hm : t[k] ∈ [92, 36, 64]
    · have h4 : decide (t[k] ∈ [92, 36, 64]) = true := decide_eq_true hm
      walk_at "w"
      refine ⟨h1, h2, ?_, rfl⟩
      show some (V.str (guard' (t.take k) ++ [92] ++ [t[k]])) = _
      rw [e, if_pos hm]; simp
    · have h4 : decide (t[k] ∈ [92, 36, 64]) = false := decide_eq_false hm
      walk_at "w"
      refine ⟨h1, h2, ?_, rfl⟩
      show some (V.str (guard' (t.take k) ++ [t[k]])) = _
      rw [e, if_neg hm]
  · rintro l s ⟨h1, h2, h3, rfl⟩
    rw [List.take_length] at h3
    cases B with
    | false =>
      walk_at "w"
      exact ⟨rfl, rfl⟩
    | true =>
      cases hs : seems t with
      | false =>
        walk_at "w"
        refine CA.use (c_seems ok t) (by decide) ?_
        walk_at "w"
        exact ⟨rfl, rfl⟩
      | true =>
        walk_at "w"
        refine CA.use (c_seems ok t) (by decide) ?_
        walk_at "w"
        exact ⟨rfl, rfl⟩
end
section
variable {c : Cx} {σ : List O}
theorem lk_num : lst.lookup (St [110, 117, 109]) = some (.fn "_law_listed") := rfl
theorem lk_name : lst.lookup (St [110, 97, 109, 101]) = some (.fn "_law_listed") := rfl
theorem lk_interp : lst.lookup (St [105, 110, 116, 101, 114, 112]) = some (.fn "list_interp") := rfl
theorem c_element (ok : Ok c) {Ls : Nat} (hL : σ[Ls]? = some (.dict false lst)) {n k : Nat} (hn : abc n) (hk : k < 200) : CA c 8 "show_element" [.obj Ls, (Vr.elm n k).nd] σ fun z s => z = .str (36 :: n :: 91 :: (dec k ++ [93])) ∧ s = σ := by
  simp only [Vr.nd]
  refine CA_of ok r_show_element.2 ?_ ?_
  · intro vs hv pm code doc
    obtain ⟨v0, v1, rfl⟩ := len2 hv
    rfl
  have hd := (dec_dg k hk).2.2
  walk_at "w"
  refine CA.use (c_show_node ok hL (tx := dec k) r_law_listed.2 lk_num (by decide) (c_listed_num ok _ hk)) (by decide) ?_
  walk_at "w"
  refine CA.use (c_word_name ok n hn) (by decide) ?_
  walk_at "w"
  exact ⟨by simp, rfl⟩
theorem c_begins (ok : Ok c) {n : Nat} (hn : abc n) (r : List Nat) : CA c 3 "begins_with_word" [.str (36 :: n :: 91 :: r)] σ fun z s => z = .bool true ∧ s = σ := by
  refine CA_of ok r_begins_with_word.2 ?_ ?_
  · intro vs hv pm code doc
    obtain ⟨v0, rfl⟩ := len1 hv
    rfl
  generalize ht : 36 :: n :: 91 :: r = t
  have hA := At'.zero t
  have hA' : At' t 0 (36 :: n :: 91 :: r) := by rw [ht]; exact hA
  have hlen := hA'.len
  simp at hlen
  have g1 : 0 ≤ (1 : Int) ∧ t[(1 : Int).toNat]? = some n := by rw [← ht]; exact ⟨by decide, rfl⟩
  have g2 : 0 ≤ (1 + 1 : Int) ∧ t[(1 + 1 : Int).toNat]? = some 91 := by rw [← ht]; exact ⟨by decide, rfl⟩
  have hw1 := abc_word' hn
  have s1 : slc t (some 1) (some (1 + 1)) = [n] := by rw [← ht, slc_pp (by decide) (by decide)]; rfl
  have e1 : (!decide ([n] = [115, 117, 98])) = true := by simp
  walk_at "w"
  refine E1_while (fun m l s => s = σ ∧ l "text" = some (.str t) ∧ ((m = 1 ∧ l "end" = some (.int 1)) ∨ (m = 0 ∧ l "end" = some (.int (1 + 1))))) 1 ⟨rfl, rfl, .inl ⟨rfl, rfl⟩⟩ ?_
  rintro m l s ⟨rfl, h1, h⟩
  rcases h with ⟨rfl, he⟩ | ⟨rfl, he⟩
  · walk_at "w"
    exact ⟨0, by decide, rfl, h1, .inr ⟨rfl, rfl⟩⟩
  · walk_at "w"
    exact ⟨by rw [e1], rfl⟩
theorem c_part (ok : Ok c) {Ls : Nat} (hL : σ[Ls]? = some (.dict false lst)) {v : Vr} (hv : v.ok) (P : Bool) : CA c 10 "show_part" [.obj Ls, v.nd, .bool P] σ fun z s => z = .str (v.tx P) ∧ s = σ := by
  cases v with
  | nam s n =>
    simp only [Vr.nd]
    refine CA_of ok r_show_part.2 ?_ ?_
    · intro vs hv pm code doc
      obtain ⟨v0, v1, v2, rfl⟩ := len3 hv
      rfl
    walk_at "w"
    refine CA.use (c_word_name ok n hv.2) (by decide) ?_
    walk_at "w"
    exact ⟨rfl, rfl⟩
  | elm n k =>
    have hn := hv.1
    have hd := (dec_dg k hv.2).2.2
    refine CA_of ok r_show_part.2 ?_ ?_
    · intro vs hv pm code doc
      obtain ⟨v0, v1, v2, rfl⟩ := len3 hv
      rfl
    have el := c_element ok hL hn hv.2
    simp only [Vr.nd] at el ⊢
    have hA := At'.zero (36 :: n :: 91 :: (dec k ++ [93]))
    have g0 := hA.get0 (z := 36) rfl
    have s1 : slc (36 :: n :: 91 :: (dec k ++ [93])) (some 1) none = n :: 91 :: (dec k ++ [93]) := slc_from (by decide)
    clear hv hA hL
    generalize hdk : dec k = dk at *
    walk_at "w"
    refine CA.use el (by decide) ?_
    walk_at "w"
    refine CA.use (c_begins ok hn _) (by decide) ?_
    cases P with
    | false =>
      walk_at "w"
      subst hdk
      exact ⟨rfl, rfl⟩
    | true =>
      walk_at "w"
      subst hdk
      exact ⟨by simp [Vr.tx], rfl⟩
theorem c_open (ok : Ok c) (v : Vr) : CA c 3 "is_open_part" [v.nd] σ fun z s => z = .bool true ∧ s = σ := by
  cases v with
  | nam s n =>
    simp only [Vr.nd]
    refine CA_of ok r_is_open_part.2 ?_ ?_
    · intro vs hv pm code doc
      obtain ⟨v0, rfl⟩ := len1 hv
      rfl
    walk_at "w"
    exact ⟨rfl, rfl⟩
  | elm n k =>
    simp only [Vr.nd]
    refine CA_of ok r_is_open_part.2 ?_ ?_
    · intro vs hv pm code doc
      obtain ⟨v0, rfl⟩ := len1 hv
      rfl
    walk_at "w"
    exact ⟨rfl, rfl⟩
theorem c_kept (ok : Ok c) (t rest : List Nat) (ha : ∀ x ∈ t, x ≠ 92 ∧ x ≠ 36 ∧ x ≠ 64) (hl : t.length ≤ 1000) (hr : rest.length ≤ 1000) : CA c 5 "kept_signs" [.str t, .str rest] σ fun z s => z = .str t ∧ s = σ := by
  refine CA_of ok r_kept_signs.2 ?_ ?_
  · intro vs hv pm code doc
    obtain ⟨v0, v1, rfl⟩ := len2 hv
    rfl
  walk_at "w"
  refine E1_while (fun m l s => ∃ k : Nat, m + k = t.length ∧ s = σ ∧ l "text" = some (.str t) ∧ l "rest" = some (.str rest) ∧ l "at" = some (.int k) ∧ l "out" = some (.str (t.take k))) t.length ⟨0, rfl, rfl, rfl, rfl, rfl, rfl⟩ ?_
  rintro m l s ⟨k, hk, rfl, h1, h2, h3, h4⟩
  by_cases hm : k < t.length
  · have htest : decide ((k : Int) < t.length) = true := decide_eq_true (by omega)
    have hx := ha t[k] (by simp)
    have hA : At' t k (t.drop k) := ⟨by omega, by omega, by simp⟩
    have g0 := hA.get0 (z := t[k]) (by simp)
    have s1 : slc t (some (k : Int)) (some ((k : Int) + 1)) = [t[k]] := by rw [hA.sl0 (by decide), List.drop_eq_getElem_cons hm]; rfl
    have s2 : slc t (some (k : Int)) none = t.drop k := by rw [slc_from (by omega)]; simp
    have dl : (t.drop k).length ≤ 1000 := by rw [List.length_drop]; omega
    have tl : (t.take k).length ≤ 1000 := by rw [List.length_take]; omega
    obtain ⟨n1, n2, n3⟩ := hx
    walk_at "w"
    refine ⟨m - 1, by omega, k + 1, by omega, rfl, h1, h2, rfl, ?_⟩
    show some (V.str (t.take k ++ [t[k]])) = _
    rw [List.take_succ_eq_append_getElem hm]
  · have htest : decide ((k : Int) < t.length) = false := decide_eq_false (by omega)
    walk_at "w"
    exact ⟨by rw [List.take_of_length_le (by omega)], rfl⟩
theorem c_raw (ok : Ok c) (t rest : List Nat) (B : Bool) (ha : ∀ x ∈ t, x ≠ 92 ∧ x ≠ 36 ∧ x ≠ 64) (hs : seems t = false) (hl : t.length ≤ 1000) (hr : rest.length ≤ 1000) : CA c 6 "raw_piece" [.str t, .bool B, .str rest] σ fun z s => z = .str t ∧ s = σ := by
  refine CA_of ok r_raw_piece.2 ?_ ?_
  · intro vs hv pm code doc
    obtain ⟨v0, v1, v2, rfl⟩ := len3 hv
    rfl
  cases B with
  | false =>
    walk_at "w"
    refine CA.use (c_kept ok t rest ha hl hr) (by decide) ?_
    walk_at "w"
    exact ⟨rfl, rfl⟩
  | true =>
    walk_at "w"
    refine CA.use (c_kept ok t rest ha hl hr) (by decide) ?_
    walk_at "w"
    refine CA.use (c_seems ok t) (by decide) ?_
    walk_at "w"
    exact ⟨rfl, rfl⟩
end
def gtext (P b : Bool) (x : List Nat) : List Nat := if P then x else (if b && seems x then 92 :: guard' x else guard' x)
def Pt.sh (P b : Bool) : Pt → List Nat
  | .txt x => gtext P b x
  | .va v => v.tx P
def tl (P : Bool) : Bool → List Pt → List Nat
  | _, [] => []
  | b, x :: r => x.sh P b ++ tl P x.isV r
def Pt.ok (P : Bool) : Pt → Prop
  | .txt x => x ≠ [] ∧ x.length ≤ 20 ∧ (∀ m ∈ x, m < 128 ∧ m ≠ 33) ∧ (P = true → (∀ m ∈ x, m ≠ 92 ∧ m ≠ 36 ∧ m ≠ 64) ∧ seems x = false)
  | .va v => v.ok
theorem sh_len {P b : Bool} {x : Pt} (h : x.ok P) : (x.sh P b).length ≤ 50 := by
  cases x with
  | txt x =>
    have := guard_len x
    have hl := h.2.1
    unfold Pt.sh gtext
    cases P
    · by_cases hb : (b && seems x) = true <;> simp [hb] <;> omega
    · simp; omega
  | va v =>
    cases v with
    | nam s n => simp [Pt.sh, Vr.tx]
    | elm n k =>
      have := (dec_dg k h.2).2.2
      cases P <;> simp [Pt.sh, Vr.tx] <;> omega
theorem tl_len {P : Bool} : ∀ {l : List Pt} {b : Bool}, (∀ x ∈ l, x.ok P) → (tl P b l).length ≤ 50 * l.length
  | [], b, _ => by simp [tl]
  | x :: l, b, h => by
    have := sh_len (b := b) (h x List.mem_cons_self)
    have ih := tl_len (l := l) (b := x.isV) (fun y hy => h y (List.mem_cons_of_mem _ hy))
    simp only [tl, List.length_append, List.length_cons]
    omega
/-- no two texts stand side by side -/
def Alt : List Pt → Prop
  | .txt _ :: .txt y :: r => False ∧ Alt (.txt y :: r)
  | _ :: r => Alt r
  | [] => True
section
variable {c : Cx} {σ : List O}
theorem c_text (ok : Ok c) {P : Bool} {x : List Nat} (hx : (Pt.txt x).ok P) (B : Bool) (rest : List Nat) (hr : rest.length ≤ 1000) : CA c 8 "show_text" [.str x, .bool P, .bool B, .bool false, .str rest] σ fun z s => z = .str (gtext P B x) ∧ s = σ := by
  refine CA_of ok r_show_text.2 ?_ ?_
  · intro vs hv pm code doc
    obtain ⟨v0, v1, v2, v3, v4, rfl⟩ := len5 hv
    rfl
  obtain ⟨h1, h2, h3, h4⟩ := hx
  cases P with
  | false =>
    walk_at "w"
    refine CA.use (c_guard ok x B (fun m hm => (h3 m hm).1) (by omega)) (by decide) ?_
    walk_at "w"
    exact ⟨rfl, rfl⟩
  | true =>
    walk_at "w"
    refine CA.use (c_raw ok x rest B (h4 rfl).1 (h4 rfl).2 (by omega) hr) (by decide) ?_
    walk_at "w"
    exact ⟨rfl, rfl⟩
theorem c_sparts (ok : Ok c) {Ls N : Nat} (hL : σ[Ls]? = some (.dict false lst)) {P : Bool} {ps : List Pt} (hN : σ[N]? = some (.list false (ps.map Pt.nd))) (hp : ∀ x ∈ ps, x.ok P) (hl : ps.length ≤ 10)
    (halt : ∀ i x y, ps[i]? = some (.txt x) → ps[i+1]? ≠ some (.txt y)) :
    CA c 12 "show_parts" [.obj Ls, .obj N, .bool P, .str [], .str []] σ fun z s => z = .str (tl P false ps) ∧ s = σ := by
  refine CA_of ok r_show_parts.2 ?_ ?_
  · intro vs hv pm code doc
    obtain ⟨v0, v1, v2, v3, v4, rfl⟩ := len5 hv
    rfl
  have hz : (ps.map Pt.nd).length ≤ 1000000 := by simp; omega
  have hlen : ((ps.map Pt.nd).length : Int) = ps.length := by simp
  walk_at "w"
  refine E1_for_range (by assumption) ?_
  walk_at "w"
  have hsz : Builtin.Range.rangeSize (((ps.map Pt.nd).length : Nat) - 1 : Int) (-1) (-1) = ps.length := by
    rw [hlen]
    unfold Builtin.Range.rangeSize
    rw [if_neg (by decide)]
    by_cases h : ps.length = 0
    · rw [h]; rfl
    · rw [if_pos (by omega)]
      rw [show (-(-1 : Int)) = 1 by decide, Int.ediv_one]; omega
  have hnn : (((ps.map Pt.nd).length : Nat) : Int) - 1 + 1 = ps.length := by omega
  let bh : Nat → Bool := fun i => decide (0 < i) && (match ps[i - 1]? with | some x => x.isV | none => false)
  refine ⟨_, _, _, rfl, by decide, ?_, ?_, fun j l s => s = σ ∧ l "listers" = some (.obj Ls) ∧ l "nodes" = some (.obj N) ∧ l "is_pattern" = some (.bool P) ∧ l "mark" = some (.str []) ∧ l "rest" = some (.str []) ∧
    l "text" = some (.str (tl P (bh (ps.length - j)) (ps.drop (ps.length - j)))), ⟨rfl, rfl, rfl, rfl, rfl, rfl, ?_⟩, ?_, ?_⟩
  · unfold Builtin.divisionGoesByPylong; rfl
  · unfold Builtin.Range.small Builtin.Range.rangeFitsLong; rw [hsz, hlen]; simp; omega
  · show some (V.str []) = _
    rw [Nat.sub_zero, List.drop_length]; rfl
  · rintro j l s hj ⟨rfl, h1, h2, h3, h4, h5, h6⟩
    rw [hsz] at hj
    obtain ⟨k, hk⟩ : ∃ k, ps.length = k + j + 1 := ⟨ps.length - 1 - j, by omega⟩
    have ei : (((ps.map Pt.nd).length : Nat) - 1 + (j : Int) * -1 : Int) = (k : Int) := by omega
    rw [ei]
    obtain ⟨x, hx⟩ : ∃ x, ps[k]? = some x := ⟨ps[k], by simp⟩
    have hxo := hp x (List.mem_of_getElem? hx)
    rw [show ps.length - j = k + 1 by omega] at h6
    have hk1 : bh (k + 1) = x.isV := by simp [bh, hx]
    rw [hk1] at h6
    have tlen := tl_len (P := P) (b := x.isV) (l := ps.drop (k + 1)) (fun y hy => hp y (List.mem_of_mem_drop hy))
    have tl2 : (tl P x.isV (ps.drop (k + 1))).length ≤ 500 := by rw [List.length_drop] at tlen; omega
    have step : ∀ b, b = bh k → tl P (bh (ps.length - (j + 1))) (ps.drop (ps.length - (j + 1))) = x.sh P b ++ tl P x.isV (ps.drop (k + 1)) := by
      rintro b rfl
      obtain ⟨hlt, he⟩ := List.getElem?_eq_some_iff.mp hx
      rw [show ps.length - (j + 1) = k by omega, List.drop_eq_getElem_cons hlt, he]; rfl
    have ix : (0 : Int) ≤ k ∧ (k : Int) < 1000000 ∧ (ps.map Pt.nd)[(k : Int).toNat]? = some x.nd := ⟨by omega, by omega, by simp [hx]⟩
    generalize htx : tl P x.isV (ps.drop (k + 1)) = tx at *
    clear hsz hnn ei tlen hk1
    cases x with
    | va v =>
      have hv := c_part ok hL hxo P
      have vl : (v.tx P).length ≤ 50 := sh_len (b := false) (x := .va v) hxo
      have st := step (bh k) rfl
      cases v with
      | nam a b =>
        simp only [Pt.nd, Vr.nd] at ix hv
        walk_at "w"
        refine CA.use hv (by decide) ?_
        walk_at "w"
        exact ⟨rfl, h1, h2, h3, h4, h5, by rw [st]; rfl⟩
      | elm a b =>
        simp only [Pt.nd, Vr.nd] at ix hv
        walk_at "w"
        refine CA.use hv (by decide) ?_
        walk_at "w"
        exact ⟨rfl, h1, h2, h3, h4, h5, by rw [st]; rfl⟩
    | txt y =>
      simp only [Pt.nd] at ix
      have gl := fun b => sh_len (b := b) (x := .txt y) hxo
      simp only [Pt.sh] at gl
      by_cases k0 : k = 0
      · subst k0
        have g0 := gl false
        walk_at "w"
        refine CA.use (c_text ok hxo false (tx ++ []) (by simp; omega)) (by decide) ?_
        walk_at "w"
        exact ⟨rfl, h1, h2, h3, h4, h5, by rw [step false rfl]; rfl⟩
      · obtain ⟨z, hz'⟩ : ∃ z, ps[k - 1]? = some z := ⟨ps[k - 1], by simp⟩
        have hzv : ∃ v, z = .va v := by
          cases z with
          | va v => exact ⟨v, rfl⟩
          | txt w => exact absurd (by rw [show k - 1 + 1 = k by omega]; exact hx) (halt (k - 1) w y hz')
        obtain ⟨v, rfl⟩ := hzv
        have ix2 : (0 : Int) ≤ (k : Int) - 1 ∧ (k : Int) - 1 < 1000000 ∧ (ps.map Pt.nd)[((k : Int) - 1).toNat]? = some v.nd := ⟨by omega, by omega, by rw [show ((k : Int) - 1).toNat = k - 1 by omega]; simp [hz', Pt.nd]⟩
        have hgt : decide ((k : Int) > 0) = true := decide_eq_true (by omega)
        have hb : true = bh k := by simp [bh, hz', Pt.isV]; omega
        have g0 := gl true
        walk_at "w"
        refine CA.use (c_open ok v) (by decide) ?_
        walk_at "w"
        refine CA.use (c_text ok hxo true (tx ++ []) (by simp; omega)) (by decide) ?_
        walk_at "w"
        exact ⟨rfl, h1, h2, h3, h4, h5, by rw [step true hb]; rfl⟩
  · rintro l s ⟨rfl, h1, h2, h3, h4, h5, h6⟩
    rw [hsz, Int.toNat_natCast, Nat.sub_self] at h6
    walk_at "w"
    exact ⟨rfl, rfl⟩
end
section
variable {c : Cx} {σ : List O}
def qs (t : List Nat) : Nat := if 47 ∈ t then 33 else 47
theorem c_qsign (ok : Ok c) (t : List Nat) (h33 : 33 ∉ t) : CA c 3 "quote_sign" [.str t] σ fun z s => z = .str [qs t] ∧ s = σ := by
  refine CA_of ok r_quote_sign.2 ?_ ?_
  · intro vs hv pm code doc
    obtain ⟨v0, rfl⟩ := len1 hv
    rfl
  have e33 : (!decide (33 ∈ t)) = true := by simp [h33]
  walk_at "w"
  refine E1_for_str ?_
  walk_at "w"
  refine ⟨_, rfl, by decide, fun k l s => s = σ ∧ l "text" = some (.str t) ∧ (k = 0 ∨ (k = 1 ∧ 47 ∈ t)), ⟨rfl, rfl, .inl rfl⟩, ?_, ?_⟩
  · rintro k l s hk ⟨rfl, h1, rfl | ⟨rfl, h2⟩⟩
    · show EX _ _ _ _ (upd l _ (.str [47])) _ _
      by_cases h : 47 ∈ t
      · have e47 : (!decide (47 ∈ t)) = false := by simp [h]
        walk_at "w"
        exact ⟨rfl, h1, .inr ⟨rfl, h⟩⟩
      · have e47 : (!decide (47 ∈ t)) = true := by simp [h]
        walk_at "w"
        exact ⟨by simp [qs, h], rfl⟩
    · show EX _ _ _ _ (upd l _ (.str [33])) _ _
      walk_at "w"
      exact ⟨by simp [qs, h2], rfl⟩
  · rintro l s ⟨rfl, h1, h | ⟨h, _⟩⟩ <;> exact absurd h (by decide)
theorem c_quoted (ok : Ok c) {Ls N : Nat} (hL : σ[Ls]? = some (.dict false lst)) {P : Bool} {ps : List Pt} (hN : σ[N]? = some (.list false (ps.map Pt.nd))) (hp : ∀ x ∈ ps, x.ok P) (hl : ps.length ≤ 10)
    (halt : ∀ i x y, ps[i]? = some (.txt x) → ps[i+1]? ≠ some (.txt y)) :
    CA c 13 "show_quoted" [.obj Ls, .obj N, .bool P] σ fun z s => z = .str (tl P false ps) ∧ s = σ := by
  refine CA_of ok r_show_quoted.2 ?_ ?_
  · intro vs hv pm code doc
    obtain ⟨v0, v1, v2, rfl⟩ := len3 hv
    rfl
  walk_at "w"
  refine CA.use (c_sparts ok hL hN hp hl halt) (by decide) ?_
  walk_at "w"
  exact ⟨rfl, rfl⟩
/-- the told text of a pattern without flags -/
def told0 (t : List Nat) : List Nat := if 34 ∈ t then [113, 113] ++ [qs t] ++ t ++ [qs t] else [34] ++ t ++ [34]
theorem c_interp (ok : Ok c) {Ls N : Nat} (hL : σ[Ls]? = some (.dict false lst)) {ps : List Pt} (hN : σ[N]? = some (.list false (ps.map Pt.nd))) (hp : ∀ x ∈ ps, x.ok false) (hl : ps.length ≤ 10)
    (halt : ∀ i x y, ps[i]? = some (.txt x) → ps[i+1]? ≠ some (.txt y)) (h33 : 33 ∉ tl false false ps) :
    CA c 14 "list_interp" [.obj Ls, .tup [.str [105, 110, 116, 101, 114, 112], .obj N]] σ fun z s => z = .tup [.str (told0 (tl false false ps)), .int 22] ∧ s = σ := by
  refine CA_of ok r_list_interp.2 ?_ ?_
  · intro vs hv pm code doc
    obtain ⟨v0, v1, rfl⟩ := len2 hv
    rfl
  have tlen := tl_len (P := false) (b := false) hp
  have q := c_quoted ok hL hN hp hl halt
  generalize htx : tl false false ps = tx at *
  have tl2 : tx.length ≤ 500 := by omega
  by_cases h : 34 ∈ tx
  · have e : (!decide (34 ∈ tx)) = false := by simp [h]
    walk_at "w"
    refine CA.use q (by decide) ?_
    walk_at "w"
    refine CA.use (c_qsign ok tx h33) (by decide) ?_
    walk_at "w"
    exact ⟨by simp [told0, h], rfl⟩
  · have e : (!decide (34 ∈ tx)) = true := by simp [h]
    walk_at "w"
    refine CA.use q (by decide) ?_
    walk_at "w"
    exact ⟨by simp [told0, h], rfl⟩
theorem c_bare (ok : Ok c) (N : Nat) : CA c 3 "is_bare_pattern" [.tup [.str [105, 110, 116, 101, 114, 112], .obj N]] σ fun z s => z = .bool false ∧ s = σ := by
  refine CA_of ok r_is_bare_pattern.2 ?_ ?_
  · intro vs hv pm code doc
    obtain ⟨v0, rfl⟩ := len1 hv
    rfl
  walk_at "w"
  exact ⟨rfl, rfl⟩
theorem c_quotable (ok : Ok c) (N : Nat) : CA c 3 "is_quotable" [.tup [.str [105, 110, 116, 101, 114, 112], .obj N]] σ fun z s => z = .bool true ∧ s = σ := by
  refine CA_of ok r_is_quotable.2 ?_ ?_
  · intro vs hv pm code doc
    obtain ⟨v0, rfl⟩ := len1 hv
    rfl
  walk_at "w"
  exact ⟨rfl, rfl⟩
theorem c_pattern (ok : Ok c) {Ls N : Nat} (hL : σ[Ls]? = some (.dict false lst)) {ps : List Pt} (hN : σ[N]? = some (.list false (ps.map Pt.nd))) (hp : ∀ x ∈ ps, x.ok true) (hl : ps.length ≤ 10)
    (halt : ∀ i x y, ps[i]? = some (.txt x) → ps[i+1]? ≠ some (.txt y)) :
    CA c 14 "show_pattern" [.obj Ls, .tup [.str [105, 110, 116, 101, 114, 112], .obj N]] σ fun z s => z = .str (tl true false ps) ∧ s = σ := by
  refine CA_of ok r_show_pattern.2 ?_ ?_
  · intro vs hv pm code doc
    obtain ⟨v0, v1, rfl⟩ := len2 hv
    rfl
  walk_at "w"
  refine CA.use (c_quoted ok hL hN hp hl halt) (by decide) ?_
  walk_at "w"
  exact ⟨rfl, rfl⟩
end
section
variable {c : Cx} {σ : List O}
def mnode (N : Nat) (fl : List Nat) (neg : Bool) : V := .tup [.str [109, 97, 116, 99, 104], .tup [.str [110, 97, 109, 101], .str [36], .str [116]], .tup [.str [105, 110, 116, 101, 114, 112], .obj N], .str fl, .bool neg]
def hd' (neg : Bool) : List Nat := [36, 116] ++ (if neg then [32, 33, 126, 32] else [32, 61, 126, 32])
theorem c_match0 (ok : Ok c) {Ls N : Nat} (hL : σ[Ls]? = some (.dict false lst)) {ps : List Pt} (hN : σ[N]? = some (.list false (ps.map Pt.nd))) (hp : ∀ x ∈ ps, x.ok false) (hl : ps.length ≤ 10)
    (halt : ∀ i x y, ps[i]? = some (.txt x) → ps[i+1]? ≠ some (.txt y)) (h33 : 33 ∉ tl false false ps) (neg : Bool) :
    CA c 19 "list_match" [.obj Ls, mnode N [] neg] σ fun z s => z = .tup [.str (hd' neg ++ told0 (tl false false ps)), .int 18] ∧ s = σ := by
  simp only [mnode]
  refine CA_of ok r_list_match.2 ?_ ?_
  · intro vs hv pm code doc
    obtain ⟨v0, v1, rfl⟩ := len2 hv
    rfl
  have tlen := tl_len (P := false) (b := false) hp
  have q := c_interp ok hL hN hp hl halt h33
  have q2 := c_show_node ok hL (least := 19) r_list_interp.2 lk_interp (by decide) q
  have q3 := c_show_node (d := 2) (rest := [.str [36], .str [116]]) ok hL (least := 18) r_law_listed.2 lk_name (by decide) (c_listed_name ok _)
  generalize htx : tl false false ps = tx at *
  have tl2 : (told0 tx).length ≤ 600 := by unfold told0; split <;> simp <;> omega
  generalize hty : told0 tx = ty at *
  walk_at "w"
  refine E1_unp (ns := ["target", "pattern", "flags", "is_negated"]) (by rfl) ?_
  walk_at "w"
  refine ⟨_, rfl, rfl, ?_⟩
  walk_at "w"
  refine CA.use (c_quotable ok N) (by decide) ?_
  walk_at "w"
  refine CA.use q2 (by decide) ?_
  cases neg with
  | false =>
    walk_at "w"
    refine CA.use q3 (by decide) ?_
    walk_at "w"
    exact ⟨rfl, rfl⟩
  | true =>
    walk_at "w"
    refine CA.use q3 (by decide) ?_
    walk_at "w"
    exact ⟨rfl, rfl⟩
/-- the told text of a pattern with the flag i -/
def toldI (t : List Nat) : List Nat := [109] ++ [qs t] ++ t ++ [qs t] ++ [105]
theorem c_matchi (ok : Ok c) {Ls N : Nat} (hL : σ[Ls]? = some (.dict false lst)) {ps : List Pt} (hN : σ[N]? = some (.list false (ps.map Pt.nd))) (hp : ∀ x ∈ ps, x.ok true) (hl : ps.length ≤ 10)
    (halt : ∀ i x y, ps[i]? = some (.txt x) → ps[i+1]? ≠ some (.txt y)) (h33 : 33 ∉ tl true false ps) (neg : Bool) :
    CA c 19 "list_match" [.obj Ls, mnode N [105] neg] σ fun z s => z = .tup [.str (hd' neg ++ toldI (tl true false ps)), .int 18] ∧ s = σ := by
  simp only [mnode]
  refine CA_of ok r_list_match.2 ?_ ?_
  · intro vs hv pm code doc
    obtain ⟨v0, v1, rfl⟩ := len2 hv
    rfl
  have tlen := tl_len (P := true) (b := false) hp
  have q := c_pattern ok hL hN hp hl halt
  have q3 := c_show_node (d := 2) (rest := [.str [36], .str [116]]) ok hL (least := 18) r_law_listed.2 lk_name (by decide) (c_listed_name ok _)
  generalize htx : tl true false ps = tx at *
  have tl2 : tx.length ≤ 500 := by omega
  walk_at "w"
  refine E1_unp (ns := ["target", "pattern", "flags", "is_negated"]) (by rfl) ?_
  walk_at "w"
  refine ⟨_, rfl, rfl, ?_⟩
  walk_at "w"
  refine CA.use (c_quotable ok N) (by decide) ?_
  walk_at "w"
  refine CA.use q (by decide) ?_
  walk_at "w"
  refine CA.use (c_bare ok N) (by decide) ?_
  walk_at "w"
  refine CA.use (c_qsign ok tx h33) (by decide) ?_
  cases neg with
  | false =>
    walk_at "w"
    refine CA.use q3 (by decide) ?_
    walk_at "w"
    exact ⟨rfl, rfl⟩
  | true =>
    walk_at "w"
    refine CA.use q3 (by decide) ?_
    walk_at "w"
    exact ⟨rfl, rfl⟩
end
def gtok (l : List Nat) : List Tk := l.map fun x => if x ∈ [92, 36, 64] then Tk.es x else Tk.ch x
def ttok (P b : Bool) (x : List Nat) : List Tk :=
  if P then x.map Tk.ch else if b && seems x then (match x with | [] => [] | a :: r => Tk.es a :: gtok r) else gtok x
def Pt.tk (P b : Bool) : Pt → List Tk
  | .txt x => ttok P b x
  | .va v => [.va v]
def toks (P : Bool) : Bool → List Pt → List Tk
  | _, [] => []
  | b, x :: r => x.tk P b ++ toks P x.isV r
def Pt.pc (P : Bool) : Pt → Pc
  | .txt x => .t x
  | .va v => .e (v.tx P)
abbrev Halt (ps : List Pt) : Prop := ∀ i x y, ps[i]? = some (.txt x) → ps[i+1]? ≠ some (.txt y)
theorem Halt.tail {x : Pt} {r : List Pt} (h : Halt (x :: r)) : Halt r := fun i a b e => by
  have := h (i + 1) a b (by simpa using e)
  simpa using this
theorem flat_app (P : Bool) (a b : List Tk) : flat' P (a ++ b) = flat' P a ++ flat' P b := by simp [flat']
theorem flat_ch (P : Bool) (x : List Nat) : flat' P (x.map Tk.ch) = x := by
  induction x with
  | nil => rfl
  | cons a x ih => unfold flat' at ih ⊢; rw [List.map_cons, List.flatMap_cons, ih]; rfl
theorem flat_g (P : Bool) (x : List Nat) : flat' P (gtok x) = guard' x := by
  induction x with
  | nil => rfl
  | cons a x ih =>
    unfold flat' gtok guard' at *
    rw [List.map_cons, List.flatMap_cons, List.flatMap_cons, ih]
    congr 1
    split <;> rfl
theorem seems_head {a : Nat} {r : List Nat} (h : seems (a :: r) = true) : a = 91 ∨ a = 123 ∨ a = 45 := by
  unfold seems at h
  simp at h
  omega
theorem flat_tt (P b : Bool) (x : List Nat) : flat' P (ttok P b x) = gtext P b x := by
  unfold ttok gtext
  cases P with
  | true => simp only [if_true]; exact flat_ch _ x
  | false =>
    simp only [Bool.false_eq_true, if_false]
    split
    · rename_i h
      cases x with
      | nil => simp [seems] at h
      | cons a r =>
        rw [Bool.and_eq_true] at h
        have ha := seems_head h.2
        have : a ∉ [92, 36, 64] := by simp; omega
        show [92, a] ++ flat' false (gtok r) = 92 :: guard' (a :: r)
        rw [flat_g]
        unfold guard'
        rw [List.flatMap_cons, if_neg this]; rfl
    · exact flat_g _ x
theorem flat_toks (P : Bool) : ∀ (l : List Pt) (b : Bool), flat' P (toks P b l) = tl P b l
  | [], b => rfl
  | x :: r, b => by
    show flat' P (x.tk P b ++ toks P x.isV r) = x.sh P b ++ tl P x.isV r
    rw [flat_app, flat_toks P r]
    congr 1
    cases x with
    | txt x => exact flat_tt P b x
    | va v => show (v.tx P) ++ [] = _; rw [List.append_nil]; rfl
theorem guard_cons (a : Nat) (y : List Nat) : guard' (a :: y) = (if a ∈ [92, 36, 64] then [92, a] else [a]) ++ guard' y := by
  unfold guard'; rw [List.flatMap_cons]
theorem guard_id : ∀ {x : List Nat}, (∀ m ∈ x, m ≠ 92 ∧ m ≠ 36 ∧ m ≠ 64) → guard' x = x
  | [], _ => rfl
  | a :: y, h => by
    have ha := h a List.mem_cons_self
    rw [guard_cons, if_neg (by simp; omega), guard_id (fun m hm => h m (List.mem_cons_of_mem _ hm))]; rfl
theorem quiet_ne {n : Nat} {r : List Nat} (h1 : n ≠ 91) (h2 : n ≠ 123) (h3 : n ≠ 45) : Quiet (n :: r) := by
  refine ⟨⟨by simpa using h1, by simpa using h2⟩, fun e => ?_⟩
  simp at e; omega
theorem quiet_g {x r : List Nat} (h0 : x ≠ []) (hs : seems x = false) : Quiet (guard' x ++ r) := by
  cases x with
  | nil => exact absurd rfl h0
  | cons a y =>
    rw [guard_cons]
    by_cases ha : a ∈ [92, 36, 64]
    · rw [if_pos ha]; exact quiet_ne (by decide) (by decide) (by decide)
    · rw [if_neg ha]
      unfold seems at hs
      by_cases h91 : a = 91
      · subst h91; simp at hs
      by_cases h123 : a = 123
      · subst h123; simp at hs
      by_cases h45 : a = 45
      · subst h45
        cases y with
        | nil => simp at hs
        | cons b z =>
          rw [guard_cons]
          by_cases hb : b ∈ [92, 36, 64]
          · rw [if_pos hb]; exact ⟨⟨by simp, by simp⟩, fun e => by simp at e⟩
          · rw [if_neg hb]
            refine ⟨⟨by simp, by simp⟩, fun e => ?_⟩
            have hb' : b = 62 := by simpa using e
            subst hb'
            cases z with
            | nil => simp at hs
            | cons d w =>
              rw [guard_cons]
              by_cases hd : d ∈ [92, 36, 64]
              · rw [if_pos hd]; exact ⟨by simp, by simp⟩
              · rw [if_neg hd]
                simp at hs
                exact ⟨by simpa using hs.1, by simpa using hs.2⟩
      · exact quiet_ne h91 h123 h45
theorem quiet_tl {P : Bool} : ∀ {r : List Pt}, (∀ x ∈ r, x.ok P) → Quiet (tl P true r)
  | [], _ => by show Quiet []; exact ⟨⟨by simp, by simp⟩, fun e => by simp at e⟩
  | .va v :: r, h => by
    have hv := h _ List.mem_cons_self
    show Quiet (v.tx P ++ tl P true r)
    cases v with
    | nam s n => obtain ⟨rfl | rfl, _⟩ := hv <;> exact quiet_ne (by decide) (by decide) (by decide)
    | elm n k => cases P <;> exact quiet_ne (by decide) (by decide) (by decide)
  | .txt x :: r, h => by
    obtain ⟨h1, h2, h3, h4⟩ := h _ List.mem_cons_self
    show Quiet (gtext P true x ++ tl P false r)
    unfold gtext
    cases P with
    | true =>
      rw [if_pos rfl]
      obtain ⟨a, b⟩ := h4 rfl
      have := quiet_g (r := tl true false r) h1 b
      rwa [guard_id a] at this
    | false =>
      rw [if_neg (by decide)]
      cases hs : seems x with
      | false => exact quiet_g h1 hs
      | true => exact quiet_ne (by decide) (by decide) (by decide)
theorem tkok_app {P : Bool} : ∀ {a b : List Tk}, (∀ t ∈ a, t.ok P ∧ ∀ v, t ≠ .va v) → TkOk P b → TkOk P (a ++ b)
  | [], b, _, hb => hb
  | t :: a, b, ha, hb => ⟨(ha t List.mem_cons_self).1, fun ⟨v, e⟩ => absurd e ((ha t List.mem_cons_self).2 v), tkok_app (fun t h => ha t (List.mem_cons_of_mem _ h)) hb⟩
theorem gtok_ok (x : List Nat) : ∀ t ∈ gtok x, t.ok false ∧ ∀ v, t ≠ .va v := by
  intro t ht
  obtain ⟨a, _, rfl⟩ := List.mem_map.mp ht
  by_cases h : a ∈ [92, 36, 64]
  · rw [if_pos h]
    refine ⟨⟨rfl, ?_⟩, fun v e => by cases e⟩
    simp at h; omega
  · rw [if_neg h]
    refine ⟨?_, fun v e => by cases e⟩
    simp at h; exact h
theorem ttok_ok {P : Bool} {x : List Nat} (b : Bool) (h : (Pt.txt x).ok P) : ∀ t ∈ ttok P b x, t.ok P ∧ ∀ v, t ≠ .va v := by
  obtain ⟨h1, h2, h3, h4⟩ := h
  unfold ttok
  cases P with
  | true =>
    rw [if_pos rfl]
    intro t ht
    obtain ⟨a, ha, rfl⟩ := List.mem_map.mp ht
    exact ⟨(h4 rfl).1 a ha, fun v e => by cases e⟩
  | false =>
    rw [if_neg (by decide)]
    split
    · rename_i h
      cases x with
      | nil => exact absurd rfl h1
      | cons a r =>
        rw [Bool.and_eq_true] at h
        have ha := seems_head h.2
        intro t ht
        rcases List.mem_cons.mp ht with rfl | ht
        · exact ⟨⟨rfl, by omega⟩, fun v e => by cases e⟩
        · exact gtok_ok r t ht
    · exact gtok_ok x
theorem toks_ok {P : Bool} : ∀ {l : List Pt} {b : Bool}, (∀ x ∈ l, x.ok P) → TkOk P (toks P b l)
  | [], _, _ => trivial
  | .txt x :: r, b, h => tkok_app (ttok_ok b (h _ List.mem_cons_self)) (toks_ok fun y hy => h y (List.mem_cons_of_mem _ hy))
  | .va v :: r, b, h => by
    have hr : ∀ x ∈ r, x.ok P := fun y hy => h y (List.mem_cons_of_mem _ hy)
    refine ⟨h _ List.mem_cons_self, fun _ => ?_, toks_ok hr⟩
    show Quiet (flat' P (toks P true r))
    rw [flat_toks]; exact quiet_tl hr
theorem gtok_len (x : List Nat) : (gtok x).length = x.length := by simp [gtok]
theorem ttok_len (P b : Bool) (x : List Nat) : (ttok P b x).length = x.length := by
  unfold ttok
  split
  · simp
  · split
    · cases x with
      | nil => rfl
      | cons a r => simp [gtok_len]
    · exact gtok_len x
theorem toks_len {P : Bool} : ∀ {l : List Pt} {b : Bool}, (∀ x ∈ l, x.ok P) → (toks P b l).length ≤ 20 * l.length
  | [], _, _ => by simp [toks]
  | x :: r, b, h => by
    have ih := toks_len (l := r) (b := x.isV) fun y hy => h y (List.mem_cons_of_mem _ hy)
    have hx := h x List.mem_cons_self
    show (x.tk P b ++ toks P x.isV r).length ≤ _
    rw [List.length_append, List.length_cons]
    have : (x.tk P b).length ≤ 20 := by
      cases x with
      | txt x => show (ttok P b x).length ≤ _; rw [ttok_len]; exact hx.2.1
      | va v => simp [Pt.tk]
    omega
/-- what a token of a text adds -/
def Tk.c : Tk → List Nat
  | .ch n => [n] | .es n => [n] | .va _ => []
theorem fold_in {P : Bool} : ∀ {a : List Tk} {i : List Pc} {y : List Nat}, (∀ t ∈ a, ∀ v, t ≠ .va v) → a.foldl (addTk P) (i ++ [.t y]) = i ++ [.t (y ++ a.flatMap Tk.c)]
  | [], i, y, _ => by simp
  | t :: a, i, y, h => by
    have ha : ∀ t ∈ a, ∀ v, t ≠ .va v := fun t ht => h t (List.mem_cons_of_mem _ ht)
    have e : addTk P (i ++ [.t y]) t = i ++ [.t (y ++ t.c)] := by
      cases t with
      | ch n => exact addT_t i y [n]
      | es n => exact addT_t i y [n]
      | va v => exact absurd rfl (h _ List.mem_cons_self v)
    rw [List.foldl_cons, e, fold_in ha, List.flatMap_cons, List.append_assoc]
theorem addT_new {acc : List Pc} (x : List Nat) (h : ∀ y, acc.getLast? ≠ some (.t y)) : addT acc x = acc ++ [.t x] := by
  unfold addT
  split
  · rename_i y e; exact absurd e (h y)
  · rfl
theorem gtok_c (x : List Nat) : (gtok x).flatMap Tk.c = x := by
  induction x with
  | nil => rfl
  | cons a x ih =>
    unfold gtok at *
    rw [List.map_cons, List.flatMap_cons, ih]
    split <;> rfl
theorem ch_c (x : List Nat) : (x.map Tk.ch).flatMap Tk.c = x := by
  induction x with
  | nil => rfl
  | cons a x ih => rw [List.map_cons, List.flatMap_cons, ih]; rfl
theorem ttok_c (P b : Bool) (x : List Nat) : (ttok P b x).flatMap Tk.c = x := by
  unfold ttok
  split
  · exact ch_c x
  · split
    · cases x with
      | nil => rfl
      | cons a r => show [a] ++ (gtok r).flatMap Tk.c = _; rw [gtok_c]; rfl
    · exact gtok_c x
theorem fold_txt {P : Bool} {acc : List Pc} {x : List Nat} (b : Bool) (hx : (Pt.txt x).ok P) (h : ∀ y, acc.getLast? ≠ some (.t y)) : (ttok P b x).foldl (addTk P) acc = acc ++ [.t x] := by
  have hc := ttok_c P b x
  have ho := ttok_ok b hx
  have hl := ttok_len P b x
  generalize ttok P b x = a at *
  cases a with
  | nil => exact absurd (by simpa using hc.symm) hx.1
  | cons t a =>
    have e : addTk P acc t = acc ++ [.t t.c] := by
      cases t with
      | ch n => exact addT_new [n] h
      | es n => exact addT_new [n] h
      | va v => exact absurd rfl ((ho _ List.mem_cons_self).2 v)
    rw [List.foldl_cons, e, fold_in (fun t ht => (ho t (List.mem_cons_of_mem _ ht)).2), ← List.flatMap_cons, hc]
theorem fold_toks {P : Bool} : ∀ {l : List Pt} {b : Bool} {acc : List Pc}, (∀ x ∈ l, x.ok P) → Halt l → (∀ y, acc.getLast? = some (.t y) → ∀ x, l.head? ≠ some (.txt x)) → (toks P b l).foldl (addTk P) acc = acc ++ l.map (Pt.pc P)
  | [], _, acc, _, _, _ => by simp [toks]
  | .txt x :: r, b, acc, h, ha, hh => by
    show (ttok P b x ++ toks P false r).foldl (addTk P) acc = _
    rw [List.foldl_append, fold_txt b (h _ List.mem_cons_self) (fun y e => hh y e x rfl),
      fold_toks (fun y hy => h y (List.mem_cons_of_mem _ hy)) ha.tail (fun y _ z e => by
        have := ha 0 x z rfl
        rw [List.head?_eq_getElem?] at e
        exact this (by simpa using e))]
    simp [Pt.pc]
  | .va v :: r, b, acc, h, ha, hh => by
    show (.va v :: toks P true r).foldl (addTk P) acc = _
    rw [List.foldl_cons]
    show (toks P true r).foldl (addTk P) (acc ++ [.e (v.tx P)]) = _
    rw [fold_toks (fun y hy => h y (List.mem_cons_of_mem _ hy)) ha.tail (fun y e => by simp at e)]
    simp [Pt.pc]
/-- the reader hands back the drawn parts -/
theorem reads_back {P : Bool} {l : List Pt} (h : ∀ x ∈ l, x.ok P) (ha : Halt l) : (toks P false l).foldl (addTk P) [] = l.map (Pt.pc P) := by
  rw [fold_toks h ha (fun y e => by simp at e)]; simp
theorem CA.ex {c : Cx} {σ : List O} {d d0 : Nat} {f : Str} {xs : List V} {R0 R : V → List O → Prop} (h : CA c d0 f xs σ R0) (k : d0 ≤ d) (r : ∀ x s, R0 x s → R x s) : CA c d f xs σ R :=
  CA.mono (CA.le h k) r
theorem AS_dictN {c : Cx} {σ : List O} {n : Nat} {dd d2 : List (Str × V)} {i : List Nat} {y : V} {K : List O → Prop} (hn : σ[n]? = some (.dict false dd)) (hz : dd.length ≤ 1000000) (e : put dd (St i) y = d2) (h : K (σ.set n (.dict false d2))) : AS c σ (.obj n) (.str i) y K :=
  AS_dict hn hz (by rw [e]; exact h)
def wk (k N : Nat) : List (Str × V) := [("step", .int k), ("path", .obj N)]
structure Wk (σ : List O) (W N k : Nat) (ns : List Int) : Prop where
  b : Base σ
  w : σ[W]? = some (.dict false (wk k N))
  n : σ[N]? = some (.list false (ns.map V.int))
  len : ns.length ≤ 60
  ne : W ≠ N
  ge : 3 ≤ W
theorem Wk.set {σ : List O} {W N k : Nat} {ns : List Int} (h : Wk σ W N k ns) (k' : Nat) : Wk (σ.set W (.dict false (wk k' N))) W N k' ns := by
  obtain ⟨b, w, n, l, ne, ge⟩ := h
  have hl := (List.getElem?_eq_some_iff.mp w).1
  exact ⟨⟨by rw [List.getElem?_set_ne (by omega)]; exact b.sg, by rw [List.getElem?_set_ne (by omega)]; exact b.es, by rw [List.getElem?_set_ne (by omega)]; exact b.cl⟩,
    by rw [List.getElem?_set_self hl], by rw [List.getElem?_set_ne ne]; exact n, l, ne, ge⟩
section
variable {c : Cx} {σ : List O}
theorem c_move (ok : Ok c) {W N k : Nat} {ns : List Int} (h : Wk σ W N k ns) (ways : Nat) (h0 : 0 < ways) (hw : ways ≤ 1000) (hk : k ≤ 1000) :
    CA c 3 "_law_move" [.obj W, .int ways] σ fun z s => ∃ r : Nat, z = .int r ∧ r < ways ∧ s = σ.set W (.dict false (wk (k + 1) N)) := by
  refine CA_of ok r_law_move.2 ?_ ?_
  · intro vs hv pm code doc
    obtain ⟨v0, v1, rfl⟩ := len2 hv
    rfl
  have w1 := h.w
  have h' := h.set (k + 1)
  have w2 := h'.w
  have n2 := h'.n
  have w0 : (ways : Int) ≠ 0 := by omega
  have hz : (ns.map V.int).length ≤ 1000000 := by have := h.len; simp; omega
  have fin : ∀ x : Int, ∃ r : Nat, V.int (x.fmod ways) = .int r ∧ r < ways ∧ σ.set W (.dict false (wk (k + 1) N)) = σ.set W (.dict false (wk (k + 1) N)) := by
    intro x
    have a := Int.fmod_nonneg_of_pos x (show (0 : Int) < ways by omega)
    have b := Int.fmod_lt_of_pos x (show (0 : Int) < ways by omega)
    exact ⟨(x.fmod ways).toNat, by rw [Int.toNat_of_nonneg a], by omega, rfl⟩
  walk_at "w"
  refine AS_dictN w1 (by simp [wk]) (d2 := wk (k + 1) N) rfl ?_
  walk_at "w"
  by_cases hlen : ((k + 1 : Nat) : Int) ≤ ((ns.map V.int).length : Nat)
  · have e1 : decide (((k + 1 : Nat) : Int) ≤ ((ns.map V.int).length : Nat)) = true := decide_eq_true hlen
    have hl' : k < ns.length := by simp at hlen; omega
    have ix : (0 : Int) ≤ ((k + 1 : Nat) : Int) - 1 ∧ ((k + 1 : Nat) : Int) - 1 < 1000000 ∧ (ns.map V.int)[(((k + 1 : Nat) : Int) - 1).toNat]? = some (.int ns[k]) := by
      refine ⟨by omega, by omega, ?_⟩
      rw [show (((k + 1 : Nat) : Int) - 1).toNat = k by omega]; simp [hl']
    walk_at "w"
    refine AB_mod_ii w0 ?_
    walk_at "w"
    exact fin _
  · have e1 : decide (((k + 1 : Nat) : Int) ≤ ((ns.map V.int).length : Nat)) = false := decide_eq_false hlen
    walk_at "w"
    refine AB_mul_ii (IntMulOk.of_right (by decide)) ?_
    walk_at "w"
    refine AB_div_ii (by decide) (by unfold Builtin.divisionGoesByPylong; rfl) ?_
    walk_at "w"
    refine AB_mod_ii w0 ?_
    walk_at "w"
    exact fin _
theorem c_drawn (ok : Ok c) {W N k : Nat} {ns : List Int} (h : Wk σ W N k ns) (hk : k ≤ 900) :
    CA c 5 "_law_drawn" [.obj W] σ fun z s => ∃ v : Vr, ∃ k', z = v.nd ∧ v.ok ∧ k' ≤ k + 3 ∧ s = σ.set W (.dict false (wk k' N)) := by
  refine CA_of ok r_law_drawn.2 ?_ ?_
  · intro vs hv pm code doc
    obtain ⟨v0, rfl⟩ := len1 hv
    rfl
  walk_at "w"
  refine CA.ex (c_move ok h 4 (by decide) (by decide) (by omega)) (by decide) ?_
  rintro _ _ ⟨way, rfl, hway, rfl⟩
  have h1 := h.set (k + 1)
  walk_at "w"
  refine CA.ex (c_move ok h1 3 (by decide) (by decide) (by omega)) (by decide) ?_
  rintro _ _ ⟨r, rfl, hr, rfl⟩
  have h2 := h1.set (k + 1 + 1)
  rw [List.set_set] at h2 ⊢
  have ix : 0 ≤ (r : Int) ∧ ([97, 98, 99] : List Nat)[(r : Int).toNat]? = some (97 + r) := by
    refine ⟨by omega, ?_⟩
    have : r = 0 ∨ r = 1 ∨ r = 2 := by omega
    rcases this with rfl | rfl | rfl <;> rfl
  have hn : abc (97 + r) := by show 97 ≤ 97 + r ∧ 97 + r ≤ 99; omega
  have hc : way = 1 ∨ way = 2 ∨ (way = 0 ∨ way = 3) := by omega
  rcases hc with rfl | rfl | hw3
  · walk_at "w"
    refine CA.ex (c_move ok h2 200 (by decide) (by decide) (by omega)) (by decide) ?_
    rintro _ _ ⟨j, rfl, hj, rfl⟩
    rw [List.set_set]
    walk_at "w"
    exact ⟨.elm (97 + r) j, k + 1 + 1 + 1, rfl, ⟨hn, hj⟩, by omega, rfl⟩
  · walk_at "w"
    exact ⟨.nam 64 (97 + r), k + 1 + 1, rfl, ⟨.inr rfl, hn⟩, by omega, rfl⟩
  · have e1 : decide ((way : Int) = 1) = false := decide_eq_false (by omega)
    have e2 : decide ((way : Int) = 2) = false := decide_eq_false (by omega)
    walk_at "w"
    exact ⟨.nam 36 (97 + r), k + 1 + 1, rfl, ⟨.inl rfl, hn⟩, by omega, rfl⟩
end
def dst (σ : List O) (W N k : Nat) (ps : List Pt) (g : List O) : List O := σ.set W (.dict false (wk k N)) ++ .list false (ps.map Pt.nd) :: g
section
variable {c : Cx} {σ : List O} {W N k : Nat} {ns : List Int}
theorem dst_wk (h : Wk σ W N k ns) (k' : Nat) (ps : List Pt) (g : List O) : Wk (dst σ W N k' ps g) W N k' ns := by
  have h' := h.set k'
  have ap : ∀ {n : Nat} {o : O}, (σ.set W (.dict false (wk k' N)))[n]? = some o → (dst σ W N k' ps g)[n]? = some o := fun e => by
    unfold dst
    rw [List.getElem?_append_left (List.getElem?_eq_some_iff.mp e).1]; exact e
  exact ⟨h'.b.app _, ap h'.w, ap h'.n, h'.len, h'.ne, h'.ge⟩
theorem dst_set (h : Wk σ W N k ns) (k' k2 : Nat) (ps : List Pt) (g : List O) : (dst σ W N k' ps g).set W (.dict false (wk k2 N)) = dst σ W N k2 ps g := by
  have hl := (List.getElem?_eq_some_iff.mp h.w).1
  unfold dst
  rw [List.set_append_left _ _ (by simpa using hl), List.set_set]
theorem dst_len (h : Wk σ W N k ns) (k' : Nat) (ps : List Pt) (g : List O) : (dst σ W N k' ps g).length = σ.length + 1 + g.length := by
  unfold dst; simp; omega
theorem dst_app (k' : Nat) (ps : List Pt) (g g2 : List O) : dst σ W N k' ps g ++ g2 = dst σ W N k' ps (g ++ g2) := by
  unfold dst; simp
theorem dst_at (k' : Nat) (ps : List Pt) (g : List O) : (dst σ W N k' ps g)[σ.length]? = some (.list false (ps.map Pt.nd)) := by
  unfold dst
  rw [List.getElem?_append_right (by simp)]; simp
theorem dst_put (k' : Nat) (ps ps' : List Pt) (g : List O) : (dst σ W N k' ps g).set σ.length (.list false (ps'.map Pt.nd)) = dst σ W N k' ps' g := by
  unfold dst
  rw [List.set_append_right _ _ (by simp)]; simp
theorem dst_old {n : Nat} {o : O} (e : σ[n]? = some o) (hn : n ≠ W) (k' : Nat) (ps : List Pt) (g : List O) : (dst σ W N k' ps g)[n]? = some o := by
  have hl := (List.getElem?_eq_some_iff.mp e).1
  unfold dst
  rw [List.getElem?_append_left (by simpa using hl), List.getElem?_set_ne (by omega)]; exact e
theorem dst_last (h : Wk σ W N k ns) (k' : Nat) (ps : List Pt) (g : List O) (o : O) : (dst σ W N k' ps (g ++ [o]))[σ.length + 1 + g.length]? = some o := by
  rw [← dst_app, ← dst_len h k' ps g]; simp
theorem dst_0 (h : Wk σ W N k ns) : σ ++ [.list false []] = dst σ W N k [] [] := by
  unfold dst
  have hl := (List.getElem?_eq_some_iff.mp h.w)
  obtain ⟨hl, e⟩ := hl
  rw [← e, List.set_getElem_self]; rfl
/-- a sign of the drawing -/
def SgOk (P : Bool) (x : List Nat) : Prop := x ≠ [] ∧ x.length ≤ 5 ∧ ∀ m ∈ x, m < 128 ∧ m ≠ 33 ∧ (P = true → m ≠ 92 ∧ m ≠ 36 ∧ m ≠ 64 ∧ m ≠ 91 ∧ m ≠ 123 ∧ m ≠ 45)
theorem sg_seems {x : List Nat} (h0 : x ≠ []) (h : ∀ m ∈ x, m ≠ 91 ∧ m ≠ 123 ∧ m ≠ 45) : seems x = false := by
  cases x with
  | nil => exact absurd rfl h0
  | cons a r =>
    cases hs : seems (a :: r) with
    | false => rfl
    | true => have := seems_head hs; have := h a List.mem_cons_self; omega
theorem sg_txt {P : Bool} {sg ys : List (List Nat)} (hs : ∀ x ∈ sg, SgOk P x) (hy : ∀ y ∈ ys, y ∈ sg) (h1 : 0 < ys.length) (h3 : ys.length ≤ 4) : (Pt.txt ys.flatten).ok P := by
  have hl : ∀ {zs : List (List Nat)}, (∀ y ∈ zs, y ∈ sg) → zs.flatten.length ≤ 5 * zs.length := by
    intro zs
    induction zs with
    | nil => simp
    | cons a l ih =>
      intro h
      have := ih fun y hy => h y (List.mem_cons_of_mem _ hy)
      have := (hs a (h a List.mem_cons_self)).2.1
      rw [List.flatten_cons, List.length_append, List.length_cons]; omega
  have hm : ∀ m ∈ ys.flatten, m < 128 ∧ m ≠ 33 ∧ (P = true → m ≠ 92 ∧ m ≠ 36 ∧ m ≠ 64 ∧ m ≠ 91 ∧ m ≠ 123 ∧ m ≠ 45) := by
    intro m hm
    obtain ⟨y, hy', hm⟩ := List.mem_flatten.mp hm
    exact (hs y (hy y hy')).2.2 m hm
  have hne : ys.flatten ≠ [] := by
    cases ys with
    | nil => simp at h1
    | cons a l =>
      have := (hs a (hy a List.mem_cons_self)).1
      simp [this]
  refine ⟨hne, by have := hl hy; omega, fun m h => ⟨(hm m h).1, (hm m h).2.1⟩, fun hP => ⟨fun m h => ?_, sg_seems hne fun m h => ?_⟩⟩
  · have := (hm m h).2.2 hP; omega
  · have := (hm m h).2.2 hP; omega
def EndV (ps : List Pt) : Prop := ∀ x, ps.getLast? ≠ some (.txt x)
theorem halt_v {ps : List Pt} (h : Halt ps) (v : Vr) : Halt (ps ++ [.va v]) := by
  intro i x y e1 e2
  have hl := (List.getElem?_eq_some_iff.mp e2).1
  simp at hl
  by_cases hi : i + 1 < ps.length
  · rw [List.getElem?_append_left (by omega)] at e1 e2
    exact h i x y e1 e2
  · rw [List.getElem?_append_right (by omega), show i + 1 - ps.length = 0 by omega] at e2
    simp at e2
theorem halt_t {ps : List Pt} (h : Halt ps) (he : EndV ps) (z : List Nat) : Halt (ps ++ [.txt z]) := by
  intro i x y e1 e2
  have hl := (List.getElem?_eq_some_iff.mp e2).1
  simp at hl
  by_cases hi : i + 1 < ps.length
  · rw [List.getElem?_append_left (by omega)] at e1 e2
    exact h i x y e1 e2
  · rw [List.getElem?_append_left (by omega)] at e1
    refine he x ?_
    rw [List.getLast?_eq_getElem?, show ps.length - 1 = i by omega]; exact e1
theorem endV_v (ps : List Pt) (v : Vr) : EndV (ps ++ [.va v]) := by
  intro x e; simp at e
structure Dr (P : Bool) (ps : List Pt) : Prop where
  ok : ∀ x ∈ ps, x.ok P
  halt : Halt ps
theorem Dr.v {P : Bool} {ps : List Pt} (h : Dr P ps) {v : Vr} (hv : v.ok) : Dr P (ps ++ [.va v]) :=
  ⟨fun x hx => by
    rcases List.mem_append.mp hx with hx | hx
    · exact h.ok x hx
    · rw [List.mem_singleton.mp hx]; exact hv, halt_v h.halt v⟩
theorem Dr.t {P : Bool} {ps : List Pt} (h : Dr P ps) (he : EndV ps) {z : List Nat} (hz : (Pt.txt z).ok P) : Dr P (ps ++ [.txt z]) :=
  ⟨fun x hx => by
    rcases List.mem_append.mp hx with hx | hx
    · exact h.ok x hx
    · rw [List.mem_singleton.mp hx]; exact hz, halt_t h.halt he z⟩

theorem rng_one (n : Nat) (h : n ≤ 1000) : Builtin.Range.rangeSize 0 (1 + (n : Int)) 1 = 1 + n ∧ Builtin.Range.small 0 (1 + (n : Int)) 1 = true ∧ Builtin.divisionGoesByPylong (1 + (n : Int) - 0) 1 = false := by
  have e : Builtin.Range.rangeSize 0 (1 + (n : Int)) 1 = 1 + n := by
    unfold Builtin.Range.rangeSize
    rw [if_pos (by decide), if_pos (by omega), Int.ediv_one]; omega
  refine ⟨e, ?_, by unfold Builtin.divisionGoesByPylong; rfl⟩
  unfold Builtin.Range.small Builtin.Range.rangeFitsLong; rw [e]; simp; omega
theorem join_ok {P : Bool} {sg ys : List (List Nat)} (hs : ∀ x ∈ sg, SgOk P x) (hy : ∀ y ∈ ys, y ∈ sg) (h3 : ys.length ≤ 4) : JoinOk (St []) (ys.map St) = true := by
  refine joinOk_of ?_
  have : ∀ {zs : List (List Nat)}, (∀ y ∈ zs, y ∈ sg) → ((zs.map St).map (·.length)).sum ≤ 5 * zs.length := by
    intro zs
    induction zs with
    | nil => simp
    | cons a l ih =>
      intro h
      have i1 := ih fun y hy => h y (List.mem_cons_of_mem _ hy)
      have i2 := (hs a (h a List.mem_cons_self)).2.1
      have i3 : (St a).length = a.length := by simp [Str.length]
      rw [List.map_cons, List.map_cons, List.sum_cons, List.length_cons, i3]; omega
  have h := this hy
  have e : (St []).length = 0 := rfl
  rw [e, Nat.mul_zero]; omega
theorem c_lparts (ok : Ok c) (h : Wk σ W N k ns) (hk : k ≤ 100) {P : Bool} {S : Nat} {fz : Bool} {sg : List (List Nat)} (hS : σ[S]? = some (.list fz (sg.map V.str))) (hSW : S ≠ W) (hsg : ∀ x ∈ sg, SgOk P x) (h0 : 0 < sg.length) (h1 : sg.length ≤ 100) :
    CA c 7 "_law_parts" [.obj W, .obj S] σ fun z s => ∃ ps k' g, z = .obj σ.length ∧ s = dst σ W N k' ps g ∧ Dr P ps ∧ ps.length ≤ 10 ∧ k' ≤ k + 100 := by
  refine CA_ofC ok r_law_parts.2 ?_ ?_
  · intro vs hv pm code doc
    obtain ⟨v0, v1, rfl⟩ := len2 hv
    rfl
  walk_at "w"
  rw [dst_0 h]
  have w0 := dst_wk h k [] []
  refine E1_for_range (by assumption) ?_
  walk_at "w"
  refine CA.ex (c_move ok w0 4 (by decide) (by decide) (by omega)) (by decide) ?_
  rintro _ _ ⟨r4, rfl, hr4, rfl⟩
  rw [dst_set h]
  walk_at "w"
  obtain ⟨z1, z2, z3⟩ := rng_one r4 (by omega)
  refine ⟨0, 1 + (r4 : Int), 1, rfl, by decide, z3, z2, fun j l s => ∃ k' ps g, l "walk" = some (.obj W) ∧ l "signs" = some (.obj S) ∧ l "parts" = some (.obj σ.length) ∧ s = dst σ W N k' ps g ∧ Dr P ps ∧ EndV ps ∧ ps.length ≤ 2 * j ∧ k' ≤ k + 1 + 10 * j,
    ⟨k + 1, [], [], rfl, rfl, rfl, rfl, ⟨fun x hx => (by cases hx), fun i x y e => (by simp at e)⟩, (fun x e => by simp at e), by simp, by omega⟩, ?_, ?_⟩
  · clear z2 z3
    rintro j l s hj ⟨k', ps, g, lw, ls, lp, rfl, hd, he, hl, hk'⟩
    rw [z1] at hj
    have w1 := dst_wk h k' ps g
    walk_at "w"
    refine CA.ex (c_move ok w1 3 (by decide) (by decide) (by omega)) (by decide) ?_
    rintro _ _ ⟨r3, rfl, hr3, rfl⟩
    rw [dst_set h]
    by_cases h0' : r3 = 0
    · subst h0'
      have w2 := dst_wk h (k' + 1) ps g
      have p0 := dst_at (σ := σ) (W := W) (N := N) (k' + 1) ps g
      walk_at "w"
      refine CA.ex (c_drawn ok w2 (by omega)) (by decide) ?_
      rintro _ _ ⟨v, k2, rfl, hv, hk2, rfl⟩
      rw [dst_set h]
      have p1 := dst_at (σ := σ) (W := W) (N := N) k2 ps g
      walk_at "w"
      refine AK_appendN p1 (by simp; omega) (zs := (ps ++ [Pt.va v]).map Pt.nd) (by simp [Pt.nd]) ?_
      rw [dst_put]
      walk_at "w"
      exact ⟨k2, ps ++ [Pt.va v], g, lw, ls, lp, rfl, hd.v hv, endV_v _ _, by simp; omega, by omega⟩
    · have e0 : decide ((r3 : Int) > 0) = true := decide_eq_true (by omega)
      have w2 := dst_wk h (k' + 1) ps g
      walk_at "w"
      refine ⟨GMt_join, ?_⟩
      walk_at "w"
      refine EV_comp_range (by assumption) ?_ ?_
      · walk_at "w"
        refine CA.ex (c_move ok w2 3 (by decide) (by decide) (by omega)) (by decide) ?_
        rintro _ _ ⟨q3, rfl, hq3, rfl⟩
        rw [dst_set h]
        walk_at "w"
        obtain ⟨y1, y2, y3⟩ := rng_one q3 (by omega)
        refine ⟨0, 1 + (q3 : Int), 1, rfl, by decide, y3, y2, by rw [y1]; omega, fun j ys s => ∃ k2, ∃ xs : List (List Nat), s = dst σ W N k2 ps g ∧ k2 ≤ k' + 2 + j ∧ ys = xs.map V.str ∧ xs.length = j ∧ ∀ x ∈ xs, x ∈ sg,
          ⟨k' + 1 + 1, [], rfl, by omega, rfl, rfl, fun x hx => (by cases hx)⟩, ?_, ?_⟩
        · clear y2 y3
          rintro i _ _ hi - - ⟨k2, xs, rfl, hk2, rfl, rfl, hx⟩
          rw [y1] at hi
          rw [dst_app]
          have w3 := dst_wk h k2 ps (g ++ [.list false (xs.map V.str)])
          have s3 := dst_old (N := N) hS hSW k2 ps (g ++ [.list false (xs.map V.str)])
          have hz : (sg.map V.str).length ≤ 1000000 := by simp; omega
          generalize hl' : upd (capt _ _ _) _ _ = l'
          have ls' : l' "signs" = some (.obj S) := by rw [← hl']; exact ls
          have lw' : l' "walk" = some (.obj W) := by rw [← hl']; exact lw
          clear hl'
          walk_at "w"
          refine CA.ex (c_move ok w3 (sg.map V.str).length (by simpa using h0) (by simp; omega) (by omega)) (by decide) ?_
          rintro _ _ ⟨r, rfl, hr, rfl⟩
          rw [dst_set h]
          have hr' : r < sg.length := by simpa using hr
          refine AX_list (dst_old (N := N) hS hSW (k2 + 1) ps (g ++ [.list false (xs.map V.str)])) (z := .str sg[r]) (by omega) (by omega) (by simp [hr']) ?_
          refine ⟨dst σ W N (k2 + 1) ps g, (dst_app _ _ _ _).symm, by rw [dst_len h, dst_len h], k2 + 1, xs ++ [sg[r]], rfl, by omega, by simp, by simp, fun x hx' => ?_⟩
          rcases List.mem_append.mp hx' with hx' | hx'
          · exact hx x hx'
          · rw [List.mem_singleton.mp hx']; exact List.getElem_mem hr'
        · clear y2 y3
          rintro _ _ - ⟨k2, xs, rfl, hk2, rfl, hl2, hx⟩
          rw [y1] at hl2 hk2
          rw [dst_app, dst_len h]
          have hx1 : 0 < xs.length := by omega
          have hx3 : xs.length ≤ 4 := by omega
          have ht := sg_txt hsg hx hx1 hx3
          have hfl := ht.2.1
          walk_at "w"
          refine AK_join (dst_last h k2 ps g _) (join_ok hsg hx hx3) (join_flat xs) (by rw [sizeLine_eq]; omega) ?_
          generalize g ++ [O.list false (xs.map V.str)] = g2
          have w4 := dst_wk h k2 (ps ++ [.txt xs.flatten]) g2
          have p1 := dst_at (σ := σ) (W := W) (N := N) k2 ps g2
          have p2 := dst_at (σ := σ) (W := W) (N := N) k2 (ps ++ [.txt xs.flatten]) g2
          walk_at "w"
          refine AK_appendN p1 (by simp; omega) (zs := (ps ++ [Pt.txt xs.flatten]).map Pt.nd) (by simp [Pt.nd]) ?_
          rw [dst_put]
          walk_at "w"
          refine CA.ex (c_drawn ok w4 (by omega)) (by decide) ?_
          rintro _ _ ⟨v, k3, rfl, hv, hk3, rfl⟩
          rw [dst_set h]
          have p3 := dst_at (σ := σ) (W := W) (N := N) k3 (ps ++ [.txt xs.flatten]) g2
          walk_at "w"
          refine AK_appendN p3 (by simp; omega) (zs := (ps ++ [Pt.txt xs.flatten] ++ [Pt.va v]).map Pt.nd) (by simp [Pt.nd]) ?_
          rw [dst_put]
          walk_at "w"
          exact ⟨k3, ps ++ [Pt.txt xs.flatten] ++ [Pt.va v], g2, lw, ls, lp, rfl, (hd.t he ht).v hv, endV_v _ _, by simp; omega, by omega⟩
      · intro y hy hf
        simp only [List.mem_cons, List.not_mem_nil, or_false] at hy
        rcases hy with rfl | rfl | rfl | rfl | rfl | rfl
        all_goals first
          | (exact absurd hf (by decide))
          | exact ⟨by show (l _).isSome = true; rw [ls]; rfl, by with_unfolding_all rfl⟩
          | exact ⟨by show (l _).isSome = true; rw [lw]; rfl, by with_unfolding_all rfl⟩
  · clear z2 z3
    rintro l s ⟨k', ps, g, lw, ls, lp, rfl, hd, he, hl, hk'⟩
    rw [z1] at hl hk'
    have w1 := dst_wk h k' ps g
    walk_at "w"
    refine CA.ex (c_move ok w1 3 (by decide) (by decide) (by omega)) (by decide) ?_
    rintro _ _ ⟨r3, rfl, hr3, rfl⟩
    rw [dst_set h]
    by_cases h1' : r3 = 1
    · subst h1'
      have w2 := dst_wk h (k' + 1) ps g
      have hz : (sg.map V.str).length ≤ 1000000 := by simp; omega
      have s3 := dst_old (N := N) hS hSW (k' + 1) ps g
      have p1 := dst_at (σ := σ) (W := W) (N := N) (k' + 1) ps g
      walk_at "w"
      refine CA.ex (c_move ok w2 (sg.map V.str).length (by simpa using h0) (by simp; omega) (by omega)) (by decide) ?_
      rintro _ _ ⟨r, rfl, hr, rfl⟩
      rw [dst_set h]
      have hr' : r < sg.length := by simpa using hr
      have ht := sg_txt (ys := [sg[r]]) hsg (fun y hy => by rw [List.mem_singleton.mp hy]; exact List.getElem_mem hr') (by simp) (by simp)
      have e1 : [sg[r]].flatten = sg[r] := by simp
      rw [e1] at ht
      refine AX_list (dst_old (N := N) hS hSW (k' + 1 + 1) ps g) (z := .str sg[r]) (by omega) (by omega) (by simp [hr']) ?_
      have p2 := dst_at (σ := σ) (W := W) (N := N) (k' + 1 + 1) ps g
      walk_at "w"
      refine AK_appendN p2 (by simp; omega) (zs := (ps ++ [Pt.txt sg[r]]).map Pt.nd) (by simp [Pt.nd]) ?_
      rw [dst_put]
      walk_at "w"
      exact ⟨ps ++ [Pt.txt sg[r]], k' + 1 + 1, g, rfl, rfl, hd.t he ht, by simp; omega, by omega⟩
    · have e1 : decide ((r3 : Int) = 1) = false := decide_eq_false (by omega)
      walk_at "w"
      exact ⟨ps, k' + 1, g, rfl, rfl, hd, by omega, by omega⟩
end
section
variable {c : Cx} {σ : List O}
theorem c_node (ok : Ok c) {P : Bool} {x : Pt} (h : x.ok P) : CA c 3 "_law_node" [(x.pc P).v] σ fun z s => z = x.nd ∧ s = σ := by
  cases x with
  | txt x =>
    simp only [Pt.pc, Pc.v, Pt.nd]
    refine CA_of ok r_law_node.2 ?_ ?_
    · intro vs hv pm code doc
      obtain ⟨v0, rfl⟩ := len1 hv
      rfl
    walk_at "w"
    exact ⟨rfl, rfl⟩
  | va v =>
    cases v with
    | nam s n =>
      simp only [Pt.pc, Pc.v, Pt.nd, Vr.nd]
      refine CA_of ok r_law_node.2 ?_ ?_
      · intro vs hv pm code doc
        obtain ⟨v0, rfl⟩ := len1 hv
        rfl
      have hn := h.2
      have s1 : slc (Vr.tx P (.nam s n)) (some 1) none = 123 :: ([n] ++ [125]) := slc_from (by decide)
      have st : Txt.stripChars (St (123 :: ([n] ++ [125]))) (St [123, 125]) = St [n] := strip_br (by simp; omega) (by simp)
      have s2 : slc [n] (some 1) none = [] := slc_from (by decide)
      have g0 : 0 ≤ (0 : Int) ∧ (Vr.tx P (.nam s n))[(0 : Int).toNat]? = some s := ⟨by decide, rfl⟩
      walk_at "w"
      exact ⟨rfl, rfl⟩
    | elm n k =>
      have hn := h.1
      have hd := (Vr.dg h).1
      have h2 := h.2
      have fin : ∀ (T : List Nat), slc T (some 1) none = 123 :: (n :: 91 :: (dec k ++ [93]) ++ [125]) ∨ slc T (some 1) none = n :: 91 :: (dec k ++ [93]) → CA c 3 "_law_node" [.tup [.str [101, 120, 112, 114], .str T]] σ fun z s => z = (Vr.elm n k).nd ∧ s = σ := by
        intro T hT
        simp only [Vr.nd]
        refine CA_of ok r_law_node.2 ?_ ?_
        · intro vs hv pm code doc
          obtain ⟨v0, rfl⟩ := len1 hv
          rfl
        obtain ⟨Y, s1, st⟩ : ∃ Y, slc T (some 1) none = Y ∧ Txt.stripChars (St Y) (St [123, 125]) = St (n :: 91 :: (dec k ++ [93])) := by
          have hall : ∀ a ∈ n :: 91 :: (dec k ++ [93]), a ∉ [123, 125] := by
            intro a ha
            simp only [List.mem_cons, List.mem_append, List.not_mem_nil, or_false] at ha ⊢
            rcases ha with rfl | rfl | ha | rfl
            · omega
            · omega
            · have := hd.2 a ha; omega
            · omega
          rcases hT with e | e
          · exact ⟨_, e, strip_br hall (by simp)⟩
          · exact ⟨_, e, strip_id hall⟩
        have s2 : slc (n :: 91 :: (dec k ++ [93])) (some 1) none = 91 :: (dec k ++ [93]) := slc_from (by decide)
        have s3 : slc (n :: 91 :: (dec k ++ [93])) (some 2) (some (-1)) = dec k := by
          rw [slc_neg (by decide) (by decide) (by simp; omega)]
          rw [show ((-1 : Int) + ((n :: 91 :: (dec k ++ [93])).length : Nat)).toNat - (2 : Int).toNat = (dec k).length by simp; omega]
          show (dec k ++ [93]).take _ = _
          simp
        have g0 : 0 ≤ (0 : Int) ∧ (n :: 91 :: (dec k ++ [93]))[(0 : Int).toNat]? = some n := ⟨by decide, rfl⟩
        clear hT h hd
        walk_at "w"
        refine AK_int (by omega) (by omega) ?_
        walk_at "w"
        exact ⟨rfl, rfl⟩
      simp only [Pt.pc, Pc.v, Pt.nd]
      refine fin _ ?_
      cases P with
      | false => exact .inr (slc_from (by decide))
      | true => refine .inl ((slc_from (by decide)).trans ?_); simp [Vr.tx]
end
section
variable {c : Cx} {σ : List O}
theorem c_read (ok : Ok c) (b : Base σ) {P : Bool} {ps : List Pt} (hd : Dr P ps) (hl : ps.length ≤ 10) (neg : Bool) {pre fl : List Nat} {sg a0 : Nat}
    (hp : (pre = [] ∧ a0 = 34 ∧ sg = 34 ∧ P = false) ∨ (pre = [113, 113] ∧ a0 = 113 ∧ P = false) ∨ (pre = [109] ∧ a0 = 109 ∧ P = true)) (hs : sg ∉ fl) (hf : fl.length ≤ 5) :
    CA c 17 "_law_read" [.str (hd' neg ++ (pre ++ sg :: (tl P false ps ++ sg :: fl)))] σ fun z s => z = .tup [.bool neg, .obj (σ.length + 3), .str fl] ∧ s = stOf σ (ps.map (Pt.pc P)) ++ [.list false (ps.map Pt.nd)] := by
  refine CA_of ok r_law_read.2 ?_ ?_
  · intro vs hv pm code doc
    obtain ⟨v0, rfl⟩ := len1 hv
    rfl
  have tlen := tl_len (P := P) (b := false) hd.ok
  generalize ht : tl P false ps = t at *
  have hT0 : (pre ++ sg :: (t ++ sg :: fl))[(0 : Int).toNat]? = some a0 := by
    rcases hp with ⟨rfl, rfl, rfl, _⟩ | ⟨rfl, rfl, _⟩ | ⟨rfl, rfl, _⟩ <;> rfl
  have hTs : (pre ++ sg :: (t ++ sg :: fl))[((pre.length : Int) + 1 - 1).toNat]? = some sg := by
    rw [show ((pre.length : Int) + 1 - 1).toNat = pre.length by omega, List.getElem?_append_right (Nat.le_refl _)]; simp
  have hE := last_at (t := pre ++ sg :: (t ++ sg :: fl)) (pre := pre ++ sg :: t) (post := fl) (s := sg) (by simp) hs
  have hlen : (pre ++ sg :: t).length = pre.length + 1 + t.length := by simp; omega
  rw [hlen] at hE
  have hpl : pre.length ≤ 2 := by rcases hp with ⟨rfl, _⟩ | ⟨rfl, _⟩ | ⟨rfl, _⟩ <;> decide
  have s3 : slc (pre ++ sg :: (t ++ sg :: fl)) (some (((pre.length + 1 + t.length : Nat) : Int) + 1)) none = fl := by
    rw [slc_from (by omega), show ((((pre.length + 1 + t.length : Nat) : Int) + 1).toNat) = (pre ++ sg :: t ++ [sg]).length by simp; omega]
    have : pre ++ sg :: (t ++ sg :: fl) = (pre ++ sg :: t ++ [sg]) ++ fl := by simp
    rw [this, List.drop_left]
  have s4 : slc (pre ++ sg :: (t ++ sg :: fl)) (some ((pre.length : Int) + 1)) (some ((pre.length + 1 + t.length : Nat) : Int)) = t := by
    rw [slc_pp (by omega) (by omega), show (((pre.length : Int) + 1).toNat) = (pre ++ [sg]).length by simp]
    have : pre ++ sg :: (t ++ sg :: fl) = (pre ++ [sg]) ++ (t ++ sg :: fl) := by simp
    rw [this, List.drop_left, show (((pre.length + 1 + t.length : Nat) : Int)).toNat - (pre ++ [sg]).length = t.length by rw [List.length_append]; simp; omega, List.take_left]
  have eP : decide (a0 = 109) = P := by rcases hp with ⟨_, rfl, _, rfl⟩ | ⟨_, rfl, rfl⟩ | ⟨_, rfl, rfl⟩ <;> rfl
  have hb : (if a0 = 34 then 1 else if a0 = 109 then 2 else 3 : Int) = (pre.length : Int) + 1 := by rcases hp with ⟨rfl, rfl, _⟩ | ⟨rfl, rfl, _⟩ | ⟨rfl, rfl, _⟩ <;> rfl
  have hTl : (pre ++ sg :: (t ++ sg :: fl)).length ≤ 600 := by simp; omega
  clear hp
  generalize hT : pre ++ sg :: (t ++ sg :: fl) = T at *
  have s1 : slc (hd' neg ++ T) none (some 6) = hd' neg := by rw [slc_to (by decide)]; cases neg <;> rfl
  have s2 : slc (hd' neg ++ T) (some 6) none = T := by rw [slc_from (by decide)]; cases neg <;> rfl
  have x3 : 0 ≤ (3 : Int) ∧ (hd' neg ++ T)[(3 : Int).toNat]? = some (if neg then 33 else 61) := ⟨by decide, by cases neg <;> rfl⟩
  have e3 : decide ((if neg then 33 else 61) = 33) = neg := by cases neg <;> rfl
  have e1 : (!(decide (hd' neg = [36, 116, 32, 61, 126, 32]) || decide (hd' neg = [36, 116, 32, 33, 126, 32]))) = false := by cases neg <;> rfl
  have g0 : 0 ≤ (0 : Int) ∧ T[(0 : Int).toNat]? = some a0 := ⟨by decide, hT0⟩
  have g1 : 0 ≤ ((pre.length : Int) + 1 - 1) ∧ T[((pre.length : Int) + 1 - 1).toNat]? = some sg := ⟨by omega, hTs⟩
  clear hT0 hTs
  generalize hx : hd' neg ++ T = X at *
  walk_at "w"
  refine E1_swp (ns := ["told", "flags"]) (fun env he => ?_) ?_
  · obtain ⟨⟩ := env
    dsimp only at he
    subst he
    with_unfolding_all rfl
  walk_at "w"
  refine ⟨_, rfl, rfl, ?_⟩
  walk_at "w1"
  walk_at "w1"
  walk_at "w1"
  refine EV.mono (R := fun x s => x = .int ((pre.length : Int) + 1) ∧ s = σ) ?_ ?_
  · rw [← hb]
    by_cases h34 : a0 = 34
    · rw [if_pos h34]
      have e34 : decide (a0 = 34) = true := decide_eq_true h34
      walk_at "w"
      exact ⟨rfl, rfl⟩
    · rw [if_neg h34]
      have e34 : decide (a0 = 34) = false := decide_eq_false h34
      by_cases h109 : a0 = 109
      · rw [if_pos h109]
        have e109 : decide (a0 = 109) = true := decide_eq_true h109
        walk_at "w"
        exact ⟨rfl, rfl⟩
      · rw [if_neg h109]
        have e109 : decide (a0 = 109) = false := decide_eq_false h109
        walk_at "w"
        exact ⟨rfl, rfl⟩
  rintro _ s' ⟨rfl, e⟩
  subst s'
  walk_at "w"
  refine ⟨GMt_rindex, ?_⟩
  walk_at "w"
  refine AK_rindex hE ?_
  walk_at "w"
  rw [eP, ← ht, ← flat_toks]
  have tk := toks_len (P := P) (b := false) hd.ok
  refine CA.use (c_parts ok b (toks_ok hd.ok) (by omega)) (by decide) ?_
  rw [reads_back hd.ok hd.halt]
  have hst : (stOf σ (ps.map (Pt.pc P)))[σ.length]? = some (.list false ((ps.map (Pt.pc P)).map Pc.v)) := (stOf_stk b _).q
  walk_at "w"
  rw [e3]
  refine EV_comp_list (by assumption) ?_ ?_
  · walk_at "w"
    refine ⟨σ.length, false, _, rfl, hst, by simp; omega, fun k ys s => s = stOf σ (ps.map (Pt.pc P)) ∧ ys = (ps.take k).map Pt.nd, ⟨rfl, by simp⟩, fun k ys s ⟨e, _⟩ => (by rw [e]; exact hst), ?_, ?_⟩
    · rintro k _ _ hk - - ⟨rfl, rfl⟩
      have hk' : k < ps.length := by simpa using hk
      have e : ((ps.map (Pt.pc P)).map Pc.v)[k] = (ps[k].pc P).v := by simp
      rw [e]
      walk_at "w"
      refine CA.use (c_node ok (hd.ok _ (List.getElem_mem hk'))) (by decide) ?_
      exact ⟨_, rfl, rfl, rfl, by rw [List.take_succ_eq_append_getElem hk', List.map_append]; rfl⟩
    · rintro _ _ - ⟨rfl, rfl⟩
      walk_at "w"
      have e1 : (stOf σ (ps.map (Pt.pc P))).length = σ.length + 3 := by simp [stOf]
      rw [e1, List.take_of_length_le (by simp)]
      exact ⟨rfl, rfl⟩
  · intro y hy hf
    simp only [List.mem_cons, List.not_mem_nil, or_false] at hy
    rcases hy with rfl | rfl | rfl
    all_goals exact absurd hf (by decide)
end
theorem app_get {σ : List O} (t : List O) {n : Nat} {o : O} (e : σ[n]? = some o) : (σ ++ t)[n]? = some o := by
  rw [List.getElem?_append_left (List.getElem?_eq_some_iff.mp e).1]; exact e
def lst1 : List (Str × V) := [("interp", .fn "list_interp"), ("match", .fn "list_match"), ("subst", .fn "list_subst"), ("trans", .fn "list_trans"), ("num", .fn "_law_listed")]
theorem set_last (σ : List O) (o o' : O) : (σ ++ [o]).set σ.length o' = σ ++ [o'] := by
  rw [List.set_append_right _ _ (Nat.le_refl _)]; simp
theorem Wk.app {σ : List O} {W N k : Nat} {ns : List Int} (h : Wk σ W N k ns) (t : List O) : Wk (σ ++ t) W N k ns :=
  ⟨h.b.app t, app_get t h.w, app_get t h.n, h.len, h.ne, h.ge⟩
theorem if_mono {c : Cx} {sc : Scope} {d : Nat} {l : Loc} {σ : List O} {b : Bool} {e1 e2 : Expr} {R R' : V → List O → Prop} (h : if b then EV c sc d e1 l σ R' else EV c sc d e2 l σ R') (k : ∀ x s, R' x s → R x s) : if b then EV c sc d e1 l σ R else EV c sc d e2 l σ R := by
  cases b
  · exact EV.mono h k
  · exact EV.mono h k
theorem sgs_ok : ∀ x ∈ sgs, SgOk false x := by
  unfold SgOk; decide
theorem sgi_ok : ∀ x ∈ ([[97, 98], [67], [32, 120]] : List (List Nat)), SgOk true x := by
  unfold SgOk; decide
theorem sh33 {P b : Bool} {x : Pt} (h : x.ok P) : 33 ∉ x.sh P b := by
  cases x with
  | txt x =>
    obtain ⟨_, _, h3, _⟩ := h
    have hx : 33 ∉ x := fun m => (h3 33 m).2 rfl
    have hg : 33 ∉ guard' x := by
      intro m
      unfold guard' at m
      obtain ⟨a, ha, hm⟩ := List.mem_flatMap.mp m
      split at hm
      · simp at hm; rw [hm] at hx; exact hx ha
      · simp at hm; rw [hm] at hx; exact hx ha
    show 33 ∉ gtext P b x
    unfold gtext
    split
    · exact hx
    · split
      · simp; exact hg
      · exact hg
  | va v =>
    cases v with
    | nam s n =>
      obtain ⟨h1, h2, h3⟩ := h
      show 33 ∉ [s, 123, n, 125]
      simp; omega
    | elm n k =>
      have hd := (Vr.dg h).1
      have hn := h.1
      have : 33 ∉ dec k := fun m => by have := hd.2 33 m; omega
      obtain ⟨h2, h3⟩ := hn
      cases P
      · show 33 ∉ 36 :: n :: 91 :: (dec k ++ [93])
        simp [this]; omega
      · show 33 ∉ 36 :: 123 :: n :: 91 :: (dec k ++ [93, 125])
        simp [this]; omega
theorem tl33 {P : Bool} : ∀ {l : List Pt} {b : Bool}, (∀ x ∈ l, x.ok P) → 33 ∉ tl P b l
  | [], _, _ => by simp [tl]
  | x :: l, b, h => by
    have h1 := sh33 (b := b) (h x List.mem_cons_self)
    have h2 := tl33 (l := l) (b := x.isV) fun y hy => h y (List.mem_cons_of_mem _ hy)
    simp only [tl, List.mem_append]
    exact fun m => m.elim h1 h2
theorem ok_st {x : List Nat} (h : ∀ m ∈ x, m < 1114112) : PyData.strOk (St x) = true := by
  unfold PyData.strOk
  rw [← Array.all_toList, List.all_eq_true]
  intro m hm
  exact decide_eq_true (h m hm)
theorem nd_lay {P : Bool} {x : Pt} (h : x.ok P) : flat x.nd = true ∧ PyData.canLay0 (dat x.nd) = true ∧ PyData.depth (dat x.nd) ≤ 2 := by
  cases x with
  | txt x =>
    have o1 := ok_st (x := x) fun m hm => by have := (h.2.2.1 m hm).1; omega
    have o2 := ok_st (x := [115, 116, 114]) (by decide)
    refine ⟨?_, ?_, ?_⟩
    · simp only [Pt.nd, flat, flats, Bool.and_self]
    · simp only [Pt.nd, dat, dats, PyData.canLay0, PyData.canLayAll0, o1, o2, Bool.and_self]
    · simp [Pt.nd, dat, dats, PyData.depth, PyData.depthAll]
  | va v =>
    cases v with
    | nam s n =>
      have h1 := h.1
      have hn := h.2
      have o1 := ok_st (x := [110, 97, 109, 101]) (by decide)
      have o2 := ok_st (x := [s]) (by simp; omega)
      have o3 := ok_st (x := [n]) (by obtain ⟨_, _⟩ := hn; simp; omega)
      refine ⟨?_, ?_, ?_⟩
      · simp only [Pt.nd, Vr.nd, flat, flats, Bool.and_self]
      · simp only [Pt.nd, Vr.nd, dat, dats, PyData.canLay0, PyData.canLayAll0, o1, o2, o3, Bool.and_self]
      · simp [Pt.nd, Vr.nd, dat, dats, PyData.depth, PyData.depthAll]
    | elm n k =>
      have hn := h.1
      have o1 := ok_st (x := [110, 97, 109, 101]) (by decide)
      have o2 := ok_st (x := [64]) (by decide)
      have o3 := ok_st (x := [n]) (by obtain ⟨_, _⟩ := hn; simp; omega)
      have o4 := ok_st (x := [101, 108, 101, 109]) (by decide)
      have o5 := ok_st (x := [110, 117, 109]) (by decide)
      refine ⟨?_, ?_, ?_⟩
      · simp only [Pt.nd, Vr.nd, flat, flats, Bool.and_self]
      · simp only [Pt.nd, Vr.nd, dat, dats, PyData.canLay0, PyData.canLayAll0, o1, o2, o3, o4, o5, Bool.and_self]
      · simp [Pt.nd, Vr.nd, dat, dats, PyData.depth, PyData.depthAll]
theorem nds_lay {P : Bool} : ∀ {l : List Pt}, (∀ x ∈ l, x.ok P) → flats (l.map Pt.nd) = true ∧ PyData.canLayAll0 (dats (l.map Pt.nd)) = true ∧ PyData.depthAll (dats (l.map Pt.nd)) ≤ 2
  | [], _ => ⟨by simp only [List.map_nil, flats], by simp only [List.map_nil, dats, PyData.canLayAll0], by simp [dats, PyData.depthAll]⟩
  | x :: l, h => by
    have ⟨a1, a2, a3⟩ := nd_lay (h x List.mem_cons_self)
    have ⟨b1, b2, b3⟩ := nds_lay (l := l) fun y hy => h y (List.mem_cons_of_mem _ hy)
    refine ⟨?_, ?_, ?_⟩
    · simp only [List.map_cons, flats, a1, b1, Bool.and_self]
    · simp only [List.map_cons, dats, PyData.canLayAll0, a2, b2, Bool.and_self]
    · simp only [List.map_cons, dats, PyData.depthAll]; omega
theorem c_match {c : Cx} {σ : List O} (ok : Ok c) {Ls N : Nat} (hL : σ[Ls]? = some (.dict false lst)) {P : Bool} {fl : List Nat} (hfl : (P = false ∧ fl = []) ∨ (P = true ∧ fl = [105])) {ps : List Pt} (hN : σ[N]? = some (.list false (ps.map Pt.nd))) (hd : Dr P ps) (hl : ps.length ≤ 10) (neg : Bool) :
    CA c 19 "list_match" [.obj Ls, mnode N fl neg] σ fun z s => ∃ pre, ∃ sg a0 : Nat, z = .tup [.str (hd' neg ++ (pre ++ sg :: (tl P false ps ++ sg :: fl))), .int 18] ∧ s = σ ∧ ((pre = [] ∧ a0 = 34 ∧ sg = 34 ∧ P = false) ∨ (pre = [113, 113] ∧ a0 = 113 ∧ P = false) ∨ (pre = [109] ∧ a0 = 109 ∧ P = true)) ∧ sg ∉ fl := by
  have h33 := tl33 (b := false) hd.ok
  rcases hfl with ⟨rfl, rfl⟩ | ⟨rfl, rfl⟩
  · refine CA.mono (c_match0 ok hL hN hd.ok hl hd.halt h33 neg) ?_
    rintro z s ⟨rfl, rfl⟩
    by_cases h : 34 ∈ tl false false ps
    · exact ⟨[113, 113], qs (tl false false ps), 113, by simp [told0, h], rfl, .inr (.inl ⟨rfl, rfl, rfl⟩), by simp⟩
    · exact ⟨[], 34, 34, by simp [told0, h], rfl, .inl ⟨rfl, rfl, rfl, rfl⟩, by simp⟩
  · refine CA.mono (c_matchi ok hL hN hd.ok hl hd.halt h33 neg) ?_
    rintro z s ⟨rfl, rfl⟩
    exact ⟨[109], qs (tl true false ps), 109, by simp [toldI], rfl, .inr (.inr ⟨rfl, rfl, rfl⟩), by unfold qs; split <;> decide⟩
def lst0 : List (Str × V) := [("interp", .fn "list_interp"), ("match", .fn "list_match"), ("subst", .fn "list_subst"), ("trans", .fn "list_trans")]
section
variable {c : Cx} {σ : List O}
theorem c_qlist (ok : Ok c) : CA c 3 "quote_listers" [] σ fun z s => z = .obj σ.length ∧ s = σ ++ [.dict false lst0] := by
  refine CA_of ok r_quote_listers.2 ?_ ?_
  · intro vs hv pm code doc
    obtain rfl := len0 hv
    rfl
  walk_at "w"
  refine EV_dict rfl (by simp) (by decide) ?_
  refine EVp_cons ?_
  walk_at "w"
  refine EVp_cons ?_
  walk_at "w"
  refine EVp_cons ?_
  refine EV_fn ok r_list_subst.2 ?_
  refine EVp_cons ?_
  refine EV_fn ok r_list_trans.2 ?_
  refine EVp_nil ?_
  walk_at "w"
  exact ⟨rfl, rfl⟩
theorem c_law (ok : Ok c) (b : Base σ) {N0 : Nat} {fz : Bool} {ns : List Int} (hN : σ[N0]? = some (.list fz (ns.map V.int))) (hn : ns.length ≤ 100) : CA c 21 "law" [.obj N0] σ fun z s => z = .bool true := by
  refine CA_of ok r_law.2 ?_ ?_
  · intro vs hv pm code doc
    obtain ⟨v0, rfl⟩ := len1 hv
    rfl
  walk_at "w"
  refine EV_dict rfl (by simp) (by decide) ?_
  refine EVp_cons ?_
  walk_at "w"
  refine EVp_cons ?_
  refine EV_ltake ?_
  walk_at "w"
  refine ⟨N0, fz, _, 60, rfl, hN, by simp; omega, rfl, ?_⟩
  refine EVp_nil ?_
  have w0 : Wk (σ ++ [.list false ((ns.map V.int).take 60)] ++ [O.dict false (mergeV [] [("step", .int 0), ("path", .obj σ.length)])]) (σ.length + 1) σ.length 0 (ns.take 60) := by
    refine ⟨(b.app _).app _, ?_, ?_, by rw [List.length_take]; omega, by omega, by have := b.len; omega⟩
    · rw [List.getElem?_append_right (by simp)]; simp; rfl
    · refine app_get _ ?_
      rw [List.getElem?_append_right (Nat.le_refl _), List.map_take]; simp
  have hlen : (σ ++ [O.list false ((ns.map V.int).take 60)]).length = σ.length + 1 := by simp
  rw [hlen]
  have hlen2 : (σ ++ [O.list false ((ns.map V.int).take 60)] ++ [O.dict false (mergeV [] [("step", .int 0), ("path", .obj σ.length)])]).length = σ.length + 2 := by simp
  generalize σ ++ [O.list false ((ns.map V.int).take 60)] ++ [O.dict false (mergeV [] [("step", .int 0), ("path", .obj σ.length)])] = σ1 at *
  clear hlen hN
  have w1 := w0.app [.list false [.str [], .str [], .str [105]]]
  have hL : ((σ1 ++ [O.list false [.str [], .str [], .str [105]]]).set (σ.length + 1) (.dict false (wk 1 σ.length)))[σ1.length]? = some (.list false [.str [], .str [], .str [105]]) := by
    rw [List.getElem?_set_ne (by omega)]; simp
  walk_at "w"
  refine CA.ex (c_move ok w1 3 (by decide) (by decide) (by decide)) (by decide) ?_
  rintro _ _ ⟨r, rfl, hr, rfl⟩
  obtain ⟨P, fl, hr', hfl⟩ : ∃ P fl, ([.str [], .str [], .str [105]] : List V)[((r : Nat) : Int).toNat]? = some (.str fl) ∧ ((P = false ∧ fl = []) ∨ (P = true ∧ fl = [105])) := by
    have : r = 0 ∨ r = 1 ∨ r = 2 := by omega
    rcases this with rfl | rfl | rfl
    · exact ⟨false, [], rfl, .inl ⟨rfl, rfl⟩⟩
    · exact ⟨false, [], rfl, .inl ⟨rfl, rfl⟩⟩
    · exact ⟨true, [105], rfl, .inr ⟨rfl, rfl⟩⟩
  have w2 := w1.set 1
  refine AX_list hL (by omega) (by omega) hr' ?_
  generalize (σ1 ++ [O.list false [.str [], .str [], .str [105]]]).set (σ.length + 1) (.dict false (wk 1 σ.length)) = σ2 at *
  clear hL w0 w1 hlen2 hr' hr
  have hb3 := b.len
  generalize σ.length + 1 = W at *
  generalize σ.length = N at *
  walk_at "w"
  refine if_mono (R' := fun x s => ∃ S fz, ∃ sg : List (List Nat), x = .obj S ∧ Wk s W N 1 (ns.take 60) ∧ s[S]? = some (.list fz (sg.map V.str)) ∧ S ≠ W ∧ (∀ x ∈ sg, SgOk P x) ∧ 0 < sg.length ∧ sg.length ≤ 100) ?_ ?_
  · have hW := (List.getElem?_eq_some_iff.mp w2.w).1
    rcases hfl with ⟨rfl, rfl⟩ | ⟨rfl, rfl⟩
    · walk_at "w"
      exact ⟨0, true, sgs, rfl, w2, w2.b.sg, by have := w2.ge; omega, sgs_ok, by decide, by decide⟩
    · walk_at "w"
      exact ⟨σ2.length, false, [[97, 98], [67], [32, 120]], rfl, w2.app _, by simp, by omega, sgi_ok, by decide, by decide⟩
  rintro _ s3 ⟨S, fz, sg, rfl, w3, hS, hSW, hsg, h0, h1⟩
  walk_at "w"
  refine CA.ex (c_lparts ok w3 (by decide) hS hSW hsg h0 h1) (by decide) ?_
  rintro _ _ ⟨ps, k', g, rfl, rfl, hd, hl, hk'⟩
  have w4 := dst_wk w3 k' ps g
  walk_at "w"
  refine CA.ex (c_move ok w4 2 (by decide) (by decide) (by omega)) (by decide) ?_
  rintro _ _ ⟨rn, rfl, hrn, rfl⟩
  rw [dst_set w3]
  have p1 := dst_at (σ := s3) (W := W) (N := N) (k' + 1) ps g
  have b5 := (dst_wk w3 (k' + 1) ps g).b
  generalize dst s3 W N (k' + 1) ps g = s5 at *
  walk_at "w"
  refine CA.use (c_qlist ok) (by decide) ?_
  generalize decide ((rn : Int) = 1) = neg
  have l0 : (s5 ++ [O.dict false lst0])[s5.length]? = some (.dict false lst0) := by simp
  have l1 : (s5 ++ [O.dict false lst1])[s5.length]? = some (.dict false lst1) := by simp
  have l2 : (s5 ++ [O.dict false lst])[s5.length]? = some (.dict false lst) := by simp
  walk_at "w"
  refine AS_dictN l0 (by simp [lst0]) (d2 := lst1) rfl ?_
  rw [set_last]
  walk_at "w"
  refine AS_dictN l1 (by simp [lst1]) (d2 := lst) rfl ?_
  rw [set_last]
  walk_at "w"
  have p2 := app_get [O.dict false lst] p1
  refine CA.ex (c_match ok l2 hfl p2 hd hl neg) (by decide) ?_
  rintro _ _ ⟨pre, sg', a0, rfl, rfl, hp, hs'⟩
  have hf5 : fl.length ≤ 5 := by rcases hfl with ⟨_, rfl⟩ | ⟨_, rfl⟩ <;> decide
  have hfs : PyData.strOk (St fl) = true := ok_st (by rcases hfl with ⟨_, rfl⟩ | ⟨_, rfl⟩ <;> decide)
  walk_at "w"
  refine CA.use (c_read ok (b5.app _) hd hl neg hp hs' hf5) (by decide) ?_
  have ⟨y1, y2, y3⟩ := nds_lay hd.ok
  have q2 : (stOf (s5 ++ [O.dict false lst]) (ps.map (Pt.pc P)) ++ [O.list false (ps.map Pt.nd)])[s3.length]? = some (.list false (ps.map Pt.nd)) := by
    refine app_get _ ?_
    unfold stOf
    exact app_get _ p2
  have q1 : (stOf (s5 ++ [O.dict false lst]) (ps.map (Pt.pc P)) ++ [O.list false (ps.map Pt.nd)])[(s5 ++ [O.dict false lst]).length + 3]? = some (.list false (ps.map Pt.nd)) := by
    have e : (stOf (s5 ++ [O.dict false lst]) (ps.map (Pt.pc P))).length = (s5 ++ [O.dict false lst]).length + 3 := by simp [stOf]
    rw [← e]; simp
  walk_at "w"
  refine AC_eq_res q1 q2 y1 y2 (by omega) hfs ?_
  walk_at "w"
  rfl
end
def strsIn : List Value → List (List Nat) → Bool
  | [], [] => true
  | .str s _ :: r, x :: l => decide (s.cps.toList = x) && strsIn r l
  | _, _ => false
theorem vr_strs {c : Cx} {ρ : List Addr} {h : Heap} : ∀ {ls : List (List Nat)} {vs : List Value}, strsIn vs ls = true → (∀ x ∈ ls, x.length ≤ 1000) → VRs c ρ h (ls.map V.str) vs
  | [], [], _, _ => by simp only [List.map_nil]; unfold VRs; rfl
  | [], _ :: _, e, _ => by simp [strsIn] at e
  | _ :: _, [], e, _ => by simp [strsIn] at e
  | x :: l, v :: r, e, hz => by
    cases v <;> simp only [strsIn] at e <;> try cases e
    rename_i s t
    rw [Bool.and_eq_true, decide_eq_true_eq] at e
    simp only [List.map_cons]; unfold VRs
    refine ⟨_, r, rfl, ?_, vr_strs e.2 fun y hy => hz y (List.mem_cons_of_mem _ hy)⟩
    unfold VR
    refine ⟨by have := hz x List.mem_cons_self; rw [sizeLine_eq]; omega, t, ?_⟩
    rw [← e.1]
def pairsIn : List DictEntry → List (Str × List Nat) → Bool
  | [], [] => true
  | e :: es, (k, x) :: r => e.key.isStr k && strsIn [e.val] [x] && pairsIn es r
  | _, _ => false
def asV (dd : List (Str × List Nat)) : List (Str × V) := dd.map fun p => (p.1, .str p.2)
theorem pairs_of {w : World} {c : Cx} {ρ : List Addr} {h : Heap} : ∀ {dd : List (Str × List Nat)} {es : List DictEntry}, pairsIn es dd = true → (∀ x ∈ dd, x.2.length ≤ 1000) →
    ∃ kvs, Pairs (strKind P w) es kvs ∧ kvs.map (·.1) = (asV dd).map (·.1) ∧ VRs c ρ h ((asV dd).map (·.2)) (kvs.map (·.2))
  | [], [], _, _ => ⟨[], .nil, rfl, by simp only [asV, List.map_nil]; unfold VRs; rfl⟩
  | [], _ :: _, e, _ => by simp [pairsIn] at e
  | _ :: _, [], e, _ => by simp [pairsIn] at e
  | (k, x) :: l, en :: r, e, hz => by
    simp only [pairsIn, Bool.and_eq_true] at e
    obtain ⟨kvs, h1, h2, h3⟩ := pairs_of (w := w) (c := c) (ρ := ρ) (h := h) e.2 fun y hy => hz y (List.mem_cons_of_mem _ hy)
    have hv := vr_strs (c := c) (ρ := ρ) (h := h) e.1.2 (by simpa using hz _ List.mem_cons_self)
    simp only [List.map_cons, List.map_nil] at hv
    unfold VRs at hv
    obtain ⟨v, r', e1, e2, _⟩ := hv
    simp only [List.cons.injEq] at e1
    refine ⟨(k, en.val) :: kvs, .cons ?_ rfl h1, ?_, ?_⟩
    · show Value.isStrOf k en.key = true
      rw [← isStr_of]; exact e.1.1
    · simp only [asV, List.map_cons] at h2 ⊢; rw [h2]
    · simp only [asV, List.map_cons] at h3 ⊢; unfold VRs
      exact ⟨en.val, _, rfl, by rw [e1.1]; exact e2, h3⟩
theorem dict_of {w : World} {K : Frag} {h : Heap} {a : Addr} {es : Array DictEntry} {n : Nat} {c : Cx} (cw : c.w = w) {ρ : List Addr} {dd : List (Str × List Nat)} (X : K.In h) (hl : K.lookup a = some ⟨.type "dict", none, .dict es n, #[]⟩) (hk : KeysLit w.params es.toList)
    (hp : pairsIn es.toList dd = true) (hz : ∀ x ∈ dd, x.2.length ≤ 1000) (hnd : (dd.map (·.1)).Nodup) : OAt c ρ h a (.dict true (asV dd)) := by
  subst cw
  obtain ⟨kvs, h1, h2, h3⟩ := pairs_of (w := c.w) (c := c) (ρ := ρ) (h := h) hp hz
  obtain ⟨o, es', n', m1, m2, m3, m4, _⟩ := mapOf_K (prog := P) X hl hk
  have hg := X _ _ hl
  refine ⟨fun e => (by cases e), kvs, ⟨_, es, n, hg, ⟨rfl, rfl, rfl⟩, rfl, ?_, h1, ?_⟩, h2, h3⟩
  · rw [hg] at m1; cases m1; cases m3; exact m4
  · rw [h2]
    have : (asV dd).map (·.1) = dd.map (·.1) := by simp [asV]
    rw [this]; exact hnd
theorem list_of {K : Frag} {h : Heap} {a : Addr} {vs : Array Value} {n : Nat} {c : Cx} {ρ : List Addr} {ls : List (List Nat)} (X : K.In h) (hl : K.lookup a = some ⟨.type "list", none, .seq vs n, #[]⟩) (hs : strsIn vs.toList ls = true) (hz : ∀ x ∈ ls, x.length ≤ 1000) : OAt c ρ h a (.list true (ls.map V.str)) :=
  ⟨fun e => (by cases e), _, n, vs.toList, X _ _ hl, rfl, rfl, rfl, vr_strs hs hz⟩
def escs' : List (Str × List Nat) := [("n", [10]), ("t", [9]), ("r", [13]), ("f", [12]), ("b", [8]), ("a", [7]), ("e", [27])]
def clos' : List (Str × List Nat) := [("(", [41]), ("[", [93]), ("{", [125]), ("<", [62])]
theorem vr_ints {c : Cx} {ρ : List Addr} {h : Heap} {vs : List Value} {ns : List Int} (e : IntsAre vs ns) : VRs c ρ h (ns.map V.int) vs := by
  induction e with
  | nil => simp only [List.map_nil]; unfold VRs; rfl
  | cons i t _ ih => simp only [List.map_cons]; unfold VRs; exact ⟨_, _, rfl, by unfold VR; exact ⟨t, rfl⟩, ih⟩
theorem list_at {Pm : Params} {h : Heap} {a : Addr} {vN : List Value} {xs : List PyData} (hL : h.IsList a vN.toArray) (W : Well Pm h (.ref a) (ofPy (.list xs))) : h.get? a = some { cls := .type "list", data := .seq vN.toArray } := by
  obtain ⟨o, h1, _, n, h2⟩ := hL
  cases W with
  | list hg _ =>
    rw [hg] at h1; cases h1
    cases h2; exact hg
theorem good {cl : Str → Option Addr} {mean : ExcName → Option Value} {args : List WData} {s₁ : Shared} {h' : Heap} {tk : Nat} (hg : s₁.gens = #[]) (k : ∀ b o, s₁.heap.get? b = some o → h'.get? b = some o) :
    GoodWG PySem.Challenge.rw_qz0111_01.row.toRowW.claim cl mean args s₁ (.ok (.ret (.bool true))) { s₁ with heap := h', toks := tk } := by
  refine ⟨.inl ⟨.bool true, .bool true, [], rfl, fun _ => rfl, .bool true, ?_, fun _ => ⟨List.nodup_nil, fun a m => (by cases m)⟩⟩, .of_keep k, rfl, .of_eq hg⟩
  wrow_post
def vnames (p : Program) : List Str := (valNames p).filter fun x => x != "__name__"
theorem fin {q : Program} {loose : List Str} {XP : (Str → Option Value) → Heap → Prop} {w : World} {s₀ s₁ : Shared} {mg mb : Str → Option Value} {K : Frag} (G : Ground q loose [] XP w s₀ mg mb s₁.heap) (X : K.In s₁.heap)
    (hrec : recsOf q = recs.1) (hv : (vnames P).map (valOf q) = (vnames P).map (valOf P)) {nm : Str} {nt : Tok} (hnv : valOf P "__name__" = some (.str nm)) (hnm : nsIn K mainGlobals "__name__" = some (some (.str nm nt))) (free : ∀ x ∈ (["len", "range", "str", "int"] : List Str), nsIn K mainGlobals x = some none)
    {aS aE aC : Addr} {vS : Array Value} {nS nE nC : Nat} {eE eC : Array DictEntry} (hS : nsIn K mainGlobals "_law_signs" = some (some (.ref aS))) (hE : nsIn K mainGlobals "SHORT_ESCAPES" = some (some (.ref aE))) (hC : nsIn K mainGlobals "CLOSERS" = some (some (.ref aC)))
    (lS : K.lookup aS = some ⟨.type "list", none, .seq vS nS, #[]⟩) (lE : K.lookup aE = some ⟨.type "dict", none, .dict eE nE, #[]⟩) (lC : K.lookup aC = some ⟨.type "dict", none, .dict eC nC, #[]⟩)
    (kE : KeysLit w.params eE.toList) (kC : KeysLit w.params eC.toList) (pS : strsIn vS.toList sgs = true) (pE : pairsIn eE.toList escs' = true) (pC : pairsIn eC.toList clos' = true) (nd : [aS, aE, aC].Nodup) (sys : ∀ a ∈ [aS, aE, aC], (a == sysModules) = false)
    {fa : Addr} (hf : mg "law" = some (.ref fa)) {aN : Addr} {vN : List Value} {ns : List Int} (hN : s₁.heap.get? aN = some { cls := .type "list", data := .seq vN.toArray }) (hI : IntsAre vN ns) (hn : ns.length ≤ 100)
    {Q : Value → Shared → Prop} {E : Value → Shared → Prop} (fin : ∀ h' tk, (∀ b o, s₁.heap.get? b = some o → h'.get? b = some o) → Q (.bool true) { s₁ with heap := h', toks := tk }) :
    wpAny (model P w) callerA (call (.ref fa) [.ref aN]) Q E s₁ := by
  have T := G.T
  let c : Cx := ⟨w, s₁.heap, mg, mb, [aS, aE, aC]⟩
  have ok : Ok c := by
    refine ⟨T.g, T.b, T.nolimit, ?_, T.builtins, ?_, fun x hx => mg_none_of X T.g (free x hx), ?_, ?_, sys⟩
    · exact T.nodigits
    · intro x d hd
      have hm := List.mem_of_find?_eq_some hd
      have hx : d.name = x := by simpa using List.find?_some hd
      rw [show recsOf P = recs.1 from recs.2, ← hrec] at hm
      obtain ⟨a, o, pm, code, doc, h1, h2, h3, h4⟩ := T.fn d hm
      exact ⟨a, o, pm, code, doc, by rw [← hx]; exact h1, h2, h3, h4⟩
    · intro x d hd
      by_cases hx : x = "__name__"
      · subst hx
        rw [hnv] at hd; cases hd
        exact ⟨_, mg_of X T.g hnm, fun h' => .str nm nt⟩
      · exact T.const x d ((List.map_inj_left.mp hv x (List.mem_filter.mpr ⟨valOf_name hd, by simpa using hx⟩)).trans hd)
    · intro x n hx
      unfold otab at hx
      split at hx
      · rename_i e; cases hx; rw [beq_iff_eq.mp e]; exact ⟨aS, rfl, mg_of X T.g hS⟩
      split at hx
      · rename_i e; cases hx; rw [beq_iff_eq.mp e]; exact ⟨aE, rfl, mg_of X T.g hE⟩
      split at hx
      · rename_i e; cases hx; rw [beq_iff_eq.mp e]; exact ⟨aC, rfl, mg_of X T.g hC⟩
      · cases hx
  have nS' : aN ≠ aS := by
    intro e
    have := X _ _ lS
    rw [← e, hN] at this
    simp only [Option.some.injEq, Obj.mk.injEq, Data.seq.injEq] at this
    have hv : vS.toList = vN := by rw [← this.2.2.1.1]
    rw [hv] at pS
    cases hI with
    | nil => simp [strsIn, sgs] at pS
    | cons i t _ => simp [strsIn, sgs] at pS
  have nE' : aN ≠ aE := by
    intro e
    have := X _ _ lE
    rw [← e, hN] at this
    simp at this
  have nC' : aN ≠ aC := by
    intro e
    have := X _ _ lC
    rw [← e, hN] at this
    simp at this
  have st : SAt c [aS, aE, aC, aN] [.list true (sgs.map V.str), .dict true escs, .dict true clos, .list true (ns.map V.int)] s₁.heap := by
    refine ⟨rfl, ?_, ?_⟩
    · simp only [List.nodup_cons, List.mem_cons, List.not_mem_nil, or_false, not_or, List.nodup_nil, and_true, not_false_eq_true] at nd ⊢
      exact ⟨⟨nd.1.1, nd.1.2, fun e => nS' e.symm⟩, ⟨nd.2, fun e => nE' e.symm⟩, fun e => nC' e.symm⟩
    · intro i a o h1 h2
      match i with
      | 0 => simp at h1 h2; subst h1; subst h2; exact list_of X lS pS (by decide)
      | 1 => simp at h1 h2; subst h1; subst h2; exact dict_of (dd := escs') rfl X lE kE pE (by decide) (by decide)
      | 2 => simp at h1 h2; subst h1; subst h2; exact dict_of (dd := clos') rfl X lC kC pC (by decide) (by decide)
      | 3 => simp at h1 h2; subst h1; subst h2; exact ⟨fun e => (by cases e), _, 0, vN, hN, rfl, rfl, rfl, vr_ints hI⟩
      | n + 4 => simp at h1
  have glo : Glo c [aS, aE, aC, aN] [.list true (sgs.map V.str), .dict true escs, .dict true clos, .list true (ns.map V.int)] s₁.heap := ⟨fun _ _ e => e, ⟨[aN], rfl⟩, st⟩
  have b : Base [.list true (sgs.map V.str), .dict true escs, .dict true clos, .list true (ns.map V.int)] := ⟨rfl, rfl, rfl⟩
  refine c_law ok b (N0 := 3) (fz := true) (ns := ns) rfl hn (A := callerA) (s := s₁) ⟨by decide, by decide, rfl⟩ hf glo (vs := [.ref aN]) ?_ ?_
  · unfold VRs; exact ⟨_, [], rfl, by unfold VR; exact ⟨aN, rfl, rfl⟩, by unfold VRs; rfl⟩
  · rintro x v h' tk ρ' σ' rfl g _ hv
    unfold VR at hv
    subst hv
    exact fin h' tk g.base
-- the head
set_option maxHeartbeats 8000000
set_option Elab.async true
def hd.tw4359177667983424707 : Unit := ()
def hd.tw1798425829259240090 : Unit := ()
def hd.tw7540741092611519060 : Unit := ()
def hd.tw3973766799837268725 : Unit := ()
def hd.tw5054737718236178183 : Unit := ()
def hd.tw12583169130044498743 : Unit := ()
def hd.tw6041868581591045557 : Unit := ()
def hd.tw212345690472687942 : Unit := ()
def hd.tw16021584376213005207 : Unit := ()
def hd.tw10360471539772378328 : Unit := ()
def hd.tw2608437505485318709 : Unit := ()
def hd.tw18219297243305740317 : Unit := ()
def hd.tw3433487150053990675 : Unit := ()
def hd.tw10727248033764811480 : Unit := ()
def hd.tw26425463804135960 : Unit := ()
def hd.tw13216502889790277061 : Unit := ()
def hd.tw11435306503888081074 : Unit := ()
def hd.tw12374041931403950375 : Unit := ()
def hd.tw15657480282248853141 : Unit := ()
def hd.tw18402139038575964673 : Unit := ()
def hd.tw5002733208593748779 : Unit := ()
def hd.tw2380272775587480882 : Unit := ()
def hd.tw18213853141812975785 : Unit := ()
def hd.tw6578402527460240241 : Unit := ()
def hd.tw12575139184659369484 : Unit := ()
def hd.tw4086058157674990017 : Unit := ()
def hd.tw2114630138375439770 : Unit := ()
def hd.tw922143313871775805 : Unit := ()
def hd.tw6438293893037913957 : Unit := ()
def hd.tw13321331477185743149 : Unit := ()
def hd.tw11319892378374348655 : Unit := ()
def hd.tw12602439190401603521 : Unit := ()
def hd.tw8587404781116728655 : Unit := ()
def hd.tw8117029840178788049 : Unit := ()
def hd.tw6882427118574961969 : Unit := ()
def hd.tw14745743045033390146 : Unit := ()
def hd.tw4383666589626881386 : Unit := ()
def hd.tw14060154772996877548 : Unit := ()
def hd.tw12058812876911547015 : Unit := ()
def hd.tw17606422857730326317 : Unit := ()
def hd.tw15213948185873263833 : Unit := ()
def hd.tw11652457597714270106 : Unit := ()
def hd.tw7676003278276379012 : Unit := ()
def hd.tw17901334829092211166 : Unit := ()
def hd.tw15683763237869141255 : Unit := ()
def hd.tw5366084841770067474 : Unit := ()
def hd.tw6683769817339685419 : Unit := ()
def hd.tw16011055738799735888 : Unit := ()
def hd.tw17183224562656869120 : Unit := ()
def hd.tw5635641802508607975 : Unit := ()
def hd.tw10216474801634566288 : Unit := ()
def hd.tw13783031573616600631 : Unit := ()
def hd.tw15367242080415987702 : Unit := ()
def hd.tw16477043939570097188 : Unit := ()
def hd.tw7519716089354478335 : Unit := ()
def hd.tw1409312971732116557 : Unit := ()
def hd.tw978945382295711627 : Unit := ()
def hd.tw15833661619300960221 : Unit := ()
def hd.tw8990313861142287110 : Unit := ()
def hd.tw5174551420813472067 : Unit := ()
def hd.tw395138700845864316 : Unit := ()
def hd.tw6529707622633924500 : Unit := ()
def hd.tw16828841361933241965 : Unit := ()
def hd.tw758273949599710562 : Unit := ()
def hd.tw5343241284826551009 : Unit := ()
def hd.tw3109861748172591687 : Unit := ()
def hd.tw16171809288044610508 : Unit := ()
def hd.tw2216850387143573719 : Unit := ()
def hd.tw16211521421427940678 : Unit := ()
def hd.tw12023040214023829324 : Unit := ()
def hd.tw11631947586910100387 : Unit := ()
def hd.tw15166520500009309586 : Unit := ()
def hd.tw1506431575118746342 : Unit := ()
def hd.tw3442329435671937591 : Unit := ()
def hd.tw10743916045514856203 : Unit := ()
def hd.tw8960069828448710407 : Unit := ()
def hd.tw11210553801493137410 : Unit := ()
def hd.tw12070654863422294720 : Unit := ()
def hd.tw1800889605409440832 : Unit := ()
def hd.tw11213053971927718326 : Unit := ()
def hd.tw6394381022753523788 : Unit := ()
def hd.tw10424393626065333798 : Unit := ()
def hd.tw10603584201595350602 : Unit := ()
def hd.tw701787995468756871 : Unit := ()
def hd.tw17491280204586788870 : Unit := ()
def hd.tw4851647983119433812 : Unit := ()
def hd.tw9228397985900620932 : Unit := ()
def hd.tw13368278939475635651 : Unit := ()
def hd.tw3452082135128663414 : Unit := ()
def hd.tw13483081372092288885 : Unit := ()
def hd.tw9557236495431379559 : Unit := ()
def hd.tw2329189449893159454 : Unit := ()
def hd.tw5716766192118558609 : Unit := ()
def hd.tw15837987909243819085 : Unit := ()
def hd.tw4343815846532229135 : Unit := ()
def hd.tw15615420239508185596 : Unit := ()
def hd.tw9783614193127449063 : Unit := ()
def hd.tw442638132926106271 : Unit := ()
def hd.tw4172343393113369950 : Unit := ()
def hd.tw728884934406724761 : Unit := ()
def hd.tw13372043803930879067 : Unit := ()
def hd.tw8134915037123179040 : Unit := ()
def hd.tw13638418597567726942 : Unit := ()
def hd.tw15220180469806662145 : Unit := ()
def hd.tw3443669649825651883 : Unit := ()
def hd.tw2391449824757734642 : Unit := ()
def hd.tw9741134391959003819 : Unit := ()
def hd.tw14478148883734587675 : Unit := ()
def hd.tw1194904439430580092 : Unit := ()
def hd.tw13289513938125300765 : Unit := ()
def hd.tw7880807054014371918 : Unit := ()
def hd.tw226724450230711188 : Unit := ()
def hd.tw3919010098100093602 : Unit := ()
def hd.tw7494724483528729301 : Unit := ()
def hd.tw16713699803418581334 : Unit := ()
def hd.tw18093812233618175256 : Unit := ()
def hd.tw11801993109049149486 : Unit := ()
def hd.tw14176624398918483544 : Unit := ()
def hd.tw12487502673411948298 : Unit := ()
def hd.tw4377701919642642989 : Unit := ()
def hd.tw17234923516513369237 : Unit := ()
def hd.tw9427301549700849589 : Unit := ()
def hd.tw2788664435532181463 : Unit := ()
def hd.tw17047115858639842297 : Unit := ()
def hd.tw17252143746492648416 : Unit := ()
def hd.tw2315301623876862497 : Unit := ()
def hd.tw1848646778235469078 : Unit := ()
def hd.tw2327210489368252092 : Unit := ()
def hd.tw13919464512627920130 : Unit := ()
def hd.tw16155205043701107222 : Unit := ()
def hd.tw9277588360372424766 : Unit := ()
def hd.tw1197925565968671727 : Unit := ()
def hd.tw6906073325868019850 : Unit := ()
def hd.tw7523672394736509286 : Unit := ()
def hd.tw16722109127936396110 : Unit := ()
def hd.tw12050417470231563642 : Unit := ()
def hd.tw12127338746724423809 : Unit := ()
def hd.tw9499510787657705874 : Unit := ()
def hd.tw1781861727890032366 : Unit := ()
def hd.tw6598312636042714100 : Unit := ()
def hd.tw1869635642477389258 : Unit := ()
def hd.tw4015398097383911347 : Unit := ()
def hd.tw15673258824015622330 : Unit := ()
def hd.tw6804821044290156842 : Unit := ()
def hd.tw280609765759037681 : Unit := ()
def hd.tw3530705653197291679 : Unit := ()
def hd.tw5732804406350252772 : Unit := ()
def hd.tw15910714762333108613 : Unit := ()
def hd.tw1699103778626983548 : Unit := ()
def hd.tw10012880186880212623 : Unit := ()
def hd.tw10601615944963115059 : Unit := ()
def hd.tw3480954088277226078 : Unit := ()
def hd.tw7296583596125217682 : Unit := ()
def hd.tw17903497710992402801 : Unit := ()
def hd.tw2068664650715991707 : Unit := ()
def hd.tw11551083187376567056 : Unit := ()
def hd.tw15759970867653108152 : Unit := ()
def hd.tw4282304852377368616 : Unit := ()
def hd.tw14553816603554493358 : Unit := ()
def hd.tw10403243965636340961 : Unit := ()
def hd.tw12588582704262371052 : Unit := ()
def hd.tw15527848837575444561 : Unit := ()
def hd.tw5978321128707920903 : Unit := ()
def hd.tw307737655149646647 : Unit := ()
def hd.tw6990203504111849199 : Unit := ()
def hd.tw4225703048834024713 : Unit := ()
def hd.tw16240987189780228909 : Unit := ()
def hd.tw1997569388931296116 : Unit := ()
def hd.tw541196102884509978 : Unit := ()
def hd.tw185848376630758926 : Unit := ()
def hd.tw1382963296337349011 : Unit := ()
def hd.tw17177331786930743035 : Unit := ()
def hd.tw8268277133935991078 : Unit := ()
def hd.tw1413172679324656950 : Unit := ()
def hd.tw6291416237084387574 : Unit := ()
def hd.tw3309697970292668127 : Unit := ()
def hd.tw6547078798241139092 : Unit := ()
def hd.tw15416985209724490359 : Unit := ()
def hd.tw8609351116199087170 : Unit := ()
def hd.tw16194383521188589630 : Unit := ()
def hd.tw11251137523995926341 : Unit := ()
def hd.tw7752767780024739350 : Unit := ()
def hd.tw14103535550066685397 : Unit := ()
def hd.tw8959176491354863721 : Unit := ()
def hd.tw16154546982801380032 : Unit := ()
def hd.tw16945582573551092051 : Unit := ()
def hd.tw4402725079659364252 : Unit := ()
def hd.tw8184699220007379433 : Unit := ()
def hd.tw6293948785866598258 : Unit := ()
def hd.tw3219085151875037572 : Unit := ()
def hd.tw5283464899586487735 : Unit := ()
def hd.tw1359830224848277088 : Unit := ()
def hd.tw7023726343779634624 : Unit := ()
def hd.tw8735263284916673568 : Unit := ()
def hd.tw3953601041324332601 : Unit := ()
def hd.tw16412773359747925120 : Unit := ()
def hd.tw11162318198679636149 : Unit := ()
def hd.tw18103342009636024947 : Unit := ()
def hd.tw12614811148066621264 : Unit := ()
def hd.tw6196171512934965099 : Unit := ()
def hd.tw9421340871869096474 : Unit := ()
def hd.tw2195365466389143174 : Unit := ()
def hd.tw5416991563250132298 : Unit := ()
def hd.tw17258206423299326598 : Unit := ()
def hd.tw13225837485096350037 : Unit := ()
def hd.tw8428860471423672150 : Unit := ()
def hd.tw17447410573909459338 : Unit := ()
def hd.tw15616948245753086127 : Unit := ()
def hd.tw8671608845466749128 : Unit := ()
def hd.tw10583446816852156582 : Unit := ()
def hd.tw17672654358674132775 : Unit := ()
def hd.tw11754176132448286083 : Unit := ()
def hd.tw2603259988358896889 : Unit := ()
def hd.tw16056359734778111409 : Unit := ()
def hd.tw189712035060473897 : Unit := ()
def hd.tw2999033326186475339 : Unit := ()
def hd.tw16772102934027710169 : Unit := ()
def hd.tw18166333605607142505 : Unit := ()
def hd.tw7721951785955056133 : Unit := ()
def hd.tw9566141503761928105 : Unit := ()
def hd.tw519851828213033955 : Unit := ()
def hd.tw13431754692932380062 : Unit := ()
def hd.tw11513968764499736323 : Unit := ()
def hd.tw1241404454085649124 : Unit := ()
def hd.tw13217225542625558698 : Unit := ()
def hd.tw13518370688599389936 : Unit := ()
def hd.tw9641152695372364146 : Unit := ()
def hd.tw5282504435634884242 : Unit := ()
def hd.tw18185175575083235020 : Unit := ()
def hd.tw3828038474966422129 : Unit := ()
def hd.tw7654286748164834634 : Unit := ()
def hd.tw5629675986466331604 : Unit := ()
def hd.tw6276725880618359904 : Unit := ()
def hd.tw1129884963351977449 : Unit := ()
def hd.tw5781342201191254626 : Unit := ()
def hd.tw7085514621470718492 : Unit := ()
def hd.tw13277076834127875243 : Unit := ()
def hd.tw8770205317985620760 : Unit := ()
def hd.tw13893168526513508166 : Unit := ()
def hd.tw17919194246423945575 : Unit := ()
def hd.tw11032806212648032379 : Unit := ()
def hd.tw13466754112058979494 : Unit := ()
def hd.tw162610821266807592 : Unit := ()
def hd.tw15368132723985388332 : Unit := ()
def hd.tw17948085552500728524 : Unit := ()
def hd.tw14906377314874228009 : Unit := ()
def hd.tw16007149819294483003 : Unit := ()
def hd.tw5238241317806426387 : Unit := ()
def hd.tw3182187488490625086 : Unit := ()
def hd.tw2799067240506288376 : Unit := ()
def hd.tw8004679753235328684 : Unit := ()
def hd.tw16332348944364537037 : Unit := ()
def hd.tw6407587892757256292 : Unit := ()
def hd.tw14598272352848978880 : Unit := ()
def hd.tw6038821095411175016 : Unit := ()
def hd.tw2051048951616859547 : Unit := ()
def hd.tw15411387601460861337 : Unit := ()
def hd.tw8458067239894703972 : Unit := ()
def hd.tw4494801613693538912 : Unit := ()
def hd.tw15790720579355451973 : Unit := ()
def hd.tw15344866539931968096 : Unit := ()
def hd.tw11778180911958503814 : Unit := ()
def hd.tw16634568088961857937 : Unit := ()
def hd.tw1439246655266547700 : Unit := ()
def hd.tw12936449754285732098 : Unit := ()
def hd.tw17213754286329925777 : Unit := ()
def hd.tw16006246977917349235 : Unit := ()
def hd.tw12647368939536790636 : Unit := ()
def hd.tw5363564295841288755 : Unit := ()
def hd.tw1882180444382439491 : Unit := ()
def hd.tw11128854368766332075 : Unit := ()
def hd.tw16299908979028503884 : Unit := ()
def hd.tw8516288146210602744 : Unit := ()
def hd.tw17843490464661113860 : Unit := ()
def hd.tw17975533764899295144 : Unit := ()
def hd.tw15642763164714097627 : Unit := ()
def hd.tw6785817131721698500 : Unit := ()
def hd.tw402640490398009360 : Unit := ()
def hd.tw7120233287515763914 : Unit := ()
def hd.tw7082855905992002993 : Unit := ()
def hd.tw4788038989552484473 : Unit := ()
def hd.tw6818987989461384207 : Unit := ()
def hd.tw7068711184596962023 : Unit := ()
def hd.tw8716120427605611371 : Unit := ()
def hd.tw8934143017859847078 : Unit := ()
def hd.tw6982297934935202809 : Unit := ()
def hd.tw3008623586974134963 : Unit := ()
def hd.tw7270182246851987180 : Unit := ()
def hd.tw15042006015671813226 : Unit := ()
def hd.tw12070051907170230399 : Unit := ()
def hd.tw15048261121198461528 : Unit := ()
def hd.tw16064382804478563927 : Unit := ()
def hd.tw6082411064634330575 : Unit := ()
def hd.tw11953376511379268794 : Unit := ()
def hd.tw9719896912496429819 : Unit := ()
def hd.tw6545403380812914513 : Unit := ()
def hd.tw16853341256802265648 : Unit := ()
def hd.tw432457690288141553 : Unit := ()
theorem hd : PySem.Challenge.rw_qz0111_01.Holds := by
  w_on; o_law; k_head; (case hw => w_witness2)
  k_fill
  intro w s₀ s₁ mg mb G KY fa o pm cd doc dV kV ho hd hcd hD hmg hg args vals as hpre hlay hrd hwl hlo
  have KX := kIn_of KY
  wrow_args hpre hlay hrd hwl hlo
  rename_i hL _ w1 _ hI _ hc _
  refine fin G KX (by kernel_rfl) (by kernel_rfl) (by rfl) (by k_is) ?_ (by k_is) (by k_is) (by k_is) (by k_is) (by k_is) (by k_is) ?_ ?_ (by rfl) (by rfl) (by rfl) (by decide) (by decide) hmg (list_at hL w1) hI (by omega) fun h' tk k => good hg k
  · intro x hx
    simp only [List.mem_cons, List.not_mem_nil, or_false] at hx
    rcases hx with rfl | rfl | rfl | rfl <;> k_is
  · k_keys
  · k_keys
end Mine
theorem PySem.Challenge.cw_qz0111_01_holds : PySem.Challenge.rw_qz0111_01.Holds :=
  Mine.hd
