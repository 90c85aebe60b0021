import PyProof.Rows.All
import Wide.All
import OpenK.AllK
import Wide.FinOn
import Lean
import PySem.Challenge.RW_pq0697_01
open PySem PySem.W PyProof.Rows
set_option Elab.async false
set_option maxRecDepth 100000
set_option maxHeartbeats 4000000
set_option linter.unusedVariables false

namespace Mine
open PySem.Calls

/-- pointwise relation of two lists -/
def All2 {α β : Type} (R : α → β → Prop) : List α → List β → Prop
  | [], [] => True
  | a :: as, b :: bs => R a b ∧ All2 R as bs
  | _, _ => False

namespace All2
variable {α β γ : Type} {R S : α → β → Prop}
theorem mono (h : ∀ a b, R a b → S a b) : ∀ {as : List α} {bs : List β}, All2 R as bs → All2 S as bs
  | [], [], _ => trivial
  | _ :: _, _ :: _, ⟨x, y⟩ => ⟨h _ _ x, mono h y⟩
theorem length : ∀ {as : List α} {bs : List β}, All2 R as bs → as.length = bs.length
  | [], [], _ => rfl
  | _ :: _, _ :: _, ⟨_, y⟩ => by rw [List.length_cons, List.length_cons, length y]
theorem get : ∀ {as : List α} {bs : List β} {i : Nat} {a : α}, All2 R as bs → as[i]? = some a → ∃ b, bs[i]? = some b ∧ R a b
  | [], [], _, _, _, e => by simp at e
  | [], _ :: _, _, _, z, _ => z.elim
  | _ :: _, [], _, _, z, _ => z.elim
  | x :: _, y :: _, 0, a, ⟨x', _⟩, e => by
    simp only [List.getElem?_cons_zero, Option.some.injEq] at e; subst e; exact ⟨y, rfl, x'⟩
  | _ :: _, _ :: _, i + 1, a, ⟨_, y'⟩, e => by
    simp only [List.getElem?_cons_succ] at e; obtain ⟨b, hb, r⟩ := get y' e; exact ⟨b, by simpa using hb, r⟩
theorem getR : ∀ {as : List α} {bs : List β} {i : Nat} {b : β}, All2 R as bs → bs[i]? = some b → ∃ a, as[i]? = some a ∧ R a b
  | [], [], _, _, _, e => by simp at e
  | [], _ :: _, _, _, z, _ => z.elim
  | _ :: _, [], _, _, z, _ => z.elim
  | x :: _, y :: _, 0, b, ⟨x', _⟩, e => by
    simp only [List.getElem?_cons_zero, Option.some.injEq] at e; subst e; exact ⟨x, rfl, x'⟩
  | _ :: _, _ :: _, i + 1, b, ⟨_, y'⟩, e => by
    simp only [List.getElem?_cons_succ] at e; obtain ⟨a, ha, r⟩ := getR y' e; exact ⟨a, by simpa using ha, r⟩
theorem append : ∀ {as as' : List α} {bs bs' : List β}, All2 R as bs → All2 R as' bs' → All2 R (as ++ as') (bs ++ bs')
  | [], _, [], _, _, h => h
  | [], _, _ :: _, _, z, _ => z.elim
  | _ :: _, _, [], _, z, _ => z.elim
  | _ :: _, _, _ :: _, _, ⟨x, y⟩, h => ⟨x, append y h⟩
theorem drop : ∀ {as : List α} {bs : List β} (n : Nat), All2 R as bs → All2 R (as.drop n) (bs.drop n)
  | [], [], n, _ => by simp [All2]
  | _ :: _, _ :: _, 0, h => h
  | _ :: _, _ :: _, n + 1, ⟨_, y⟩ => by simpa using drop n y
theorem take : ∀ {as : List α} {bs : List β} (n : Nat), All2 R as bs → All2 R (as.take n) (bs.take n)
  | [], [], n, _ => by simp [All2]
  | _ :: _, _ :: _, 0, h => by simp [All2]
  | _ :: _, _ :: _, n + 1, ⟨x, y⟩ => by simpa [All2] using ⟨x, take n y⟩
theorem map_left {f : γ → α} : ∀ {as : List γ} {bs : List β}, All2 (fun a b => R (f a) b) as bs → All2 R (as.map f) bs
  | [], [], _ => trivial
  | _ :: _, _ :: _, ⟨x, y⟩ => ⟨x, map_left y⟩
theorem of_map_left {f : γ → α} : ∀ {as : List γ} {bs : List β}, All2 R (as.map f) bs → All2 (fun a b => R (f a) b) as bs
  | [], [], _ => trivial
  | _ :: _, _ :: _, ⟨x, y⟩ => ⟨x, of_map_left y⟩
end All2

abbrev View := Addr → Obj → Prop

/-- what a value tells, seen through a view of the heap; more view, still told -/
structure Den where
  is : View → Value → Prop
  mono : ∀ {g g' : View} {v : Value}, (∀ a o, g a o → g' a o) → is g v → is g' v

def dVal (u : Value) : Den := ⟨fun _ v => v = u, fun _ h => h⟩
def dNone : Den := ⟨fun _ v => v = .none, fun _ h => h⟩
def dBool (b : Bool) : Den := ⟨fun _ v => v = .bool b, fun _ h => h⟩
def dInt (i : Int) : Den := ⟨fun _ v => ∃ t, v = .int i t, fun _ h => h⟩
def dStr (x : Str) : Den := ⟨fun _ v => ∃ t, v = .str x t, fun _ h => h⟩
def dSeq (k : String) (ds : List Den) : Den where
  is g v := ∃ a n vs, v = .ref a ∧ g a { cls := .type k, data := .seq (List.toArray vs) n } ∧ ds.length ≤ sizeLine ∧ All2 (fun d v => d.is g v) ds vs
  mono := fun hg ⟨a, n, vs, e, ha, hz, hv⟩ => ⟨a, n, vs, e, hg _ _ ha, hz, hv.mono fun d _ h => d.mono hg h⟩
abbrev dLst := dSeq "list"
abbrev dTup := dSeq "tuple"

def vw (X : Addr → Prop) (h : Heap) : View := fun a o => h.get? a = some o ∧ ¬ X a

/-- all objects stay -/
def Grows (s s' : Shared) : Prop := ∃ h' tk, s' = { s with heap := h', toks := tk } ∧ ∀ b o, s.heap.get? b = some o → h'.get? b = some o

/-- all objects but those of M stay -/
def KeepM (M : Addr → Prop) (s s' : Shared) : Prop := ∃ h' tk, s' = { s with heap := h', toks := tk } ∧ ∀ b o, ¬ M b → s.heap.get? b = some o → h'.get? b = some o

theorem KeepM.refl {M : Addr → Prop} (s : Shared) : KeepM M s s := ⟨s.heap, s.toks, rfl, fun _ _ _ e => e⟩
theorem KeepM.trans {M : Addr → Prop} {s s' s'' : Shared} (x : KeepM M s s') (y : KeepM M s' s'') : KeepM M s s'' := by
  obtain ⟨h, t, rfl, k⟩ := x
  obtain ⟨h', t', rfl, k'⟩ := y
  exact ⟨h', t', rfl, fun b o m e => k' b o m (k b o m e)⟩
theorem KeepM.mono {M M' : Addr → Prop} {s s' : Shared} (x : KeepM M s s') (h : ∀ b, M b → M' b) : KeepM M' s s' :=
  let ⟨h', t, e, k⟩ := x; ⟨h', t, e, fun b o m q => k b o (fun z => m (h b z)) q⟩
theorem KeepM.get {M : Addr → Prop} {s s' : Shared} (x : KeepM M s s') {b : Addr} {o : Obj} (hb : ¬ M b) (e : s.heap.get? b = some o) : s'.heap.get? b = some o := by
  obtain ⟨h, t, rfl, k⟩ := x; exact k b o hb e
theorem KeepM.of_keeps {M : Addr → Prop} {s s' : Shared} (x : Grows s s') : KeepM M s s' :=
  let ⟨h', t, e, k⟩ := x; ⟨h', t, e, fun b o _ q => k b o q⟩
theorem KeepM.keeps {s s' : Shared} (x : KeepM (fun _ => False) s s') : Grows s s' :=
  let ⟨h', t, e, k⟩ := x; ⟨h', t, e, fun b o q => k b o (fun z => z) q⟩
theorem Grows.rfl' (s : Shared) : Grows s s := ⟨s.heap, s.toks, rfl, fun _ _ e => e⟩
theorem Grows.tr {s s' s'' : Shared} (x : Grows s s') (y : Grows s' s'') : Grows s s'' := by
  obtain ⟨h, t, rfl, k⟩ := x
  obtain ⟨h', t', rfl, k'⟩ := y
  exact ⟨h', t', rfl, fun b o e => k' b o (k b o e)⟩
theorem Grows.at {s s' : Shared} (x : Grows s s') {b : Addr} {o : Obj} (e : s.heap.get? b = some o) : s'.heap.get? b = some o := by
  obtain ⟨h, t, rfl, k⟩ := x; exact k b o e
/-- forget the addresses above a mark -/
theorem KeepM.fresh {s s' : Shared} (x : KeepM (fun b => s.heap.objs.size ≤ b) s s') : Grows s s' :=
  let ⟨h', t, e, k⟩ := x; ⟨h', t, e, fun b o q => k b o (Nat.not_le.mpr (Heap.lt_size q)) q⟩

theorem vw_keeps {X : Addr → Prop} {s s' : Shared} (x : Grows s s') : ∀ a o, vw X s.heap a o → vw X s'.heap a o := fun _ _ h => ⟨Grows.at x h.1, h.2⟩
theorem vw_keepM {X M : Addr → Prop} {s s' : Shared} (x : KeepM M s s') (h : ∀ b, M b → X b) : ∀ a o, vw X s.heap a o → vw X s'.heap a o :=
  fun _ _ q => ⟨x.get (fun m => q.2 (h _ m)) q.1, q.2⟩
theorem vw_sub {X X' : Addr → Prop} {h : Heap} (k : ∀ b o, X' b → h.get? b = some o → X b) : ∀ a o, vw X h a o → vw X' h a o :=
  fun _ _ q => ⟨q.1, fun z => q.2 (k _ _ z q.1)⟩
theorem get_size (h : Heap) : h.get? h.objs.size = none := by
  cases e : h.get? h.objs.size with
  | none => rfl
  | some o => exact absurd (Heap.lt_size e) (Nat.lt_irrefl _)
theorem Grows.none {s s' : Shared} (x : Grows s s') {b : Addr} (e : s'.heap.get? b = none) : s.heap.get? b = none := by
  cases q : s.heap.get? b with
  | none => rfl
  | some o => have := Grows.at x q; rw [e] at this; cases this
theorem Den.keeps (d : Den) {X : Addr → Prop} {s s' : Shared} {v : Value} (x : Grows s s') (h : d.is (vw X s.heap) v) : d.is (vw X s'.heap) v := d.mono (vw_keeps x) h
theorem Den.keepM (d : Den) {X M : Addr → Prop} {s s' : Shared} {v : Value} (x : KeepM M s s') (hm : ∀ b, M b → X b) (h : d.is (vw X s.heap) v) : d.is (vw X s'.heap) v := d.mono (vw_keepM x hm) h
theorem all_keeps {X : Addr → Prop} {s s' : Shared} {ds : List Den} {vs : List Value} (x : Grows s s') (h : All2 (fun d v => d.is (vw X s.heap) v) ds vs) : All2 (fun d v => d.is (vw X s'.heap) v) ds vs :=
  h.mono fun d _ q => Den.keeps d x q

/-- a name of the frame sits at a value -/
def Sits (env : Env) (h : Heap) (x : Str) (v : Value) : Prop :=
  (env.kindOf x = some .local ∧ ∃ m, h.Ns env.locals m ∧ m x = some v) ∨
  ((env.kindOf x = some .cell ∨ env.kindOf x = some .free) ∧ ∃ c, env.cells.lookup x = some c ∧ h.IsCell c (some v))

/-- the addresses of a frame's own slots -/
def Own (env : Env) (b : Addr) : Prop := b = env.locals ∨ ∃ x, env.cells.lookup x = some b

theorem Sits.keepM {env : Env} {s s' : Shared} {x : Str} {v : Value} {M : Addr → Prop} (h : Sits env s.heap x v) (k : KeepM M s s') (hm : ∀ b, Own env b → ¬ M b) : Sits env s'.heap x v := by
  rcases h with ⟨hk, m, ⟨o, es, ep, e, r⟩, hv⟩ | ⟨hk, c, hc, o, e, r⟩
  · exact .inl ⟨hk, m, ⟨o, es, ep, k.get (hm _ (.inl rfl)) e, r⟩, hv⟩
  · exact .inr ⟨hk, c, hc, o, k.get (hm _ (.inr ⟨x, hc⟩)) e, r⟩

abbrev Rho := List (Str × Den)

/-- the facts about the base heap -/
structure Base (G : Heap) (mg mb : Str → Option Value) : Prop where
  g : G.Ns mainGlobals mg
  b : G.Ns builtinsNs mb
  lim : G.NoLimit

/-- the frame is sound: its names hold what ρ says, the base heap stands outside of X -/
structure Ok (G : Heap) (X : Addr → Prop) (env : Env) (ρ : Rho) (s : Shared) : Prop where
  kind : env.scope.kind = .function
  glob : env.globals = mainGlobals
  blt : env.builtins = builtinsNs
  live : ∀ b, X b → ∃ o, s.heap.get? b = some o
  own : ∀ b, Own env b → X b
  ns : ∃ m, s.heap.Ns env.locals m
  cell : ∀ x c, env.cells.lookup x = some c → (∃ v, s.heap.IsCell c v) ∧ c ≠ env.locals
  inj : ∀ x y c, env.cells.lookup x = some c → env.cells.lookup y = some c → x = y
  base : ∀ a o, G.get? a = some o → vw X s.heap a o
  vars : ∀ x d, ρ.lookup x = some d → ∃ v, Sits env s.heap x v ∧ d.is (vw X s.heap) v

namespace Ok
variable {G : Heap} {X : Addr → Prop} {env : Env} {ρ : Rho} {s s' : Shared}
theorem lt (x : Ok G X env ρ s) {b : Addr} (h : X b) : b < s.heap.objs.size := let ⟨_, e⟩ := x.live b h; Heap.lt_size e
theorem keeps (x : Ok G X env ρ s) (k : Grows s s') : Ok G X env ρ s' where
  kind := x.kind
  glob := x.glob
  blt := x.blt
  live := fun b q => let ⟨o, e⟩ := x.live b q; ⟨o, Grows.at k e⟩
  own := x.own
  ns := let ⟨m, o, es, ep, e, r⟩ := x.ns; ⟨m, o, es, ep, Grows.at k e, r⟩
  cell := fun y c hc => let ⟨⟨v, o, e, r⟩, n⟩ := x.cell y c hc; ⟨⟨v, o, Grows.at k e, r⟩, n⟩
  inj := x.inj
  base := fun a o e => vw_keeps k a o (x.base a o e)
  vars := fun y d e => let ⟨v, hs, hv⟩ := x.vars y d e; ⟨v, hs.keepM (KeepM.of_keeps (M := fun _ => False) k) (fun _ _ q => q), Den.keeps d k hv⟩
theorem keepM {M : Addr → Prop} (x : Ok G X env ρ s) (k : KeepM M s s') (hX : ∀ b, M b → X b) (hO : ∀ b, Own env b → ¬ M b) (hl : ∀ b, M b → ∃ o, s'.heap.get? b = some o) : Ok G X env ρ s' where
  kind := x.kind
  glob := x.glob
  blt := x.blt
  live := fun b q => (Classical.em (M b)).elim (hl b) fun m => let ⟨o, e⟩ := x.live b q; ⟨o, k.get m e⟩
  own := x.own
  ns := let ⟨m, o, es, ep, e, r⟩ := x.ns; ⟨m, o, es, ep, k.get (hO _ (.inl rfl)) e, r⟩
  cell := fun y c hc => let ⟨⟨v, o, e, r⟩, n⟩ := x.cell y c hc; ⟨⟨v, o, k.get (hO _ (.inr ⟨y, hc⟩)) e, r⟩, n⟩
  inj := x.inj
  base := fun a o e => vw_keepM k hX a o (x.base a o e)
  vars := fun y d e => let ⟨v, hs, hv⟩ := x.vars y d e; ⟨v, hs.keepM k hO, Den.keepM d k hX hv⟩
end Ok

end Mine

namespace Mine
open PySem.Calls

section
variable (prog : Program) (w : World) (G : Heap)

/-- evaluating e gives a value with d; the heap only grows -/
def Ev (A : Around) (env : Env) (ρ : Rho) (e : Expr) (d : Den) : Prop :=
  ∀ (X : Addr → Prop) (s : Shared) (E : Value → Shared → Prop), Ok G X env ρ s → wpAny (model prog w) A (eval e env) (fun v s' => Grows s s' ∧ d.is (vw X s'.heap) v) E s

/-- a test comes out as b -/
def Tr (A : Around) (env : Env) (ρ : Rho) (e : Expr) (b : Bool) : Prop :=
  ∀ (X : Addr → Prop) (s : Shared) (E : Value → Shared → Prop), Ok G X env ρ s → wpAny (model prog w) A (isTrue e env (eval e env)) (fun b' s' => b' = b ∧ Grows s s') E s

/-- a binary operation -/
def Bin (A : Around) (op : Operator) (d₁ d₂ d : Den) : Prop :=
  ∀ (X : Addr → Prop) (s : Shared) (E : Value → Shared → Prop) (v₁ v₂ : Value), (∀ b, X b → ∃ o, s.heap.get? b = some o) → d₁.is (vw X s.heap) v₁ → d₂.is (vw X s.heap) v₂ →
    wpAny (model prog w) A (binaryOp op v₁ v₂) (fun v s' => Grows s s' ∧ d.is (vw X s'.heap) v) E s

/-- a comparison -/
def Cmp (A : Around) (op : CmpOp) (d₁ d₂ : Den) (b : Bool) : Prop :=
  ∀ (X : Addr → Prop) (s : Shared) (E : Value → Shared → Prop) (v₁ v₂ : Value), d₁.is (vw X s.heap) v₁ → d₂.is (vw X s.heap) v₂ →
    wpAny (model prog w) A (compareOp op v₁ v₂) (fun v s' => v = .bool b ∧ Grows s s') E s
end

section
variable {prog : Program} {w : World} {G : Heap} {A : Around} {env : Env} {ρ : Rho} {E : Value → Shared → Prop} {s : Shared} {X : Addr → Prop}

theorem Ev.use {e : Expr} {d : Den} {Q : Value → Shared → Prop} (h : Ev prog w G A env ρ e d) (ok : Ok G X env ρ s)
    (k : ∀ v s', Grows s s' → Ok G X env ρ s' → d.is (vw X s'.heap) v → Q v s') : wpAny (model prog w) A (eval e env) Q E s :=
  wpAny_mono (h X s E ok) (fun v s' x => k v s' x.1 (ok.keeps x.1) x.2) fun _ _ x => x
theorem Tr.use {e : Expr} {b : Bool} {Q : Bool → Shared → Prop} (h : Tr prog w G A env ρ e b) (ok : Ok G X env ρ s)
    (k : ∀ s', Grows s s' → Ok G X env ρ s' → Q b s') : wpAny (model prog w) A (isTrue e env (eval e env)) Q E s :=
  wpAny_mono (h X s E ok) (fun b' s' x => by obtain ⟨rfl, y⟩ := x; exact k s' y (ok.keeps y)) fun _ _ x => x

theorem Grows.toks {t : Nat} : Grows s { s with toks := t } := ⟨s.heap, t, rfl, fun _ _ e => e⟩
theorem Grows.push {o : Obj} : Grows s { s with heap := s.heap.push o } := ⟨_, s.toks, rfl, fun _ _ e => Heap.get?_push_of_some _ e⟩

/- names and constants -/
theorem Sits.load {x : Str} {v : Value} {Q : Value → Shared → Prop} (hk : env.scope.kind = .function) (h : Sits env s.heap x v) (hQ : Q v s) (hc : (x == ("__classdict__" : Str)) = false) :
    wpAny (model prog w) A (loadName env x) Q E s := by
  rcases h with ⟨hl, m, hn, hv⟩ | ⟨hl | hl, c, hc', hv⟩
  · exact wpAny_loadName_local hk hl hn hv hQ
  · exact wpAny_loadName_cell hk hl hc' hv hQ
  · exact wpAny_loadName_free hk hl hc' hv hQ hc

theorem Ev.name {x : Str} {pos : Pos} {d : Den} (h : ρ.lookup x = some d) (hd : (x == ("__debug__" : Str)) = false := by decide) (hc : (x == ("__classdict__" : Str)) = false := by decide) :
    Ev prog w G A env ρ (.Name x pos) d := fun X s E ok => by
  obtain ⟨v, hs, hv⟩ := ok.vars x d h
  exact wpAny_Name (hs.load ok.kind ⟨Grows.rfl' s, hv⟩ hc) hd

theorem Ev.glob {mg mb : Str → Option Value} {x : Str} {pos : Pos} {v : Value} (B : Base G mg mb) (hk : env.kindOf x = some .globalImplicit) (hv : mg x = some v) (hd : (x == ("__debug__" : Str)) = false := by decide) :
    Ev prog w G A env ρ (.Name x pos) (dVal v) := fun X s E ok => by
  refine wpAny_Name ?_ hd
  unfold loadName
  simp only [Env.blockKind, ok.kind, hk, ScopeKind.isAnnotationScope, Bool.false_and, Bool.false_eq_true, if_false]
  show wpAny _ A (loadGlobal env x) _ _ s
  unfold loadGlobal
  rw [ok.glob]
  refine wpAny_bind (wpAny_nsGet (B.g.keeps fun b o e => (ok.base b o e).1) ?_)
  rw [hv]
  exact wpAny_pure ⟨Grows.rfl' s, rfl⟩

theorem Ev.builtin {mg mb : Str → Option Value} {x : Str} {pos : Pos} {v : Value} (B : Base G mg mb) (hk : env.kindOf x = some .globalImplicit) (hg : mg x = none) (hv : mb x = some v) (hd : (x == ("__debug__" : Str)) = false := by decide) :
    Ev prog w G A env ρ (.Name x pos) (dVal v) := fun X s E ok => by
  refine wpAny_Name ?_ hd
  unfold loadName
  simp only [Env.blockKind, ok.kind, hk, ScopeKind.isAnnotationScope, Bool.false_and, Bool.false_eq_true, if_false]
  show wpAny _ A (loadGlobal env x) _ _ s
  unfold loadGlobal
  rw [ok.glob, ok.blt]
  refine wpAny_bind (wpAny_nsGet (B.g.keeps fun b o e => (ok.base b o e).1) ?_)
  rw [hg]
  refine wpAny_bind (wpAny_nsGet (B.b.keeps fun b o e => (ok.base b o e).1) ?_)
  rw [hv]
  exact wpAny_pure ⟨Grows.rfl' s, rfl⟩

theorem Ev.cint {i : Int} {k : Nat} {pos : Pos} : Ev prog w G A env ρ (.Constant (.int i) k pos) (dInt i) := fun X s E _ =>
  wpAny_Constant_int ⟨Grows.toks, _, rfl⟩
theorem Ev.cnone {k : Nat} {pos : Pos} : Ev prog w G A env ρ (.Constant .none k pos) dNone := fun X s E _ => Constant_none ⟨Grows.rfl' s, rfl⟩
theorem Ev.cbool {b : Bool} {k : Nat} {pos : Pos} : Ev prog w G A env ρ (.Constant (.bool b) k pos) (dBool b) := fun X s E _ => Constant_bool ⟨Grows.rfl' s, rfl⟩
theorem Ev.cstr {x : Str} {k : Nat} {pos : Pos} : Ev prog w G A env ρ (.Constant (.str x) k pos) (dStr x) := fun X s E _ => by
  show wpAny _ A (mkText x) _ _ s
  exact wpAny_mkText ⟨Grows.toks, _, rfl⟩

/- structure -/
theorem Ev.bin {l r : Expr} {op : Operator} {pos : Pos} {d₁ d₂ d : Den} (hl : Ev prog w G A env ρ l d₁) (hr : Ev prog w G A env ρ r d₂) (hb : Bin prog w A op d₁ d₂ d) :
    Ev prog w G A env ρ (.BinOp l op r pos) d := fun X s E ok =>
  wpAny_BinOp (hl.use ok fun v₁ s₁ k₁ ok₁ h₁ => hr.use ok₁ fun v₂ s₂ k₂ ok₂ h₂ =>
    wpAny_mono (hb X s₂ E v₁ v₂ ok₂.live (Den.keeps _ k₂ h₁) h₂) (fun v s₃ q => ⟨(k₁.tr k₂).tr q.1, q.2⟩) fun _ _ x => x)

theorem Ev.cmp {l r : Expr} {op : CmpOp} {pos : Pos} {d₁ d₂ : Den} {b : Bool} (hl : Ev prog w G A env ρ l d₁) (hr : Ev prog w G A env ρ r d₂) (hb : Cmp prog w A op d₁ d₂ b)
    (hm : behindInMarks op r = false := by with_unfolding_all rfl) : Ev prog w G A env ρ (.Compare l [op] [r] pos) (dBool b) := fun X s E ok =>
  wpAny_Compare1 (hl.use ok fun v₁ s₁ k₁ ok₁ h₁ => hr.use ok₁ fun v₂ s₂ k₂ ok₂ h₂ =>
    wpAny_mono (hb X s₂ E v₁ v₂ (Den.keeps _ k₂ h₁) h₂) (fun v s₃ q => ⟨(k₁.tr k₂).tr q.2, q.1⟩) fun _ _ x => x) hm

theorem Tr.cmp {l r : Expr} {op : CmpOp} {pos : Pos} {d₁ d₂ : Den} {b : Bool} (hl : Ev prog w G A env ρ l d₁) (hr : Ev prog w G A env ρ r d₂) (hb : Cmp prog w A op d₁ d₂ b)
    (hm : behindInMarks op r = false := by with_unfolding_all rfl) : Tr prog w G A env ρ (.Compare l [op] [r] pos) b := fun X s E ok =>
  wpAny_isTrue_Compare1 (hl.use ok fun v₁ s₁ k₁ ok₁ h₁ => hr.use ok₁ fun v₂ s₂ k₂ ok₂ h₂ =>
    wpAny_mono (hb X s₂ E v₁ v₂ (Den.keeps _ k₂ h₁) h₂) (fun v s₃ q => by
      obtain ⟨rfl, q⟩ := q
      exact wpAny_truthy_bool ⟨rfl, (k₁.tr k₂).tr q⟩) fun _ _ x => x) hm

/-- a op b op' c -/
theorem Tr.chain {l r r' : Expr} {op op' : CmpOp} {pos : Pos} {d₁ d₂ d₃ : Den} {b b' : Bool} (hl : Ev prog w G A env ρ l d₁) (hr : Ev prog w G A env ρ r d₂) (hr' : b = true → Ev prog w G A env ρ r' d₃) (hb : Cmp prog w A op d₁ d₂ b)
    (hb' : b = true → Cmp prog w A op' d₂ d₃ b') (hm : lastMarks [op, op'] [r, r'] = false := by with_unfolding_all rfl) : Tr prog w G A env ρ (.Compare l [op, op'] [r, r'] pos) (b && b') := fun X s E ok =>
  isTrue_chain (hl.use ok fun v₁ s₁ k₁ ok₁ h₁ => test_link (hr.use ok₁ fun v₂ s₂ k₂ ok₂ h₂ =>
    wpAny_mono (hb X s₂ _ v₁ v₂ (Den.keeps _ k₂ h₁) h₂) (fun v s₃ q => by
      obtain ⟨rfl, q⟩ := q
      refine wpAny_truthy_bool ?_
      cases b with
      | false => exact ⟨rfl, (k₁.tr k₂).tr q⟩
      | true =>
        simp only [if_true]
        refine test_last ((hr' rfl).use (ok₂.keeps q) fun v₃ s₄ k₄ ok₄ h₃ => ?_)
        refine wpAny_mono (hb' rfl X s₄ _ v₂ v₃ (Den.keeps _ (q.tr k₄) h₂) h₃) (fun v s₅ q' => ?_) fun _ _ x => x
        obtain ⟨rfl, q'⟩ := q'
        exact wpAny_truthy_bool ⟨rfl, (((k₁.tr k₂).tr q).tr k₄).tr q'⟩) fun _ _ x => x)) hm

theorem Ev.ife {t b o : Expr} {pos : Pos} {c : Bool} {d : Den} (ht : Tr prog w G A env ρ t c) (hb : c = true → Ev prog w G A env ρ b d) (ho : c = false → Ev prog w G A env ρ o d) :
    Ev prog w G A env ρ (.IfExp t b o pos) d := fun X s E ok =>
  wpAny_IfExp (ht.use ok fun s₁ k₁ ok₁ => by
    cases c with
    | true => simp only [if_true]; exact (hb rfl).use ok₁ fun v s₂ k₂ _ h => ⟨k₁.tr k₂, h⟩
    | false => simp only [Bool.false_eq_true, if_false]; exact (ho rfl).use ok₁ fun v s₂ k₂ _ h => ⟨k₁.tr k₂, h⟩)

theorem Ev.weaken {e : Expr} {d d' : Den} (h : Ev prog w G A env ρ e d) (k : ∀ g v, d.is g v → d'.is g v) : Ev prog w G A env ρ e d' := fun X s E ok =>
  wpAny_mono (h X s E ok) (fun _ _ q => ⟨q.1, k _ _ q.2⟩) fun _ _ x => x

/- tests -/
theorem Tr.not {x : Expr} {pos : Pos} {b : Bool} (h : Tr prog w G A env ρ x b) : Tr prog w G A env ρ (.UnaryOp .Not x pos) (!b) := fun X s E ok =>
  isTrue_not (h.use ok fun s₁ k₁ _ => ⟨rfl, k₁⟩)
theorem Tr.or2 {x y : Expr} {pos : Pos} {b c : Bool} (h : Tr prog w G A env ρ x b) (h' : b = false → Tr prog w G A env ρ y c) : Tr prog w G A env ρ (.BoolOp .Or [x, y] pos) (b || c) := fun X s E ok => by
  refine isTrue_or (h.use ok fun s₁ k₁ ok₁ => ?_)
  cases b with
  | true => exact ⟨rfl, k₁⟩
  | false =>
    simp only [Bool.false_eq_true, if_false]
    refine isTrue_or ((h' rfl).use ok₁ fun s₂ k₂ _ => ?_)
    cases c with
    | true => exact ⟨rfl, k₁.tr k₂⟩
    | false => simp only [Bool.false_eq_true, if_false]; exact isTrue_or_nil ⟨rfl, k₁.tr k₂⟩
/-- a plain expression as a test -/
theorem Tr.plain {e : Expr} {b : Bool} (h : Ev prog w G A env ρ e (dBool b)) (he : ∀ whole, isTrue e env whole = (do let v ← whole; standAt e.pos; holding [v] (truthy v)) := by intro _; rfl) : Tr prog w G A env ρ e b := fun X s E ok =>
  isTrue_plain (h.use ok fun v s₁ k₁ _ hv => by
    have hv' : v = .bool b := hv
    subst hv'
    exact wpAny_truthy_bool ⟨rfl, k₁⟩) (he _)

/- ints -/
theorem Bin.add {a b : Int} : Bin prog w A .Add (dInt a) (dInt b) (dInt (a + b)) := fun X s E v₁ v₂ _ ⟨_, e₁⟩ ⟨_, e₂⟩ => by
  subst e₁ e₂; exact add_int ⟨Grows.toks, _, rfl⟩
theorem Bin.sub {a b : Int} : Bin prog w A .Sub (dInt a) (dInt b) (dInt (a - b)) := fun X s E v₁ v₂ _ ⟨_, e₁⟩ ⟨_, e₂⟩ => by
  subst e₁ e₂; exact sub_int ⟨Grows.toks, _, rfl⟩
theorem Bin.mul {a b : Int} (h : IntMulOk a b) : Bin prog w A .Mult (dInt a) (dInt b) (dInt (a * b)) := fun X s E v₁ v₂ _ ⟨_, e₁⟩ ⟨_, e₂⟩ => by
  subst e₁ e₂; exact mul_int ⟨Grows.toks, _, rfl⟩ h
theorem Bin.mod {a b : Int} (h : b ≠ 0) : Bin prog w A .Mod (dInt a) (dInt b) (dInt (a.fmod b)) := fun X s E v₁ v₂ _ ⟨_, e₁⟩ ⟨_, e₂⟩ => by
  subst e₁ e₂; exact mod_int h ⟨Grows.toks, _, rfl⟩
theorem Bin.fdiv {a b : Int} (h : b ≠ 0) (hs : b.natAbs < 1073741824) : Bin prog w A .FloorDiv (dInt a) (dInt b) (dInt (a.fdiv b)) := fun X s E v₁ v₂ _ ⟨_, e₁⟩ ⟨_, e₂⟩ => by
  subst e₁ e₂; exact floordiv_int h ⟨Grows.toks, _, rfl⟩ (Or.inl (PyProof.noPylong_small hs))
theorem Bin.addS {x y : Str} (h : x.length + y.length ≤ sizeLine) : Bin prog w A .Add (dStr x) (dStr y) (dStr (x ++ y)) := fun X s E v₁ v₂ _ ⟨_, e₁⟩ ⟨_, e₂⟩ => by
  subst e₁ e₂; exact add_str (fun t' tk => ⟨⟨s.heap, tk, rfl, fun _ _ e => e⟩, _, rfl⟩) h

theorem Cmp.eqI {a b : Int} : Cmp prog w A .Eq (dInt a) (dInt b) (a == b) := fun X s E v₁ v₂ ⟨_, e₁⟩ ⟨_, e₂⟩ => by
  subst e₁ e₂; exact eq_int ⟨rfl, Grows.rfl' s⟩
theorem Cmp.neI {a b : Int} : Cmp prog w A .NotEq (dInt a) (dInt b) (a != b) := fun X s E v₁ v₂ ⟨_, e₁⟩ ⟨_, e₂⟩ => by
  subst e₁ e₂; exact ne_int ⟨rfl, Grows.rfl' s⟩
theorem Cmp.ltI {a b : Int} : Cmp prog w A .Lt (dInt a) (dInt b) (decide (a < b)) := fun X s E v₁ v₂ ⟨_, e₁⟩ ⟨_, e₂⟩ => by
  subst e₁ e₂; exact lt_int ⟨rfl, Grows.rfl' s⟩
theorem Cmp.leI {a b : Int} : Cmp prog w A .LtE (dInt a) (dInt b) (decide (a ≤ b)) := fun X s E v₁ v₂ ⟨_, e₁⟩ ⟨_, e₂⟩ => by
  subst e₁ e₂; exact le_int ⟨rfl, Grows.rfl' s⟩
theorem Cmp.gtI {a b : Int} : Cmp prog w A .Gt (dInt a) (dInt b) (decide (b < a)) := fun X s E v₁ v₂ ⟨_, e₁⟩ ⟨_, e₂⟩ => by
  subst e₁ e₂; exact gt_int ⟨rfl, Grows.rfl' s⟩
theorem Cmp.geI {a b : Int} : Cmp prog w A .GtE (dInt a) (dInt b) (decide (b ≤ a)) := fun X s E v₁ v₂ ⟨_, e₁⟩ ⟨_, e₂⟩ => by
  subst e₁ e₂; exact ge_int ⟨rfl, Grows.rfl' s⟩
end
end Mine

namespace Mine
open PySem.Calls

/-- an iterator that hands out values with ds, one by one; it writes into wr alone -/
structure Feed (prog : Program) (w : World) (A : Around) (X : Addr → Prop) (I : Addr) (target : Expr) (wr : Addr → Prop) (ds : List Den) (St : Nat → Heap → Prop) : Prop where
  frame : ∀ i h h', St i h → (∀ b o, (¬ X b ∨ wr b) → h.get? b = some o → h'.get? b = some o) → St i h'
  live : ∀ i h b, St i h → wr b → ∃ o, h.get? b = some o
  item : ∀ i s d (E : Value → Shared → Prop), (∀ b, X b → ∃ o, s.heap.get? b = some o) → ds[i]? = some d → St i s.heap → wpAny (model prog w) A (pyNext (.ref I)) (fun r s₁ => ∃ v, r = some v ∧
    wpAny (model prog w) A (letOwnedTupleGo target (.ref I) v) (fun _ s₂ => KeepM wr s s₂ ∧ St (i + 1) s₂.heap ∧ d.is (vw X s₂.heap) v) E s₁) E s
  done : ∀ s (E : Value → Shared → Prop), St ds.length s.heap → wpAny (model prog w) A (pyNext (.ref I)) (fun r s₁ => r = none ∧ KeepM wr s s₁) E s
  self : ∀ i s (E : Value → Shared → Prop), St i s.heap → wpAny (model prog w) A (pyIter (.ref I)) (fun v s₁ => v = .ref I ∧ s₁ = s) E s

theorem Feed.of_walks {prog : Program} {w : World} {A : Around} {X : Addr → Prop} {I : Addr} {target : Expr} {ds : List Den} {St : Nat → Heap → Prop} {fp wl : List Addr} {n : Nat} {P : Nat → Value → Prop}
    (W : Walks prog w A I fp wl n P St) (h₀ : Heap) (hn : ds.length = n) (hfp : ∀ b ∈ fp, ¬ X b ∨ b ∈ wl) (hwX : ∀ b ∈ wl, X b) (hlive : ∀ i h b, St i h → b ∈ wl → ∃ o, h.get? b = some o)
    (hd : ∀ i v d, P i v → ds[i]? = some d → d.is (vw X h₀) v) (ht : ∀ v, letOwnedTupleGo target (.ref I) v = pure ()) :
    Feed prog w A X I target (fun b => b ∈ wl) ds (fun i h => St i h ∧ ∀ a o, vw X h₀ a o → vw X h a o) where
  frame := fun i h h' st k => ⟨W.frame i h h' st.1 fun b hb o e => k b o ((hfp b hb)) e, fun a o q => ⟨k a o (.inl q.2) (st.2 a o q).1, q.2⟩⟩
  live := fun i h b st hb => hlive i h b st.1 hb
  item := fun i s d E _ hi st => by
    have hlt : i < n := by
      rw [← hn]
      rcases Nat.lt_or_ge i ds.length with h | h
      · exact h
      · rw [List.getElem?_eq_none h] at hi; cases hi
    refine W.item i s _ E hlt st.1 fun v h' tk hP st' hk => ⟨v, rfl, ?_⟩
    rw [ht]
    have k : ∀ a o, vw X h₀ a o → vw X h' a o := fun a o q => ⟨hk a o (fun z => q.2 (hwX a z)) (st.2 a o q).1, q.2⟩
    exact wpAny_pure ⟨⟨h', tk, rfl, hk⟩, ⟨st', k⟩, d.mono k (hd i v d hP hi)⟩
  done := fun s E st => W.done s _ E (hn ▸ st.1) fun h' tk hk => ⟨rfl, h', tk, rfl, hk⟩
  self := fun i s E st => W.self i s _ E st.1 ⟨rfl, rfl⟩

section
variable (prog : Program) (w : World) (G : Heap)

/-- what is known of an iterator just made, h₀ being the heap where the making began -/
def Fed (A : Around) (X : Addr → Prop) (target : Expr) (ds : List Den) (h₀ : Heap) (I : Addr) (s : Shared) : Prop :=
  ∃ wr : Addr → Prop, (∀ b, wr b → h₀.get? b = none) ∧ (∀ b, wr b → ∃ o, s.heap.get? b = some o) ∧
    ∀ X' : Addr → Prop, (∀ b, wr b → X' b) → (∀ b o, X' b → s.heap.get? b = some o → X b ∨ wr b) →
      ∃ St, Feed prog w A X' I target wr ds St ∧ ∀ h, (∀ b o, s.heap.get? b = some o → h.get? b = some o) → St 0 h

/-- the head of a loop -/
def EvIt (A : Around) (env : Env) (ρ : Rho) (target iter : Expr) (ds : List Den) : Prop :=
  ∀ (X : Addr → Prop) (s : Shared) (E : Value → Shared → Prop), Ok G X env ρ s →
    wpAny (model prog w) A (eval iter env) (fun x s₁ => wpAny (model prog w) A (pyIter x) (fun it s₂ => ∃ I, it = .ref I ∧ Grows s s₂ ∧ Fed prog w A X target ds s.heap I s₂) E s₁) E s
end

section
variable {prog : Program} {w : World} {G : Heap} {A : Around} {env : Env} {ρ : Rho} {E : Value → Shared → Prop} {s : Shared} {X : Addr → Prop}

theorem EvIt.of {target iter : Expr} {d : Den} {ds : List Den} (h : Ev prog w G A env ρ iter d)
    (k : ∀ (X : Addr → Prop) (s : Shared) (E : Value → Shared → Prop) (v : Value), d.is (vw X s.heap) v →
      wpAny (model prog w) A (pyIter v) (fun it s₂ => ∃ I, it = .ref I ∧ Grows s s₂ ∧ Fed prog w A X target ds s.heap I s₂) E s) : EvIt prog w G A env ρ target iter ds := fun X s E ok =>
  h.use ok fun v s₁ k₁ ok₁ hv => wpAny_mono (k X s₁ E v hv) (fun it s₂ ⟨I, e, g, wr, hw, f⟩ =>
    ⟨I, e, k₁.tr g, wr, fun b hb => k₁.none (hw b hb), f⟩) fun _ _ x => x

/-- the iterator of one object at the heap's end -/
theorem Fed.one {target : Expr} {ds : List Den} {o : Obj} {ax : Option Addr} {n : Nat} {P : Nat → Value → Prop} {St : Nat → Heap → Prop} {fp : List Addr}
    (W : Walks prog w A s.heap.objs.size fp [s.heap.objs.size] n P St) (hfp : ∀ b ∈ fp, b = s.heap.objs.size ∨ ∃ o, vw X s.heap b o) (hn : ds.length = n)
    (hst : St 0 (s.heap.push o)) (hd : ∀ i v d, P i v → ds[i]? = some d → d.is (vw X s.heap) v) (ht : ∀ v, letOwnedTupleGo target (.ref s.heap.objs.size) v = pure ()) (hfree : o.isFreed = false)
    (hlive : ∀ i h, St i h → ∃ o, h.get? s.heap.objs.size = some o) :
    Fed prog w A X target ds s.heap s.heap.objs.size { s with heap := s.heap.push o } := by
  refine ⟨fun b => b ∈ [s.heap.objs.size], fun b hb => ?_, fun b hb => ?_, fun X' hw hX => ?_⟩
  · rw [List.mem_singleton.mp hb]; exact get_size _
  · rw [List.mem_singleton.mp hb]; exact ⟨o, Heap.get?_push_size _ hfree⟩
  · have up : ∀ a o', vw X s.heap a o' → vw X' (s.heap.push o) a o' := fun a o' q => by
      have e := Heap.get?_push_of_some o q.1
      refine ⟨e, fun z => ?_⟩
      rcases hX a o' z e with h | h
      · exact q.2 h
      · rw [List.mem_singleton.mp h] at q
        have q1 := q.1
        rw [get_size] at q1; cases q1
    refine ⟨_, Feed.of_walks W (s.heap.push o) hn (fun b hb => ?_) (fun b hb => hw b hb) (fun i h b st hb => by rw [List.mem_singleton.mp hb]; exact hlive i h st)
      (fun i v d hP hi => d.mono up (hd i v d hP hi)) ht, fun h k => ⟨W.frame 0 _ h hst fun b hb o' e => k b o' e, fun a o' q => ⟨k a o' q.1, q.2⟩⟩⟩
    rcases hfp b hb with rfl | ⟨o', q⟩
    · exact .inr (List.mem_singleton.mpr rfl)
    · exact .inl (up b o' q).2

theorem pyIter_lst {target : Expr} {ds : List Den} {v : Value} (hh : A.handled = none) (hv : (dLst ds).is (vw X s.heap) v) (ht : ∀ it v, letOwnedTupleGo target it v = pure ()) :
    wpAny (model prog w) A (pyIter v) (fun it s₂ => ∃ I, it = .ref I ∧ Grows s s₂ ∧ Fed prog w A X target ds s.heap I s₂) E s := by
  obtain ⟨a, n, vs, rfl, ha, hz, hvs⟩ := hv
  have hl : s.heap.IsList a vs.toArray := ⟨_, ha.1, rfl, n, rfl⟩
  refine wpAny_pyIter_list hl ⟨_, rfl, Grows.push, ?_⟩
  have hne : a ≠ s.heap.objs.size := Nat.ne_of_lt (Heap.lt_size ha.1)
  refine Fed.one (ax := some a) (Walks.list hh s.heap.objs.size a hne vs.toArray) (fun b hb => ?_) (by rw [hvs.length, List.size_toArray]) ⟨⟨_, Heap.get?_push_size _ rfl, rfl, rfl⟩, hl.push _⟩
    (fun i v d hP hi => ?_) (fun v => ht _ v) rfl (fun i h st => by obtain ⟨o', e, _⟩ := st.1; exact ⟨o', e⟩)
  · simp only [List.mem_cons, List.not_mem_nil, or_false] at hb
    rcases hb with rfl | rfl
    · exact .inl rfl
    · exact .inr ⟨_, ha⟩
  · obtain ⟨u, hu, r⟩ := hvs.get hi
    rw [List.getElem?_toArray, hu] at hP
    cases hP
    exact r

theorem pyIter_tup {target : Expr} {ds : List Den} {v : Value} (hh : A.handled = none) (hv : (dTup ds).is (vw X s.heap) v) (ht : ∀ it v, letOwnedTupleGo target it v = pure ()) :
    wpAny (model prog w) A (pyIter v) (fun it s₂ => ∃ I, it = .ref I ∧ Grows s s₂ ∧ Fed prog w A X target ds s.heap I s₂) E s := by
  obtain ⟨a, n, vs, rfl, ha, hz, hvs⟩ := hv
  have hl : s.heap.IsTuple a vs.toArray := ⟨_, ha.1, rfl, n, rfl⟩
  refine wpAny_pyIter_tuple hl ⟨_, rfl, Grows.push, ?_⟩
  have hne : a ≠ s.heap.objs.size := Nat.ne_of_lt (Heap.lt_size ha.1)
  refine Fed.one (ax := some a) (Walks.tuple hh s.heap.objs.size a hne vs.toArray) (fun b hb => ?_) (by rw [hvs.length, List.size_toArray]) ⟨⟨_, Heap.get?_push_size _ rfl, rfl, rfl⟩, hl.push _⟩
    (fun i v d hP hi => ?_) (fun v => ht _ v) rfl (fun i h st => by obtain ⟨o', e, _⟩ := st.1; exact ⟨o', e⟩)
  · simp only [List.mem_cons, List.not_mem_nil, or_false] at hb
    rcases hb with rfl | rfl
    · exact .inl rfl
    · exact .inr ⟨_, ha⟩
  · obtain ⟨u, hu, r⟩ := hvs.get hi
    rw [List.getElem?_toArray, hu] at hP
    cases hP
    exact r

/-- a range object by ones -/
def dRange (a b : Int) : Den where
  is g v := ∃ r t u c, v = .ref r ∧ g r { cls := .type "range", dict := none, data := .fields #[.int a t, .int b u, .int 1 c], slots := #[] }
  mono := fun hg ⟨r, t, u, c, e, h⟩ => ⟨r, t, u, c, e, hg _ _ h⟩

def rangeL (a b : Int) : List Int := (List.range (b - a).toNat).map fun i : Nat => a + (i : Int)

theorem pyIter_rng {target : Expr} {a b : Int} {v : Value} (hh : A.handled = none) (hv : (dRange a b).is (vw X s.heap) v) (ht : ∀ it v, letOwnedTupleGo target it v = pure ())
    (ha : -1000000 ≤ a ∧ a ≤ 1000000) (hb : -1000000 ≤ b ∧ b ≤ 1000000) :
    wpAny (model prog w) A (pyIter v) (fun it s₂ => ∃ I, it = .ref I ∧ Grows s s₂ ∧ Fed prog w A X target ((rangeL a b).map dInt) s.heap I s₂) E s := by
  obtain ⟨r, t, u, c, rfl, hr⟩ := hv
  have hr' : IsRange s.heap r a b 1 t u c := hr.1
  have hsz : Builtin.Range.rangeSize a b 1 = (((b - a).toNat : Nat) : Int) := by
    rw [rangeSize_one]; split <;> omega
  refine wpAny_pyIter_range hr' (small_one (by omega) (by omega) (by omega) (by omega)) ⟨_, rfl, Grows.push, ?_⟩
  refine Fed.one (ax := none) (Walks.range hh s.heap.objs.size a 1 (b - a).toNat) (fun b' hb' => .inl (List.mem_singleton.mp hb')) (by simp [rangeL]) ?_
    (fun i v d hP hi => ?_) (fun v => ht _ v) rfl (fun i h st => ⟨_, st⟩)
  · show IsRangeIter _ _ _ _ _
    rw [hsz]
    simpa using Heap.get?_push_size s.heap (o := { cls := .type "range_iterator", data := .fields #[rawInt a, rawInt (((b - a).toNat : Nat) : Int), rawInt 1] }) rfl
  · obtain ⟨t', rfl⟩ := hP
    rw [List.getElem?_map] at hi
    obtain ⟨x, hx, rfl⟩ := Option.map_eq_some_iff.mp hi
    unfold rangeL at hx
    rw [List.getElem?_map] at hx
    obtain ⟨j, hj, rfl⟩ := Option.map_eq_some_iff.mp hx
    have : j = i := by
      have := List.getElem?_eq_some_iff.mp hj
      obtain ⟨_, q⟩ := this
      rw [List.getElem_range] at q; exact q.symm
    subst this
    exact ⟨t', by simp [Int.mul_one]⟩

theorem EvIt.lst {target iter : Expr} {ds : List Den} (hh : A.handled = none) (h : Ev prog w G A env ρ iter (dLst ds)) (ht : ∀ it v, letOwnedTupleGo target it v = pure () := by intro _ _; rfl) :
    EvIt prog w G A env ρ target iter ds := EvIt.of h fun X s E v hv => pyIter_lst hh hv ht
theorem EvIt.tup {target iter : Expr} {ds : List Den} (hh : A.handled = none) (h : Ev prog w G A env ρ iter (dTup ds)) (ht : ∀ it v, letOwnedTupleGo target it v = pure () := by intro _ _; rfl) :
    EvIt prog w G A env ρ target iter ds := EvIt.of h fun X s E v hv => pyIter_tup hh hv ht
theorem EvIt.rng {target iter : Expr} {a b : Int} (hh : A.handled = none) (h : Ev prog w G A env ρ iter (dRange a b)) (ha : -1000000 ≤ a ∧ a ≤ 1000000) (hb : -1000000 ≤ b ∧ b ≤ 1000000)
    (ht : ∀ it v, letOwnedTupleGo target it v = pure () := by intro _ _; rfl) :
    EvIt prog w G A env ρ target iter ((rangeL a b).map dInt) := EvIt.of h fun X s E v hv => pyIter_rng hh hv ht ha hb
end
end Mine

namespace Mine
open PySem.Calls

section
variable {prog : Program} {w : World} {G : Heap} {A : Around} {env : Env} {ρ : Rho} {E : Value → Shared → Prop} {s : Shared} {X : Addr → Prop}

theorem Ok.weaken {ρ' : Rho} (ok : Ok G X env ρ s) (h : ∀ y d, ρ'.lookup y = some d → ρ.lookup y = some d) : Ok G X env ρ' s :=
  { ok with vars := fun y d e => ok.vars y d (h y d e) }

theorem lookup_cons_ne {x y : Str} {d : Den} (h : y ≠ x) : List.lookup y ((x, d) :: ρ) = ρ.lookup y := by
  rw [List.lookup_cons]
  have : (y == x) = false := beq_eq_false_iff_ne.mpr h
  rw [this]
theorem lookup_cons_eq {x : Str} {d : Den} : List.lookup x ((x, d) :: ρ) = some d := by rw [List.lookup_cons, beq_self_eq_true]

theorem Ok.change {s' : Shared} {M : Addr → Prop} {x : Str} {d : Den} {v : Value} (ok : Ok G X env ρ s) (k : KeepM M s s') (hM : ∀ b, M b → Own env b)
    (hl : ∀ b, M b → ∃ o, s'.heap.get? b = some o) (hns : ∃ m, s'.heap.Ns env.locals m) (hcell : ∀ y c, env.cells.lookup y = some c → ∃ u, s'.heap.IsCell c u)
    (hs : Sits env s'.heap x v) (hv : d.is (vw X s.heap) v) (hy : ∀ y u, y ≠ x → Sits env s.heap y u → Sits env s'.heap y u) : Ok G X env ((x, d) :: ρ) s' where
  kind := ok.kind
  glob := ok.glob
  blt := ok.blt
  live := fun b q => (Classical.em (M b)).elim (hl b) fun m => let ⟨o, e⟩ := ok.live b q; ⟨o, k.get m e⟩
  own := ok.own
  ns := hns
  cell := fun y c hc => ⟨hcell y c hc, (ok.cell y c hc).2⟩
  inj := ok.inj
  base := fun a o e => vw_keepM k (fun b q => ok.own b (hM b q)) a o (ok.base a o e)
  vars := fun y d' e => by
    have up : ∀ {d : Den} {v : Value}, d.is (vw X s.heap) v → d.is (vw X s'.heap) v := fun h => Den.keepM _ k (fun b q => ok.own b (hM b q)) h
    by_cases hyx : y = x
    · subst hyx
      rw [lookup_cons_eq] at e
      cases e
      exact ⟨v, hs, up hv⟩
    · rw [lookup_cons_ne hyx] at e
      obtain ⟨u, hu, hd⟩ := ok.vars y d' e
      exact ⟨u, hy y u hyx hu, up hd⟩

/-- the slot of a name -/
def Slot (env : Env) (x : Str) (b : Addr) : Prop := (env.kindOf x = some .local ∧ b = env.locals) ∨ (env.kindOf x = some .cell ∧ env.cells.lookup x = some b)
theorem Slot.own {x : Str} {b : Addr} (h : Slot env x b) : Own env b := h.elim (fun h => .inl h.2) fun h => .inr ⟨x, h.2⟩

theorem Ok.store {x : Str} {d : Den} {v : Value} (ok : Ok G X env ρ s) (hx : env.kindOf x = some .local ∨ (env.kindOf x = some .cell ∧ (env.cells.lookup x).isSome = true)) (hv : d.is (vw X s.heap) v) :
    wpAny (model prog w) A (storeName env x v) (fun _ s' => KeepM (Slot env x) s s' ∧ Ok G X env ((x, d) :: ρ) s') E s := by
  rcases hx with hx | ⟨hx, hc⟩
  · obtain ⟨m, hn⟩ := ok.ns
    refine wpAny_storeName_local hx hn (fun h' hn' hs' => ?_) (by rw [ok.kind]; rfl)
    have k : KeepM (fun b => b = env.locals) s { s with heap := h', toks := s.toks + 1 } := ⟨h', _, rfl, fun b o hb e => hs'.extBut b o hb e⟩
    refine ⟨k.mono fun b e => .inl ⟨hx, e⟩, ok.change (v := v) k (fun b e => .inl e) (fun b e => ?_) ⟨_, hn'⟩ (fun y c hc => ?_) (.inl ⟨hx, _, hn', by simp⟩) hv fun y u hyx hu => ?_⟩
    · obtain ⟨o, _, _, ho, _⟩ := hn'; exact ⟨o, e ▸ ho⟩
    · obtain ⟨⟨u, hu⟩, hne⟩ := ok.cell y c hc
      exact ⟨u, hu.sameBut hs' hne⟩
    · rcases hu with ⟨hk, m₂, hn₂, hm⟩ | ⟨hk, c, hc, hu⟩
      · refine .inl ⟨hk, _, hn', ?_⟩
        rw [if_neg hyx]
        have : m y = m₂ y := by
          obtain ⟨o, es, ep, e, hd, _, hf⟩ := hn
          obtain ⟨o₂, es₂, ep₂, e₂, hd₂, _, hf₂⟩ := hn₂
          rw [e] at e₂; cases e₂
          rw [hd] at hd₂; cases hd₂
          rw [← hf, ← hf₂]
        rw [this]; exact hm
      · exact .inr ⟨hk, c, hc, hu.sameBut hs' (ok.cell y c hc).2⟩
  · obtain ⟨c, hc⟩ := Option.isSome_iff_exists.mp hc
    obtain ⟨⟨v₀, hv₀⟩, hne⟩ := ok.cell x c hc
    refine wpAny_storeName_cell ok.kind hx hc hv₀ fun h' hv' hs' => ?_
    have k : KeepM (fun b => b = c) s { s with heap := h' } := ⟨h', s.toks, rfl, fun b o hb e => hs'.extBut b o hb e⟩
    refine ⟨k.mono fun b e => .inr ⟨hx, e ▸ hc⟩, ok.change (v := v) k (fun b e => .inr ⟨x, e ▸ hc⟩) (fun b e => ?_) ?_ (fun y c' hc' => ?_) (.inr ⟨.inl hx, c, hc, hv'⟩) hv fun y u hyx hu => ?_⟩
    · obtain ⟨o, ho, _⟩ := hv'; exact ⟨o, e ▸ ho⟩
    · obtain ⟨m, hn⟩ := ok.ns; exact ⟨m, hn.sameBut hs' (Ne.symm hne)⟩
    · by_cases hcc : c' = c
      · exact ⟨_, hcc ▸ hv'⟩
      · obtain ⟨⟨u, hu⟩, _⟩ := ok.cell y c' hc'
        exact ⟨u, hu.sameBut hs' hcc⟩
    · rcases hu with ⟨hk, m₂, hn₂, hm⟩ | ⟨hk, c', hc', hu⟩
      · exact .inl ⟨hk, m₂, hn₂.sameBut hs' (Ne.symm hne), hm⟩
      · exact .inr ⟨hk, c', hc', hu.sameBut hs' fun e => hyx (ok.inj y x c (e ▸ hc') hc)⟩

/-- assigning a target: the frame knows more -/
def AsgnOk (prog : Program) (w : World) (G : Heap) (A : Around) (env : Env) (W : Addr → Prop) (t : Expr) (d : Den) (new : Rho) : Prop :=
  ∀ (X : Addr → Prop) (ρ : Rho) (s : Shared) (E : Value → Shared → Prop) (v : Value), Ok G X env ρ s → d.is (vw X s.heap) v →
    wpAny (model prog w) A (assign t env v) (fun _ s' => KeepM W s s' ∧ Ok G X env (new ++ ρ) s') E s

/-- a name's kind in a frame, where it can be stored -/
def Stores (env : Env) (x : Str) : Prop := env.kindOf x = some .local ∨ (env.kindOf x = some .cell ∧ (env.cells.lookup x).isSome = true)

theorem AsgnOk.name {W : Addr → Prop} {x : Str} {pos : Pos} {d : Den} (hx : Stores env x) (hW : ∀ b, Slot env x b → W b) : AsgnOk prog w G A env W (.Name x pos) d [(x, d)] := fun X ρ s E v ok hv =>
  wpAny_assign_Name (wpAny_mono (ok.store hx hv) (fun _ _ q => ⟨q.1.mono hW, q.2⟩) fun _ _ x => x)

inductive AsgnL (prog : Program) (w : World) (G : Heap) (A : Around) (env : Env) (W : Addr → Prop) : List Expr → List Den → Rho → Prop
  | nil : AsgnL prog w G A env W [] [] []
  | cons {t : Expr} {ts : List Expr} {d : Den} {ds : List Den} {n ns : Rho} (hs : assignEach (t :: ts) env = (false, assign t env) :: assignEach ts env) (h : AsgnOk prog w G A env W t d n)
      (r : AsgnL prog w G A env W ts ds ns) : AsgnL prog w G A env W (t :: ts) (d :: ds) (ns ++ n)

theorem AsgnL.plain {W : Addr → Prop} {ts : List Expr} {ds : List Den} {n : Rho} (h : AsgnL prog w G A env W ts ds n) : (assignEach ts env).length = ds.length ∧ (assignEach ts env).findIdx? (·.1) = none := by
  induction h with
  | nil => exact ⟨rfl, rfl⟩
  | cons hs _ _ ih => rw [hs]; exact ⟨by rw [List.length_cons, List.length_cons, ih.1], by rw [List.findIdx?_cons, ih.2]; rfl⟩

theorem AsgnL.run {W : Addr → Prop} {ts : List Expr} {ds : List Den} {n : Rho} (h : AsgnL prog w G A env W ts ds n) (hW : ∀ b, W b → Own env b) : ∀ {ρ : Rho} {s : Shared} {vs : List Value}, Ok G X env ρ s → All2 (fun d v => d.is (vw X s.heap) v) ds vs →
    wpAny (model prog w) A (assignInOrder ((assignEach ts env).map (·.2)) vs) (fun _ s' => KeepM W s s' ∧ Ok G X env (n ++ ρ) s') E s := by
  induction h with
  | nil =>
    intro ρ s vs ok hv
    cases vs with
    | nil => exact wpAny_pure ⟨KeepM.refl s, ok⟩
    | cons => exact hv.elim
  | @cons t ts d ds n ns hs ha _ ih =>
    intro ρ s vs ok hv
    cases vs with
    | nil => exact hv.elim
    | cons v vs =>
      rw [hs]
      show wpAny _ A (do holding vs (assign t env v); assignInOrder ((assignEach ts env).map (·.2)) vs) _ _ _
      refine wpAny_bind (wpAny_holding (wpAny_mono (ha X ρ s E v ok hv.1) (fun _ s₁ h₁ => ?_) fun _ _ x => x))
      refine wpAny_mono (ih h₁.2 (hv.2.mono fun d v q => Den.keepM d h₁.1 (fun b hb => ok.own b (hW b hb)) q)) (fun _ s₂ h₂ => ⟨h₁.1.trans h₂.1, ?_⟩) fun _ _ x => x
      rw [List.append_assoc]; exact h₂.2

theorem AsgnOk.tup {W : Addr → Prop} {ts : List Expr} {k : Nat} {pos : Pos} {ds : List Den} {n : Rho} (hh : A.handled = none) (h : AsgnL prog w G A env W ts ds n) (hW : ∀ b, W b → Own env b) :
    AsgnOk prog w G A env W (.Tuple ts k pos) (dTup ds) n := fun X ρ s E v ok hv => by
  obtain ⟨a, m, vs, rfl, ha, hz, hvs⟩ := hv
  rw [arm_assign_Tuple]
  refine wpAny_bind (wpAny_standAt ?_)
  refine wpAny_unpack_tuple hh (items := vs.toArray) ⟨_, ha.1, rfl, m, rfl⟩ (by rw [h.plain.1, hvs.length, List.size_toArray]) h.plain.2 fun h' hs' => ?_
  have g : Grows s { s with heap := h' } := ⟨h', s.toks, rfl, fun b o e => hs' b o (Nat.ne_of_lt (Heap.lt_size e)) e⟩
  refine wpAny_mono (h.run hW (ok.keeps g) (all_keeps g hvs)) (fun _ s₂ h₂ => ⟨?_, h₂.2⟩) fun _ _ x => x
  exact (KeepM.of_keeps g).trans h₂.1
end
end Mine

namespace Mine
open PySem.Calls

/-- the list that a comprehension fills -/
def Acc (X : Addr → Prop) (h : Heap) (D : Addr) (os : List Den) : Prop := ∃ vs, h.get? D = some (LCg.lst vs) ∧ os.length ≤ sizeLine ∧ All2 (fun d v => d.is (vw X h) v) os vs

section
variable {prog : Program} {w : World} {G : Heap} {A : Around} {env : Env} {ρ : Rho} {E : Value → Shared → Prop} {s s' : Shared} {X X₀ M : Addr → Prop} {D : Addr} {os : List Den}

theorem Acc.keepM (a : Acc X s.heap D os) (k : KeepM M s s') (hX : ∀ b, M b → X b) (hD : ¬ M D) : Acc X s'.heap D os :=
  let ⟨vs, e, hz, h⟩ := a; ⟨vs, k.get hD e, hz, h.mono fun d v q => Den.keepM d k hX q⟩
theorem Acc.keeps (a : Acc X s.heap D os) (k : Grows s s') : Acc X s'.heap D os :=
  let ⟨vs, e, hz, h⟩ := a; ⟨vs, Grows.at k e, hz, h.mono fun d v q => Den.keeps d k q⟩
theorem Acc.sub {h : Heap} (a : Acc X h D os) (hX : ∀ b, X₀ b → X b) : Acc X₀ h D os :=
  let ⟨vs, e, hz, q⟩ := a; ⟨vs, e, hz, q.mono fun d v r => d.mono (vw_sub fun b _ z _ => hX b z) r⟩

theorem Ok.leave (ok : Ok G X env ρ s) (k : KeepM M s s') (hM : ∀ b, M b → X b) (hX : ∀ b, X₀ b → X b ∧ ¬ M b) (ho : ∀ b, Own env b → X₀ b) : Ok G X₀ env ρ s' where
  kind := ok.kind
  glob := ok.glob
  blt := ok.blt
  live := fun b q => let ⟨o, e⟩ := ok.live b (hX b q).1; ⟨o, k.get (hX b q).2 e⟩
  own := ho
  ns := let ⟨m, o, es, ep, e, r⟩ := ok.ns; ⟨m, o, es, ep, k.get (hX _ (ho _ (.inl rfl))).2 e, r⟩
  cell := fun y c hc => let ⟨⟨v, o, e, r⟩, n⟩ := ok.cell y c hc; ⟨⟨v, o, k.get (hX _ (ho _ (.inr ⟨y, hc⟩))).2 e, r⟩, n⟩
  inj := ok.inj
  base := fun a o e => let q := vw_keepM k hM a o (ok.base a o e); ⟨q.1, fun z => q.2 (hX a z).1⟩
  vars := fun y d e => let ⟨v, hs, hv⟩ := ok.vars y d e
    ⟨v, hs.keepM k fun b hb => (hX b (ho b hb)).2, d.mono (fun a o q => ⟨q.1, fun z => q.2 (hX a z).1⟩) (Den.keepM d k hM hv)⟩

theorem Ok.enter (ok : Ok G X₀ env ρ s) (k : Grows s s') (hX : ∀ b, X₀ b → X b) (hn : ∀ b, X b → ¬ X₀ b → s.heap.get? b = none) (hl : ∀ b, X b → ¬ X₀ b → ∃ o, s'.heap.get? b = some o) : Ok G X env ρ s' where
  kind := ok.kind
  glob := ok.glob
  blt := ok.blt
  live := fun b q => (Classical.em (X₀ b)).elim (fun h => let ⟨o, e⟩ := ok.live b h; ⟨o, Grows.at k e⟩) (hl b q)
  own := fun b h => hX b (ok.own b h)
  ns := (ok.keeps k).ns
  cell := (ok.keeps k).cell
  inj := ok.inj
  base := fun a o e => let q := ok.base a o e; ⟨Grows.at k q.1, fun z => by have := hn a z q.2; rw [q.1] at this; cases this⟩
  vars := fun y d e => let ⟨v, hs, hv⟩ := ok.vars y d e
    ⟨v, hs.keepM (KeepM.of_keeps (M := fun _ => False) (let ⟨a, b, c, f⟩ := k; ⟨a, b, c, f⟩)) (fun _ _ q => q), d.mono (fun a o q => ⟨Grows.at k q.1, fun z => by have := hn a z q.2; rw [q.1] at this; cases this⟩) hv⟩

theorem lst_push (ys : List Value) (y : Value) : ({ cls := .type "list", data := .seq (ys.toArray.push y) (ys.length + 1) } : Obj) = LCg.lst (ys ++ [y]) := LCg.lst_snoc ys y

theorem Acc.append {d : Den} {v : Value} (a : Acc X s.heap D os) (hXD : X D) (hv : d.is (vw X s.heap) v) (hz : os.length + 1 ≤ sizeLine) :
    wpAny (model prog w) A (call (.builtin "list.append") [.ref D, v]) (fun r s' => r = .none ∧ KeepM (fun b => b = D) s s' ∧ Acc X s'.heap D (os ++ [d]) ∧ ∃ o, s'.heap.get? D = some o) E s := by
  obtain ⟨vs, e, hz', h⟩ := a
  refine append_at (its := vs.toArray) (n := vs.length) e (fun h' hs' he' => ?_) (by rw [List.size_toArray, ← h.length]; exact hz')
  have k : KeepM (fun b => b = D) s { s with heap := h' } := ⟨h', s.toks, rfl, fun b o hb q => hs'.extBut b o hb q⟩
  have up : ∀ {d : Den} {v : Value}, d.is (vw X s.heap) v → d.is (vw X h') v := fun q => Den.keepM _ k (fun b hb => hb ▸ hXD) q
  rw [lst_push] at he'
  exact ⟨rfl, k, ⟨vs ++ [v], he', by rw [List.length_append]; exact hz, (h.mono fun d v q => up q).append ⟨up hv, trivial⟩⟩, _, he'⟩

/-- one turn behind the target: the list grows by out -/
def Turn (prog : Program) (w : World) (G : Heap) (A : Around) (env : Env) (W : Addr → Prop) (X : Addr → Prop) (ρ : Rho) (D : Addr) (rest : Sem Unit) (new : Rho) (out : List Den) : Prop :=
  ∀ (s : Shared) (E : Value → Shared → Prop) (os : List Den), Ok G X env (new ++ ρ) s → Acc X s.heap D os → os.length + out.length ≤ sizeLine →
    wpAny (model prog w) A rest (fun _ s' => KeepM (fun b => W b ∨ b = D) s s' ∧ Ok G X env ρ s' ∧ Acc X s'.heap D (os ++ out)) E s

theorem flatten_take_succ {α : Type} {ls : List (List α)} {i : Nat} {l : List α} (h : ls[i]? = some l) : (ls.take (i + 1)).flatten = (ls.take i).flatten ++ l := by
  rw [List.take_add_one, h]; simp

theorem flatten_take_le {α : Type} (ls : List (List α)) (i : Nat) : (ls.take i).flatten.length ≤ ls.flatten.length := by
  conv => rhs; rw [← List.take_append_drop i ls, List.flatten_append, List.length_append]
  omega

theorem comp_loop {elt : Expr} {gens : List Comprehension} {scope : Scope} {pos p : Pos} {depth : Nat} {I : Addr} {target : Expr} {rest : Sem Unit} {wr : Addr → Prop} {ds : List Den} {St : Nat → Heap → Prop} {R : Result → Shared → Prop} {W : Addr → Prop} (hW : ∀ b, W b → Own env b)
    (outs : List (List Den))
    (heq : compTurn (.ListComp elt gens scope pos) depth (.ref I) (.ref D) env = (standAt p >>= fun _ => pyNext (.ref I) >>= fun r => match r with
      | none => pure (.done .next)
      | some v => letOwnedTupleGo target (.ref I) v >>= fun _ => assign target env v >>= fun _ => rest >>= fun _ => again (.compLoop (.ListComp elt gens scope pos) depth (.ref I) (.ref D) env)))
    (F : Feed prog w A X I target wr ds St) (hlen : outs.length = ds.length)
    (hstep : ∀ (i : Nat) (d : Den) (out : List Den), ds[i]? = some d → outs[i]? = some out → ∃ new, AsgnOk prog w G A env W target d new ∧ Turn prog w G A env W X ρ D rest new out)
    (hXD : X D) (hD : ¬ W D) (hwr : ∀ b, wr b → X b ∧ ¬ Own env b ∧ b ≠ D)
    (hX₀ : ∀ b, X₀ b → X b ∧ ¬ wr b) (hown : ∀ b, Own env b → X₀ b) (hD₀ : X₀ D)
    (ok : Ok G X env ρ s) (acc : Acc X s.heap D os) (st : St 0 s.heap) (hsz : os.length + outs.flatten.length ≤ sizeLine)
    (hR : ∀ s', KeepM (fun b => W b ∨ b = D ∨ wr b) s s' → Ok G X₀ env ρ s' → Acc X₀ s'.heap D (os ++ outs.flatten) → R (.ok .next) s') :
    codeAny (model prog w) A (.compLoop (.ListComp elt gens scope pos) depth (.ref I) (.ref D) env) R s := by
  refine codeAny_loop rfl (fun k s' => ∃ i, k = ds.length + 1 - i ∧ i ≤ ds.length ∧ KeepM (fun b => W b ∨ b = D ∨ wr b) s s' ∧ Ok G X env ρ s' ∧ Acc X s'.heap D (os ++ (outs.take i).flatten) ∧ St i s'.heap) ?_ (ds.length + 1)
    ⟨0, rfl, Nat.zero_le _, KeepM.refl s, ok, by simpa using acc, st⟩
  rintro _ s₁ ⟨i, rfl, hi, k₁, ok₁, acc₁, st₁⟩
  show wpAny _ A ((compTurn (.ListComp elt gens scope pos) depth (.ref I) (.ref D) env).onRaise (fun x => do noteFrame x env; theTreesLotGoes x)) _ _ s₁
  refine wpAny_noted ?_
  rw [heq]
  have hM : ∀ {P : Addr → Prop}, (∀ b, P b → W b ∨ b = D) → (∀ b, P b → X b) ∧ ∀ b, P b → ¬ wr b := fun h =>
    ⟨fun b hb => (h b hb).elim (fun z => ok.own b (hW b z)) fun e => e ▸ hXD, fun b hb hw => (h b hb).elim (fun z => (hwr b hw).2.1 (hW b z)) (hwr b hw).2.2⟩
  have frame : ∀ {j : Nat} {P : Addr → Prop} {s₂ s₃ : Shared}, (∀ b, P b → W b ∨ b = D) → KeepM P s₂ s₃ → St j s₂.heap → St j s₃.heap := fun h k st =>
    F.frame _ _ _ st fun b o hb e => k.get (fun z => hb.elim (fun n => n ((hM h).1 b z)) ((hM h).2 b z)) e
  refine wpAny_bind (wpAny_standAt (wpAny_bind ?_))
  by_cases hlt : i < ds.length
  · obtain ⟨d, hd⟩ : ∃ d, ds[i]? = some d := ⟨_, List.getElem?_eq_getElem hlt⟩
    obtain ⟨out, hout⟩ : ∃ out, outs[i]? = some out := ⟨_, List.getElem?_eq_getElem (hlen ▸ hlt)⟩
    obtain ⟨new, hasg, hturn⟩ := hstep i d out hd hout
    refine wpAny_mono (F.item i s₁ d _ ok₁.live hd st₁) (fun r s₂ h₂ => ?_) fun _ _ x => x
    obtain ⟨v, rfl, h₂⟩ := h₂
    refine wpAny_bind (wpAny_mono h₂ (fun _ s₃ h₃ => ?_) fun _ _ x => x)
    obtain ⟨k₃, st₃, hv⟩ := h₃
    have ok₃ : Ok G X env ρ s₃ := ok₁.keepM k₃ (fun b hb => (hwr b hb).1) (fun b hb hw => (hwr b hw).2.1 hb) fun b hb => F.live _ _ b st₃ hb
    have acc₃ := acc₁.keepM k₃ (fun b hb => (hwr b hb).1) fun hw => (hwr D hw).2.2 rfl
    refine wpAny_bind (wpAny_mono (hasg X ρ s₃ _ v ok₃ hv) (fun _ s₄ h₄ => ?_) fun _ _ x => x)
    obtain ⟨k₄, ok₄⟩ := h₄
    have acc₄ := acc₃.keepM k₄ (fun b z => ok.own b (hW b z)) hD
    have st₄ := frame (fun b h => .inl h) k₄ st₃
    have hz : (os ++ (outs.take i).flatten).length + out.length ≤ sizeLine := by
      have h1 := flatten_take_le outs (i + 1)
      rw [flatten_take_succ hout, List.length_append] at h1
      rw [List.length_append]; omega
    refine wpAny_bind (wpAny_mono (hturn s₄ _ _ ok₄ acc₄ hz) (fun _ s₅ h₅ => ?_) fun _ _ x => x)
    obtain ⟨k₅, ok₅, acc₅⟩ := h₅
    have st₅ := frame (fun b h => h) k₅ st₄
    refine wpAny_pure ⟨rfl, ds.length + 1 - (i + 1), by omega, i + 1, rfl, hlt, ?_, ok₅, ?_, st₅⟩
    · exact k₁.trans ((k₃.mono fun b h => .inr (.inr h)).trans ((k₄.mono fun b h => .inl h).trans (k₅.mono fun b h => h.elim .inl fun e => .inr (.inl e))))
    · rw [flatten_take_succ hout, ← List.append_assoc]; exact acc₅
  · obtain rfl : i = ds.length := Nat.le_antisymm hi (Nat.not_lt.mp hlt)
    refine wpAny_mono (F.done s₁ _ st₁) (fun r s₂ h₂ => ?_) fun _ _ x => x
    obtain ⟨rfl, k₂⟩ := h₂
    refine wpAny_pure (hR s₂ (k₁.trans (k₂.mono fun b h => .inr (.inr h))) (ok₁.leave k₂ (fun b hb => (hwr b hb).1) hX₀ hown) ?_)
    have := (acc₁.keepM k₂ (fun b hb => (hwr b hb).1) fun hw => (hwr D hw).2.2 rfl).sub fun b hb => (hX₀ b hb).1
    rw [List.take_of_length_le (by rw [hlen]; exact Nat.le_refl _)] at this
    exact this
end
end Mine

namespace Mine
open PySem.Calls

section
variable {prog : Program} {w : World} {G : Heap} {A : Around} {env : Env} {ρ : Rho} {E : Value → Shared → Prop} {s s' : Shared} {X X₀ M : Addr → Prop} {D : Addr} {os : List Den}

theorem newEnv_comp {scope : Scope} {cl : List (Str × Addr)} {Q : Env → Shared → Prop}
    (h : Q (newEnv scope s.heap.objs.size env.globals (cellsFrom (s.heap.objs.size + 1) scope.names cl) env.qual none .none (some env) builtinsNs)
      { s with heap := pushCells (s.heap.push { cls := .type "dict", data := .dict #[] }) scope.names }) :
    wpAny (model prog w) A (newFunctionEnv scope env.globals cl [] env.qual none .none (some env)) Q E s := by
  simp only [newFunctionEnv, Option.isSome_some, if_true]
  refine wpAny_bind (wpAny_alloc ?_)
  refine wpAny_bind (wpAny_layCells _ (fun name kind cells => by cases hkc : kind == NameKind.cell <;> simp) _ _ _ _ ?_)
  rw [show ({ s with heap := s.heap.push { cls := .type "dict", data := .dict #[] } } : Shared).heap.objs.size = s.heap.objs.size + 1 from Heap.size_push ..]
  refine wpAny_bind ?_
  rw [List.forIn_nil]
  exact wpAny_pure (wpAny_pure h)

theorem closure_go (names : List (Str × NameKind)) (env : Env) (h : ∀ n, (n, NameKind.free) ∈ names → (env.cells.lookup n).isSome = true) : ∀ cs : List (Str × Addr), (∀ x c, cs.lookup x = some c → env.cells.lookup x = some c) →
    ∃ cl, (forIn names cs (fun (x : Str × NameKind) (r : List (Str × Addr)) => (match x with
      | (name, kind) => if kind == .free then do let a ← cellOf env name; pure (ForInStep.yield ((name, a) :: r)) else pure (ForInStep.yield r) : Sem (ForInStep (List (Str × Addr))))) = (pure cl : Sem (List (Str × Addr)))) ∧
      (∀ x c, cl.lookup x = some c → env.cells.lookup x = some c) ∧ (∀ n, (n, NameKind.free) ∈ names → cl.lookup n = env.cells.lookup n) ∧ (∀ n c, cs.lookup n = some c → cl.lookup n = some c) := by
  induction names with
  | nil => exact fun cs hc => ⟨cs, by rw [List.forIn_nil], hc, fun n hn => (nomatch hn), fun _ _ e => e⟩
  | cons p r ih =>
    intro cs hc
    obtain ⟨n, k⟩ := p
    rw [List.forIn_cons]
    by_cases hk : k = .free
    · subst hk
      obtain ⟨c, e⟩ := Option.isSome_iff_exists.mp (h n (.head _))
      have hc' : ∀ x c', List.lookup x ((n, c) :: cs) = some c' → env.cells.lookup x = some c' := fun x c' q => by
        rw [List.lookup_cons] at q
        cases hx : x == n with
        | true => rw [hx] at q; cases q; rw [beq_iff_eq.mp hx]; exact e
        | false => rw [hx] at q; exact hc x c' q
      obtain ⟨cl, e1, e2, e3, e4⟩ := ih (fun m hm => h m (.tail _ hm)) ((n, c) :: cs) hc'
      refine ⟨cl, ?_, e2, fun m hm => ?_, fun m c' q => ?_⟩
      · simp only [beq_self_eq_true, if_true, cellOf, e]
        exact e1
      · rcases List.mem_cons.mp hm with q | q
        · cases q
          rw [e]; exact e4 n c (by rw [List.lookup_cons, beq_self_eq_true])
        · exact e3 m q
      · by_cases hx : m = n
        · subst hx
          have := e4 m c (by rw [List.lookup_cons, beq_self_eq_true])
          rw [this, ← e, hc m c' q]
        · refine e4 m c' ?_
          rw [List.lookup_cons, beq_eq_false_iff_ne.mpr hx]; exact q
    · obtain ⟨cl, e1, e2, e3, e4⟩ := ih (fun m hm => h m (.tail _ hm)) cs hc
      refine ⟨cl, ?_, e2, fun m hm => ?_, e4⟩
      · have : (k == NameKind.free) = false := beq_eq_false_iff_ne.mpr hk
        simp only [this, Bool.false_eq_true, if_false]
        exact e1
      · rcases List.mem_cons.mp hm with q | q
        · cases q; exact absurd rfl hk
        · exact e3 m q

theorem closure_ok {scope : Scope} {env : Env} (h : ∀ n, (n, NameKind.free) ∈ scope.names → (env.cells.lookup n).isSome = true) :
    ∃ cl, closureFor scope env = pure cl ∧ (∀ x c, cl.lookup x = some c → env.cells.lookup x = some c) ∧ ∀ n, (n, NameKind.free) ∈ scope.names → cl.lookup n = env.cells.lookup n := by
  obtain ⟨cl, e1, e2, e3, _⟩ := closure_go scope.names env h [] (fun x c q => nomatch q)
  refine ⟨cl, ?_, e2, e3⟩
  unfold closureFor
  have : (forIn scope.names [] (fun (x : Str × NameKind) (r : List (Str × Addr)) => (do
      let cs := r
      match x with
      | (name, kind) => if kind == .free then do let a ← cellOf env name; pure (ForInStep.yield ((name, a) :: cs)) else pure (ForInStep.yield cs) : Sem (ForInStep (List (Str × Addr)))))) = (pure cl : Sem (List (Str × Addr))) := e1
  simp only [bind_pure]
  exact this

/-- the cells of a comprehension's frame -/
theorem cells_lookup : ∀ (names : List (Str × NameKind)) (h : Heap) (cl : List (Str × Addr)) (x : Str) (c : Addr), (cellsFrom h.objs.size names cl).lookup x = some c →
    (cl.lookup x = some c ∧ (x, NameKind.cell) ∉ names) ∨ (h.objs.size ≤ c ∧ (pushCells h names).IsCell c none ∧ (x, NameKind.cell) ∈ names) ∨ (cl.lookup x = some c ∧ False)
  | [], h, cl, x, c, e => .inl ⟨e, fun q => nomatch q⟩
  | (n, k) :: r, h, cl, x, c, e => by
    unfold cellsFrom at e
    unfold pushCells
    by_cases hk : (k == NameKind.cell) = true
    · rw [if_pos hk] at e ⊢
      have hk' : k = .cell := beq_iff_eq.mp hk
      have hz : (h.push { cls := .type "cell", data := .cell none }).objs.size = h.objs.size + 1 := Heap.size_push ..
      rw [← hz] at e
      rcases cells_lookup r _ _ x c e with ⟨q, hn⟩ | ⟨q, q', hn⟩ | q
      · rw [List.lookup_cons] at q
        cases hx : x == n with
        | true =>
          rw [hx] at q; cases q
          refine .inr (.inl ⟨Nat.le_refl _, ⟨_, pushCells_keeps r _ _ _ (Heap.get?_push_size _ rfl), rfl⟩, ?_⟩)
          rw [beq_iff_eq.mp hx, hk']; exact .head _
        | false =>
          rw [hx] at q
          refine .inl ⟨q, fun z => ?_⟩
          rcases List.mem_cons.mp z with z | z
          · cases z; rw [beq_self_eq_true] at hx; cases hx
          · exact hn z
      · exact .inr (.inl ⟨by omega, q', .tail _ hn⟩)
      · exact q.2.elim
    · rw [if_neg hk] at e ⊢
      rcases cells_lookup r h cl x c e with ⟨q, hn⟩ | ⟨q, q', hn⟩ | q
      · refine .inl ⟨q, fun z => ?_⟩
        rcases List.mem_cons.mp z with z | z
        · cases z; exact hk rfl
        · exact hn z
      · exact .inr (.inl ⟨q, q', .tail _ hn⟩)
      · exact q.2.elim

theorem cells_old {x : Str} : ∀ (names : List (Str × NameKind)) (n : Nat) (cl : List (Str × Addr)), (x, NameKind.cell) ∉ names → (cellsFrom n names cl).lookup x = cl.lookup x
  | [], n, cl, _ => rfl
  | (m, k) :: r, n, cl, h => by
    unfold cellsFrom
    by_cases hk : (k == NameKind.cell) = true
    · rw [if_pos hk, cells_old r (n + 1) _ fun z => h (.tail _ z), List.lookup_cons]
      have : (x == m) = false := beq_eq_false_iff_ne.mpr fun e => h (by rw [e, ← beq_iff_eq.mp hk]; exact .head _)
      rw [this]
    · rw [if_neg hk, cells_old r n _ fun z => h (.tail _ z)]

theorem cells_inj : ∀ (names : List (Str × NameKind)) (n : Nat) (cl : List (Str × Addr)), (∀ x y c, cl.lookup x = some c → cl.lookup y = some c → x = y) → (∀ x c, cl.lookup x = some c → c < n) →
    ∀ x y c, (cellsFrom n names cl).lookup x = some c → (cellsFrom n names cl).lookup y = some c → x = y
  | [], n, cl, h, _ => h
  | (m, k) :: r, n, cl, h, hlt => by
    unfold cellsFrom
    by_cases hk : (k == NameKind.cell) = true
    · rw [if_pos hk]
      refine cells_inj r (n + 1) _ (fun x y c ex ey => ?_) fun x c e => ?_
      · rw [List.lookup_cons] at ex ey
        cases hx : x == m <;> cases hy : y == m <;> rw [hx] at ex <;> rw [hy] at ey
        · exact h x y c ex ey
        · cases ey; exact absurd (hlt x _ ex) (Nat.lt_irrefl _)
        · cases ex; exact absurd (hlt y _ ey) (Nat.lt_irrefl _)
        · rw [beq_iff_eq.mp hx, beq_iff_eq.mp hy]
      · rw [List.lookup_cons] at e
        cases hx : x == m <;> rw [hx] at e
        · exact Nat.lt_succ_of_lt (hlt x c e)
        · cases e; exact Nat.lt_succ_self _
    · rw [if_neg hk]
      exact cells_inj r n cl h hlt
end
end Mine

namespace Mine
open PySem.Calls

/-- a comprehension's frame, made where the heap was h₀ -/
structure CEnv (scope : Scope) (env : Env) (h₀ : Heap) (cenv : Env) : Prop where
  eq : ∃ cells C, cenv = compEnvC scope cells C env
  loc : h₀.get? cenv.locals = none
  cell : ∀ x, scope.names.lookup x = some .cell → ∃ c, cenv.cells.lookup x = some c ∧ h₀.get? c = none
  held : ∀ n, (n, NameKind.free) ∈ scope.names → (cenv.cells.lookup n).isSome = true

/-- what a comprehension writes of its own frame -/
def CW (cenv : Env) (h₀ : Heap) (b : Addr) : Prop := Own cenv b ∧ h₀.get? b = none

def isFree (scope : Scope) (x : Str) : Bool := match scope.names.lookup x with | some .free => true | _ => false
/-- what a comprehension's frame knows -/
def inner (scope : Scope) (ρ : Rho) : Rho := ρ.filter fun p => isFree scope p.1

theorem lookup_filter {p : Str → Bool} : ∀ {ρ : Rho} {x : Str} {d : Den}, (ρ.filter fun q => p q.1).lookup x = some d → p x = true ∧ ρ.lookup x = some d
  | [], x, d, e => by cases e
  | (y, d') :: r, x, d, e => by
    rw [List.filter_cons] at e
    rw [List.lookup_cons]
    cases hp : p y with
    | true =>
      simp only [hp, if_true] at e
      rw [List.lookup_cons] at e
      cases hx : x == y with
      | true => rw [hx] at e; rw [beq_iff_eq.mp hx]; exact ⟨hp, e⟩
      | false => rw [hx] at e; exact lookup_filter e
    | false =>
      simp only [hp, Bool.false_eq_true, if_false] at e
      have ih := lookup_filter e
      cases hx : x == y with
      | true => rw [beq_iff_eq.mp hx, hp] at ih; cases ih.1
      | false => exact ih

theorem mem_of_lookupK : ∀ {l : List (Str × NameKind)} {x : Str} {k : NameKind}, l.lookup x = some k → (x, k) ∈ l
  | (y, k') :: r, x, k, e => by
    rw [List.lookup_cons] at e
    cases hx : x == y with
    | true => rw [hx] at e; cases e; rw [beq_iff_eq.mp hx]; exact .head _
    | false => rw [hx] at e; exact .tail _ (mem_of_lookupK e)

theorem relabel_lookup {env : Env} {x : Str} : ∀ {names : List (Str × NameKind)} {k : NameKind}, names.lookup x = some k →
    (names.map fun (n, k) => if (k == NameKind.free && env.scope.kind == .function && env.kindOf n == some .cell) then (n, NameKind.cell) else (n, k)).lookup x =
      some (if (k == NameKind.free && env.scope.kind == .function && env.kindOf x == some .cell) then .cell else k)
  | (n, k) :: r, k', h => by
    have ih := @relabel_lookup env x r k'
    show List.lookup x ((if (k == NameKind.free && env.scope.kind == .function && env.kindOf n == some .cell) = true then (n, NameKind.cell) else (n, k)) :: _) = _
    cases hx : x == n with
    | true =>
      simp only [List.lookup_cons, hx] at h
      cases h
      have := beq_iff_eq.mp hx
      subst this
      by_cases hc : (k == NameKind.free && env.scope.kind == .function && env.kindOf x == some .cell) = true
      · rw [if_pos hc, if_pos hc, List.lookup_cons, beq_self_eq_true]
      · rw [if_neg hc, if_neg hc, List.lookup_cons, beq_self_eq_true]
    | false =>
      simp only [List.lookup_cons, hx] at h
      by_cases hc : (k == NameKind.free && env.scope.kind == .function && env.kindOf n == some .cell) = true
      · rw [if_pos hc]; simp only [List.lookup_cons, hx]; exact ih h
      · rw [if_neg hc]; simp only [List.lookup_cons, hx]; exact ih h

section
variable {prog : Program} {w : World} {G : Heap} {A : Around} {env : Env} {ρ : Rho} {E : Value → Shared → Prop} {s s' : Shared} {X X₀ M : Addr → Prop} {D : Addr} {os : List Den}

theorem comp_core {elt target iter : Expr} {ifs : List Expr} {gs : List Comprehension} {scope : Scope} {pos : Pos} {ds : List Den} {use : Option (Value → Sem Unit)} {Q : Value → Shared → Prop} {ppos : Pos}
    (outs : List (List Den)) (ok : Ok G X env ρ s) (hit : EvIt prog w G A env ρ target iter ds)
    (hnm : ∀ p ∈ scope.names, scope.names.lookup p.1 = some p.2) (hfree : ∀ n, (n, NameKind.free) ∈ scope.names → (env.kindOf n = some .cell ∨ env.kindOf n = some .free) ∧ (env.cells.lookup n).isSome = true)
    (hkind : scope.kind = .function) (hlen : outs.length = ds.length) (hsz : outs.flatten.length ≤ sizeLine)
    (hloop : ∀ (h₀ : Heap) (cenv : Env), CEnv scope env h₀ cenv → ∀ I D, ∃ p rest,
      compTurn (.ListComp elt (⟨target, iter, ifs, 0⟩ :: gs) scope pos) 0 (.ref I) (.ref D) cenv = (standAt p >>= fun _ => pyNext (.ref I) >>= fun r => match r with
        | none => pure (.done .next)
        | some v => letOwnedTupleGo target (.ref I) v >>= fun _ => assign target cenv v >>= fun _ => rest >>= fun _ => again (.compLoop (.ListComp elt (⟨target, iter, ifs, 0⟩ :: gs) scope pos) 0 (.ref I) (.ref D) cenv)) ∧
      ∀ (X' : Addr → Prop), X' D → ¬ Own cenv D → ∀ (i : Nat) (d : Den) (out : List Den), ds[i]? = some d → outs[i]? = some out →
        ∃ new, AsgnOk prog w G A cenv (CW cenv h₀) target d new ∧ Turn prog w G A cenv (CW cenv h₀) X' (inner scope ρ) D rest new out)
    (hfin : ∀ s' D C, Grows s s' → s.heap.get? C = none → (∃ m, s'.heap.Ns C m) → (dLst outs.flatten).is (vw (fun b => X b ∨ b = C) s'.heap) (.ref D) → D ≠ C → compPost (model prog w) A E use Q (.ref D) C (.ok .next) s')
    (hs : ∀ x, foldedSetIterable iter env x = pure x := by intro _; rfl) :
    wpAny (model prog w) A (comprehension (.ListComp elt (⟨target, iter, ifs, 0⟩ :: gs) scope pos) scope env ppos (newList []) false (eval iter env) use) Q E s := by
  obtain ⟨cl, hcl, hcl1, hcl2⟩ := closure_ok (scope := scope) (env := env) fun n h => (hfree n h).2
  refine wpAny_comprehension_free rfl hs hcl hkind (fun x hx _ => by have := hnm x hx; rw [this, ‹x.2 = _›]) ?_
  refine wpAny_mono (hit X s E ok) (fun xv s₁ h₁ => wpAny_mono h₁ (fun it s₂ h₂ => ?_) fun _ _ x => x) fun _ _ x => x
  obtain ⟨I, rfl, g₂, wr, hwn, hwl, hfeed⟩ := h₂
  have ok₂ := ok.keeps g₂
  refine wpAny_newObj_type (newEnv_comp ?_)
  show codeAny _ _ _ _ _
  generalize hH3 : s₂.heap.push { cls := .type "list", dict := none, data := .seq ([] : List Value).toArray } = H3
  have hC : H3.objs.size = s₂.heap.objs.size + 1 := by rw [← hH3, Heap.size_push]
  generalize hH4 : pushCells (H3.push { cls := .type "dict", data := .dict #[] }) scope.names = H4
  have hz3 : (H3.push { cls := .type "dict", data := .dict #[] }).objs.size = H3.objs.size + 1 := Heap.size_push ..
  -- the parts
  have up3 : ∀ b o, s₂.heap.get? b = some o → H3.get? b = some o := fun b o e => hH3 ▸ Heap.get?_push_of_some _ e
  have up4 : ∀ b o, H3.get? b = some o → H4.get? b = some o := fun b o e => hH4 ▸ pushCells_keeps _ _ b o (Heap.get?_push_of_some _ e)
  have up : ∀ b o, s₂.heap.get? b = some o → H4.get? b = some o := fun b o e => up4 b o (up3 b o e)
  have hD4 : H4.get? s₂.heap.objs.size = some (LCg.lst []) := up4 _ _ (hH3 ▸ Heap.get?_push_size _ rfl)
  have hC4 : H4.Ns H3.objs.size (fun _ => none) := by
    have := (Heap.Ns.new H3 (.type "dict")).keeps (pushCells_keeps scope.names _)
    rw [hH4] at this
    exact this
  have new₂ : ∀ b, s₂.heap.objs.size ≤ b → s₂.heap.get? b = none := fun b hb => by
    cases e : s₂.heap.get? b with
    | none => rfl
    | some o => exact absurd (Heap.lt_size e) (Nat.not_lt.mpr hb)
  generalize hcells : cellsFrom (H3.objs.size + 1) scope.names cl = cells
  have hlook : ∀ x c, cells.lookup x = some c → (cl.lookup x = some c ∧ (x, NameKind.cell) ∉ scope.names) ∨ (H3.objs.size + 1 ≤ c ∧ H4.IsCell c none ∧ (x, NameKind.cell) ∈ scope.names) := fun x c e => by
    rw [← hcells, ← hz3] at e
    rcases cells_lookup scope.names _ cl x c e with q | q | q
    · exact .inl q
    · rw [hz3, hH4] at q; exact .inr q
    · exact q.2.elim
  have hinj : ∀ x y c, cells.lookup x = some c → cells.lookup y = some c → x = y := by
    rw [← hcells]
    refine cells_inj scope.names _ cl (fun x y c ex ey => ok.inj x y c (hcl1 x c ex) (hcl1 y c ey)) fun x c e => ?_
    have := ok₂.lt (ok₂.own c (.inr ⟨x, hcl1 x c e⟩))
    rw [hC]; exact Nat.lt_of_lt_of_le this (Nat.le_add_right _ 2)
  have hce : CEnv scope env s.heap (compEnvC scope cells H3.objs.size env) := by
    refine ⟨⟨_, _, rfl⟩, g₂.none (new₂ _ (by rw [hC]; exact Nat.le_succ _)), fun x hx => ?_, fun n hn => ?_⟩
    rotate_left
    · show (cells.lookup n).isSome = true
      rw [← hcells, cells_old scope.names _ cl fun z => (by have h1 := hnm _ hn; have h2 := hnm _ z; rw [h1] at h2; cases h2), hcl2 n hn]
      exact (hfree n hn).2
    have hm : (x, NameKind.cell) ∈ scope.names := mem_of_lookupK hx
    have hsome : (cells.lookup x).isSome = true := by rw [← hcells]; exact cellsFrom_some _ _ _ (.inl hx)
    obtain ⟨c, e⟩ := Option.isSome_iff_exists.mp hsome
    rcases hlook x c e with q | q
    · exact absurd hm q.2
    · exact ⟨c, e, g₂.none (new₂ _ (Nat.le_trans (by rw [hC]; exact Nat.le_add_right _ 2) q.1))⟩
  obtain ⟨p, rest, heq, hstep⟩ := hloop s.heap (compEnvC scope cells H3.objs.size env) hce I s₂.heap.objs.size
  -- the mutable addresses inside
  have ownC : ∀ b, Own (compEnvC scope cells H3.objs.size env) b → X b ∨ (H3.objs.size ≤ b ∧ ∃ o, H4.get? b = some o) := fun b hb => by
    rcases hb with e | ⟨x, e⟩
    · have e' : b = H3.objs.size := e
      obtain ⟨o, _, _, q, _⟩ := hC4
      exact .inr ⟨Nat.le_of_eq e'.symm, o, e' ▸ q⟩
    · rcases hlook x b e with q | q
      · exact .inl (ok.own b (.inr ⟨x, hcl1 x b q.1⟩))
      · obtain ⟨o, ho, _⟩ := q.2.1
        exact .inr ⟨Nat.le_of_succ_le q.1, o, ho⟩
  have hXD : ¬ X s₂.heap.objs.size := fun z => absurd (ok₂.lt z) (Nat.lt_irrefl _)
  let Xc : Addr → Prop := fun b => X b ∨ b = s₂.heap.objs.size ∨ Own (compEnvC scope cells H3.objs.size env) b
  let X' : Addr → Prop := fun b => Xc b ∨ wr b
  have wr_lt : ∀ b, wr b → b < s₂.heap.objs.size := fun b hb => let ⟨_, e⟩ := hwl b hb; Heap.lt_size e
  have wr_X : ∀ b, wr b → ¬ X b := fun b hb hx => by
    obtain ⟨o, e⟩ := ok.live b hx
    have := hwn b hb; rw [e] at this; cases this
  have wr_own : ∀ b, wr b → ¬ Own (compEnvC scope cells H3.objs.size env) b := fun b hb ho => by
    rcases ownC b ho with q | q
    · exact wr_X b hb q
    · exact absurd (Nat.lt_of_lt_of_le (wr_lt b hb) (Nat.le_trans (by rw [hC]; exact Nat.le_succ _) q.1)) (Nat.lt_irrefl _)
  have gS : Grows s { s₂ with heap := H4 } := g₂.tr ⟨H4, s₂.toks, rfl, up⟩
  have newX : ∀ b, X' b → ¬ X b → s.heap.get? b = none := fun b hb hx => by
    rcases hb with (q | rfl | q) | q
    · exact absurd q hx
    · exact g₂.none (new₂ _ (Nat.le_refl _))
    · rcases ownC b q with q | q
      · exact absurd q hx
      · exact g₂.none (new₂ _ (Nat.le_trans (by rw [hC]; exact Nat.le_succ _) q.1))
    · exact hwn b q
  have liveX : ∀ b, X' b → ¬ X b → ∃ o, H4.get? b = some o := fun b hb hx => by
    rcases hb with (q | rfl | q) | q
    · exact absurd q hx
    · exact ⟨_, hD4⟩
    · rcases ownC b q with q | q
      · exact absurd q hx
      · exact q.2
    · obtain ⟨o, e⟩ := hwl b q; exact ⟨o, up _ _ e⟩
  have okE : Ok G X' env ρ { s₂ with heap := H4 } := ok.enter gS (fun b h => .inl (.inl h)) newX liveX
  have okC : Ok G X' (compEnvC scope cells H3.objs.size env) (inner scope ρ) { s₂ with heap := H4 } :=
    { kind := hkind, glob := ok.glob, blt := ok.blt, live := okE.live, own := fun b h => .inl (.inr (.inr h)), ns := ⟨_, hC4⟩
      cell := fun x c e => by
        rcases hlook x c e with q | q
        · obtain ⟨⟨u, o, hu, r⟩, _⟩ := ok.cell x c (hcl1 x c q.1)
          exact ⟨⟨u, o, Grows.at gS hu, r⟩, fun z => by
            have z' : c = H3.objs.size := z
            have := Heap.lt_size (Grows.at g₂ hu)
            rw [z', hC] at this
            exact absurd (Nat.lt_of_succ_lt this) (Nat.lt_irrefl _)⟩
        · refine ⟨⟨_, q.2.1⟩, fun z => ?_⟩
          have z' : c = H3.objs.size := z
          rw [z'] at q
          exact absurd q.1 (Nat.not_succ_le_self _)
      inj := hinj
      base := okE.base
      vars := fun x d e => by
        obtain ⟨hf, e⟩ := lookup_filter (p := isFree scope) e
        have hf' : scope.names.lookup x = some .free := by unfold isFree at hf; split at hf <;> simp_all
        obtain ⟨v, hs, hv⟩ := okE.vars x d e
        refine ⟨v, .inr ⟨?_, ?_⟩, hv⟩
        · have := relabel_lookup (env := env) hf'
          show (relabel scope env).names.lookup x = some .cell ∨ (relabel scope env).names.lookup x = some .free
          have e' : (relabel scope env).names.lookup x = _ := this
          rw [e']
          split
          · exact .inl rfl
          · exact .inr rfl
        · have hcx := hcl2 x (mem_of_lookupK hf')
          rcases hs with ⟨hk, m, hn, hm⟩ | ⟨hk, c, hc, hcell⟩
          · rcases (hfree x (mem_of_lookupK hf')).1 with q | q <;> (rw [hk] at q; cases q)
          · refine ⟨c, ?_, hcell⟩
            show cells.lookup x = some c
            rw [← hcells, cells_old _ _ _ fun z => ?_, hcx, hc]
            have := hnm _ z
            rw [hf'] at this
            cases this }
  have hDC : s₂.heap.objs.size ≠ H3.objs.size := by rw [hC]; exact Nat.ne_of_lt (Nat.lt_succ_self _)
  have hDO : ¬ Own (compEnvC scope cells H3.objs.size env) s₂.heap.objs.size := fun z => by
    rcases ownC _ z with q | q
    · exact hXD q
    · have q1 := q.1
      rw [hC] at q1
      exact absurd q1 (Nat.not_succ_le_self _)
  obtain ⟨St, F, st0⟩ := hfeed X' (fun b h => .inr h) fun b o hb e => by
    rcases hb with (q | rfl | q) | q
    · exact .inl q
    · rw [new₂ _ (Nat.le_refl _)] at e; cases e
    · rcases ownC b q with q | q
      · exact .inl q
      · rw [new₂ b (Nat.le_trans (by rw [hC]; exact Nat.le_succ _) q.1)] at e; cases e
    · exact .inr q
  have loop : codeAny (model prog w) A (.compLoop (.ListComp elt (⟨target, iter, ifs, 0⟩ :: gs) scope pos) 0 (.ref I) (.ref s₂.heap.objs.size) (compEnvC scope cells H3.objs.size env))
      (compPost (model prog w) A E use Q (.ref s₂.heap.objs.size) H3.objs.size) { s₂ with heap := H4 } := by
    refine comp_loop (X := X') (X₀ := Xc) (os := []) (W := CW (compEnvC scope cells H3.objs.size env) s.heap) (fun b h => h.1) outs heq F hlen (hstep X' (.inl (.inr (.inl rfl))) hDO) (.inl (.inr (.inl rfl))) (fun z => hDO z.1)
      (fun b hb => ⟨.inr hb, wr_own b hb, Nat.ne_of_lt (wr_lt b hb)⟩) (fun b hb => ⟨.inl hb, fun hw => ?_⟩) (fun b h => .inr (.inr h)) (.inr (.inl rfl)) okC ⟨[], hD4, Nat.zero_le _, trivial⟩ (st0 _ up)
      (by simpa using hsz) fun s' k ok' acc' => ?_
    · rcases hb with q | q | q
      · exact wr_X b hw q
      · exact absurd (q ▸ wr_lt b hw) (Nat.lt_irrefl _)
      · exact wr_own b hw q
    · have g' : Grows s s' := by
        obtain ⟨h', tk, rfl, kk⟩ := k
        obtain ⟨h₂, tk₂, rfl, kk₂⟩ := g₂
        refine ⟨h', tk, rfl, fun b o e => kk b o (fun z => ?_) (Grows.at gS e)⟩
        rcases z with z | z | z
        · have := z.2; rw [e] at this; cases this
        · have := new₂ b (Nat.le_of_eq z.symm)
          rw [kk₂ b o e] at this; cases this
        · have := hwn b z; rw [e] at this; cases this
      refine hfin s' _ _ g' hce.loc ok'.ns ?_ hDC
      obtain ⟨vs, e, hz, hv⟩ := acc'
      refine ⟨_, vs.length, vs, rfl, ⟨e, fun z => z.elim hXD hDC⟩, hsz, ?_⟩
      exact hv.mono fun d v q => d.mono (vw_sub fun b o z _ => z.elim .inl fun e => .inr (.inr (.inl e))) q
  exact codeAny_compStart_list loop (wpAny_mono (F.self 0 _ _ (st0 _ up)) (fun v s' q => by obtain ⟨rfl, rfl⟩ := q; exact loop) fun _ _ x => x)
end
end Mine

namespace Mine
open PySem.Calls

section
variable {prog : Program} {w : World} {G : Heap} {A : Around} {env : Env} {ρ : Rho} {E : Value → Shared → Prop} {s s' : Shared} {X X₀ M W : Addr → Prop} {D : Addr} {os : List Den}

def names (ρ : Rho) : List Str := ρ.map (·.1)

theorem lookup_none_of_not_mem : ∀ {ρ : Rho} {x : Str}, x ∉ names ρ → ρ.lookup x = none
  | [], _, _ => rfl
  | (y, d) :: r, x, h => by
    have hx : x ≠ y := fun e => h (by rw [e]; exact .head _)
    rw [lookup_cons_ne hx]
    exact lookup_none_of_not_mem fun z => h (.tail _ z)
theorem lookup_append_left : ∀ {new : Rho} {x : Str}, x ∉ names new → (new ++ ρ).lookup x = ρ.lookup x
  | [], _, _ => rfl
  | (y, d) :: r, x, h => by
    have hx : x ≠ y := fun e => h (by rw [e]; exact .head _)
    rw [List.cons_append, lookup_cons_ne hx]
    exact lookup_append_left fun z => h (.tail _ z)

/-- the new names are the comprehension's own -/
def OwnNames (scope : Scope) (new : Rho) : Prop := ∀ x ∈ names new, isFree scope x = false

theorem Ok.forget {scope : Scope} {new : Rho} {ρ : Rho} (ok : Ok G X env (new ++ inner scope ρ) s) (h : OwnNames scope new) : Ok G X env (inner scope ρ) s :=
  ok.weaken fun y d e => by
    have hf := (lookup_filter (p := isFree scope) e).1
    rw [lookup_append_left fun z => by rw [h y z] at hf; cases hf]
    exact e

theorem Turn.emit {scope : Scope} {new : Rho} {elt : Expr} {d : Den} (hn : OwnNames scope new) (hXD : X D) (hWD : ¬ Own env D) (h : Ev prog w G A env (new ++ inner scope ρ) elt d) :
    Turn prog w G A env W X (inner scope ρ) D (eval elt env >>= fun x => call (.builtin "list.append") [.ref D, x] >>= fun _ => pure ()) new [d] := fun s E os ok acc hz => by
  refine wpAny_bind (h.use ok fun v s₁ k₁ ok₁ hv => wpAny_bind ?_)
  refine wpAny_mono ((acc.keeps k₁).append hXD hv (by simpa using hz)) (fun r s₂ h₂ => wpAny_pure ?_) fun _ _ x => x
  obtain ⟨_, k₂, acc₂, o, ho⟩ := h₂
  exact ⟨(KeepM.of_keeps k₁).trans (k₂.mono fun b e => .inr e), (ok₁.keepM k₂ (fun b e => e ▸ hXD) (fun b hb e => hWD (e ▸ hb)) fun b e => ⟨o, e ▸ ho⟩).forget hn, acc₂⟩

theorem flatten_single : ∀ l : List Den, (l.map fun d => [d]).flatten = l
  | [] => rfl
  | d :: r => by rw [List.map_cons, List.flatten_cons, flatten_single r]; rfl

/-- one clause, each item gives one -/
structure Comp1 (prog : Program) (w : World) (G : Heap) (A : Around) (env : Env) (ρ : Rho) (target iter elt : Expr) (scope : Scope) (ds outs : List Den) : Prop where
  hit : EvIt prog w G A env ρ target iter ds
  nm : ∀ p ∈ scope.names, scope.names.lookup p.1 = some p.2
  free : ∀ n, (n, NameKind.free) ∈ scope.names → (env.kindOf n = some .cell ∨ env.kindOf n = some .free) ∧ (env.cells.lookup n).isSome = true
  kind : scope.kind = .function
  len : outs.length = ds.length
  sz : outs.length ≤ sizeLine
  step : ∀ (h₀ : Heap) (cenv : Env), CEnv scope env h₀ cenv → ∀ (i : Nat) (d o : Den), ds[i]? = some d → outs[i]? = some o →
    ∃ new, AsgnOk prog w G A cenv (CW cenv h₀) target d new ∧ OwnNames scope new ∧ Ev prog w G A cenv (new ++ inner scope ρ) elt o
  fold : ∀ x, foldedSetIterable iter env x = pure x

theorem Comp1.core {target iter elt : Expr} {scope : Scope} {pos ppos : Pos} {ds outs : List Den} {use : Option (Value → Sem Unit)} {Q : Value → Shared → Prop} (c : Comp1 prog w G A env ρ target iter elt scope ds outs) (ok : Ok G X env ρ s)
    (hfin : ∀ s' D C, Grows s s' → s.heap.get? C = none → (∃ m, s'.heap.Ns C m) → (dLst outs).is (vw (fun b => X b ∨ b = C) s'.heap) (.ref D) → D ≠ C → compPost (model prog w) A E use Q (.ref D) C (.ok .next) s') :
    wpAny (model prog w) A (comprehension (.ListComp elt [⟨target, iter, [], 0⟩] scope pos) scope env ppos (newList []) false (eval iter env) use) Q E s := by
  refine comp_core (outs.map fun d => [d]) ok c.hit c.nm c.free c.kind (by rw [List.length_map]; exact c.len) (by rw [flatten_single]; exact c.sz) (fun h₀ cenv hc I D => ⟨iter.pos, _, by rfl, fun X' hXD hWD i d out hd ho => ?_⟩) (by rw [flatten_single]; exact hfin) c.fold
  rw [List.getElem?_map] at ho
  obtain ⟨o, ho', rfl⟩ := Option.map_eq_some_iff.mp ho
  obtain ⟨new, ha, hn, he⟩ := c.step h₀ cenv hc i d o hd ho'
  exact ⟨new, ha, Turn.emit hn hXD hWD he⟩

theorem Ev.comp1 {target iter elt : Expr} {scope : Scope} {pos : Pos} {ds outs : List Den} (c : Comp1 prog w G A env ρ target iter elt scope ds outs) :
    Ev prog w G A env ρ (.ListComp elt [⟨target, iter, [], 0⟩] scope pos) (dLst outs) := fun X s E ok => by
  rw [eval_ListComp]
  refine c.core (use := none) ok fun s' D C g hC hns hD hDC => ?_
  obtain ⟨m, hn⟩ := hns
  refine ⟨m, hn, fun h' hs' => ⟨?_, ?_⟩⟩
  · obtain ⟨h₁, tk, rfl, kk⟩ := g
    exact ⟨h', tk, rfl, fun b o e => hs'.extBut b o (fun z => by rw [z, hC] at e; cases e) (kk b o e)⟩
  · refine (dLst outs).mono (fun a o q => ?_) hD
    exact ⟨hs'.extBut a o (fun z => q.2 (.inr z)) q.1, fun z => q.2 (.inl z)⟩
end
end Mine

namespace Mine
open PySem.Calls

section
variable {prog : Program} {w : World} {G : Heap} {A : Around} {env : Env} {ρ : Rho} {E : Value → Shared → Prop} {s s' : Shared} {X X₀ M W : Addr → Prop} {D : Addr} {os : List Den} {R : Result → Shared → Prop}

def Fresh (new ρ : Rho) : Prop := ∀ x ∈ names new, ρ.lookup x = none
theorem Ok.forget' {new : Rho} (ok : Ok G X env (new ++ ρ) s) (h : Fresh new ρ) : Ok G X env ρ s :=
  ok.weaken fun y d e => by
    rw [lookup_append_left fun z => by rw [h y z] at e; cases e]
    exact e
theorem OwnNames.fresh {scope : Scope} {new : Rho} (h : OwnNames scope new) : Fresh new (inner scope ρ) := fun x hx => by
  cases e : (inner scope ρ).lookup x with
  | none => rfl
  | some d =>
    have := (lookup_filter (p := isFree scope) e).1
    rw [h x hx] at this; cases this

theorem Turn.emit' {new : Rho} {elt : Expr} {d : Den} (hn : Fresh new ρ) (hXD : X D) (hWD : ¬ Own env D) (h : Ev prog w G A env (new ++ ρ) elt d) :
    Turn prog w G A env W X ρ D (eval elt env >>= fun x => call (.builtin "list.append") [.ref D, x] >>= fun _ => pure ()) new [d] := fun s E os ok acc hz => by
  refine wpAny_bind (h.use ok fun v s₁ k₁ ok₁ hv => wpAny_bind ?_)
  refine wpAny_mono ((acc.keeps k₁).append hXD hv (by simpa using hz)) (fun r s₂ h₂ => wpAny_pure ?_) fun _ _ x => x
  obtain ⟨_, k₂, acc₂, o, ho⟩ := h₂
  exact ⟨(KeepM.of_keeps k₁).trans (k₂.mono fun b e => .inr e), (ok₁.keepM k₂ (fun b e => e ▸ hXD) (fun b hb e => hWD (e ▸ hb)) fun b e => ⟨o, e ▸ ho⟩).forget' hn, acc₂⟩

theorem comp_start1 {elt t₀ i₀ t₁ i₁ : Expr} {scope : Scope} {pos : Pos} {it acc : Value}
    (h0 : codeAny (model prog w) A (.compLoop (.ListComp elt [⟨t₀, i₀, [], 0⟩, ⟨t₁, i₁, [], 0⟩] scope pos) 1 it acc env) R s)
    (h : wpAny (model prog w) A (pyIter it) (fun it' s' => codeAny (model prog w) A (.compLoop (.ListComp elt [⟨t₀, i₀, [], 0⟩, ⟨t₁, i₁, [], 0⟩] scope pos) 1 it' acc env) R s')
      (notedBy (model prog w) A env fun x s' => R (.error x) s') s) :
    codeAny (model prog w) A (.compStart (.ListComp elt [⟨t₀, i₀, [], 0⟩, ⟨t₁, i₁, [], 0⟩] scope pos) 1 it acc env) R s := by
  refine codeAny_of_tree ?_
  show wpAny _ _ ((compStart (.ListComp elt [⟨t₀, i₀, [], 0⟩, ⟨t₁, i₁, [], 0⟩] scope pos) 1 it acc env).onRaise (fun x => do noteFrame x env; standAt theWindowsPlace)) _ _ s
  refine wpAny_notedAt ?_
  unfold compStart
  show wpAny _ _ (ask >>= _) _ _ s
  refine wpAny_bind (wpAny_askSetting (wpAny_ite ?_))
  split
  · first
      | exact wpAny_bind (wpAny_pure (wpAny_pure (And.intro rfl h0)))
      | exact wpAny_pure (And.intro rfl h0)
  · first
      | exact wpAny_bind (wpAny_rule (wpAny_bind (wpAny_standAt (wpAny_bind (wpAny_mono h (fun it' s' h' => wpAny_pure (And.intro rfl h')) fun _ _ x => x)))))
      | (refine wpAny_bind (wpAny_rule ?_); show wpAny _ _ (standAt i₁.pos >>= _) _ _ s; exact wpAny_bind (wpAny_standAt (wpAny_bind (wpAny_mono h (fun it' s' h' => wpAny_pure (And.intro rfl h')) fun _ _ x => x))))

/-- the second clause's run, as one turn of the first -/
theorem Turn.inner {elt t₀ i₀ t₁ i₁ : Expr} {scope : Scope} {pos : Pos} {new : Rho} {ds outs : List Den} (hW : ∀ b, W b → Own env b) (hn : Fresh new ρ) (hXD : X D) (hWD : ¬ Own env D)
    (hit : EvIt prog w G A env (new ++ ρ) t₁ i₁ ds) (hlen : outs.length = ds.length)
    (hstep : ∀ (i : Nat) (d o : Den), ds[i]? = some d → outs[i]? = some o → ∃ new₁, AsgnOk prog w G A env W t₁ d new₁ ∧ Fresh new₁ (new ++ ρ) ∧ Ev prog w G A env (new₁ ++ (new ++ ρ)) elt o)
    (hs : ∀ x, foldedSetIterable i₁ env x = pure x) :
    Turn prog w G A env W X ρ D (eval i₁ env >>= fun x => standAt i₁.pos >>= fun _ => foldedSetIterable i₁ env x >>= fun x => holding [x] (pyIter x) >>= fun it =>
      runOwn (.compStart (.ListComp elt [⟨t₀, i₀, [], 0⟩, ⟨t₁, i₁, [], 0⟩] scope pos) 1 it (.ref D) env) env >>= fun _ => pure ()) new outs := fun s E os ok acc hz => by
  refine wpAny_bind (wpAny_mono (hit X s E ok) (fun x s₁ h₁ => ?_) fun _ _ x => x)
  refine wpAny_bind (wpAny_standAt (wpAny_bind (wpAny_of_eq (hs x) ?_)))
  refine wpAny_bind (wpAny_holding (wpAny_mono h₁ (fun it s₂ h₂ => ?_) fun _ _ x => x))
  obtain ⟨I, rfl, g₂, wr, hwn, hwl, hfeed⟩ := h₂
  have wr_X : ∀ b, wr b → ¬ X b := fun b hb hx => by
    obtain ⟨o, e⟩ := ok.live b hx
    have := hwn b hb; rw [e] at this; cases this
  obtain ⟨St, F, st0⟩ := hfeed (fun b => X b ∨ wr b) (fun b h => .inr h) fun b o hb _ => hb
  have okX : Ok G (fun b => X b ∨ wr b) env (new ++ ρ) s₂ := ok.enter g₂ (fun b h => .inl h) (fun b hb hx => hb.elim (fun h => absurd h hx) (hwn b)) fun b hb hx => hb.elim (fun h => absurd h hx) (hwl b)
  have accX : Acc (fun b => X b ∨ wr b) s₂.heap D os := by
    obtain ⟨vs, e, hz', hv⟩ := acc
    refine ⟨vs, Grows.at g₂ e, hz', hv.mono fun d v q => d.mono (fun a o r => ⟨Grows.at g₂ r.1, fun z => z.elim r.2 fun h => ?_⟩) q⟩
    have := hwn a h; rw [r.1] at this; cases this
  refine wpAny_bind (wpAny_runOwn ?_)
  rw [show A.mark none = A from rfl]
  have loop : codeAny (model prog w) A (.compLoop (.ListComp elt [⟨t₀, i₀, [], 0⟩, ⟨t₁, i₁, [], 0⟩] scope pos) 1 (.ref I) (.ref D) env)
      (fun r s' => match r with
        | .ok f => wpAny (model prog w) A (pure ()) (fun _ s' => KeepM (fun b => W b ∨ b = D) s s' ∧ Ok G X env ρ s' ∧ Acc X s'.heap D (os ++ outs)) E s'
        | .error e => cameBackBy (model prog w) A env E e s') s₂ := by
    refine comp_loop (X := fun b => X b ∨ wr b) (X₀ := X) (W := W) (os := os) hW (outs.map fun d => [d]) (p := i₁.pos) (rest := eval elt env >>= fun x => call (.builtin "list.append") [.ref D, x] >>= fun _ => pure ()) (by rfl) F (by rw [List.length_map]; exact hlen)
      (fun i d out hd ho => ?_) (.inl hXD) (fun z => hWD (hW _ z)) (fun b hb => ⟨.inr hb, fun ho => wr_X b hb (ok.own b ho), fun e => wr_X b hb (e ▸ hXD)⟩) (fun b hb => ⟨.inl hb, fun hw => wr_X b hw hb⟩) ok.own hXD okX accX
      (st0 _ fun _ _ e => e) (by rw [flatten_single]; exact hz) fun s' k ok' acc' => ?_
    · rw [List.getElem?_map] at ho
      obtain ⟨o, ho', rfl⟩ := Option.map_eq_some_iff.mp ho
      obtain ⟨new₁, ha, hf, he⟩ := hstep i d o hd ho'
      exact ⟨new₁, ha, Turn.emit' hf (.inl hXD) hWD he⟩
    · rw [flatten_single] at acc'
      refine wpAny_pure ⟨?_, ok'.forget' hn, acc'⟩
      obtain ⟨h', tk, rfl, kk⟩ := k
      obtain ⟨h₂, tk₂, rfl, kk₂⟩ := g₂
      refine ⟨h', tk, rfl, fun b o hb e => kk b o (fun z => ?_) (kk₂ b o e)⟩
      rcases z with z | z | z
      · exact hb (.inl z)
      · exact hb (.inr z)
      · have := hwn b z; rw [e] at this; cases this
  exact comp_start1 loop (wpAny_mono (F.self 0 _ _ (st0 _ fun _ _ e => e)) (fun v s' q => by obtain ⟨rfl, rfl⟩ := q; exact loop) fun _ _ x => x)

theorem compTurn2 {elt t₀ i₀ t₁ i₁ : Expr} {scope : Scope} {pos : Pos} {it acc : Value} :
    compTurn (.ListComp elt [⟨t₀, i₀, [], 0⟩, ⟨t₁, i₁, [], 0⟩] scope pos) 0 it acc env = (standAt i₀.pos >>= fun _ => pyNext it >>= fun r => match r with
      | none => pure (.done .next)
      | some v => letOwnedTupleGo t₀ it v >>= fun _ => assign t₀ env v >>= fun _ => (eval i₁ env >>= fun x => standAt i₁.pos >>= fun _ => foldedSetIterable i₁ env x >>= fun x => holding [x] (pyIter x) >>= fun it₁ =>
        runOwn (.compStart (.ListComp elt [⟨t₀, i₀, [], 0⟩, ⟨t₁, i₁, [], 0⟩] scope pos) 1 it₁ acc env) env >>= fun _ => pure ()) >>= fun _ => again (.compLoop (.ListComp elt [⟨t₀, i₀, [], 0⟩, ⟨t₁, i₁, [], 0⟩] scope pos) 0 it acc env)) := by
  refine Eq.trans (b := standAt i₀.pos >>= fun _ => pyNext it >>= fun r => match r with
      | none => pure (.done .next)
      | some v => letOwnedTupleGo t₀ it v >>= fun _ => assign t₀ env v >>= fun _ => eval i₁ env >>= fun x => standAt i₁.pos >>= fun _ => foldedSetIterable i₁ env x >>= fun x => holding [x] (pyIter x) >>= fun it₁ =>
        runOwn (.compStart (.ListComp elt [⟨t₀, i₀, [], 0⟩, ⟨t₁, i₁, [], 0⟩] scope pos) 1 it₁ acc env) env >>= fun _ => again (.compLoop (.ListComp elt [⟨t₀, i₀, [], 0⟩, ⟨t₁, i₁, [], 0⟩] scope pos) 0 it acc env)) (by rfl) ?_
  simp only [bind_assoc, pure_bind]

/-- two clauses -/
structure Comp2 (prog : Program) (w : World) (G : Heap) (A : Around) (env : Env) (ρ : Rho) (t₀ i₀ t₁ i₁ elt : Expr) (scope : Scope) (ds : List Den) (outs : List (List Den)) : Prop where
  hit : EvIt prog w G A env ρ t₀ i₀ ds
  nm : ∀ p ∈ scope.names, scope.names.lookup p.1 = some p.2
  free : ∀ n, (n, NameKind.free) ∈ scope.names → (env.kindOf n = some .cell ∨ env.kindOf n = some .free) ∧ (env.cells.lookup n).isSome = true
  kind : scope.kind = .function
  len : outs.length = ds.length
  sz : outs.flatten.length ≤ sizeLine
  step : ∀ (h₀ : Heap) (cenv : Env), CEnv scope env h₀ cenv → ∀ (i : Nat) (d : Den) (out : List Den), ds[i]? = some d → outs[i]? = some out →
    ∃ new ds₁, AsgnOk prog w G A cenv (CW cenv h₀) t₀ d new ∧ OwnNames scope new ∧ EvIt prog w G A cenv (new ++ inner scope ρ) t₁ i₁ ds₁ ∧ out.length = ds₁.length ∧
      ∀ (j : Nat) (d₁ o : Den), ds₁[j]? = some d₁ → out[j]? = some o → ∃ new₁, AsgnOk prog w G A cenv (CW cenv h₀) t₁ d₁ new₁ ∧ Fresh new₁ (new ++ inner scope ρ) ∧ Ev prog w G A cenv (new₁ ++ (new ++ inner scope ρ)) elt o
  fold : ∀ x, foldedSetIterable i₀ env x = pure x
  fold₁ : ∀ env x, foldedSetIterable i₁ env x = pure x

theorem Comp2.core {t₀ i₀ t₁ i₁ elt : Expr} {scope : Scope} {pos ppos : Pos} {ds : List Den} {outs : List (List Den)} {use : Option (Value → Sem Unit)} {Q : Value → Shared → Prop} (c : Comp2 prog w G A env ρ t₀ i₀ t₁ i₁ elt scope ds outs) (ok : Ok G X env ρ s)
    (hfin : ∀ s' D C, Grows s s' → s.heap.get? C = none → (∃ m, s'.heap.Ns C m) → (dLst outs.flatten).is (vw (fun b => X b ∨ b = C) s'.heap) (.ref D) → D ≠ C → compPost (model prog w) A E use Q (.ref D) C (.ok .next) s') :
    wpAny (model prog w) A (comprehension (.ListComp elt [⟨t₀, i₀, [], 0⟩, ⟨t₁, i₁, [], 0⟩] scope pos) scope env ppos (newList []) false (eval i₀ env) use) Q E s := by
  refine comp_core outs ok c.hit c.nm c.free c.kind c.len c.sz (fun h₀ cenv hc I D => ⟨i₀.pos, eval i₁ cenv >>= fun x => standAt i₁.pos >>= fun _ => foldedSetIterable i₁ cenv x >>= fun x => holding [x] (pyIter x) >>= fun it =>
      runOwn (.compStart (.ListComp elt [⟨t₀, i₀, [], 0⟩, ⟨t₁, i₁, [], 0⟩] scope pos) 1 it (.ref D) cenv) cenv >>= fun _ => pure (), compTurn2, fun X' hXD hWD i d out hd ho => ?_⟩) hfin c.fold
  obtain ⟨new, ds₁, ha, hn, hit, hl, hst⟩ := c.step h₀ cenv hc i d out hd ho
  exact ⟨new, ha, Turn.inner (fun b h => h.1) hn.fresh hXD hWD hit hl hst (c.fold₁ cenv)⟩

theorem Ev.of_comp {e : Expr} {scope : Scope} {ppos : Pos} {first : Sem Value} {d : Den}
    (h : ∀ (X : Addr → Prop) (s : Shared) (E : Value → Shared → Prop) (Q : Value → Shared → Prop), Ok G X env ρ s →
      (∀ s' D C, Grows s s' → s.heap.get? C = none → (∃ m, s'.heap.Ns C m) → d.is (vw (fun b => X b ∨ b = C) s'.heap) (.ref D) → D ≠ C → compPost (model prog w) A E none Q (.ref D) C (.ok .next) s') →
      wpAny (model prog w) A (comprehension e scope env ppos (newList []) false first none) Q E s)
    (he : eval e env = comprehension e scope env ppos (newList []) false first none) : Ev prog w G A env ρ e d := fun X s E ok => by
  rw [he]
  refine h X s E _ ok fun s' D C g hC hns hD hDC => ?_
  obtain ⟨m, hn⟩ := hns
  refine ⟨m, hn, fun h' hs' => ⟨?_, ?_⟩⟩
  · obtain ⟨h₁, tk, rfl, kk⟩ := g
    exact ⟨h', tk, rfl, fun b o e => hs'.extBut b o (fun z => by rw [z, hC] at e; cases e) (kk b o e)⟩
  · refine d.mono (fun a o q => ?_) hD
    exact ⟨hs'.extBut a o (fun z => q.2 (.inr z)) q.1, fun z => q.2 (.inl z)⟩

theorem Ev.comp2 {t₀ i₀ t₁ i₁ elt : Expr} {scope : Scope} {pos : Pos} {ds : List Den} {outs : List (List Den)} (c : Comp2 prog w G A env ρ t₀ i₀ t₁ i₁ elt scope ds outs) :
    Ev prog w G A env ρ (.ListComp elt [⟨t₀, i₀, [], 0⟩, ⟨t₁, i₁, [], 0⟩] scope pos) (dLst outs.flatten) :=
  Ev.of_comp (fun X s E Q ok hf => c.core ok hf) rfl
end
end Mine

namespace Mine
open PySem.Calls

/-- the lists that a def is filling: name and what is in -/
abbrev Alpha := List (Str × List Den)
def aRho (ad : Str → Addr) (α : Alpha) : Rho := α.map fun p => (p.1, dVal (.ref (ad p.1)))
def Dom (α : Alpha) (x : Str) : Prop := (α.lookup x).isSome = true

theorem aRho_some {ad : Str → Addr} : ∀ {α : Alpha} {x : Str}, Dom α x → (aRho ad α).lookup x = some (dVal (.ref (ad x)))
  | [], x, h => by cases h
  | (y, os) :: r, x, h => by
    unfold Dom at h
    rw [List.lookup_cons] at h
    show List.lookup x ((y, dVal (.ref (ad y))) :: aRho ad r) = _
    rw [List.lookup_cons]
    cases hx : x == y with
    | true => rw [beq_iff_eq.mp hx]
    | false => rw [hx] at h; exact aRho_some h
theorem aRho_none {ad : Str → Addr} : ∀ {α : Alpha} {x : Str}, ¬ Dom α x → (aRho ad α).lookup x = none
  | [], x, h => rfl
  | (y, os) :: r, x, h => by
    unfold Dom at h
    rw [List.lookup_cons] at h
    show List.lookup x ((y, dVal (.ref (ad y))) :: aRho ad r) = _
    rw [List.lookup_cons]
    cases hx : x == y with
    | true => rw [hx] at h; exact absurd rfl h
    | false => rw [hx] at h; exact aRho_none h
theorem app_lookup {l₁ l₂ : Rho} {x : Str} : (l₁ ++ l₂).lookup x = (l₁.lookup x).or (l₂.lookup x) := List.lookup_append ..

/-- the frame with its open lists -/
structure OkA (G : Heap) (X : Addr → Prop) (env : Env) (ρ : Rho) (ad : Str → Addr) (α : Alpha) (s : Shared) : Prop where
  ok : Ok G X env (aRho ad α ++ ρ) s
  disj : ∀ x, Dom α x → ρ.lookup x = none
  acc : ∀ x os, α.lookup x = some os → X (ad x) ∧ ¬ Own env (ad x) ∧ Acc X s.heap (ad x) os
  inj : ∀ x y, Dom α x → Dom α y → ad x = ad y → x = y

def MA (env : Env) (ad : Str → Addr) (α : Alpha) (b : Addr) : Prop := Own env b ∨ ∃ x, Dom α x ∧ b = ad x

section
variable {prog : Program} {w : World} {G : Heap} {A : Around} {env : Env} {ρ ρ' ρ'' : Rho} {E : Value → Shared → Prop} {s s' : Shared} {X X₀ M W : Addr → Prop} {D : Addr} {os : List Den} {R : Result → Shared → Prop}
  {ad : Str → Addr} {α α' α'' : Alpha}

theorem OkA.plain (o : OkA G X env ρ ad α s) : Ok G X env ρ s := o.ok.weaken fun y d e => by
  rw [app_lookup]
  by_cases h : Dom α y
  · rw [o.disj y h] at e; cases e
  · rw [aRho_none h, Option.none_or]; exact e
theorem OkA.keeps (o : OkA G X env ρ ad α s) (k : Grows s s') : OkA G X env ρ ad α s' :=
  ⟨o.ok.keeps k, o.disj, fun x os h => let ⟨a, b, c⟩ := o.acc x os h; ⟨a, b, c.keeps k⟩, o.inj⟩
theorem OkA.of (ok : Ok G X env ρ s) : OkA G X env ρ ad [] s := ⟨ok, fun _ h => (by cases h), fun _ _ h => (by cases h), fun _ _ h => (by cases h)⟩
theorem OkA.of' (ok : Ok G X env ρ s) : OkA G X env ρ (fun _ => 0) [] s := OkA.of ok
theorem OkA.weaken (o : OkA G X env ρ ad α s) (h : ∀ y d, ρ'.lookup y = some d → ρ.lookup y = some d) : OkA G X env ρ' ad α s :=
  ⟨o.ok.weaken fun y d e => by
      rw [app_lookup] at e ⊢
      cases q : (aRho ad α).lookup y with
      | some z => rw [q] at e; exact e
      | none => rw [q, Option.none_or] at e; rw [Option.none_or]; exact h y d e,
    fun x hx => (by
      cases e : ρ'.lookup x with
      | none => rfl
      | some d => have := h x d e; rw [o.disj x hx] at this; cases this), o.acc, o.inj⟩

/-- a name of the frame is stored -/
theorem OkA.store {x : Str} {d : Den} {v : Value} (o : OkA G X env ρ ad α s) (hx : Stores env x) (hα : ¬ Dom α x) (hv : d.is (vw X s.heap) v) :
    wpAny (model prog w) A (storeName env x v) (fun _ s' => KeepM (MA env ad α) s s' ∧ OkA G X env ((x, d) :: ρ) ad α s') E s :=
  wpAny_mono (o.ok.store hx hv) (fun _ s' ⟨k, ok'⟩ => ⟨k.mono fun b h => .inl h.own, ok'.weaken fun y d' e => by
      rw [app_lookup] at e
      by_cases hyx : y = x
      · subst hyx
        rw [aRho_none hα, Option.none_or] at e
        rw [lookup_cons_eq] at e ⊢; exact e
      · rw [lookup_cons_ne hyx] at e ⊢
        rw [app_lookup]; exact e,
    fun y hy => by
      by_cases hyx : y = x
      · exact absurd (hyx ▸ hy) hα
      · rw [lookup_cons_ne hyx]; exact o.disj y hy,
    fun y os h => let ⟨a, b, c⟩ := o.acc y os h; ⟨a, b, c.keepM k (fun b hb => o.ok.own b hb.own) fun hb => b hb.own⟩, o.inj⟩) fun _ _ x => x

/-- statements that go on: the frame behind them -/
def Step (prog : Program) (w : World) (G : Heap) (A : Around) (env : Env) (ρ : Rho) (α : Alpha) (ss : List Stmt) (ρ' : Rho) (α' : Alpha) : Prop :=
  ∀ (X : Addr → Prop) (ad : Str → Addr) (s : Shared) (E : Value → Shared → Prop), OkA G X env ρ ad α s →
    wpAny (model prog w) A (execs ss env) (fun f s' => f = .next ∧ KeepM (MA env ad α) s s' ∧ OkA G X env ρ' ad α' s') E s
/-- statements that return a value with d -/
def Ret (prog : Program) (w : World) (G : Heap) (A : Around) (env : Env) (ρ : Rho) (α : Alpha) (ss : List Stmt) (d : Den) : Prop :=
  ∀ (X : Addr → Prop) (ad : Str → Addr) (s : Shared) (E : Value → Shared → Prop), OkA G X env ρ ad α s →
    wpAny (model prog w) A (execs ss env) (fun f s' => ∃ v, f = .ret v ∧ KeepM (MA env ad α) s s' ∧ d.is (vw (fun b => X b ∧ ¬ ∃ x, Dom α x ∧ b = ad x) s'.heap) v) E s

theorem MA.sub (h : ∀ x, Dom α' x → Dom α x) : ∀ b, MA env ad α' b → MA env ad α b := fun b hb => hb.imp_right fun ⟨x, hx, e⟩ => ⟨x, h x hx, e⟩

theorem Step.nil : Step prog w G A env ρ α [] ρ α := fun X ad s E o => wpAny_execs_nil ⟨rfl, KeepM.refl s, o⟩
theorem Step.cons {st : Stmt} {rest : List Stmt} (h : Step prog w G A env ρ α [st] ρ' α') (h' : Step prog w G A env ρ' α' rest ρ'' α'') (hd : ∀ x, Dom α' x → Dom α x) : Step prog w G A env ρ α (st :: rest) ρ'' α'' := fun X ad s E o => by
  refine wpAny_execs_cons ?_
  have h₁ := h X ad s E o
  have : wpAny (model prog w) A (exec st env) (fun f s' => f = .next ∧ KeepM (MA env ad α) s s' ∧ OkA G X env ρ' ad α' s') E s := by
    rw [execs_cons] at h₁
    intro Γ p hΓ
    have q := h₁ Γ p hΓ
    rw [Sem.wp_bind'] at q
    refine Sem.wp_mono _ Γ _ (fun f p' s' q' => ?_) (fun _ _ _ q' => q') p s q
    cases f with
    | next => exact q'
    | brk => exact absurd q'.1 (by intro e; cases e)
    | cont => exact absurd q'.1 (by intro e; cases e)
    | ret v => exact absurd q'.1 (by intro e; cases e)
  refine wpAny_mono this (fun f s₁ ⟨e, k, o₁⟩ => ?_) fun _ _ x => x
  subst e
  exact wpAny_mono (h' X ad s₁ E o₁) (fun f s₂ ⟨e, k', o₂⟩ => ⟨e, k.trans (k'.mono (MA.sub hd)), o₂⟩) fun _ _ x => x
theorem Ret.cons {st : Stmt} {rest : List Stmt} {d : Den} (h : Step prog w G A env ρ α [st] ρ' α') (h' : Ret prog w G A env ρ' α' rest d) (hd : ∀ x, Dom α' x ↔ Dom α x) : Ret prog w G A env ρ α (st :: rest) d := fun X ad s E o => by
  refine wpAny_execs_cons ?_
  have h₁ := h X ad s E o
  have : wpAny (model prog w) A (exec st env) (fun f s' => f = .next ∧ KeepM (MA env ad α) s s' ∧ OkA G X env ρ' ad α' s') E s := by
    rw [execs_cons] at h₁
    intro Γ p hΓ
    have q := h₁ Γ p hΓ
    rw [Sem.wp_bind'] at q
    refine Sem.wp_mono _ Γ _ (fun f p' s' q' => ?_) (fun _ _ _ q' => q') p s q
    cases f with
    | next => exact q'
    | brk => exact absurd q'.1 (by intro e; cases e)
    | cont => exact absurd q'.1 (by intro e; cases e)
    | ret v => exact absurd q'.1 (by intro e; cases e)
  refine wpAny_mono this (fun f s₁ ⟨e, k, o₁⟩ => ?_) fun _ _ x => x
  subst e
  refine wpAny_mono (h' X ad s₁ E o₁) (fun f s₂ ⟨v, e, k', hv⟩ => ⟨v, e, k.trans (k'.mono (MA.sub fun x => (hd x).mp)), d.mono (fun a o q => ⟨q.1, fun z => q.2 ⟨z.1, fun ⟨x, hx, e⟩ => z.2 ⟨x, (hd x).mp hx, e⟩⟩⟩) hv⟩) fun _ _ x => x

theorem Step.of_exec {st : Stmt} (h : ∀ (X : Addr → Prop) (ad : Str → Addr) (s : Shared) (E : Value → Shared → Prop), OkA G X env ρ ad α s →
    wpAny (model prog w) A (exec st env) (fun f s' => f = .next ∧ KeepM (MA env ad α) s s' ∧ OkA G X env ρ' ad α' s') E s) : Step prog w G A env ρ α [st] ρ' α' := fun X ad s E o =>
  wpAny_execs_cons (wpAny_mono (h X ad s E o) (fun f s' ⟨e, r⟩ => by subst e; exact wpAny_execs_nil ⟨rfl, r⟩) fun _ _ x => x)

theorem Step.assign {x : Str} {px pos : Pos} {e : Expr} {d : Den} (hx : Stores env x) (h : Ev prog w G A env ρ e d) (hα : α.lookup x = none := by rfl)
    (hs : swapsWith e (some (.Name x px)) pos.line env = pure false := by rfl) : Step prog w G A env ρ α [.Assign [.Name x px] e pos] ((x, d) :: ρ) α := Step.of_exec fun X ad s E o => by
  refine wpAny_Assign_Name (h.use o.plain fun v s₁ k₁ _ hv => ?_) hs
  refine wpAny_mono ((o.keeps k₁).store hx (fun z => by unfold Dom at z; rw [hα] at z; cases z) hv) (fun _ s₂ ⟨k₂, o₂⟩ => ⟨rfl, (KeepM.of_keeps k₁).trans k₂, o₂⟩) fun _ _ x => x

theorem Step.ifT {t : Expr} {body orelse : List Stmt} {pos : Pos} {b : Bool} (ht : Tr prog w G A env ρ t b) (h₁ : b = true → Step prog w G A env ρ α body ρ' α') (h₂ : b = false → Step prog w G A env ρ α orelse ρ' α') :
    Step prog w G A env ρ α [.If t body orelse pos] ρ' α' := Step.of_exec fun X ad s E o => by
  refine wpAny_If (ht.use o.plain fun s₁ k₁ _ => ?_)
  cases b with
  | true => simp only [if_true]; exact wpAny_mono (h₁ rfl X ad s₁ E (o.keeps k₁)) (fun f s₂ ⟨e, k₂, o₂⟩ => ⟨e, (KeepM.of_keeps k₁).trans k₂, o₂⟩) fun _ _ x => x
  | false => simp only [Bool.false_eq_true, if_false]; exact wpAny_mono (h₂ rfl X ad s₁ E (o.keeps k₁)) (fun f s₂ ⟨e, k₂, o₂⟩ => ⟨e, (KeepM.of_keeps k₁).trans k₂, o₂⟩) fun _ _ x => x

theorem Ret.ret {e : Expr} {pos : Pos} {rest : List Stmt} {d : Den} (h : Ev prog w G A env ρ e d) : Ret prog w G A env ρ α (.Return (some e) pos :: rest) d := fun X ad s E o =>
  wpAny_execs_cons (wpAny_Return_some (h.use o.plain fun v s₁ k₁ _ hv => ⟨v, rfl, KeepM.of_keeps k₁, d.mono (fun a o q => ⟨q.1, fun z => q.2 z.1⟩) hv⟩))

/-- if the test holds the body returns, else on -/
theorem Ret.ifT {t : Expr} {body orelse rest : List Stmt} {pos : Pos} {b : Bool} {d : Den} (ht : Tr prog w G A env ρ t b) (h₁ : b = true → Ret prog w G A env ρ α body d) (h₂ : b = false → Ret prog w G A env ρ α rest d) (ho : orelse = [] := by rfl) :
    Ret prog w G A env ρ α (.If t body orelse pos :: rest) d := fun X ad s E o => by
  subst ho
  refine wpAny_execs_cons (wpAny_If (ht.use o.plain fun s₁ k₁ _ => ?_))
  cases b with
  | true => simp only [if_true]; exact wpAny_mono (h₁ rfl X ad s₁ E (o.keeps k₁)) (fun f s₂ ⟨v, e, k₂, hv⟩ => by subst e; exact ⟨v, rfl, (KeepM.of_keeps k₁).trans k₂, hv⟩) fun _ _ x => x
  | false =>
    simp only [Bool.false_eq_true, if_false]
    exact wpAny_execs_nil (wpAny_mono (h₂ rfl X ad s₁ E (o.keeps k₁)) (fun f s₂ ⟨v, e, k₂, hv⟩ => ⟨v, e, (KeepM.of_keeps k₁).trans k₂, hv⟩) fun _ _ x => x)
end
end Mine

namespace Mine
open PySem.Calls

theorem dom_cons {x y : Str} {os : List Den} {α : Alpha} : Dom ((x, os) :: α) y ↔ y = x ∨ Dom α y := by
  unfold Dom
  rw [List.lookup_cons]
  cases hx : y == x with
  | true => simp [beq_iff_eq.mp hx]
  | false => simp [beq_eq_false_iff_ne.mp hx]

section
variable {prog : Program} {w : World} {G : Heap} {A : Around} {env : Env} {ρ ρ' ρ'' : Rho} {E : Value → Shared → Prop} {s s' : Shared} {X X₀ M W : Addr → Prop} {D : Addr} {os : List Den} {R : Result → Shared → Prop}
  {ad : Str → Addr} {α α' α'' : Alpha}

/-- a fresh list under a name -/
theorem OkA.open {x : Str} {a : Addr} (o : OkA G X env ρ ad α s) (hx : Stores env x) (hα : ¬ Dom α x) (hρ : ρ.lookup x = none) (hna : s.heap.get? a = none) (g : Grows s s') (ha : s'.heap.get? a = some (LCg.lst [])) :
    wpAny (model prog w) A (storeName env x (.ref a)) (fun _ s₂ => KeepM (Own env) s' s₂ ∧ OkA G (fun b => X b ∨ b = a) env ρ (fun y => if y = x then a else ad y) ((x, []) :: α) s₂) E s' := by
  have hX : ∀ b, (X b ∨ b = a) → ¬ X b → b = a := fun b h h' => h.resolve_left h'
  have ok' : Ok G (fun b => X b ∨ b = a) env (aRho ad α ++ ρ) s' := o.ok.enter g (fun b h => .inl h) (fun b h h' => hX b h h' ▸ hna) fun b h h' => ⟨_, hX b h h' ▸ ha⟩
  have hXa : ¬ X a := fun z => by obtain ⟨ob, e⟩ := o.ok.live a z; rw [hna] at e; cases e
  have hOa : ¬ Own env a := fun z => hXa (o.ok.own a z)
  refine wpAny_mono (ok'.store (d := dVal (.ref a)) hx rfl) (fun _ s₂ ⟨k, ok₂⟩ => ⟨k.mono fun b h => h.own, ?_, fun y hy => ?_, fun y os h => ?_, fun y z hy hz e => ?_⟩) fun _ _ x => x
  · refine ok₂.weaken fun y d e => ?_
    by_cases hyx : y = x
    · subst hyx
      have e' : List.lookup y ((y, dVal (.ref (if y = y then a else ad y))) :: (aRho (fun z => if z = y then a else ad z) α ++ ρ)) = some d := e
      rw [lookup_cons_eq, if_pos rfl] at e'
      rw [lookup_cons_eq]; exact e'
    · have e' : List.lookup y ((x, dVal (.ref (if x = x then a else ad x))) :: (aRho (fun z => if z = x then a else ad z) α ++ ρ)) = some d := e
      rw [lookup_cons_ne hyx] at e' ⊢
      rw [app_lookup] at e' ⊢
      by_cases hd : Dom α y
      · rw [aRho_some hd] at e' ⊢
        rw [if_neg hyx] at e'; exact e'
      · rw [aRho_none hd] at e' ⊢; exact e'
  · rcases dom_cons.mp hy with rfl | hy
    · exact hρ
    · exact o.disj y hy
  · rw [List.lookup_cons] at h
    cases hyx : y == x with
    | true =>
      rw [hyx] at h; cases h
      rw [beq_iff_eq.mp hyx]
      refine ⟨.inr (if_pos rfl), by rw [if_pos rfl]; exact hOa, [], ?_, Nat.zero_le _, trivial⟩
      rw [if_pos rfl]
      exact k.get (fun z => hOa z.own) ha
    | false =>
      rw [hyx] at h
      obtain ⟨h1, h2, vs, e, hz, hv⟩ := o.acc y os h
      have hne : y ≠ x := beq_eq_false_iff_ne.mp hyx
      simp only [if_neg hne]
      refine ⟨.inl h1, h2, vs, k.get (fun z => h2 z.own) (Grows.at g e), hz, hv.mono fun d v q => ?_⟩
      refine Den.keepM d k (fun b hb => .inl (o.ok.own b hb.own)) (d.mono (fun b ob r => ⟨Grows.at g r.1, fun z => z.elim r.2 fun e => ?_⟩) q)
      have := r.1; rw [e, hna] at this; cases this
  · have hyA : ∀ u, Dom ((x, []) :: α) u → u ≠ x → X (ad u) := fun u hu hne => by
      obtain ⟨us, hus⟩ := Option.isSome_iff_exists.mp ((dom_cons.mp hu).resolve_left hne)
      exact (o.acc u us hus).1
    by_cases hyx : y = x <;> by_cases hzx : z = x
    · rw [hyx, hzx]
    · simp only [hyx, if_true, if_neg hzx] at e
      exact absurd (e ▸ hyA z hz hzx) hXa
    · simp only [hzx, if_true, if_neg hyx] at e
      exact absurd (e ▸ hyA y hy hyx) hXa
    · simp only [if_neg hyx, if_neg hzx] at e
      exact o.inj y z ((dom_cons.mp hy).resolve_left hyx) ((dom_cons.mp hz).resolve_left hzx) e

theorem OkA.close {x : Str} (o : OkA G X env ρ ad ((x, os) :: α) s) (hα : ¬ Dom α x) : OkA G (fun b => X b ∧ b ≠ ad x) env ((x, dLst os) :: ρ) ad α s := by
  obtain ⟨h1, h2, vs, e, hz, hv⟩ := o.acc x os (by rw [List.lookup_cons, beq_self_eq_true])
  have up : ∀ {d : Den} {v : Value}, d.is (vw X s.heap) v → d.is (vw (fun b => X b ∧ b ≠ ad x) s.heap) v := fun {d v} q => d.mono (fun a ob r => ⟨r.1, fun z => r.2 z.1⟩) q
  refine ⟨?_, fun y hy => ?_, fun y us h => ?_, fun y z hy hz' e' => o.inj y z (dom_cons.mpr (.inr hy)) (dom_cons.mpr (.inr hz')) e'⟩
  · have ok' := o.ok.leave (X₀ := fun b => X b ∧ b ≠ ad x) (KeepM.refl (M := fun _ => False) s) (fun _ h => h.elim) (fun b h => ⟨h.1, fun z => z⟩) fun b hb => ⟨o.ok.own b hb, fun z => h2 (z ▸ hb)⟩
    refine { ok' with vars := fun y d hy => ?_ }
    rw [app_lookup] at hy
    by_cases hyx : y = x
    · subst hyx
      rw [aRho_none hα, Option.none_or, lookup_cons_eq] at hy
      cases hy
      obtain ⟨v, hs, hv'⟩ := ok'.vars y (dVal (.ref (ad y))) (by rw [app_lookup, aRho_some (dom_cons.mpr (.inl rfl)), Option.some_or])
      have hv'' : v = .ref (ad y) := hv'
      subst hv''
      exact ⟨_, hs, _, vs.length, vs, rfl, ⟨e, fun z => z.2 rfl⟩, hz, hv.mono fun d v q => up q⟩
    · rw [lookup_cons_ne hyx] at hy
      refine ok'.vars y d ?_
      rw [app_lookup]
      by_cases hd : Dom α y
      · rw [aRho_some hd] at hy; rw [aRho_some (dom_cons.mpr (.inr hd))]; exact hy
      · rw [aRho_none hd] at hy
        rw [aRho_none fun z => (dom_cons.mp z).elim hyx hd]; exact hy
  · by_cases hyx : y = x
    · exact absurd (hyx ▸ hy) hα
    · rw [lookup_cons_ne hyx]; exact o.disj y (dom_cons.mpr (.inr hy))
  · have hyx : y ≠ x := fun z => hα (by unfold Dom; rw [← z, h]; rfl)
    obtain ⟨k1, k2, k3⟩ := o.acc y us (by rw [List.lookup_cons, beq_eq_false_iff_ne.mpr hyx]; exact h)
    refine ⟨⟨k1, fun z => hyx (o.inj y x (dom_cons.mpr (.inr (by unfold Dom; rw [h]; rfl))) (dom_cons.mpr (.inl rfl)) z)⟩, k2, k3.sub fun b hb => hb.1⟩

/-- the set of the result's view -/
abbrev Out (X : Addr → Prop) (ad : Str → Addr) (α : Alpha) : Addr → Prop := fun b => X b ∧ ¬ ∃ x, Dom α x ∧ b = ad x

theorem eval_nil_list {lp : Pos} {Q : Value → Shared → Prop} (h : Q (.ref s.heap.objs.size) { s with heap := s.heap.push (LCg.lst []) }) : wpAny (model prog w) A (eval (.List [] lp) env) Q E s :=
  List_ (Calls.spliced_nil (wpAny_newObj_type h (Nat.zero_le _)))

theorem Ret.open {x : Str} {px lp pos : Pos} {rest : List Stmt} {d : Den} (hx : Stores env x) (h : Ret prog w G A env ρ ((x, []) :: α) rest d) (hα : α.lookup x = none := by rfl) (hρ : ρ.lookup x = none := by rfl) :
    Ret prog w G A env ρ α (.Assign [.Name x px] (.List [] lp) pos :: rest) d := fun X ad s E o => by
  have hα' : ¬ Dom α x := fun z => by unfold Dom at z; rw [hα] at z; cases z
  refine wpAny_execs_cons (wpAny_Assign_Name (eval_nil_list ?_))
  refine wpAny_mono (o.open hx hα' hρ (get_size _) Grows.push (Heap.get?_push_size _ rfl)) (fun _ s₁ ⟨k₁, o₁⟩ => ?_) fun _ _ x => x
  refine wpAny_mono (h _ _ s₁ E o₁) (fun f s₂ ⟨v, e, k₂, hv⟩ => ⟨v, e, ?_, ?_⟩) fun _ _ x => x
  · have k : KeepM (fun b => MA env (fun y => if y = x then s.heap.objs.size else ad y) ((x, []) :: α) b) s s₂ := (KeepM.of_keeps Grows.push).trans ((k₁.mono fun b h => .inl h).trans k₂)
    obtain ⟨h', tk, rfl, kk⟩ := k
    refine ⟨h', tk, rfl, fun b ob hb e => kk b ob (fun z => ?_) e⟩
    rcases z with z | ⟨y, hy, z⟩
    · exact hb (.inl z)
    · dsimp only at z
      by_cases hyx : y = x
      · rw [if_pos hyx] at z; rw [z, get_size] at e; cases e
      · rw [if_neg hyx] at z
        exact hb (.inr ⟨y, (dom_cons.mp hy).resolve_left hyx, z⟩)
  · refine d.mono (fun a ob q => ⟨q.1, fun z => q.2 ⟨.inl z.1, fun ⟨y, hy, e'⟩ => ?_⟩⟩) hv
    by_cases hyx : y = x
    · rw [if_pos hyx] at e'
      obtain ⟨ob', e''⟩ := o.ok.live a z.1
      rw [e', get_size] at e''; cases e''
    · rw [if_neg hyx] at e'
      exact z.2 ⟨y, (dom_cons.mp hy).resolve_left hyx, e'⟩

theorem Ret.close {x : Str} {ss : List Stmt} {d : Den} (h : Ret prog w G A env ((x, dLst os) :: ρ) α ss d) (hα : α.lookup x = none := by rfl) : Ret prog w G A env ρ ((x, os) :: α) ss d := fun X ad s E o => by
  have hα' : ¬ Dom α x := fun z => by unfold Dom at z; rw [hα] at z; cases z
  refine wpAny_mono (h _ ad s E (o.close hα')) (fun f s₂ ⟨v, e, k₂, hv⟩ => ⟨v, e, k₂.mono (MA.sub fun y hy => dom_cons.mpr (.inr hy)), ?_⟩) fun _ _ x => x
  exact d.mono (fun a ob q => ⟨q.1, fun z => q.2 ⟨⟨z.1, fun e => z.2 ⟨x, dom_cons.mpr (.inl rfl), e⟩⟩, fun ⟨y, hy, e⟩ => z.2 ⟨y, dom_cons.mpr (.inr hy), e⟩⟩⟩) hv

/-- a list of the turn's own: opened, filled by one statement, closed -/
theorem Step.scoped {x : Str} {px lp pos : Pos} {m : Stmt} {rs : List Stmt} (hx : Stores env x) (h : Step prog w G A env ρ ((x, []) :: α) [m] ρ' ((x, os) :: α)) (h' : Step prog w G A env ((x, dLst os) :: ρ') α rs ρ'' α'')
    (hα : α.lookup x = none := by rfl) (hρ : ρ.lookup x = none := by rfl) : Step prog w G A env ρ α (.Assign [.Name x px] (.List [] lp) pos :: m :: rs) ρ'' α'' := fun X ad s E o => by
  have hα' : ¬ Dom α x := fun z => by unfold Dom at z; rw [hα] at z; cases z
  refine wpAny_execs_cons (wpAny_Assign_Name (eval_nil_list ?_))
  refine wpAny_mono (o.open hx hα' hρ (get_size _) Grows.push (Heap.get?_push_size _ rfl)) (fun _ s₁ ⟨k₁, o₁⟩ => ?_) fun _ _ x => x
  refine wpAny_execs_cons ?_
  have h₁ := h _ _ s₁ E o₁
  have : wpAny (model prog w) A (exec m env) (fun f s' => f = .next ∧ KeepM (MA env (fun y => if y = x then s.heap.objs.size else ad y) ((x, []) :: α)) s₁ s' ∧ OkA G (fun b => X b ∨ b = s.heap.objs.size) env ρ' (fun y => if y = x then s.heap.objs.size else ad y) ((x, os) :: α) s') E s₁ := by
    rw [execs_cons] at h₁
    intro Γ p hΓ
    have q := h₁ Γ p hΓ
    rw [Sem.wp_bind'] at q
    refine Sem.wp_mono _ Γ _ (fun f p' s' q' => ?_) (fun _ _ _ q' => q') p s₁ q
    cases f with
    | next => exact q'
    | brk => exact absurd q'.1 (by intro e; cases e)
    | cont => exact absurd q'.1 (by intro e; cases e)
    | ret v => exact absurd q'.1 (by intro e; cases e)
  refine wpAny_mono this (fun f s₂ ⟨e, k₂, o₂⟩ => ?_) fun _ _ x => x
  subst e
  have hXa : ¬ X s.heap.objs.size := fun z => by obtain ⟨ob, e⟩ := o.ok.live _ z; rw [get_size] at e; cases e
  have o₃ := o₂.close hα'
  have o₄ : OkA G X env ((x, dLst os) :: ρ') ad α s₂ := by
    have hX : ∀ b, ((X b ∨ b = s.heap.objs.size) ∧ b ≠ (if x = x then s.heap.objs.size else ad x)) ↔ X b := fun b => by
      rw [if_pos rfl]
      exact ⟨fun h => h.1.resolve_right h.2, fun h => ⟨.inl h, fun e => hXa (e ▸ h)⟩⟩
    have hXe : (fun b => (X b ∨ b = s.heap.objs.size) ∧ b ≠ (if x = x then s.heap.objs.size else ad x)) = X := funext fun b => propext (hX b)
    have hae : aRho (fun y => if y = x then s.heap.objs.size else ad y) α = aRho ad α := by
      unfold aRho
      refine List.map_congr_left fun p hp => ?_
      have : p.1 ≠ x := fun e => hα' (by
        unfold Dom
        cases q : α.lookup x with
        | some z => rfl
        | none =>
          exfalso
          have : ∀ {l : Alpha}, p ∈ l → l.lookup p.1 ≠ none := by
            intro l hl
            induction l with
            | nil => cases hl
            | cons u r ih =>
              obtain ⟨a, b⟩ := u
              rw [List.lookup_cons]
              rcases List.mem_cons.mp hl with z | z
              · subst z; simp
              · cases hq : p.1 == a with
                | true => simp
                | false => simp only; exact ih z
          exact this hp (e ▸ q))
      dsimp only
      rw [if_neg this]
    have hne : ∀ y, Dom α y → y ≠ x := fun y hy e => hα' (e ▸ hy)
    have o₃' : OkA G (fun b => (X b ∨ b = s.heap.objs.size) ∧ b ≠ (if x = x then s.heap.objs.size else ad x)) env ((x, dLst os) :: ρ') (fun y => if y = x then s.heap.objs.size else ad y) α s₂ := o₃
    rw [hXe] at o₃'
    refine ⟨hae ▸ o₃'.ok, o₃'.disj, fun y us hy => ?_, fun y z hy hz e => o₃'.inj y z hy hz (by rw [if_neg (hne y hy), if_neg (hne z hz)]; exact e)⟩
    have := o₃'.acc y us hy
    rw [if_neg (hne y (by unfold Dom; rw [hy]; rfl))] at this
    exact this
  refine wpAny_mono (h' X ad s₂ E o₄) (fun f s₃ ⟨e, k₃, o₅⟩ => ⟨e, ?_, o₅⟩) fun _ _ x => x
  have k : KeepM (fun b => MA env (fun y => if y = x then s.heap.objs.size else ad y) ((x, []) :: α) b) s s₂ := (KeepM.of_keeps Grows.push).trans ((k₁.mono fun b h => .inl h).trans k₂)
  refine KeepM.trans (s' := s₂) ?_ k₃
  obtain ⟨h', tk, rfl, kk⟩ := k
  refine ⟨h', tk, rfl, fun b ob hb e => kk b ob (fun z => ?_) e⟩
  rcases z with z | ⟨y, hy, z⟩
  · exact hb (.inl z)
  · dsimp only at z
    by_cases hyx : y = x
    · rw [if_pos hyx] at z; rw [z, get_size] at e; cases e
    · rw [if_neg hyx] at z
      exact hb (.inr ⟨y, (dom_cons.mp hy).resolve_left hyx, z⟩)
end
end Mine

namespace Mine
open PySem.Calls

section
variable {prog : Program} {w : World} {G : Heap} {A : Around} {env : Env} {ρ ρ' ρ'' : Rho} {E : Value → Shared → Prop} {s s' : Shared} {X X₀ M W : Addr → Prop} {D : Addr} {os os' : List Den} {R : Result → Shared → Prop}
  {ad : Str → Addr} {α α' α'' : Alpha}

/-- α' is α with another content under x -/
structure RepA (α : Alpha) (x : Str) (os' : List Den) (α' : Alpha) : Prop where
  look : ∀ y, α'.lookup y = if y = x then some os' else α.lookup y
  rho : ∀ ad, aRho ad α' = aRho ad α

theorem RepA.head {x : Str} : RepA ((x, os) :: α) x os' ((x, os') :: α) where
  look := fun y => by
    rw [List.lookup_cons]
    by_cases h : y = x
    · subst h; simp
    · rw [if_neg h, beq_eq_false_iff_ne.mpr h]; simp only; rw [List.lookup_cons, beq_eq_false_iff_ne.mpr h]
  rho := fun _ => rfl
theorem RepA.tail {x z : Str} {us : List Den} (h : RepA α x os' α') (hz : z ≠ x) : RepA ((z, us) :: α) x os' ((z, us) :: α') where
  look := fun y => by
    rw [List.lookup_cons, List.lookup_cons]
    by_cases hy : y = z
    · subst hy; simp [hz]
    · rw [beq_eq_false_iff_ne.mpr hy]; exact h.look y
  rho := fun ad => congrArg (List.cons _) (h.rho ad)

theorem OkA.replace {x : Str} {k : KeepM (fun b => b = ad x) s s'} (o : OkA G X env ρ ad α s) (hx : Dom α x) (r : RepA α x os' α') (hl : ∃ o, s'.heap.get? (ad x) = some o) (ha : Acc X s'.heap (ad x) os') : OkA G X env ρ ad α' s' := by
  obtain ⟨us, hus⟩ := Option.isSome_iff_exists.mp hx
  obtain ⟨h1, h2, _⟩ := o.acc x us hus
  have hD : ∀ y, Dom α' y → Dom α y := fun y hy => by
    unfold Dom at hy
    rw [r.look] at hy
    by_cases e : y = x
    · exact e ▸ hx
    · rw [if_neg e] at hy; exact hy
  refine ⟨?_, fun y hy => o.disj y (hD y hy), fun y vs hy => ?_, fun y z hy hz e => o.inj y z (hD y hy) (hD z hz) e⟩
  · rw [r.rho]
    exact o.ok.keepM k (fun b e => e ▸ h1) (fun b hb e => h2 (e ▸ hb)) fun b e => e ▸ hl
  · rw [r.look] at hy
    by_cases e : y = x
    · subst e
      rw [if_pos rfl] at hy; cases hy
      exact ⟨h1, h2, ha⟩
    · rw [if_neg e] at hy
      obtain ⟨k1, k2, k3⟩ := o.acc y vs hy
      exact ⟨k1, k2, k3.keepM k (fun b e => e ▸ h1) fun q => e (o.inj y x (by unfold Dom; rw [hy]; rfl) hx q)⟩

theorem OkA.sits (o : OkA G X env ρ ad α s) {x : Str} (hx : Dom α x) : Sits env s.heap x (.ref (ad x)) := by
  obtain ⟨v, hs, hv⟩ := o.ok.vars x (dVal (.ref (ad x))) (by rw [app_lookup, aRho_some hx, Option.some_or])
  have : v = .ref (ad x) := hv
  exact this ▸ hs

theorem interactive_no (ok : Ok G X env ρ s) : interactive env = false := by
  unfold interactive
  rw [ok.kind]; rfl

theorem OkA.append_stmt {x : Str} {px apos cpos epos : Pos} {e : Expr} {d : Den} (o : OkA G X env ρ ad α s) (hx : α.lookup x = some os) (r : RepA α x (os ++ [d]) α') (hz : os.length + 1 ≤ sizeLine)
    (he : wpAny (model prog w) A (eval e env) (fun v s₁ => Grows s s₁ ∧ d.is (vw X s₁.heap) v) E s)
    (hd : (x == ("__debug__" : Str)) = false) (hc : (x == ("__classdict__" : Str)) = false) (hline : (apos.endLine == cpos.line) = true) (htrees : backTo cpos (starEach [e] env) = [(false, eval e env)]) :
    wpAny (model prog w) A (exec (.Expr (.Call (.Attribute (.Name x px) "append" apos) [e] [] cpos) epos) env) (fun f s' => f = .next ∧ KeepM (MA env ad α) s s' ∧ OkA G X env ρ ad α' s') E s := by
  have hdx : Dom α x := by unfold Dom; rw [hx]; rfl
  obtain ⟨h1, h2, vs, ev, hvz, hv⟩ := o.acc x os hx
  refine wpAny_Expr (wpAny_Call_append rfl (by rw [htrees]; rfl) hline htrees ?_) (interactive_no o.ok) rfl
  refine wpAny_Name ((o.sits hdx).load o.ok.kind ?_ hc) hd
  refine ⟨ad x, vs.toArray, rfl, ⟨_, _, ev, rfl, rfl, rfl⟩, ?_⟩
  refine wpAny_mono he (fun v s₁ ⟨k₁, hv₁⟩ => ?_) fun _ _ x => x
  have o₁ := o.keeps k₁
  obtain ⟨_, _, a₁⟩ := o₁.acc x os hx
  refine wpAny_mono (a₁.append h1 hv₁ hz) (fun u s₂ ⟨eu, k₂, a₂, hl⟩ => ?_) fun _ _ x => x
  subst eu
  exact ⟨rfl, (KeepM.of_keeps k₁).trans (k₂.mono fun b e => .inr ⟨x, hdx, e⟩), o₁.replace (k := k₂) hdx r hl a₂⟩

theorem Step.append {x : Str} {px apos cpos epos : Pos} {e : Expr} {d : Den} (h : Ev prog w G A env ρ e d) (hx : α.lookup x = some os) (r : RepA α x (os ++ [d]) α') (hz : os.length + 1 ≤ sizeLine)
    (hd : (x == ("__debug__" : Str)) = false := by decide) (hc : (x == ("__classdict__" : Str)) = false := by decide) (hline : (apos.endLine == cpos.line) = true := by rfl) (htrees : backTo cpos (starEach [e] env) = [(false, eval e env)] := by rfl) :
    Step prog w G A env ρ α [.Expr (.Call (.Attribute (.Name x px) "append" apos) [e] [] cpos) epos] ρ α' := Step.of_exec fun X ad s E o =>
  o.append_stmt hx r hz (h X s E o.plain) hd hc hline htrees

/-- what a value tells hangs on no heap -/
def Flat (d : Den) : Prop := ∀ g g' v, d.is g v → d.is g' v

/-- the item reads the list that is being filled -/
theorem Step.append_peek {x : Str} {px apos cpos epos : Pos} {e : Expr} {d : Den} (h : Ev prog w G A env ((x, dLst os) :: ρ) e d) (hf : Flat d) (hz : os.length + 1 ≤ sizeLine) (hα : α.lookup x = none := by rfl)
    (hd : (x == ("__debug__" : Str)) = false := by decide) (hc : (x == ("__classdict__" : Str)) = false := by decide) (hline : (apos.endLine == cpos.line) = true := by rfl) (htrees : backTo cpos (starEach [e] env) = [(false, eval e env)] := by rfl) :
    Step prog w G A env ρ ((x, os) :: α) [.Expr (.Call (.Attribute (.Name x px) "append" apos) [e] [] cpos) epos] ρ ((x, os ++ [d]) :: α) := Step.of_exec fun X ad s E o => by
  have hα' : ¬ Dom α x := fun z => by unfold Dom at z; rw [hα] at z; cases z
  refine o.append_stmt (by rw [List.lookup_cons, beq_self_eq_true]) RepA.head hz ?_ hd hc hline htrees
  exact wpAny_mono (h _ s E (o.close hα').plain) (fun v s₁ ⟨k, hv⟩ => ⟨k, hf _ _ v hv⟩) fun _ _ x => x

/- loops -/
theorem OkA.keepM (o : OkA G X env ρ ad α s) (k : KeepM M s s') (hX : ∀ b, M b → X b) (hM : ∀ b, MA env ad α b → ¬ M b) (hl : ∀ b, M b → ∃ o, s'.heap.get? b = some o) : OkA G X env ρ ad α s' :=
  ⟨o.ok.keepM k hX (fun b hb => hM b (.inl hb)) hl, o.disj, fun x os h => let ⟨a, b, c⟩ := o.acc x os h; ⟨a, b, c.keepM k hX fun z => hM _ (.inr ⟨x, by unfold Dom; rw [h]; rfl, rfl⟩) z⟩, o.inj⟩
theorem OkA.MA_X (o : OkA G X env ρ ad α s) : ∀ b, MA env ad α b → X b := fun b hb => hb.elim (o.ok.own b) fun ⟨x, hx, e⟩ => by
  obtain ⟨us, hus⟩ := Option.isSome_iff_exists.mp hx
  exact e ▸ (o.acc x us hus).1
theorem OkA.enter (o : OkA G X₀ env ρ ad α s) (k : Grows s s') (hX : ∀ b, X₀ b → X b) (hn : ∀ b, X b → ¬ X₀ b → s.heap.get? b = none) (hl : ∀ b, X b → ¬ X₀ b → ∃ o, s'.heap.get? b = some o) : OkA G X env ρ ad α s' :=
  ⟨o.ok.enter k hX hn hl, o.disj, fun x os h => (by
    obtain ⟨a, b, vs, e, hz, hv⟩ := o.acc x os h
    refine ⟨hX _ a, b, vs, Grows.at k e, hz, hv.mono fun d v q => d.mono (fun c ob r => ⟨Grows.at k r.1, fun z => ?_⟩) q⟩
    have := hn c z r.2; rw [r.1] at this; cases this), o.inj⟩
theorem OkA.leave (o : OkA G X env ρ ad α s) (k : KeepM M s s') (hM : ∀ b, M b → X b) (hX : ∀ b, X₀ b → X b ∧ ¬ M b) (ho : ∀ b, MA env ad α b → X₀ b) : OkA G X₀ env ρ ad α s' :=
  ⟨o.ok.leave k hM hX fun b hb => ho b (.inl hb), o.disj, fun x os h => by
    obtain ⟨a, b, c⟩ := o.acc x os h
    have hx : X₀ (ad x) := ho _ (.inr ⟨x, by unfold Dom; rw [h]; rfl, rfl⟩)
    exact ⟨hx, b, (c.keepM k hM (hX _ hx).2).sub fun b hb => (hX b hb).1⟩, o.inj⟩

theorem OkA.bind {new : Rho} (o : OkA G X env ρ ad α s) (ok : Ok G X env (new ++ (aRho ad α ++ ρ)) s') (k : KeepM (Own env) s s') (hn : ∀ x ∈ names new, ¬ Dom α x) : OkA G X env (new ++ ρ) ad α s' :=
  ⟨ok.weaken fun y d e => by
      rw [app_lookup] at e ⊢
      by_cases h : Dom α y
      · rw [aRho_some h, Option.some_or] at e
        have : new.lookup y = none := lookup_none_of_not_mem fun z => hn y z h
        rw [this, Option.none_or, app_lookup, aRho_some h, Option.some_or]; exact e
      · rw [aRho_none h, Option.none_or, app_lookup] at e
        rw [app_lookup, aRho_none h, Option.none_or]; exact e,
    fun x hx => by
      rw [app_lookup, o.disj x hx, Option.or_none]
      exact lookup_none_of_not_mem fun z => hn x z hx,
    fun x os h => let ⟨a, b, c⟩ := o.acc x os h; ⟨a, b, c.keepM k o.ok.own b⟩, o.inj⟩

theorem Step.for {target iter : Expr} {body : List Stmt} {pos : Pos} {ds : List Den} (ρs : Nat → Rho) (αs : Nat → Alpha) (hit : EvIt prog w G A env (ρs 0) target iter ds) (hdom : ∀ i x, Dom (αs i) x ↔ Dom (αs 0) x)
    (hstep : ∀ (i : Nat) (d : Den), ds[i]? = some d → ∃ new ρ₁, AsgnOk prog w G A env (Own env) target d new ∧ (∀ x ∈ names new, ¬ Dom (αs 0) x) ∧ Step prog w G A env (new ++ ρs i) (αs i) body ρ₁ (αs (i + 1)) ∧
      ∀ y d, (ρs (i + 1)).lookup y = some d → ρ₁.lookup y = some d)
    (hs : ∀ x, foldedSetIterable iter env x = pure x := by intro _; rfl) :
    Step prog w G A env (ρs 0) (αs 0) [.For target iter body [] pos] (ρs ds.length) (αs ds.length) := Step.of_exec fun X ad s E o => by
  refine wpAny_For (wpAny_mono (hit X s E o.plain) (fun x s₁ h₁ => wpAny_mono h₁ (fun it s₂ h₂ => ?_) fun _ _ x => x) fun _ _ x => x) hs
  obtain ⟨I, rfl, g₂, wr, hwn, hwl, hfeed⟩ := h₂
  have wr_X : ∀ b, wr b → ¬ X b := fun b hb hx => by
    obtain ⟨ob, e⟩ := o.ok.live b hx
    have := hwn b hb; rw [e] at this; cases this
  obtain ⟨St, F, st0⟩ := hfeed (fun b => X b ∨ wr b) (fun b h => .inr h) fun b o hb _ => hb
  have oX : OkA G (fun b => X b ∨ wr b) env (ρs 0) ad (αs 0) s₂ := o.enter g₂ (fun b h => .inl h) (fun b hb hx => hb.elim (fun h => absurd h hx) (hwn b)) fun b hb hx => hb.elim (fun h => absurd h hx) (hwl b)
  have hMA : ∀ i b, MA env ad (αs i) b → MA env ad (αs 0) b := fun i => MA.sub fun x => (hdom i x).mp
  have hMX : ∀ b, MA env ad (αs 0) b → X b := o.MA_X
  refine codeAny_loop' rfl (fun k s' => ∃ i, k = ds.length + 1 - i ∧ i ≤ ds.length ∧ KeepM (fun b => MA env ad (αs 0) b ∨ wr b) s₂ s' ∧ OkA G (fun b => X b ∨ wr b) env (ρs i) ad (αs i) s' ∧ St i s'.heap) ?_ (ds.length + 1)
    ⟨0, rfl, Nat.zero_le _, KeepM.refl _, oX, st0 _ fun _ _ e => e⟩
  rintro _ s₃ ⟨i, rfl, hi, k₃, o₃, st₃⟩
  show wpAny _ _ ((forTurn target (.ref I) body [] env).onRaise (fun x => do noteFrame x env; theTreesLotGoes x)) _ _ s₃
  refine wpAny_noted ?_
  simp only [forTurn]
  have frame : ∀ {j : Nat} {P : Addr → Prop} {s₂ s₃ : Shared}, (∀ b, P b → MA env ad (αs 0) b) → KeepM P s₂ s₃ → St j s₂.heap → St j s₃.heap := fun h k st =>
    F.frame _ _ _ st fun b o hb e => k.get (fun z => hb.elim (fun n => n (.inl (hMX b (h b z)))) fun n => wr_X b n (hMX b (h b z))) e
  refine wpAny_bind (wpAny_standAt (wpAny_bind (wpAny_onRaise ?_)))
  by_cases hlt : i < ds.length
  · obtain ⟨d, hd⟩ : ∃ d, ds[i]? = some d := ⟨_, List.getElem?_eq_getElem hlt⟩
    obtain ⟨new, ρ₁, hasg, hnew, hbody, hsub⟩ := hstep i d hd
    refine wpAny_mono (F.item i s₃ d _ o₃.ok.live hd st₃) (fun r s₄ h₄ => ?_) fun _ _ x => wpAny_standAt x
    obtain ⟨v, rfl, h₄⟩ := h₄
    refine wpAny_bind (wpAny_mono h₄ (fun _ s₅ h₅ => ?_) fun _ _ x => x)
    obtain ⟨k₅, st₅, hv⟩ := h₅
    have o₅ : OkA G (fun b => X b ∨ wr b) env (ρs i) ad (αs i) s₅ := o₃.keepM k₅ (fun b hb => .inr hb) (fun b hb hw => wr_X b hw (hMX b (hMA i b hb))) fun b hb => F.live _ _ b st₅ hb
    refine wpAny_bind (wpAny_mono (hasg _ _ s₅ _ v o₅.ok hv) (fun _ s₆ h₆ => ?_) fun _ _ x => x)
    obtain ⟨k₆, ok₆⟩ := h₆
    have o₆ := o₅.bind ok₆ k₆ fun x hx h => hnew x hx ((hdom i x).mp h)
    have st₆ := frame (fun b h => .inl h) k₆ st₅
    refine wpAny_bind (wpAny_mono (hbody _ ad s₆ _ o₆) (fun f s₇ h₇ => ?_) fun _ _ x => x)
    obtain ⟨rfl, k₇, o₇⟩ := h₇
    have st₇ := frame (hMA i) k₇ st₆
    refine wpAny_pure (.inl ⟨rfl, ds.length + 1 - (i + 1), by omega, i + 1, rfl, hlt, ?_, o₇.weaken hsub, st₇⟩)
    exact k₃.trans ((k₅.mono fun b h => .inr h).trans ((k₆.mono fun b h => .inl (.inl h)).trans (k₇.mono fun b h => .inl (hMA i b h))))
  · obtain rfl : i = ds.length := Nat.le_antisymm hi (Nat.not_lt.mp hlt)
    refine wpAny_mono (F.done s₃ _ st₃) (fun r s₄ h₄ => ?_) fun _ _ x => wpAny_standAt x
    obtain ⟨rfl, k₄⟩ := h₄
    refine wpAny_pure (.inr ⟨rfl, codeAny_block (wpAny_execs_nil ⟨rfl, ?_, ?_⟩)⟩)
    · have k := k₃.trans (k₄.mono fun b h => .inr h)
      obtain ⟨h', tk, rfl, kk⟩ := k
      obtain ⟨h₂, tk₂, rfl, kk₂⟩ := g₂
      refine ⟨h', tk, rfl, fun b ob hb e => kk b ob (fun z => z.elim hb fun z => ?_) (kk₂ b ob e)⟩
      have := hwn b z; rw [e] at this; cases this
    · exact o₃.leave k₄ (fun b h => .inr h) (fun b h => ⟨.inl h, fun hw => wr_X b hw h⟩) fun b hb => hMX b (hMA _ b hb)
end
end Mine

namespace Mine
open PySem.Calls

section
variable (prog : Program) (w : World)
/-- an item -/
def Itm (A : Around) (d₁ d₂ d : Den) : Prop :=
  ∀ (X : Addr → Prop) (s : Shared) (E : Value → Shared → Prop) (v₁ v₂ : Value), (∀ b, X b → ∃ o, s.heap.get? b = some o) → d₁.is (vw X s.heap) v₁ → d₂.is (vw X s.heap) v₂ →
    (∃ T id, s.TypeIs v₁ T ∧ typeLookup (.type T) "__getitem__" = pure (some (.builtin id))) ∧ wpAny (model prog w) A (getItem v₁ v₂) (fun v s' => Grows s s' ∧ d.is (vw X s'.heap) v) E s
end

/-- a slice object by written or reckoned ends -/
def dSlice (lo hi : Option Int) : Den where
  is g v := ∃ a vl vu, v = .ref a ∧ g a { cls := .type "slice", data := .fields #[vl, vu, .none] } ∧ (match lo with | some i => ∃ t, vl = .int i t | none => vl = .none) ∧ (match hi with | some i => ∃ t, vu = .int i t | none => vu = .none)
  mono := fun hg ⟨a, vl, vu, e, h, r⟩ => ⟨a, vl, vu, e, hg _ _ h, r⟩

section
variable {prog : Program} {w : World} {G : Heap} {A : Around} {env : Env} {ρ ρ' ρ'' : Rho} {E : Value → Shared → Prop} {s s' : Shared} {X X₀ M W : Addr → Prop} {D : Addr} {os os' : List Den}

theorem fresh_not {X : Addr → Prop} {s : Shared} (h : ∀ b, X b → ∃ o, s.heap.get? b = some o) : ¬ X s.heap.objs.size := fun z => by
  obtain ⟨o, e⟩ := h _ z; rw [get_size] at e; cases e

/- displays -/
theorem Evs.spliced : ∀ {es : List Expr} {ds : List Den} {pos : Pos}, All2 (fun e d => Ev prog w G A env ρ e d) es ds → starEach es env = es.map (fun e => (false, eval e env)) → ∀ {s : Shared}, Ok G X env ρ s →
    wpAny (model prog w) A (spliced (backTo pos (starEach es env))) (fun vs s' => Grows s s' ∧ All2 (fun d v => d.is (vw X s'.heap) v) ds vs) E s
  | [], [], pos, _, hp, s, ok => Calls.spliced_nil ⟨Grows.rfl' s, trivial⟩
  | e :: es, d :: ds, pos, ⟨h, hs⟩, hp, s, ok => by
    have hp' : starEach (e :: es) env = (false, eval e env) :: es.map (fun e => (false, eval e env)) := hp
    have htl : starEach es env = es.map (fun e => (false, eval e env)) := by
      cases e <;> first | exact (List.cons.inj hp').2 | (simp only [starEach] at hp'; cases (List.cons.inj hp').1)
    rw [hp', ← htl]
    refine Calls.spliced_cons ?_
    show wpAny _ A (eval e env) _ _ _
    refine h.use ok fun v s₁ k₁ ok₁ hv => wpAny_mono (Evs.spliced hs htl ok₁) (fun vs s₂ ⟨k₂, hvs⟩ => ⟨k₁.tr k₂, Den.keeps _ k₂ hv, hvs⟩) fun _ _ x => x

theorem Ev.tuple {es : List Expr} {ds : List Den} {k : Nat} {pos : Pos} (h : All2 (fun e d => Ev prog w G A env ρ e d) es ds) (hz : ds.length ≤ sizeLine) (hp : ∀ env, starEach es env = es.map (fun e => (false, eval e env)) := by intro _; rfl) :
    Ev prog w G A env ρ (.Tuple es k pos) (dTup ds) := fun X s E ok => Tuple_ (wpAny_mono (Evs.spliced h (hp env) ok) (fun vs s₁ ⟨k₁, hvs⟩ => by
  have hz' : vs.length ≤ sizeLine := hvs.length ▸ hz
  refine wpAny_newObj_type ⟨k₁.tr Grows.push, _, _, vs, rfl, ⟨Heap.get?_push_size _ rfl, fresh_not (ok.keeps k₁).live⟩, hz, all_keeps Grows.push hvs⟩ (by show vs.toArray.size ≤ sizeLine; rw [List.size_toArray]; exact hz')) fun _ _ x => x)
theorem Ev.list {es : List Expr} {ds : List Den} {pos : Pos} (h : All2 (fun e d => Ev prog w G A env ρ e d) es ds) (hz : ds.length ≤ sizeLine) (hp : ∀ env, starEach es env = es.map (fun e => (false, eval e env)) := by intro _; rfl) :
    Ev prog w G A env ρ (.List es pos) (dLst ds) := fun X s E ok => List_ (wpAny_mono (Evs.spliced h (hp env) ok) (fun vs s₁ ⟨k₁, hvs⟩ => by
  have hz' : vs.length ≤ sizeLine := hvs.length ▸ hz
  refine wpAny_newObj_type ⟨k₁.tr Grows.push, _, _, vs, rfl, ⟨Heap.get?_push_size _ rfl, fresh_not (ok.keeps k₁).live⟩, hz, all_keeps Grows.push hvs⟩ (by show vs.toArray.size ≤ sizeLine; rw [List.size_toArray]; exact hz')) fun _ _ x => x)

/- items -/
theorem Ev.sub {value slice : Expr} {pos : Pos} {d₁ d₂ d : Den} (hv : Ev prog w G A env ρ value d₁) (hi : Ev prog w G A env ρ slice d₂) (h : Itm prog w A d₁ d₂ d)
    (hs : ∀ o i, ∃ ops, subscripted slice false o i = operate ops (getItem o i) := by intro _ _; exact ⟨_, rfl⟩) : Ev prog w G A env ρ (.Subscript value slice pos) d := fun X s E ok =>
  Subscript_ (hv.use ok fun o s₁ k₁ ok₁ h₁ => hi.use ok₁ fun i s₂ k₂ ok₂ h₂ => by
    obtain ⟨⟨T, id, hT, hl⟩, hg⟩ := h X s₂ E o i ok₂.live (Den.keeps _ k₂ h₁) h₂
    obtain ⟨ops, e⟩ := hs o i
    exact tail_any hT hl (wpAny_mono hg (fun v s₃ q => ⟨(k₁.tr k₂).tr q.1, q.2⟩) fun _ _ x => x) e)

theorem Itm.lst {ds : List Den} {i : Int} {d : Den} (h0 : 0 ≤ i) (hd : ds[i.toNat]? = some d) (hz : ds.length ≤ sizeLine) : Itm prog w A (dLst ds) (dInt i) d := fun X s E v₁ v₂ _ hv hi => by
  obtain ⟨a, n, vs, rfl, ha, _, hvs⟩ := hv
  obtain ⟨t, rfl⟩ := hi
  have hl : s.heap.IsList a vs.toArray := ⟨_, ha.1, rfl, n, rfl⟩
  obtain ⟨v, e, r⟩ := hvs.get hd
  have hlt := (List.getElem?_eq_some_iff.mp hd).1
  have hfit : i < 2 ^ 63 := by have := sizeLine_eq; omega
  exact ⟨⟨_, _, hl.typeIs, slot_list_getitem.lookup⟩, wpAny_getItem_list hl h0 hfit (by rw [List.getElem?_toArray]; exact e) ⟨Grows.rfl' s, r⟩⟩

theorem Itm.tup {ds : List Den} {i : Int} {d : Den} (h0 : 0 ≤ i) (hd : ds[i.toNat]? = some d) (hz : ds.length ≤ sizeLine) : Itm prog w A (dTup ds) (dInt i) d := fun X s E v₁ v₂ _ hv hi => by
  obtain ⟨a, n, vs, rfl, ha, _, hvs⟩ := hv
  obtain ⟨t, rfl⟩ := hi
  obtain ⟨v, e, r⟩ := hvs.get hd
  have hlt := (List.getElem?_eq_some_iff.mp hd).1
  have hfit : i < 2 ^ 63 := by have := sizeLine_eq; omega
  have hk : seqIndex? i vs.toArray.size = some i.toNat := by
    unfold seqIndex?
    rw [List.size_toArray, ← hvs.length]
    simp only [show ¬ i < 0 by omega, if_false]
    rw [if_pos (by simp only [Bool.and_eq_true, decide_eq_true_eq]; omega)]
  exact ⟨⟨_, _, ⟨_, ha.1, rfl⟩, F.slot_tuple_getitem.lookup⟩, P.getItem_tuple (n := n) ha.1 (by omega) hfit hk (by rw [List.getElem?_toArray]; exact e) ⟨Grows.rfl' s, r⟩⟩

theorem Itm.last {ds : List Den} {d : Den} (hd : ds.getLast? = some d) (hz : ds.length ≤ sizeLine) : Itm prog w A (dLst ds) (dInt (-1)) d := fun X s E v₁ v₂ _ hv hi => by
  obtain ⟨a, n, vs, rfl, ha, _, hvs⟩ := hv
  obtain ⟨t, rfl⟩ := hi
  have hl : s.heap.IsList a vs.toArray := ⟨_, ha.1, rfl, n, rfl⟩
  rw [List.getLast?_eq_getElem?] at hd
  obtain ⟨v, e, r⟩ := hvs.get hd
  have hlt := (List.getElem?_eq_some_iff.mp hd).1
  have hsz : vs.toArray.size = ds.length := by rw [List.size_toArray, hvs.length]
  exact ⟨⟨_, _, hl.typeIs, slot_list_getitem.lookup⟩, wpAny_getItem_list_neg hl (by decide) (by rw [hsz]; omega) (by decide) (by
    rw [hsz, show ((-1 : Int) + (ds.length : Int)).toNat = ds.length - 1 by omega, List.getElem?_toArray]; exact e) ⟨Grows.rfl' s, r⟩⟩

theorem Ev.neg1 {k : Nat} {p q : Pos} : Ev prog w G A env ρ (.UnaryOp .USub (.Constant (.int 1) k p) q) (dInt (-1)) := fun X s E ok =>
  UnaryOp_ (Ev.use (Ev.cint (prog := prog) (w := w) (G := G) (A := A) (env := env) (ρ := ρ)) ok fun v s₁ k₁ ok₁ ⟨t, e⟩ => by
    subst e; exact neg_int ⟨k₁.tr Grows.toks, _, rfl⟩)

/- slices -/
theorem Ev.slice {lower upper : Option Expr} {p : Pos} {lo hi : Option Int} (hl : match lower, lo with | some e, some i => Ev prog w G A env ρ e (dInt i) | none, none => True | _, _ => False)
    (hu : match upper, hi with | some e, some i => Ev prog w G A env ρ e (dInt i) | none, none => True | _, _ => False) : Ev prog w G A env ρ (.Slice lower upper none p) (dSlice lo hi) := fun X s E ok => by
  show wpAny _ A (do
    let l ← valueOrNone (evalOpt lower env)
    let u ← holding [l] (valueOrNone (evalOpt upper env))
    let s ← holding [l, u] (valueOrNone none)
    newFields "slice" [l, u, s]) _ _ s
  have part : ∀ (e : Option Expr) (o : Option Int), (match e, o with | some e, some i => Ev prog w G A env ρ e (dInt i) | none, none => True | _, _ => False) → ∀ s, Ok G X env ρ s →
      wpAny (model prog w) A (valueOrNone (evalOpt e env)) (fun v s' => Grows s s' ∧ (match o with | some i => ∃ t, v = .int i t | none => v = .none)) E s := fun e o h s ok => by
    cases e with
    | none =>
      cases o with
      | none => exact wpAny_pure ⟨Grows.rfl' s, rfl⟩
      | some i => exact h.elim
    | some e =>
      cases o with
      | none => exact h.elim
      | some i => exact Ev.use h ok fun v s' k _ hv => ⟨k, hv⟩
  refine wpAny_bind (wpAny_mono (part lower lo hl s ok) (fun l s₁ ⟨k₁, h₁⟩ => ?_) fun _ _ x => x)
  refine wpAny_bind (wpAny_holding (wpAny_mono (part upper hi hu s₁ (ok.keeps k₁)) (fun u s₂ ⟨k₂, h₂⟩ => ?_) fun _ _ x => x))
  refine wpAny_bind (wpAny_holding (wpAny_pure ?_))
  refine wpAny_newObj_type ⟨(k₁.tr k₂).tr Grows.push, _, l, u, rfl, ⟨Heap.get?_push_size _ rfl, fresh_not ((ok.keeps k₁).keeps k₂).live⟩, h₁, h₂⟩ (by size_fits)
end
end Mine

namespace Mine
open PySem.Calls

section
variable {prog : Program} {w : World} {G : Heap} {A : Around} {env : Env} {ρ ρ' ρ'' : Rho} {E : Value → Shared → Prop} {s s' : Shared} {X X₀ M W : Addr → Prop} {D : Addr} {os os' : List Den}

theorem IsPart.of {v : Value} {o : Option Int} (h : match o with | some i => ∃ t, v = .int i t | none => v = .none) : IsPart v o := by
  cases o with
  | none => have h' : v = .none := h; subst h'; exact .none
  | some i => obtain ⟨t, rfl⟩ := h; exact .int i t

theorem Itm.lstSlice {ds ds' : List Den} {lo hi : Option Int} {f : List Value → List Value} (hz : ds.length ≤ sizeLine) (hp : ∀ vs : List Value, slicePick vs.toArray lo hi none = (f vs).toArray) (hf : ∀ vs X, All2 (fun d v => d.is X v) ds vs → All2 (fun d v => d.is X v) ds' (f vs)) (hl : ds'.length ≤ sizeLine) :
    Itm prog w A (dLst ds) (dSlice lo hi) (dLst ds') := fun X s E v₁ v₂ hX hv hi' => by
  obtain ⟨a, n, vs, rfl, ha, _, hvs⟩ := hv
  obtain ⟨sl, vl, vu, rfl, hsl, pl, pu⟩ := hi'
  have hL : s.heap.IsList a vs.toArray := ⟨_, ha.1, rfl, n, rfl⟩
  refine ⟨⟨_, _, hL.typeIs, slot_list_getitem.lookup⟩, wpAny_getItem_list_slice hL ⟨_, hsl.1, rfl, rfl⟩ (IsPart.of pl) (IsPart.of pu) .none (by simp) ?_ (by rw [List.size_toArray, ← hvs.length]; exact hz)⟩
  rw [hp vs]
  exact ⟨Grows.push, _, _, f vs, rfl, ⟨Heap.get?_push_size _ rfl, fresh_not hX⟩, hl, hf vs _ (all_keeps Grows.push hvs)⟩

theorem Itm.lstFrom {ds : List Den} {i : Int} {k : Nat} (hi : i = (k : Int)) (hz : ds.length ≤ sizeLine) : Itm prog w A (dLst ds) (dSlice (some i) none) (dLst (ds.drop k)) := by
  subst hi
  exact Itm.lstSlice (f := fun vs => vs.drop k) hz (fun vs => by rw [slicePick_from']) (fun vs X h => h.drop k) (Nat.le_trans (by rw [List.length_drop]; exact Nat.sub_le _ _) hz)
theorem Itm.lstUpto {ds : List Den} {i : Int} {k : Nat} (hi : i = (k : Int)) (hz : ds.length ≤ sizeLine) : Itm prog w A (dLst ds) (dSlice none (some i)) (dLst (ds.take k)) := by
  subst hi
  exact Itm.lstSlice (f := fun vs => vs.take k) hz (fun vs => by rw [slicePick_upto']) (fun vs X h => h.take k) (Nat.le_trans (by rw [List.length_take]; exact Nat.min_le_right _ _) hz)

theorem Itm.tupFrom {ds : List Den} {i : Int} {k : Nat} (hi : i = (k : Int)) (h1 : 1 ≤ k) (h2 : k ≤ ds.length) (hz : ds.length ≤ sizeLine) : Itm prog w A (dTup ds) (dSlice (some i) none) (dTup (ds.drop k)) := fun X s E v₁ v₂ hX hv hi' => by
  subst hi
  obtain ⟨a, n, vs, rfl, ha, _, hvs⟩ := hv
  obtain ⟨sl, vl, vu, rfl, hsl, ⟨t, rfl⟩, pu⟩ := hi'
  have pu' : vu = .none := pu
  subst pu'
  have hT : IsTup s.heap a vs.toArray := ⟨_, ha.1, rfl, n, rfl⟩
  refine ⟨⟨_, _, ⟨_, ha.1, rfl⟩, slot_tuple_getitem.lookup⟩, getItem_tuple_from hT ⟨_, hsl.1, rfl, rfl⟩ h1 (by rw [List.size_toArray, ← hvs.length]; exact h2) ?_ (by rw [List.size_toArray, ← hvs.length]; exact hz)⟩
  exact ⟨Grows.push, _, _, vs.drop k, rfl, ⟨Heap.get?_push_size _ rfl, fresh_not hX⟩, Nat.le_trans (by rw [List.length_drop]; exact Nat.sub_le _ _) hz, all_keeps Grows.push (hvs.drop k)⟩

theorem adjust_upto (b n : Nat) (hb : b ≤ n) : Builtin.Slice.sliceAdjust none (some (b : Int)) 1 (n : Int) = (0, (b : Int)) := by
  unfold Builtin.Slice.sliceAdjust
  have h1 : ¬ ((1 : Int) < 0) := by omega
  have h2 : ¬ ((b : Int) < 0) := by omega
  simp only [h1, h2, if_false]
  congr 1
  omega
theorem places_upto (b : Nat) : Builtin.Slice.slicePlaces 0 (b : Int) 1 = b := by
  unfold Builtin.Slice.slicePlaces
  have h1 : (1 : Int) > 0 := by omega
  simp only [h1, if_true, Int.ediv_one]
  split <;> omega
theorem sliceApplied_upto {sl : Addr} {b n : Nat} {u : Tok} {Q : Int × Int × Nat → Shared → Prop} (hs : s.heap.IsSliceOf sl .none (.int b u) .none) (hb : b ≤ n) (h : Q (0, 1, b) s) :
    wpAny (model prog w) A (Builtin.Slice.sliceApplied (.ref sl) (pure (n : Int))) Q E s := by
  obtain ⟨os, hos, hcs, hds⟩ := id hs
  unfold Builtin.Slice.sliceApplied Builtin.Slice.sliceFields
  refine wpAny_bind (wpAny_bind (wpAny_field hos hds (x := .none) rfl (wpAny_bind (wpAny_field hos hds (x := .int b u) rfl (wpAny_bind (wpAny_field hos hds (x := .none) rfl (wpAny_pure ?_)))))))
  refine wpAny_bind (slicePart_none ?_)
  show wpAny _ _ (if ((1 : Int) == 0) = true then _ else _) _ _ s
  rw [if_neg (by decide)]
  refine wpAny_bind (slicePart_none (wpAny_bind (slicePart_int (wpAny_bind (wpAny_pure ?_)))))
  show wpAny _ _ (match Builtin.Slice.sliceAdjust none (some (b : Int)) 1 (n : Int) with | (lo, hi) => pure (lo, (1 : Int), Builtin.Slice.slicePlaces lo hi 1)) _ _ s
  rw [adjust_upto b n hb]
  show wpAny _ _ (pure ((0 : Int), (1 : Int), Builtin.Slice.slicePlaces 0 (b : Int) 1)) _ _ s
  rw [places_upto b]
  exact wpAny_pure h
theorem pick_upto (xs : Array Value) (b : Nat) : ((List.range b).filterMap fun (k : Nat) => xs[((0 : Int) + (k : Int) * 1).toNat]?).toArray = (xs.toList.take b).toArray := by
  have e : (fun (k : Nat) => xs[((0 : Int) + (k : Int) * 1).toNat]?) = fun k => xs[0 + k]? := by
    funext k
    have : ((0 : Int) + (k : Int) * 1).toNat = 0 + k := by omega
    rw [this]
  rw [e]
  have := pick_run xs 0 b
  rw [List.filterMap_map] at this
  have e2 : ((fun x => xs[x]?) ∘ fun x => 0 + x) = fun k => xs[0 + k]? := rfl
  rw [e2] at this
  rw [this, List.drop_zero]

theorem Itm.tupUpto {ds : List Den} {i : Int} {k : Nat} (hi : i = (k : Int)) (h2 : k < ds.length) (hz : ds.length ≤ sizeLine) : Itm prog w A (dTup ds) (dSlice none (some i)) (dTup (ds.take k)) := fun X s E v₁ v₂ hX hv hi' => by
  subst hi
  obtain ⟨a, n, vs, rfl, ha, _, hvs⟩ := hv
  obtain ⟨sl, vl, vu, rfl, hsl, pl, ⟨t, rfl⟩⟩ := hi'
  have pl' : vl = .none := pl
  subst pl'
  have hT : IsTup s.heap a vs.toArray := ⟨_, ha.1, rfl, n, rfl⟩
  have hS : s.heap.IsSliceOf sl .none (.int k t) .none := ⟨_, hsl.1, rfl, rfl⟩
  have hTs : s.TypeIs (.ref sl) "slice" := ⟨_, hsl.1, rfl⟩
  have hkz : k ≤ vs.toArray.size := by rw [List.size_toArray, ← hvs.length]; omega
  have htake : sizeOk (.seq (vs.toArray.toList.take k).toArray) := by
    show (vs.toArray.toList.take k).toArray.size ≤ sizeLine
    rw [List.size_toArray, List.length_take]
    have := hvs.length
    rw [Array.length_toList]; omega
  refine ⟨⟨_, _, ⟨_, ha.1, rfl⟩, slot_tuple_getitem.lookup⟩, ?_⟩
  have h : Grows s { s with heap := s.heap.push { cls := .type "tuple", data := .seq (vs.toArray.toList.take k).toArray } } ∧ (dTup (ds.take k)).is (vw X (s.heap.push { cls := .type "tuple", data := .seq (vs.toArray.toList.take k).toArray })) (.ref s.heap.objs.size) :=
    ⟨Grows.push, _, _, vs.take k, rfl, ⟨Heap.get?_push_size _ rfl, fresh_not hX⟩, Nat.le_trans (by rw [List.length_take]; exact Nat.min_le_right _ _) hz, all_keeps Grows.push (hvs.take k)⟩
  unfold getItem
  try with_reducible refine wpAny_holding ?_
  first | refine wpAny_bind (wpAny_pure ?_) | skip
  refine wpAny_bind (wpAny_sequenceKey hT.typeIs (by decide) ?_)
  refine wpAny_bind (wpAny_callSpecial?_slot (name := Str.ofString "__getitem__") hT.typeIs slot_tuple_getitem
    (wpAny_call_entry slot_tuple_getitem hT.typeIs entry_tuple_getitem ?_ (args_tuple_getitem _ _)))
  show wpAny _ _ (Builtin.Tuple.tupleItemsOf (.ref a) >>= _) _ _ s
  refine wpAny_bind (tupleItemsOf_ hT ?_)
  refine wpAny_bind (wpAny_typeOf hTs ?_)
  rw [if_pos (by decide)]
  refine wpAny_bind (sliceApplied_upto hS hkz ?_)
  have hno : ¬ (((0 : Int) == 0 && (1 : Int) == 1 && k == vs.toArray.size) = true) := by
    have : (k == vs.toArray.size) = false := by rw [beq_eq_false_iff_ne, List.size_toArray, ← hvs.length]; omega
    rw [this]; simp
  show wpAny _ _ (if ((0 : Int) == 0 && (1 : Int) == 1 && k == vs.toArray.size) = true then _ else _) _ _ s
  rw [if_neg hno, pick_upto]
  first
    | exact wpAny_bind (m := Builtin.Tuple.tupleExact _) (wpAny_newObj_type (wpAny_pure ⟨_, rfl, wpAny_pure h⟩) htake)
    | exact wpAny_bind (m := Builtin.Tuple.tupleExact _) (wpAny_newObj_type (wpAny_bind (wpAny_pure (wpAny_pure ⟨_, rfl, wpAny_pure h⟩))) htake)
    | exact wpAny_bind (wpAny_bind (m := Builtin.Tuple.tupleExact _) (wpAny_newObj_type (wpAny_pure (wpAny_pure ⟨_, rfl, wpAny_pure h⟩)) htake))
    | exact wpAny_bind (wpAny_bind (m := Builtin.Tuple.tupleExact _) (wpAny_newObj_type (wpAny_pure ⟨_, rfl, wpAny_pure h⟩) htake))

/- sums of sequences -/
theorem Bin.addL {xs ys : List Den} (hz : xs.length + ys.length ≤ sizeLine) : Bin prog w A .Add (dLst xs) (dLst ys) (dLst (xs ++ ys)) := fun X s E v₁ v₂ hX h₁ h₂ => by
  obtain ⟨a, n, vs, rfl, ha, _, hvs⟩ := h₁
  obtain ⟨b, m, us, rfl, hb, _, hus⟩ := h₂
  refine P.add_list (n := n) (n2 := m) ha.1 hb.1 ?_ (by rw [List.size_toArray, List.size_toArray, ← hvs.length, ← hus.length]; exact hz)
  rw [List.append_toArray]
  exact ⟨Grows.push, _, _, vs ++ us, rfl, ⟨Heap.get?_push_size _ rfl, fresh_not hX⟩, by rw [List.length_append]; exact hz, all_keeps Grows.push (hvs.append hus)⟩

theorem Bin.addT {xs ys : List Den} (hz : xs.length + ys.length ≤ sizeLine) : Bin prog w A .Add (dTup xs) (dTup ys) (dTup (xs ++ ys)) := fun X s E v₁ v₂ hX h₁ h₂ => by
  obtain ⟨a, n, vs, rfl, ha, hz₁, hvs⟩ := h₁
  obtain ⟨b, m, us, rfl, hb, hz₂, hus⟩ := h₂
  by_cases hv : vs = []
  · subst hv
    have hx : xs = [] := List.eq_nil_of_length_eq_zero hvs.length
    subst hx
    exact concat_meets ⟨_, ha.1, rfl⟩ ⟨_, hb.1, rfl⟩ noFill_tuple_add seq_tuple_add PySem.F.slot_tuple_add PySem.F.entry_tuple_add (PySem.F.args_tuple_add_2 _ _)
      (tuple_addW0 a b _ us.toArray n m none none #[] #[] (by simp)) ⟨ha.1, hb.1, Grows.rfl' s, ⟨b, m, us, rfl, hb, hz₂, hus⟩⟩
  · by_cases hu : us = []
    · subst hu
      have hy : ys = [] := List.eq_nil_of_length_eq_zero hus.length
      subst hy
      exact concat_meets ⟨_, ha.1, rfl⟩ ⟨_, hb.1, rfl⟩ noFill_tuple_add seq_tuple_add PySem.F.slot_tuple_add PySem.F.entry_tuple_add (PySem.F.args_tuple_add_2 _ _)
        (tuple_addW1 a b vs.toArray _ n m none none #[] #[] (by simpa using hv) (by simp)) ⟨ha.1, hb.1, Grows.rfl' s, ⟨a, n, vs, rfl, ha, by simpa using hz₁, by simpa using hvs⟩⟩
    · refine concat_meets ⟨_, ha.1, rfl⟩ ⟨_, hb.1, rfl⟩ noFill_tuple_add seq_tuple_add PySem.F.slot_tuple_add PySem.F.entry_tuple_add (PySem.F.args_tuple_add_2 _ _)
        (tuple_addW2 a b vs.toArray us.toArray n m none none #[] #[] (by simpa using hv) (by simpa using hu) (by rw [List.size_toArray, List.size_toArray, ← hvs.length, ← hus.length]; exact hz)) ⟨ha.1, hb.1, ?_⟩
      rw [List.append_toArray]
      exact ⟨Grows.push, _, _, vs ++ us, rfl, ⟨Heap.get?_push_size _ rfl, fresh_not hX⟩, by rw [List.length_append]; exact hz, all_keeps Grows.push (hvs.append hus)⟩
end
end Mine

namespace Mine
open PySem.Calls

/-- a value that may be called: its keeper, and what the call gives -/
structure CallOk (prog : Program) (w : World) (G : Heap) (A : Around) (fd : Den) (ds : List Den) (r : Den) : Prop where
  keeper : ∀ (g : View) (h : Heap) (f : Value), (∀ a o, g a o → h.get? a = some o) → fd.is g f → ∃ k, (k = Keeper.frame ∨ k = Keeper.machine ∨ k = Keeper.boundFrame) ∧ Looks (model prog w) h (keeperOf f) k
  run : ∀ (X : Addr → Prop) (s : Shared) (E : Value → Shared → Prop) (f : Value) (vs : List Value), (∀ b, X b → ∃ o, s.heap.get? b = some o) → (∀ a o, G.get? a = some o → vw X s.heap a o) → fd.is (vw X s.heap) f →
    All2 (fun d v => d.is (vw X s.heap) v) ds vs → wpAny (model prog w) A (call f vs) (fun v s' => Grows s s' ∧ r.is (vw X s'.heap) v) E s

section
variable {prog : Program} {w : World} {G : Heap} {A : Around} {env : Env} {ρ ρ' ρ'' : Rho} {E : Value → Shared → Prop} {s s' : Shared} {X X₀ M W : Addr → Prop} {D : Addr} {os os' : List Den}

theorem Ev.callWith {x : Str} {p pos : Pos} {args : List Expr} {fd : Den} {ds : List Den} {r : Den} (hn : Ev prog w G A env ρ (.Name x p) fd) (ha : All2 (fun e d => Ev prog w G A env ρ e d) args ds) (c : CallOk prog w G A fd ds r)
    (hp : ∀ env, starEach args env = args.map (fun e => (false, eval e env)) := by intro _; rfl) : Ev prog w G A env ρ (.Call (.Name x p) args [] pos) r := fun X s E ok => by
  refine wpAny_Call_NameR (hn.use ok fun f s₁ k₁ ok₁ hf => ?_)
  have hplain : ((backTo pos (starEach args env)).any (·.1) || ([] : List (Option Str × Sem Value)).any (·.1.isNone)) = false := by
    rw [hp env]
    simp [backTo, List.any_map, Function.comp_def]
  refine callWith_of (P := fun h => ∃ s, h = s.heap ∧ Grows s₁ s) hplain (fun h ⟨s₂, e, k₂⟩ => c.keeper (vw X h) h f (fun a o q => q.1) (e ▸ Den.keeps fd k₂ hf)) ?_
  have fin : wpAny (model prog w) A (spliced (backTo pos (starEach args env))) (fun vs s₂ => (∃ s, s₂.heap = s.heap ∧ Grows s₁ s) ∧ wpAny (model prog w) A (call f ([] ++ vs) []) (fun v s' => Grows s s' ∧ r.is (vw X s'.heap) v) E s₂) E s₁ :=
    wpAny_mono (Evs.spliced ha (hp env) ok₁) (fun vs s₂ ⟨k₂, hvs⟩ => ⟨⟨s₂, rfl, k₂⟩, wpAny_mono (c.run X s₂ E f vs (ok₁.keeps k₂).live (ok₁.keeps k₂).base (Den.keeps fd k₂ hf) hvs) (fun v s₃ q => ⟨(k₁.tr k₂).tr q.1, q.2⟩) fun _ _ x => x⟩) fun _ _ x => x
  cases args with
  | nil =>
    cases ds with
    | nil =>
      exact evalArgs_nil3 ⟨⟨s₁, rfl, Grows.rfl' s₁⟩, wpAny_mono (c.run X s₁ E f [] ok₁.live ok₁.base hf trivial) (fun v s₃ q => ⟨k₁.tr q.1, q.2⟩) fun _ _ x => x⟩
    | cons => exact ha.elim
  | cons e es =>
    have hs := hp env
    rw [hs] at fin ⊢
    exact Calls.evalArgs_plain fin

theorem Ev.call {x : Str} {p pos : Pos} {args : List Expr} {fd : Den} {ds : List Den} {r : Den} (c : CallOk prog w G A fd ds r) (hn : Ev prog w G A env ρ (.Name x p) fd) (ha : All2 (fun e d => Ev prog w G A env ρ e d) args ds)
    (hp : ∀ env, starEach args env = args.map (fun e => (false, eval e env)) := by intro _; rfl) : Ev prog w G A env ρ (.Call (.Name x p) args [] pos) r := Ev.callWith hn ha c hp

theorem keep_val {u : Value} (h : ∀ a, u ≠ .ref a) : ∀ (g : View) (h : Heap) (f : Value), (∀ a o, g a o → h.get? a = some o) → (dVal u).is g f → ∃ k, (k = Keeper.frame ∨ k = Keeper.machine ∨ k = Keeper.boundFrame) ∧ Looks (model prog w) h (keeperOf f) k := fun g hp f _ e => by
  have e' : f = u := e
  subst e'
  refine ⟨.machine, .inr (.inl rfl), Looks.of_pure ?_⟩
  cases f <;> first | rfl | exact absurd rfl (h _)

/- the built-ins -/
theorem CallOk.len_lst {ds : List Den} : CallOk prog w G A (dVal (.builtin "len")) [dLst ds] (dInt ds.length) where
  keeper := keep_val (fun a e => by cases e)
  run := fun X s E f vs _ _ hf hv => by
    have hf' : f = .builtin "len" := hf
    subst hf'
    match vs, hv with
    | [v], ⟨⟨a, n, us, e, ha, hz, hvs⟩, _⟩ =>
      subst e
      have := sizeLine_eq
      have hl := hvs.length
      have hfit : (us.toArray.size : Int) < 2 ^ 63 := by rw [List.size_toArray, ← hl]; omega
      refine call_len_list ⟨_, ha.1, rfl, n, rfl⟩ hfit ⟨Grows.toks, s.toks + 1, ?_⟩
      rw [List.size_toArray, ← hl]
theorem CallOk.len_tup {ds : List Den} : CallOk prog w G A (dVal (.builtin "len")) [dTup ds] (dInt ds.length) where
  keeper := keep_val (fun a e => by cases e)
  run := fun X s E f vs _ _ hf hv => by
    have hf' : f = .builtin "len" := hf
    subst hf'
    match vs, hv with
    | [v], ⟨⟨a, n, us, e, ha, hz, hvs⟩, _⟩ =>
      subst e
      have := sizeLine_eq
      have hl := hvs.length
      have hfit : ¬ (us.toArray.size : Int) ≥ 2 ^ 63 := by rw [List.size_toArray, ← hl]; omega
      refine P.len_tuple (n := n) ha.1 hfit ⟨Grows.toks, s.toks + 1, ?_⟩
      rw [List.size_toArray, ← hl]
theorem CallOk.range1 {b : Int} : CallOk prog w G A (dVal (.type "range")) [dInt b] (dRange 0 b) where
  keeper := keep_val (fun a e => by cases e)
  run := fun X s E f vs hX _ hf hv => by
    have hf' : f = .type "range" := hf
    subst hf'
    match vs, hv with
    | [v], ⟨⟨t, e⟩, _⟩ =>
      subst e
      refine call_range_1 ⟨⟨_, _, rfl, fun _ _ e => Heap.get?_push_of_some _ e⟩, _, _, _, _, rfl, Heap.get?_push_size _ rfl, fresh_not hX⟩
theorem CallOk.range2 {a b : Int} : CallOk prog w G A (dVal (.type "range")) [dInt a, dInt b] (dRange a b) where
  keeper := keep_val (fun a e => by cases e)
  run := fun X s E f vs hX _ hf hv => by
    have hf' : f = .type "range" := hf
    subst hf'
    match vs, hv with
    | [v, u], ⟨⟨t, e⟩, ⟨t', e'⟩, _⟩ =>
      subst e e'
      refine call_range_2 ⟨⟨_, _, rfl, fun _ _ e => Heap.get?_push_of_some _ e⟩, _, _, _, _, rfl, Heap.get?_push_size _ rfl, fresh_not hX⟩
theorem CallOk.tuple_lst {ds : List Den} : CallOk prog w G A (dVal (.type "tuple")) [dLst ds] (dTup ds) where
  keeper := keep_val (fun a e => by cases e)
  run := fun X s E f vs hX _ hf hv => by
    have hf' : f = .type "tuple" := hf
    subst hf'
    match vs, hv with
    | [v], ⟨⟨a, n, us, e, ha, hz, hvs⟩, _⟩ =>
      subst e
      refine call_tuple_list ⟨_, ha.1, rfl, n, rfl⟩ (fun h' hk => ?_) (by rw [List.size_toArray, ← hvs.length]; exact hz)
      have g : Grows s { s with heap := h' } := ⟨h', s.toks, rfl, hk⟩
      have g' : Grows s { s with heap := h'.push { cls := .type "tuple", data := .seq us.toArray } } := ⟨_, s.toks, rfl, fun b o e => Heap.get?_push_of_some _ (hk b o e)⟩
      refine ⟨g', _, _, us, rfl, ⟨Heap.get?_push_size _ rfl, fun z => ?_⟩, hz, all_keeps g' hvs⟩
      obtain ⟨o, e⟩ := hX _ z
      have := hk _ _ e
      rw [get_size] at this; cases this
theorem CallOk.tuple_tup {ds : List Den} : CallOk prog w G A (dVal (.type "tuple")) [dTup ds] (dTup ds) where
  keeper := keep_val (fun a e => by cases e)
  run := fun X s E f vs hX _ hf hv => by
    have hf' : f = .type "tuple" := hf
    subst hf'
    match vs, hv with
    | [v], ⟨⟨a, n, us, e, ha, hz, hvs⟩, _⟩ =>
      subst e
      exact call_tuple_same (items := us.toArray) ⟨_, ha.1, rfl, n, rfl⟩ ⟨Grows.rfl' s, a, n, us, rfl, ha, hz, hvs⟩
theorem CallOk.list_lst {ds : List Den} : CallOk prog w G A (dVal (.type "list")) [dLst ds] (dLst ds) where
  keeper := keep_val (fun a e => by cases e)
  run := fun X s E f vs hX _ hf hv => by
    have hf' : f = .type "list" := hf
    subst hf'
    match vs, hv with
    | [v], ⟨⟨a, n, us, e, ha, hz, hvs⟩, _⟩ =>
      subst e
      refine call_list_seq a (.inl rfl) ha.1 rfl rfl (fun h' c' hk he => ?_) (by rw [List.size_toArray, ← hvs.length]; exact hz)
      have g : Grows s { s with heap := h' } := ⟨h', s.toks, rfl, hk⟩
      exact ⟨g, _, c', us, rfl, ⟨he, fresh_not hX⟩, hz, all_keeps g hvs⟩
theorem CallOk.list_rng {a b : Int} (hh : A.handled = none) (ha : -1000000 ≤ a ∧ a ≤ 1000000) (hb : -1000000 ≤ b ∧ b ≤ 1000000) : CallOk prog w G A (dVal (.type "list")) [dRange a b] (dLst ((rangeL a b).map dInt)) where
  keeper := keep_val (fun a e => by cases e)
  run := fun X s E f vs hX _ hf hv => by
    have hf' : f = .type "list" := hf
    subst hf'
    match vs, hv with
    | [v], ⟨⟨r, t, u, c, e, hr⟩, _⟩ =>
      subst e
      have hsz : Builtin.Range.rangeSize a b 1 = (((b - a).toNat : Nat) : Int) := by rw [rangeSize_one]; split <;> omega
      have := sizeLine_eq
      refine call_list_range hh hr.1 (small_one (by omega) (by omega) (by omega) (by omega)) hsz (by omega) fun h' tk acc' c' hk he hi => ?_
      have g : Grows s { s with heap := h', toks := tk } := ⟨h', tk, rfl, hk⟩
      refine ⟨g, _, c', acc'.toList, rfl, ⟨?_, fresh_not hX⟩, ?_, ?_⟩
      · have e : acc'.toList.toArray = acc' := by simp
        rw [e]; exact he
      · rw [List.length_map, rangeL, List.length_map, List.length_range]; omega
      · obtain ⟨hsize, hall⟩ := hi
        have key : ∀ (n k : Nat) (vs : List Value), vs.length = n → (∀ j v, vs[j]? = some v → ∃ t, v = Value.int (a + ((k + j : Nat) : Int) * 1) t) →
            All2 (fun d v => d.is (vw X h') v) (((List.range' k n).map fun i : Nat => a + (i : Int)).map dInt) vs := by
          intro n
          induction n with
          | zero => intro k vs hl _; rw [List.eq_nil_of_length_eq_zero hl]; trivial
          | succ n ih =>
            intro k vs hl h
            cases vs with
            | nil => cases hl
            | cons v vs =>
              rw [List.range'_succ, List.map_cons, List.map_cons]
              refine ⟨?_, ih (k + 1) vs (by simpa using hl) fun j v' e => ?_⟩
              · obtain ⟨t, rfl⟩ := h 0 v rfl
                exact ⟨t, by simp⟩
              · obtain ⟨t, rfl⟩ := h (j + 1) v' (by simpa using e)
                exact ⟨t, by rw [show k + 1 + j = k + (j + 1) by omega]⟩
        have := key (b - a).toNat 0 acc'.toList (by rw [Array.length_toList]; exact hsize) fun j v e => by
          obtain ⟨t, rfl⟩ := hall j v (by rw [← Array.getElem?_toList]; exact e)
          exact ⟨t, by rw [Nat.zero_add]⟩
        rw [← List.range_eq_range'] at this
        exact this
theorem CallOk.isint {i : Int} : CallOk prog w G A (dVal (.builtin "isinstance")) [dInt i, dVal (.type "int")] (dBool true) where
  keeper := keep_val (fun a e => by cases e)
  run := fun X s E f vs hX _ hf hv => by
    have hf' : f = .builtin "isinstance" := hf
    subst hf'
    match vs, hv with
    | [v, u], ⟨⟨t, e⟩, e', _⟩ =>
      subst e
      have e'' : u = .type "int" := e'
      subst e''
      exact IsiPair.int_int ⟨Grows.rfl' s, rfl⟩
theorem CallOk.ord {c : Nat} : CallOk prog w G A (dVal (.builtin "ord")) [dStr ⟨#[c]⟩] (dInt c) where
  keeper := keep_val (fun a e => by cases e)
  run := fun X s E f vs hX _ hf hv => by
    have hf' : f = .builtin "ord" := hf
    subst hf'
    match vs, hv with
    | [v], ⟨⟨t, e⟩, _⟩ =>
      subst e
      exact P.ord_of_char ⟨Grows.toks, _, rfl⟩
theorem CallOk.chr {i : Int} (h0 : 0 ≤ i) (h1 : i ≤ 1114111) : CallOk prog w G A (dVal (.builtin "chr")) [dInt i] (dStr ⟨#[i.toNat]⟩) where
  keeper := keep_val (fun a e => by cases e)
  run := fun X s E f vs hX _ hf hv => by
    have hf' : f = .builtin "chr" := hf
    subst hf'
    match vs, hv with
    | [v], ⟨⟨t, e⟩, _⟩ =>
      subst e
      exact chr_of_range h0 h1 ⟨Grows.toks, _, rfl⟩
end
end Mine

namespace Mine
open PySem.Calls

/-- what a Den tells is that data -/
def RD (d : Den) (p : PyData) : Prop := ∀ (h : Heap) (g : View) (v : Value), (∀ a o, g a o → h.get? a = some o) → d.is g v → ∃ as, Reads h v p as

theorem RD.none : RD dNone .none := fun h g v _ e => by have e' : v = .none := e; subst e'; exact ⟨_, .none⟩
theorem RD.int {i : Int} : RD (dInt i) (.int i) := fun h g v _ ⟨t, e⟩ => by subst e; exact ⟨_, .int i t⟩
theorem RD.str {x : Str} : RD (dStr x) (.str x) := fun h g v _ ⟨t, e⟩ => by subst e; exact ⟨_, .str x t⟩
theorem reads_all : ∀ {ds : List Den} {ps : List PyData} {h : Heap} {g : View} {vs : List Value}, (∀ a o, g a o → h.get? a = some o) → All2 RD ds ps → All2 (fun d v => d.is g v) ds vs → ∃ as, ReadsAll h vs ps as
  | [], [], h, g, [], _, _, _ => ⟨_, .nil⟩
  | [], _ :: _, _, _, _, _, r, _ => r.elim
  | _ :: _, [], _, _, _, _, r, _ => r.elim
  | [], [], _, _, _ :: _, _, _, q => q.elim
  | _ :: _, _ :: _, _, _, [], _, _, q => q.elim
  | d :: ds, p :: ps, h, g, v :: vs, k, ⟨r, rs⟩, ⟨q, qs⟩ => by
    obtain ⟨as, x⟩ := r h g v k q
    obtain ⟨bs, y⟩ := reads_all k rs qs
    exact ⟨_, .cons x y⟩
theorem RD.lst {ds : List Den} {ps : List PyData} (r : All2 RD ds ps) : RD (dLst ds) (.list ps) := fun h g v k ⟨a, n, vs, e, ha, _, hv⟩ => by
  subst e
  obtain ⟨as, x⟩ := reads_all k r hv
  exact ⟨_, .list (k _ _ ha) rfl rfl x⟩
theorem RD.tup {ds : List Den} {ps : List PyData} (r : All2 RD ds ps) : RD (dTup ds) (.tuple ps) := fun h g v k ⟨a, n, vs, e, ha, _, hv⟩ => by
  subst e
  obtain ⟨as, x⟩ := reads_all k r hv
  exact ⟨_, .tuple (k _ _ ha) rfl rfl x⟩
theorem rd_map {α : Type} {f : α → Den} {q : α → PyData} (h : ∀ x, RD (f x) (q x)) : ∀ xs : List α, All2 RD (xs.map f) (xs.map q)
  | [] => trivial
  | x :: xs => ⟨h x, rd_map h xs⟩
theorem rd_map' {α : Type} {f : α → Den} {q : α → PyData} : ∀ xs : List α, (∀ x ∈ xs, RD (f x) (q x)) → All2 RD (xs.map f) (xs.map q)
  | [], _ => trivial
  | x :: xs, h => ⟨h x (.head _), rd_map' xs fun y hy => h y (.tail _ hy)⟩

/-- comparing plain data -/
theorem eqv_ints : ∀ xs ys : List Int, PyData.eqvAll (xs.map .int) (ys.map .int) = decide (xs = ys)
  | [], [] => rfl
  | [], _ :: _ => rfl
  | _ :: _, [] => rfl
  | x :: xs, y :: ys => by
    rw [List.map_cons, List.map_cons, PyData.eqvAll, eqv_ints xs ys, PyData.eqv]
    by_cases h : x = y <;> by_cases h' : xs = ys <;> simp [h, h']
theorem eqvAll_refl : ∀ ps : List PyData, (∀ p ∈ ps, PyData.eqv p p = true) → PyData.eqvAll ps ps = true
  | [], _ => rfl
  | p :: ps, h => by rw [PyData.eqvAll, h p (.head _), eqvAll_refl ps fun q hq => h q (.tail _ hq)]; rfl
theorem eqv_int (i : Int) : PyData.eqv (.int i) (.int i) = true := by rw [PyData.eqv]; simp
theorem eqv_str (x : Str) : PyData.eqv (.str x) (.str x) = true := by rw [PyData.eqv]; simp
theorem eqv_none : PyData.eqv .none .none = true := by rw [PyData.eqv]
theorem eqv_list {ps : List PyData} (h : ∀ p ∈ ps, PyData.eqv p p = true) : PyData.eqv (.list ps) (.list ps) = true := by rw [PyData.eqv]; exact eqvAll_refl ps h
theorem eqv_tuple {ps : List PyData} (h : ∀ p ∈ ps, PyData.eqv p p = true) : PyData.eqv (.tuple ps) (.tuple ps) = true := by rw [PyData.eqv]; exact eqvAll_refl ps h

/-- data that the comparison's rule takes, of a depth -/
def Lay (n : Nat) (p : PyData) : Prop := p.canLay0 = true ∧ p.depth ≤ n
theorem Lay.none {n : Nat} : Lay n .none := ⟨rfl, Nat.zero_le _⟩
theorem Lay.int {n : Nat} {i : Int} : Lay n (.int i) := ⟨rfl, Nat.zero_le _⟩
theorem Lay.str {n : Nat} {x : Str} (h : PyData.strOk x = true) : Lay n (.str x) := ⟨by rw [PyData.canLay0]; exact h, Nat.zero_le _⟩
theorem lay_all {n : Nat} : ∀ {ps : List PyData}, (∀ p ∈ ps, Lay n p) → PyData.canLayAll0 ps = true ∧ PyData.depthAll ps ≤ n
  | [], _ => ⟨rfl, Nat.zero_le _⟩
  | p :: ps, h => by
    have h1 := h p (.head _)
    have h2 := lay_all fun q hq => h q (.tail _ hq)
    refine ⟨by rw [PyData.canLayAll0, h1.1, h2.1]; rfl, ?_⟩
    rw [PyData.depthAll]
    exact Nat.max_le.mpr ⟨h1.2, h2.2⟩
theorem Lay.list {n : Nat} {ps : List PyData} (h : ∀ p ∈ ps, Lay n p) : Lay (n + 1) (.list ps) := by
  have := lay_all h
  exact ⟨by rw [PyData.canLay0, this.1], by rw [PyData.depth]; omega⟩
theorem Lay.tuple {n : Nat} {ps : List PyData} (h : ∀ p ∈ ps, Lay n p) : Lay (n + 1) (.tuple ps) := by
  have := lay_all h
  exact ⟨by rw [PyData.canLay0, this.1], by rw [PyData.depth]; omega⟩
theorem Lay.shaped {n : Nat} {p : PyData} (h : Lay n p) (hn : n ≤ 64) : SeqAt.shaped p = true := by
  unfold SeqAt.shaped
  rw [h.1, Bool.true_and]; exact decide_eq_true (Nat.le_trans h.2 hn)

section
variable {prog : Program} {w : World} {G : Heap} {A : Around} {env : Env} {ρ ρ' ρ'' : Rho} {E : Value → Shared → Prop} {s s' : Shared} {X X₀ M W : Addr → Prop} {D : Addr} {os os' : List Den}

theorem Cmp.eqD {d₁ d₂ : Den} {p q : PyData} {n m : Nat} (h₁ : RD d₁ p) (h₂ : RD d₂ q) (l₁ : Lay n p) (l₂ : Lay m q) (hu : A.units + 64 < cLine) (hn : n ≤ 64 := by decide) (hm : m ≤ 64 := by decide) : Cmp prog w A .Eq d₁ d₂ (PyData.eqv p q) := fun X s E v₁ v₂ e₁ e₂ => by
  obtain ⟨as, ra⟩ := h₁ s.heap _ v₁ (fun a o q => q.1) e₁
  obtain ⟨bs, rb⟩ := h₂ s.heap _ v₂ (fun a o q => q.1) e₂
  exact eq_dataH ra rb (l₁.shaped hn) (l₂.shaped hm) hu ⟨rfl, Grows.rfl' s⟩
theorem Cmp.neD {d₁ d₂ : Den} {p q : PyData} {n m : Nat} (h₁ : RD d₁ p) (h₂ : RD d₂ q) (l₁ : Lay n p) (l₂ : Lay m q) (hu : A.units + 64 < cLine) (hn : n ≤ 64 := by decide) (hm : m ≤ 64 := by decide) : Cmp prog w A .NotEq d₁ d₂ (!PyData.eqv p q) := fun X s E v₁ v₂ e₁ e₂ => by
  obtain ⟨as, ra⟩ := h₁ s.heap _ v₁ (fun a o q => q.1) e₁
  obtain ⟨bs, rb⟩ := h₂ s.heap _ v₂ (fun a o q => q.1) e₂
  exact ne_dataH ra rb (l₁.shaped hn) (l₂.shaped hm) hu ⟨rfl, Grows.rfl' s⟩
theorem Cmp.inT {d₁ d₂ : Den} {p : PyData} {qs : List PyData} {n m : Nat} (h₁ : RD d₁ p) (h₂ : RD d₂ (.tuple qs)) (l₁ : Lay n p) (l₂ : ∀ q ∈ qs, Lay m q) (hu : A.units + 64 < cLine) (hn : n ≤ 60 := by decide) : Cmp prog w A .In d₁ d₂ (qs.any fun y => PyData.eqv y p) := fun X s E v₁ v₂ e₁ e₂ => by
  obtain ⟨as, ra⟩ := h₁ s.heap _ v₁ (fun a o q => q.1) e₁
  obtain ⟨bs, rb⟩ := h₂ s.heap _ v₂ (fun a o q => q.1) e₂
  refine SeqAt.in_tuple_reads rb ra (lay_all l₂).1 l₁.1 ?_ ⟨rfl, Grows.rfl' s⟩
  have := Nat.min_le_right (PyData.depthAll qs) p.depth
  have := l₁.2
  omega
theorem Cmp.inL {d₁ d₂ : Den} {p : PyData} {qs : List PyData} {n m : Nat} (h₁ : RD d₁ p) (h₂ : RD d₂ (.list qs)) (l₁ : Lay n p) (l₂ : ∀ q ∈ qs, Lay m q) (hu : A.units + 64 < cLine) (hn : n ≤ 60 := by decide) : Cmp prog w A .In d₁ d₂ (qs.any fun y => PyData.eqv y p) := fun X s E v₁ v₂ e₁ e₂ => by
  obtain ⟨as, ra⟩ := h₁ s.heap _ v₁ (fun a o q => q.1) e₁
  obtain ⟨bs, rb⟩ := h₂ s.heap _ v₂ (fun a o q => q.1) e₂
  refine SeqAt.in_list_reads rb ra (lay_all l₂).1 l₁.1 ?_ ⟨rfl, Grows.rfl' s⟩
  have := Nat.min_le_right (PyData.depthAll qs) p.depth
  have := l₁.2
  omega
/-- never None -/
def Some' (d : Den) : Prop := ∀ g v, d.is g v → v ≠ .none
theorem Some'.int {i : Int} : Some' (dInt i) := fun g v ⟨t, e⟩ => by subst e; intro h; cases h
theorem Some'.str {x : Str} : Some' (dStr x) := fun g v ⟨t, e⟩ => by subst e; intro h; cases h
theorem Some'.seq {k : String} {ds : List Den} : Some' (dSeq k ds) := fun g v ⟨a, _, _, e, _⟩ => by subst e; intro h; cases h
theorem Cmp.isNone : Cmp prog w A .Is dNone dNone true := fun X s E v₁ v₂ e₁ e₂ => by
  have e₁' : v₁ = .none := e₁
  have e₂' : v₂ = .none := e₂
  subst e₁' e₂'
  exact is_none_none ⟨rfl, Grows.rfl' s⟩
theorem Cmp.isSome {d : Den} (h : Some' d) : Cmp prog w A .Is d dNone false := fun X s E v₁ v₂ e₁ e₂ => by
  have e₂' : v₂ = .none := e₂
  subst e₂'
  exact is_none_ne (h _ _ e₁) ⟨rfl, Grows.rfl' s⟩
theorem Cmp.isNot {d₁ d₂ : Den} {b : Bool} (h : ∀ X s E v₁ v₂, d₁.is (vw X s.heap) v₁ → d₂.is (vw X s.heap) v₂ → wpAny (model prog w) A (compareOp .IsNot v₁ v₂) (fun v s' => v = .bool b ∧ Grows s s') E s) : Cmp prog w A .IsNot d₁ d₂ b := h
end
end Mine

namespace Mine
open PySem.Calls

/-- room for k calls one in the other -/
def Room (k : Nat) (A : Around) : Prop := A.handled = none ∧ A.depth + k ≤ 900 ∧ A.units + 10 * k + 100 ≤ 9900

theorem Room.deeper {k : Nat} {A : Around} {env : Env} (h : Room (k + 1) A) : Room k (A.deeper env) := by
  obtain ⟨a, b, c⟩ := h
  refine ⟨a, ?_, ?_⟩
  · show A.depth + 1 + k ≤ 900; omega
  · show A.units + 3 + 10 * k + 100 ≤ 9900; omega
theorem Room.mono {k j : Nat} {A : Around} (h : Room k A) (hj : j ≤ k) : Room j A := by
  obtain ⟨a, b, c⟩ := h
  exact ⟨a, by omega, by omega⟩
theorem Room.units {k : Nat} {A : Around} (h : Room k A) : A.units + 64 < cLine := by
  obtain ⟨a, b, c⟩ := h
  show A.units + 64 < 9900
  omega

/-- a def of the base heap -/
def IsDef (G : Heap) (f : Addr) (params : Arguments) (body : List Stmt) (scope : Scope) : Prop :=
  ∃ o name qual kV doc pm an cdv ct, G.get? f = some o ∧ o.data = .func (fnOf name qual params body scope .none kV doc pm an cdv ct) ∧ G.CodeRec cdv qual

def IsDefV (G : Heap) (dV : Value) (f : Addr) (params : Arguments) (body : List Stmt) (scope : Scope) : Prop :=
  ∃ o name qual kV doc pm an cdv ct, G.get? f = some o ∧ o.data = .func (fnOf name qual params body scope dV kV doc pm an cdv ct) ∧ G.CodeRec cdv qual

/-- the frame of a call -/
def FEnv (scope : Scope) (env : Env) : Prop := ∃ L a qual cdv, env = newEnv scope L mainGlobals (cellsFrom (L + 1) scope.names []) qual (some a) cdv none builtinsNs

def IsDefW (G : Heap) (dV cdv : Value) (f : Addr) (params : Arguments) (body : List Stmt) (scope : Scope) : Prop :=
  ∃ o name qual kV doc pm an ct, G.get? f = some o ∧ o.data = .func (fnOf name qual params body scope dV kV doc pm an cdv ct) ∧ G.CodeRec cdv qual
def FEnvW (scope : Scope) (cdv : Value) (env : Env) : Prop := ∃ L a qual, env = newEnv scope L mainGlobals (cellsFrom (L + 1) scope.names []) qual (some a) cdv none builtinsNs
theorem FEnvW.plain {scope : Scope} {cdv : Value} {env : Env} (h : FEnvW scope cdv env) : FEnv scope env := let ⟨L, a, q, e⟩ := h; ⟨L, a, q, cdv, e⟩

theorem bindL_other {κ : Str → Option NameKind} : ∀ {bs : List (Str × Value)} {m : Str → Option Value} {x : Str}, (∀ p ∈ bs, p.1 ≠ x) → bindL κ bs m x = m x
  | [], m, x, _ => rfl
  | (y, v) :: r, m, x, h => by
    rw [bindL, bindL_other fun p hp => h p (.tail _ hp)]
    have : x ≠ y := fun e => h (y, v) (.head _) e.symm
    split
    · show (if x = y then _ else _) = _; rw [if_neg this]
    · rfl
theorem bindC_other {κ : Str → Option NameKind} : ∀ {bs : List (Str × Value)} {m : Str → Option Value} {x : Str}, (∀ p ∈ bs, p.1 ≠ x) → bindC κ bs m x = m x
  | [], m, x, _ => rfl
  | (y, v) :: r, m, x, h => by
    rw [bindC, bindC_other fun p hp => h p (.tail _ hp)]
    have : x ≠ y := fun e => h (y, v) (.head _) e.symm
    split
    · rfl
    · show (if x = y then _ else _) = _; rw [if_neg this]
theorem bindL_here {κ : Str → Option NameKind} : ∀ {bs : List (Str × Value)} {m : Str → Option Value} {x : Str} {v : Value}, (bs.map (·.1)).Nodup → (x, v) ∈ bs → κ x = some .local → bindL κ bs m x = some v
  | (y, u) :: r, m, x, v, hn, hm, hk => by
    rw [List.map_cons, List.nodup_cons] at hn
    rcases List.mem_cons.mp hm with e | hm
    · cases e
      rw [bindL, bindL_other fun p hp e => hn.1 (List.mem_map.mpr ⟨p, hp, e⟩), if_pos hk]
      simp
    · rw [bindL]; exact bindL_here hn.2 hm hk
theorem bindC_here {κ : Str → Option NameKind} : ∀ {bs : List (Str × Value)} {m : Str → Option Value} {x : Str} {v : Value}, (bs.map (·.1)).Nodup → (x, v) ∈ bs → κ x ≠ some .local → bindC κ bs m x = some v
  | (y, u) :: r, m, x, v, hn, hm, hk => by
    rw [List.map_cons, List.nodup_cons] at hn
    rcases List.mem_cons.mp hm with e | hm
    · cases e
      rw [bindC, bindC_other fun p hp e => hn.1 (List.mem_map.mpr ⟨p, hp, e⟩), if_neg hk]
      simp
    · rw [bindC]; exact bindC_here hn.2 hm hk

theorem zip_lookup : ∀ {ns : List Str} {ds : List Den} {vs : List Value} {g : View} {x : Str} {d : Den}, All2 (fun d v => d.is g v) ds vs → (ns.zip ds).lookup x = some d → ∃ v, (x, v) ∈ ns.zip vs ∧ d.is g v
  | [], _, _, _, _, _, _, e => by cases e
  | _ :: _, [], _, _, _, _, _, e => by cases e
  | _ :: _, _ :: _, [], _, _, _, h, _ => h.elim
  | n :: ns, d' :: ds, v :: vs, g, x, d, ⟨h, hs⟩, e => by
    rw [List.zip_cons_cons, List.lookup_cons] at e
    cases hx : x == n with
    | true => rw [hx] at e; cases e; exact ⟨v, by rw [beq_iff_eq.mp hx]; exact .head _, h⟩
    | false =>
      rw [hx] at e
      obtain ⟨u, hu, r⟩ := zip_lookup hs e
      exact ⟨u, .tail _ hu, r⟩

section
variable {prog : Program} {w : World} {G : Heap} {A : Around} {env : Env} {ρ ρ' ρ'' : Rho} {E : Value → Shared → Prop} {s s' : Shared} {X X₀ M W : Addr → Prop} {D : Addr} {os os' : List Den} {mg mb : Str → Option Value}

/-- how a def's parameters take the call's values -/
structure Sig (params : Arguments) (body : List Stmt) (scope : Scope) (ns : List Str) : Prop where
  bind : ∀ name qual kV doc pm an cdv ct (vs : List Value), vs.length = ns.length → bindArgs (fnOf name qual params body scope .none kV doc pm an cdv ct) ⟨vs, []⟩ = pure (ns.zip vs)
  kinds : ∀ x ∈ ns, scope.names.lookup x = some .local ∨ scope.names.lookup x = some .cell
  nodup : ns.Nodup
  cells : ∀ p ∈ scope.names, scope.names.lookup p.1 = some p.2
  kind : scope.kind = .function
  gen : scope.isGenerator = false
  co : scope.isCoroutine = false

structure SigV (scope : Scope) (ns : List Str) : Prop where
  kinds : ∀ x ∈ ns, scope.names.lookup x = some .local ∨ scope.names.lookup x = some .cell
  nodup : ns.Nodup
  cells : ∀ p ∈ scope.names, scope.names.lookup p.1 = some p.2
  kind : scope.kind = .function
  gen : scope.isGenerator = false
  co : scope.isCoroutine = false
theorem Sig.toV {params : Arguments} {body : List Stmt} {scope : Scope} {ns : List Str} (s : Sig params body scope ns) : SigV scope ns := ⟨s.kinds, s.nodup, s.cells, s.kind, s.gen, s.co⟩

theorem call_defW {dV cdv : Value} {f : Addr} {params : Arguments} {body : List Stmt} {scope : Scope} {ns : List Str} {ds : List Den} {vs : List Value} {R : Result → Shared → Prop} {k : Nat} (B : Base G mg mb) (hd : IsDefW G dV cdv f params body scope)
    (hbind : ∀ name qual kV doc pm an ct (A' : Around) (E' : Value → Shared → Prop) (Q : List (Str × Value) → Shared → Prop), Q (ns.zip vs) s → wpAny (model prog w) A' (bindArgs (fnOf name qual params body scope dV kV doc pm an cdv ct) ⟨vs, []⟩) Q E' s)
    (sg : SigV scope ns) (hr : Room (k + 1) A)
    (hX : ∀ b, X b → ∃ o, s.heap.get? b = some o) (hb : ∀ a o, G.get? a = some o → vw X s.heap a o) (hv : All2 (fun d v => d.is (vw X s.heap) v) ds vs) (hl : vs.length = ns.length)
    (h : ∀ (env : Env) (s₁ : Shared), FEnvW scope cdv env → Grows s s₁ → (∀ b, Own env b → s.heap.get? b = none) → Ok G (fun b => X b ∨ Own env b) env (ns.zip ds) s₁ →
      wpAny (model prog w) (A.deeper env) (execs body env) (fun f s' => R (.ok (.ret (match f with | .ret v => v | _ => .none))) s')
        (fun e s' => wpAny (model prog w) (A.deeper env) (leaving env e) (fun _ s'' => R (.error e) s'') (fun e' s'' => R (.error e') s'') s') s₁) :
    codeAny (model prog w) A (.call (.ref f) ⟨vs, []⟩) R s := by
  obtain ⟨o, name, qual, kV, doc, pm, an, ct, ho, hd, hcd⟩ := hd
  have hk : ∀ a o, G.get? a = some o → s.heap.get? a = some o := fun a o e => (hb a o e).1
  obtain ⟨hh, hdep, hun⟩ := hr
  refine codeAny_call_function (show A.depth < 1000 by omega) (hk _ _ ho) hd sg.co sg.gen rfl (hcd.keeps hk) ?_
  refine hbind _ _ _ _ _ _ _ _ _ _ (wpAny_newFunctionEnv_cells sg.kind (fun x hx => ?_) fun env he s₁ ic => ?_)
  · have hx' : x.1 ∈ ns := (List.of_mem_zip (a := x.1) (b := x.2) hx).1
    rcases sg.kinds x.1 hx' with q | q
    · exact .inl q
    · exact .inr ⟨q, cellsFrom_some _ _ _ (.inl q)⟩
  · have hkeep := ic.toInCall.keep
    obtain ⟨h₁, tk₁, e₁, _⟩ := ic.done
    have g : Grows s s₁ := ⟨h₁, tk₁, e₁, fun b o e => by have := hkeep b o e; rw [e₁] at this; exact this⟩
    have hfe : FEnvW scope cdv env := ⟨_, _, _, he⟩
    have hown : ∀ b, Own env b → s.heap.objs.size ≤ b := fun b hb => by
      rcases hb with rfl | ⟨x, e⟩
      · exact ic.toInCall.fresh
      · exact Nat.le_of_lt (Nat.lt_of_le_of_lt ic.toInCall.fresh (ic.above x b (mem_of_lookup e)))
    have hnone : ∀ b, Own env b → s.heap.get? b = none := fun b hb => by
      cases q : s.heap.get? b with
      | none => rfl
      | some o => exact absurd (Heap.lt_size q) (Nat.not_lt.mpr (hown b hb))
    have hlive : ∀ b, Own env b → ∃ o, s₁.heap.get? b = some o := fun b hb => by
      rcases hb with rfl | ⟨x, e⟩
      · obtain ⟨o, _, _, q, _⟩ := ic.toInCall.ns; exact ⟨o, q⟩
      · obtain ⟨o, q, _⟩ := ic.cell x b e; exact ⟨o, q⟩
    have up : ∀ a o, vw X s.heap a o → vw (fun b => X b ∨ Own env b) s₁.heap a o := fun a o q => ⟨Grows.at g q.1, fun z => z.elim q.2 fun z => by
      have := hnone a z; rw [q.1] at this; cases this⟩
    have hkindEq : env.kindOf = fun x => scope.names.lookup x := by funext x; rw [he]; rfl
    have ok : Ok G (fun b => X b ∨ Own env b) env (ns.zip ds) s₁ := by
      refine { kind := by rw [he]; exact sg.kind, glob := by rw [he]; rfl, blt := by rw [he]; rfl, live := fun b q => ?_, own := fun b q => .inr q, ns := ⟨_, ic.toInCall.ns⟩, cell := fun x c e => ⟨⟨_, ic.cell x c e⟩, fun z => ?_⟩, inj := fun x y c ex ey => ?_,
               base := fun a o e => up a o (hb a o e), vars := fun x d e => ?_ }
      · rcases q with q | q
        · obtain ⟨o, e⟩ := hX b q; exact ⟨o, Grows.at g e⟩
        · exact hlive b q
      · have := ic.above x c (mem_of_lookup e)
        exact absurd (z ▸ this) (Nat.lt_irrefl _)
      · exact name_of_addr ic.apart (mem_of_lookup ex) (mem_of_lookup ey)
      · obtain ⟨v, hm, hv'⟩ := zip_lookup hv e
        have hx' : x ∈ ns := (List.of_mem_zip hm).1
        have hnd : ((ns.zip vs).map (·.1)).Nodup := by
          have hzip : (ns.zip vs).map (·.1) = ns := by
            rw [List.map_fst_zip]; rw [hl]; exact Nat.le_refl _
          rw [hzip]; exact sg.nodup
        refine ⟨v, ?_, d.mono up hv'⟩
        rcases sg.kinds x hx' with q | q
        · exact .inl ⟨by rw [hkindEq]; exact q, _, ic.toInCall.ns, bindL_here hnd hm (by rw [hkindEq]; exact q)⟩
        · have hsome : (env.cells.lookup x).isSome = true := by rw [he]; exact cellsFrom_some _ _ _ (.inl q)
          obtain ⟨c, hc⟩ := Option.isSome_iff_exists.mp hsome
          refine .inr ⟨.inl (by rw [hkindEq]; exact q), c, hc, ?_⟩
          have := ic.cell x c hc
          rw [bindC_here hnd hm (by rw [hkindEq]; show scope.names.lookup x ≠ _; rw [q]; intro z; cases z)] at this
          exact this
    exact ⟨(B.lim.keeps hk).keeps hkeep, codeAny_func (h env s₁ hfe g hnone ok)⟩

theorem call_defV {dV : Value} {f : Addr} {params : Arguments} {body : List Stmt} {scope : Scope} {ns : List Str} {ds : List Den} {vs : List Value} {R : Result → Shared → Prop} {k : Nat} (B : Base G mg mb) (hd : IsDefV G dV f params body scope)
    (hbind : ∀ name qual kV doc pm an cdv ct (A' : Around) (E' : Value → Shared → Prop) (Q : List (Str × Value) → Shared → Prop), Q (ns.zip vs) s → wpAny (model prog w) A' (bindArgs (fnOf name qual params body scope dV kV doc pm an cdv ct) ⟨vs, []⟩) Q E' s)
    (sg : SigV scope ns) (hr : Room (k + 1) A)
    (hX : ∀ b, X b → ∃ o, s.heap.get? b = some o) (hb : ∀ a o, G.get? a = some o → vw X s.heap a o) (hv : All2 (fun d v => d.is (vw X s.heap) v) ds vs) (hl : vs.length = ns.length)
    (h : ∀ (env : Env) (s₁ : Shared), FEnv scope env → Grows s s₁ → (∀ b, Own env b → s.heap.get? b = none) → Ok G (fun b => X b ∨ Own env b) env (ns.zip ds) s₁ →
      wpAny (model prog w) (A.deeper env) (execs body env) (fun f s' => R (.ok (.ret (match f with | .ret v => v | _ => .none))) s')
        (fun e s' => wpAny (model prog w) (A.deeper env) (leaving env e) (fun _ s'' => R (.error e) s'') (fun e' s'' => R (.error e') s'') s') s₁) :
    codeAny (model prog w) A (.call (.ref f) ⟨vs, []⟩) R s := by
  obtain ⟨o, name, qual, kV, doc, pm, an, cdv, ct, ho, hd, hcd⟩ := hd
  exact call_defW (dV := dV) (cdv := cdv) B ⟨o, name, qual, kV, doc, pm, an, ct, ho, hd, hcd⟩ (fun name qual kV doc pm an ct A' E' Q q => hbind _ _ _ _ _ _ _ _ _ _ _ q) sg hr hX hb hv hl fun env s₁ hfe => h env s₁ hfe.plain

theorem call_def {f : Addr} {params : Arguments} {body : List Stmt} {scope : Scope} {ns : List Str} {ds : List Den} {vs : List Value} {R : Result → Shared → Prop} {k : Nat} (B : Base G mg mb) (hd : IsDef G f params body scope) (sg : Sig params body scope ns) (hr : Room (k + 1) A)
    (hX : ∀ b, X b → ∃ o, s.heap.get? b = some o) (hb : ∀ a o, G.get? a = some o → vw X s.heap a o) (hv : All2 (fun d v => d.is (vw X s.heap) v) ds vs) (hl : vs.length = ns.length)
    (h : ∀ (env : Env) (s₁ : Shared), FEnv scope env → Grows s s₁ → (∀ b, Own env b → s.heap.get? b = none) → Ok G (fun b => X b ∨ Own env b) env (ns.zip ds) s₁ →
      wpAny (model prog w) (A.deeper env) (execs body env) (fun f s' => R (.ok (.ret (match f with | .ret v => v | _ => .none))) s')
        (fun e s' => wpAny (model prog w) (A.deeper env) (leaving env e) (fun _ s'' => R (.error e) s'') (fun e' s'' => R (.error e') s'') s') s₁) :
    codeAny (model prog w) A (.call (.ref f) ⟨vs, []⟩) R s :=
  call_defV (dV := .none) B hd (fun name qual kV doc pm an cdv ct A' E' Q q => by rw [sg.bind _ _ _ _ _ _ _ _ vs hl]; exact wpAny_pure q) sg.toV hr hX hb hv hl h

/-- the callee's Den: a def of the base heap -/
def dDef (G : Heap) (f : Addr) : Den where
  is g v := v = .ref f ∧ ∀ o, G.get? f = some o → g f o
  mono := fun hg ⟨e, h⟩ => ⟨e, fun o q => hg _ _ (h o q)⟩

theorem Ev.gdef {x : Str} {pos : Pos} {f : Addr} (B : Base G mg mb) (hk : env.kindOf x = some .globalImplicit) (hv : mg x = some (.ref f)) (hd : (x == ("__debug__" : Str)) = false := by decide) :
    Ev prog w G A env ρ (.Name x pos) (dDef G f) := fun X s E ok =>
  wpAny_mono (Ev.glob B hk hv hd X s E ok) (fun v s' ⟨k, e⟩ => ⟨k, e, fun o q => (ok.keeps k).base f o q⟩) fun _ _ x => x

theorem CallOk.ret {f : Addr} {params : Arguments} {body : List Stmt} {scope : Scope} {ns : List Str} {ds : List Den} {r : Den} {k : Nat} (B : Base G mg mb) (hd : IsDef G f params body scope) (sg : Sig params body scope ns) (hlen : ds.length = ns.length) (hr : Room (k + 1) A)
    (h : ∀ (A' : Around) (env : Env), Room k A' → FEnv scope env → Ret prog w G A' env (ns.zip ds) [] body r) : CallOk prog w G A (dDef G f) ds r where
  keeper := fun g hp fv hg ⟨e, hf⟩ => by
    subst e
    obtain ⟨o, name, qual, kV, doc, pm, an, cdv, ct, ho, hdt, _⟩ := hd
    obtain ⟨oc, od, dt, sl⟩ := o
    have hdt' : dt = _ := hdt
    subst hdt'
    exact keeps_F hp ⟨oc, od, _, sl, hg _ _ (hf _ ho)⟩
  run := fun X s E fv vs hX hb hf hv => by
    obtain ⟨e, _⟩ := hf
    subst e
    refine wpAny_call (call_def (ds := ds) B hd sg hr hX hb hv (by rw [← hv.length, hlen]) fun env s₁ hfe g hnone ok => ?_)
    refine wpAny_mono (h _ env hr.deeper hfe _ (fun _ => 0) s₁ _ (OkA.of ok)) (fun f s₂ ⟨v, e, k₂, hv₂⟩ => ?_) fun _ _ x => x
    subst e
    refine ⟨?_, r.mono (fun a o q => ⟨q.1, fun z => q.2 ⟨.inl z, fun ⟨x, hx, _⟩ => by cases hx⟩⟩) hv₂⟩
    obtain ⟨h', tk, rfl, kk⟩ := k₂
    obtain ⟨h₁, tk₁, rfl, kk₁⟩ := g
    refine ⟨h', tk, rfl, fun b o e => kk b o (fun z => ?_) (kk₁ b o e)⟩
    rcases z with z | ⟨x, hx, _⟩
    · have := hnone b z; rw [e] at this; cases this
    · cases hx

theorem CallOk.step {f : Addr} {params : Arguments} {body : List Stmt} {scope : Scope} {ns : List Str} {ds : List Den} {k : Nat} {ρ' : (Env → Rho)} (B : Base G mg mb) (hd : IsDef G f params body scope) (sg : Sig params body scope ns) (hlen : ds.length = ns.length) (hr : Room (k + 1) A)
    (h : ∀ (A' : Around) (env : Env), Room k A' → FEnv scope env → Step prog w G A' env (ns.zip ds) [] body (ρ' env) []) : CallOk prog w G A (dDef G f) ds dNone where
  keeper := fun g hp fv hg ⟨e, hf⟩ => by
    subst e
    obtain ⟨o, name, qual, kV, doc, pm, an, cdv, ct, ho, hdt, _⟩ := hd
    obtain ⟨oc, od, dt, sl⟩ := o
    have hdt' : dt = _ := hdt
    subst hdt'
    exact keeps_F hp ⟨oc, od, _, sl, hg _ _ (hf _ ho)⟩
  run := fun X s E fv vs hX hb hf hv => by
    obtain ⟨e, _⟩ := hf
    subst e
    refine wpAny_call (call_def (ds := ds) B hd sg hr hX hb hv (by rw [← hv.length, hlen]) fun env s₁ hfe g hnone ok => ?_)
    refine wpAny_mono (h _ env hr.deeper hfe _ (fun _ => 0) s₁ _ (OkA.of ok)) (fun f s₂ ⟨e, k₂, o₂⟩ => ?_) fun _ _ x => x
    subst e
    refine ⟨?_, rfl⟩
    obtain ⟨h', tk, rfl, kk⟩ := k₂
    obtain ⟨h₁, tk₁, rfl, kk₁⟩ := g
    refine ⟨h', tk, rfl, fun b o e => kk b o (fun z => ?_) (kk₁ b o e)⟩
    rcases z with z | ⟨x, hx, _⟩
    · have := hnone b z; rw [e] at this; cases this
    · cases hx
end
end Mine

namespace Mine
open PySem.Calls

theorem noDom {x : Str} : ¬ Dom [] x := fun h => by cases h

def Sub (ρ' ρ : Rho) : Prop := ∀ y d, ρ'.lookup y = some d → ρ.lookup y = some d
theorem Sub.rfl' {ρ : Rho} : Sub ρ ρ := fun _ _ h => h
theorem Sub.nil {ρ : Rho} : Sub [] ρ := fun _ _ h => by cases h
theorem Sub.cons {x : Str} {d : Den} {r ρ : Rho} (h : ρ.lookup x = some d) (hr : Sub r ρ) : Sub ((x, d) :: r) ρ := fun y e q => by
  rw [List.lookup_cons] at q
  cases hx : y == x with
  | true => rw [hx] at q; cases q; rw [beq_iff_eq.mp hx]; exact h
  | false => rw [hx] at q; exact hr y e q

section
variable {prog : Program} {w : World} {G : Heap} {A : Around} {env : Env} {ρ ρ' ρ'' : Rho} {E : Value → Shared → Prop} {s s' : Shared} {X X₀ M W : Addr → Prop} {D : Addr} {os os' : List Den} {mg mb : Str → Option Value} {α α' α'' : Alpha}

theorem Step.sub {ss : List Stmt} (h : Step prog w G A env ρ' α ss ρ'' α') (hs : Sub ρ' ρ) : Step prog w G A env ρ α ss ρ'' α' := fun X ad s E o => h X ad s E (o.weaken hs)
theorem Step.out {ss : List Stmt} (h : Step prog w G A env ρ α ss ρ' α') (hs : Sub ρ'' ρ') : Step prog w G A env ρ α ss ρ'' α' := fun X ad s E o =>
  wpAny_mono (h X ad s E o) (fun f s₁ ⟨e, k, o₁⟩ => ⟨e, k, o₁.weaken hs⟩) fun _ _ x => x

/-- a loop as a fold over the items: the state behind i items is st i -/
theorem Step.loop {target iter : Expr} {body : List Stmt} {pos : Pos} {ds : List Den} (ρs : Nat → Rho) (αs : Nat → Alpha) (hit : EvIt prog w G A env ρ target iter ds) (h0 : Sub (ρs 0) ρ) (hα : αs 0 = α) (hdom : ∀ i x, Dom (αs i) x ↔ Dom α x)
    (hstep : ∀ (i : Nat) (d : Den), ds[i]? = some d → ∃ new, AsgnOk prog w G A env (Own env) target d new ∧ (∀ x ∈ names new, ¬ Dom α x) ∧ Step prog w G A env (new ++ ρs i) (αs i) body (ρs (i + 1)) (αs (i + 1)))
    (hs : ∀ x, foldedSetIterable iter env x = pure x := by intro _; rfl) :
    Step prog w G A env ρ α [.For target iter body [] pos] (ρs ds.length) (αs ds.length) := by
  subst hα
  have key := Step.for (prog := prog) (w := w) (G := G) (A := A) (env := env) (target := target) (iter := iter) (body := body) (pos := pos) (ds := ds) (fun i => match i with | 0 => ρ | i + 1 => ρs (i + 1)) αs hit hdom (fun i d hd => by
    obtain ⟨new, ha, hn, hb⟩ := hstep i d hd
    refine ⟨new, _, ha, hn, ?_, fun y d h => h⟩
    cases i with
    | zero =>
      refine hb.sub fun y d h => ?_
      rw [app_lookup] at h ⊢
      cases q : new.lookup y with
      | some z => rw [q] at h; exact h
      | none => rw [q, Option.none_or] at h; rw [Option.none_or]; exact h0 y d h
    | succ i => exact hb) hs
  refine key.out ?_
  cases ds with
  | nil => exact h0
  | cons => exact Sub.rfl'
end

theorem map_get {α β : Type} {f : α → β} {xs : List α} {i : Nat} {d : β} (h : (xs.map f)[i]? = some d) : ∃ x, xs[i]? = some x ∧ d = f x := by
  rw [List.getElem?_map] at h
  obtain ⟨x, e, r⟩ := Option.map_eq_some_iff.mp h
  exact ⟨x, e, r.symm⟩

/-- the def at a place of the program's top -/
def defAt (n : Nat) : Option (Arguments × List Stmt × Scope) := match PySem.Challenge.pw_pq0697_01.main.body[n]? with
  | some (.FunctionDef _ args body _ _ _ scope _ _ _) => some (args, body, scope)
  | _ => none
abbrev P0 : Program := PySem.Challenge.pw_pq0697_01
def IsDefN (G : Heap) (f : Addr) (n : Nat) : Prop := ∃ p b s, defAt n = some (p, b, s) ∧ IsDef G f p b s

local macro_rules | `(tactic| walk_at "sig") => `(tactic| exact ⟨fun name qual kV doc pm an cdv ct vs hl => by (first | (match vs, hl with | [_], _ => with_unfolding_all rfl) | (match vs, hl with | [_, _], _ => with_unfolding_all rfl) | (match vs, hl with | [_, _, _], _ => with_unfolding_all rfl) | (match vs, hl with | [_, _, _, _, _], _ => with_unfolding_all rfl)), by decide +kernel, by decide +kernel, by decide +kernel, rfl, rfl, rfl⟩)

section
variable {w : World} {G : Heap} {A : Around} {mg mb : Str → Option Value}

def prodI (xs : List Int) : Int := xs.foldl (· * ·) 1
theorem prodI_take {xs : List Int} {i : Nat} {x : Int} (h : xs[i]? = some x) : prodI (xs.take (i + 1)) = prodI (xs.take i) * x := by
  unfold prodI; rw [List.take_add_one, h]; simp

theorem many_of_ok {f : Addr} {k : Nat} (B : Base G mg mb) (hd : IsDefN G f 20) (hr : Room (k + 1) A) (sizes : List Int) (hm : ∀ i x, sizes[i]? = some x → IntMulOk (prodI (sizes.take i)) x) :
    CallOk P0 w G A (dDef G f) [dTup (sizes.map dInt)] (dInt (prodI sizes)) := by
  obtain ⟨p, b, s, e, hd⟩ := hd
  cases (show defAt 20 = some (_, _, _) from rfl).symm.trans e
  refine CallOk.ret (ns := ["sizes"]) B hd (by walk_at "sig") rfl hr fun A env hr' hfe => ?_
  obtain ⟨L, a, q, c, rfl⟩ := hfe
  refine Ret.cons (Step.assign (.inl rfl) Ev.cint) ?_ (fun _ => Iff.rfl)
  refine Ret.cons (Step.loop (fun i => [("many", dInt (prodI (sizes.take i))), ("sizes", dTup (sizes.map dInt))]) (fun _ => []) (EvIt.tup hr'.1 (Ev.name rfl)) (.cons rfl (.cons rfl .nil)) rfl (fun _ _ => Iff.rfl) fun i d hd => ?_) ?_ (fun _ => Iff.rfl)
  · obtain ⟨x, hx, rfl⟩ := map_get hd
    refine ⟨[("size", dInt x)], AsgnOk.name (.inl rfl) (fun b h => h.own), fun _ _ => noDom, ?_⟩
    exact (Step.assign (.inl rfl) (Ev.bin (Ev.name rfl) (Ev.name rfl) (Bin.mul (hm i x hx)))).out (.cons (by rw [prodI_take hx]; rfl) (.cons rfl .nil))
  · rw [List.length_map, List.take_length]
    exact Ret.ret (Ev.name rfl)

def stridesI (far : Int) : List Int → List Int
  | [] => []
  | x :: r => far :: stridesI (far * x) r
theorem stridesI_length : ∀ (far : Int) (xs : List Int), (stridesI far xs).length = xs.length
  | _, [] => rfl
  | far, x :: r => by rw [stridesI, List.length_cons, List.length_cons, stridesI_length]
theorem stridesI_take {xs : List Int} : ∀ {far : Int} {i : Nat} {x : Int}, xs[i]? = some x → stridesI far (xs.take (i + 1)) = stridesI far (xs.take i) ++ [far * prodI (xs.take i)] := by
  induction xs with
  | nil => intro far i x h; simp at h
  | cons y r ih =>
    intro far i x h
    cases i with
    | zero => simp [stridesI, prodI]
    | succ i =>
      rw [List.getElem?_cons_succ] at h
      rw [List.take_succ_cons, List.take_succ_cons, stridesI, stridesI, ih h, List.cons_append]
      congr 3
      have : ∀ (a : Int) (l : List Int), l.foldl (· * ·) a = a * l.foldl (· * ·) 1 := by
        intro a l
        induction l generalizing a with
        | nil => simp
        | cons z l ih => rw [List.foldl_cons, List.foldl_cons, ih (a * z), ih (1 * z), Int.one_mul, Int.mul_assoc]
      unfold prodI
      rw [List.foldl_cons, this (1 * y), Int.one_mul, Int.mul_assoc]
end
end Mine

namespace Mine
open PySem.Calls
section
variable {prog : Program} {w : World} {G : Heap} {A : Around} {env : Env} {ρ ρ' ρ'' : Rho} {E : Value → Shared → Prop} {s s' : Shared} {X X₀ M W : Addr → Prop} {D : Addr} {os os' : List Den} {mg mb : Str → Option Value} {α α' α'' : Alpha} {ad ad' : Str → Addr}

/-- a list that nobody holds is put under a name -/
theorem OkA.promote {x : Str} {a : Addr} (o : OkA G X env ρ ad α s) (hx : Stores env x) (hα : ¬ Dom α x) (hρ : ρ.lookup x = none) (hXa : X a) (hO : ¬ Own env a) (hne : ∀ y, Dom α y → ad y ≠ a) (ha : s.heap.get? a = some (LCg.lst [])) :
    wpAny (model prog w) A (storeName env x (.ref a)) (fun _ s₂ => KeepM (Own env) s s₂ ∧ OkA G X env ρ (fun y => if y = x then a else ad y) ((x, []) :: α) s₂) E s := by
  refine wpAny_mono (o.ok.store (d := dVal (.ref a)) hx rfl) (fun _ s₂ ⟨k, ok₂⟩ => ⟨k.mono fun b h => h.own, ?_, fun y hy => ?_, fun y os h => ?_, fun y z hy hz e => ?_⟩) fun _ _ x => x
  · refine ok₂.weaken fun y d e => ?_
    by_cases hyx : y = x
    · subst hyx
      have e' : List.lookup y ((y, dVal (.ref (if y = y then a else ad y))) :: (aRho (fun z => if z = y then a else ad z) α ++ ρ)) = some d := e
      rw [lookup_cons_eq, if_pos rfl] at e'
      rw [lookup_cons_eq]; exact e'
    · have e' : List.lookup y ((x, dVal (.ref (if x = x then a else ad x))) :: (aRho (fun z => if z = x then a else ad z) α ++ ρ)) = some d := e
      rw [lookup_cons_ne hyx] at e' ⊢
      rw [app_lookup] at e' ⊢
      by_cases hd : Dom α y
      · rw [aRho_some hd] at e' ⊢
        rw [if_neg hyx] at e'; exact e'
      · rw [aRho_none hd] at e' ⊢; exact e'
  · rcases dom_cons.mp hy with rfl | hy
    · exact hρ
    · exact o.disj y hy
  · rw [List.lookup_cons] at h
    cases hyx : y == x with
    | true =>
      rw [hyx] at h; cases h
      rw [beq_iff_eq.mp hyx]
      refine ⟨by rw [if_pos rfl]; exact hXa, by rw [if_pos rfl]; exact hO, [], ?_, Nat.zero_le _, trivial⟩
      rw [if_pos rfl]
      exact k.get (fun z => hO z.own) ha
    | false =>
      rw [hyx] at h
      have hn : y ≠ x := beq_eq_false_iff_ne.mp hyx
      simp only [if_neg hn]
      obtain ⟨h1, h2, h3⟩ := o.acc y os h
      exact ⟨h1, h2, h3.keepM k (fun b hb => o.ok.own b hb.own) fun hb => h2 hb.own⟩
  · by_cases hyx : y = x <;> by_cases hzx : z = x
    · rw [hyx, hzx]
    · simp only [hyx, if_true, if_neg hzx] at e
      exact absurd e.symm (hne z ((dom_cons.mp hz).resolve_left hzx))
    · simp only [hzx, if_true, if_neg hyx] at e
      exact absurd e (hne y ((dom_cons.mp hy).resolve_left hyx))
    · simp only [if_neg hyx, if_neg hzx] at e
      exact o.inj y z ((dom_cons.mp hy).resolve_left hyx) ((dom_cons.mp hz).resolve_left hzx) e

/-- what follows an opening of lists at new addresses N -/
theorem Ret.after {rest : List Stmt} {d : Den} {N : Addr → Prop} {s₁ : Shared} (o : OkA G X env ρ ad α s) (hN : ∀ b, N b → s.heap.get? b = none) (k : KeepM (fun b => MA env ad α b ∨ N b) s s₁) (o₁ : OkA G (fun b => X b ∨ N b) env ρ' ad' α' s₁)
    (hd : ∀ y, Dom α' y → (Dom α y ∧ ad' y = ad y) ∨ N (ad' y)) (h : Ret prog w G A env ρ' α' rest d) :
    wpAny (model prog w) A (execs rest env) (fun f s' => ∃ v, f = .ret v ∧ KeepM (MA env ad α) s s' ∧ d.is (vw (fun b => X b ∧ ¬ ∃ x, Dom α x ∧ b = ad x) s'.heap) v) E s₁ := by
  refine wpAny_mono (h _ _ s₁ E o₁) (fun f s₂ ⟨v, e, k₂, hv⟩ => ⟨v, e, ?_, ?_⟩) fun _ _ x => x
  · have kk := (k.mono (M' := fun b => MA env ad α b ∨ N b ∨ MA env ad' α' b) fun b h => h.imp_right .inl).trans (k₂.mono (M' := fun b => MA env ad α b ∨ N b ∨ MA env ad' α' b) fun b h => .inr (.inr h))
    obtain ⟨h', tk, rfl, kk⟩ := kk
    refine ⟨h', tk, rfl, fun b ob hb e => kk b ob (fun z => ?_) e⟩
    have hNb : ¬ N b := fun z => by have := hN b z; rw [e] at this; cases this
    rcases z with z | z | z | ⟨y, hy, z⟩
    · exact hb z
    · exact hNb z
    · exact hb (.inl z)
    · rcases hd y hy with ⟨q, e'⟩ | q
      · exact hb (.inr ⟨y, q, z.trans e'⟩)
      · exact hNb (z ▸ q)
  · refine d.mono (fun a ob q => ⟨q.1, fun z => q.2 ⟨.inl z.1, fun ⟨y, hy, e'⟩ => ?_⟩⟩) hv
    rcases hd y hy with ⟨hy', e''⟩ | hy'
    · exact z.2 ⟨y, hy', e'.trans e''⟩
    · obtain ⟨ob', e''⟩ := o.ok.live a z.1
      have := hN _ hy'
      rw [← e', e''] at this; cases this

/-- x, y = ([], e) -/
theorem Ret.openPair {x y : Str} {px py tp lp vp pos : Pos} {k k' : Nat} {e : Expr} {d₁ : Den} {rest : List Stmt} {d : Den} (hh : A.handled = none) (hx : Stores env x) (hy : Stores env y) (he : Ev prog w G A env ρ e d₁) (h : Ret prog w G A env ((y, d₁) :: ρ) ((x, []) :: α) rest d)
    (hw : swappedStores [.Tuple [.Name x px, .Name y py] k tp] (.Tuple [.List [] lp, e] k' vp) env = pure (some [x, y])) (hst : ∀ env, starEach [.List [] lp, e] env = [(false, eval (.List [] lp) env), (false, eval e env)])
    (hα : α.lookup x = none := by rfl) (hαy : α.lookup y = none := by rfl) (hρ : ρ.lookup x = none := by rfl) (hxy : x ≠ y := by decide) :
    Ret prog w G A env ρ α (.Assign [.Tuple [.Name x px, .Name y py] k tp] (.Tuple [.List [] lp, e] k' vp) pos :: rest) d := fun X ad s E o => by
  have hα' : ¬ Dom α x := fun z => by unfold Dom at z; rw [hα] at z; cases z
  have hαy' : ¬ Dom α y := fun z => by unfold Dom at z; rw [hαy] at z; cases z
  refine wpAny_execs_cons (Assign_Tuple_swapped (names := [x, y]) (Tuple_ ?_) rfl hw)
  rw [hst]
  refine Calls.spliced_cons (eval_nil_list ?_)
  have hN : ∀ b, b = s.heap.objs.size → s.heap.get? b = none := fun b e => e ▸ get_size _
  have o₁ : OkA G (fun b => X b ∨ b = s.heap.objs.size) env ρ ad α { s with heap := s.heap.push (LCg.lst []) } := o.enter Grows.push (fun b h => .inl h) (fun b hb hx => hN b (hb.resolve_left hx)) fun b hb hx => ⟨_, hb.resolve_left hx ▸ Heap.get?_push_size _ rfl⟩
  refine Calls.spliced_cons (he.use o₁.plain fun v₂ s₂ k₂ _ hv₂ => Calls.spliced_nil ?_)
  have o₂ := o₁.keeps k₂
  refine wpAny_newObj_type ?_ (by show (2 : Nat) ≤ sizeLine; decide)
  have k₃ : Grows s₂ { s₂ with heap := s₂.heap.push { cls := .type "tuple", data := .seq [Value.ref s.heap.objs.size, v₂].toArray } } := Grows.push
  have o₃ := o₂.keeps k₃
  refine wpAny_unpackItems_tuple (items := [Value.ref s.heap.objs.size, v₂].toArray) hh ⟨_, Heap.get?_push_size _ rfl, rfl, _, rfl⟩ fun h₄ hs₄ => ?_
  have k₄ : Grows { s₂ with heap := s₂.heap.push { cls := .type "tuple", data := .seq [Value.ref s.heap.objs.size, v₂].toArray } } { s₂ with heap := h₄ } := ⟨h₄, s₂.toks, rfl, fun b ob e => hs₄ b ob (Nat.ne_of_lt (Heap.lt_size e)) e⟩
  have o₄ := o₃.keeps k₄
  have hv₄ : d₁.is (vw (fun b => X b ∨ b = s.heap.objs.size) h₄) v₂ := Den.keeps d₁ (k₃.tr k₄) hv₂
  have ha₄ : h₄.get? s.heap.objs.size = some (LCg.lst []) := Grows.at ((k₂.tr k₃).tr k₄) (Heap.get?_push_size _ rfl)
  show wpAny _ A (assignInOrder [fun v => bindName env y v, fun v => bindName env x v] [v₂, .ref s.heap.objs.size]) _ _ _
  refine wpAny_bind (wpAny_holding (wpAny_bindName ?_))
  refine wpAny_mono (o₄.store hy hαy' hv₄) (fun _ s₅ ⟨k₅, o₅⟩ => ?_) fun _ _ x => x
  refine wpAny_bind (wpAny_holding (wpAny_bindName ?_))
  have hXa : ¬ X s.heap.objs.size := fun z => by obtain ⟨ob, e⟩ := o.ok.live _ z; rw [get_size] at e; cases e
  have hOa : ¬ Own env s.heap.objs.size := fun z => hXa (o.ok.own _ z)
  have hne : ∀ z, Dom α z → ad z ≠ s.heap.objs.size := fun z hz e => hXa (e ▸ o.MA_X _ (.inr ⟨z, hz, rfl⟩))
  have ha₅ : s₅.heap.get? s.heap.objs.size = some (LCg.lst []) := k₅.get (fun z => z.elim hOa fun ⟨z, hz, e⟩ => hne z hz e.symm) ha₄
  refine wpAny_mono (o₅.promote hx hα' (by rw [lookup_cons_ne hxy]; exact hρ) (.inr rfl) hOa hne ha₅) (fun _ s₆ ⟨k₆, o₆⟩ => ?_) fun _ _ x => x
  refine wpAny_pure ?_
  have kk : KeepM (MA env ad α) s s₆ := (KeepM.of_keeps ((Grows.push.tr k₂).tr (k₃.tr k₄))).trans (k₅.trans (k₆.mono fun b h => .inl h))
  refine Ret.after o hN (kk.mono fun b h => .inl h) o₆ (fun z hz => ?_) h
  by_cases e : z = x
  · exact .inr (if_pos e)
  · exact .inl ⟨(dom_cons.mp hz).resolve_left e, if_neg e⟩
end
end Mine

namespace Mine
open PySem.Calls

theorem dom_mem {α : Alpha} {x : Str} (h : Dom α x) : x ∈ α.map (·.1) := by
  induction α with
  | nil => cases h
  | cons p r ih =>
    obtain ⟨y, os⟩ := p
    rcases dom_cons.mp h with rfl | h
    · exact .head _
    · exact .tail _ (ih h)
theorem noNames {new : Rho} {α : Alpha} (xs ys : List Str) (h : ∀ y ∈ xs, y ∉ ys := by decide) (e₁ : names new = xs := by rfl) (e₂ : α.map (·.1) = ys := by rfl) : ∀ x ∈ names new, ¬ Dom α x := fun x hx hd => by
  subst e₁ e₂
  exact h x hx (dom_mem hd)

/-- what the program's top holds when the law is called -/
structure Tops (G : Heap) (mg mb : Str → Option Value) : Prop extends Base G mg mb where
  defs : ∀ (n : Nat) (x : Str), (x, n) ∈ ([("array_kind", 17), ("many_of", 20), ("strides_of", 21), ("check_sizes", 23), ("is_array", 24), ("parent_of", 25), ("sizes_of", 26), ("layout_of", 27), ("places_of", 28), ("items_of", 29), ("made", 30), ("folded", 32), ("along", 33), ("without_rank", 34), ("reduced", 35), ("running", 36), ("taken_row", 38), ("view_of", 41), ("line_views", 42), ("_law_supply", 44), ("_law_out", 45), ("_law_rows", 47), ("_law_from_left", 48), ("_law_lines", 49)] : List (Str × Nat)) →
    ∃ f, mg x = some (.ref f) ∧ IsDefN G f n
  bt : ∀ x ∈ (["tuple", "range", "list", "int", "enumerate", "zip"] : List String), mg x = none ∧ mb x = some (.type x)
  bf : ∀ x ∈ (["len", "isinstance", "chr", "ord"] : List String), mg x = none ∧ mb x = some (.builtin x)
  most : ∃ t, mg "MOST_ITEMS" = some (.int 20000 t)
  named : ∃ f T o d n p b s, mg "named" = some (.ref f) ∧ defAt 13 = some (p, b, s) ∧ IsDefV G (.ref T) f p b s ∧ G.get? T = some o ∧ o.data = .seq #[d] n

section
variable {prog : Program} {w : World} {G : Heap} {A : Around} {env : Env} {ρ ρ' ρ'' : Rho} {E : Value → Shared → Prop} {s s' : Shared} {X X₀ M W : Addr → Prop} {D : Addr} {os os' : List Den} {mg mb : Str → Option Value} {α α' α'' : Alpha} {ad ad' : Str → Addr}

theorem Ev.bt {x : String} {pos : Pos} (T : Tops G mg mb) (hk : env.kindOf x = some .globalImplicit) (hx : x ∈ (["tuple", "range", "list", "int", "enumerate", "zip"] : List String) := by decide) (hd : ((x : Str) == ("__debug__" : Str)) = false := by decide) : Ev prog w G A env ρ (.Name x pos) (dVal (.type x)) :=
  Ev.builtin T.toBase hk (T.bt x hx).1 (T.bt x hx).2 hd
theorem Ev.bf {x : String} {pos : Pos} (T : Tops G mg mb) (hk : env.kindOf x = some .globalImplicit) (hx : x ∈ (["len", "isinstance", "chr", "ord"] : List String) := by decide) (hd : ((x : Str) == ("__debug__" : Str)) = false := by decide) : Ev prog w G A env ρ (.Name x pos) (dVal (.builtin x)) :=
  Ev.builtin T.toBase hk (T.bf x hx).1 (T.bf x hx).2 hd
end

local macro_rules | `(tactic| walk_at "sig") => `(tactic| exact ⟨fun name qual kV doc pm an cdv ct vs hl => by (first | (match vs, hl with | [_], _ => with_unfolding_all rfl) | (match vs, hl with | [_, _], _ => with_unfolding_all rfl) | (match vs, hl with | [_, _, _], _ => with_unfolding_all rfl) | (match vs, hl with | [_, _, _, _, _], _ => with_unfolding_all rfl)), by decide +kernel, by decide +kernel, by decide +kernel, rfl, rfl, rfl⟩)

section
variable {w : World} {G : Heap} {A : Around} {mg mb : Str → Option Value}

theorem strides_of_ok {f : Addr} {k : Nat} (T : Tops G mg mb) (hd : IsDefN G f 21) (hr : Room (k + 1) A) (sizes : List Int) (hm : ∀ i x, sizes[i]? = some x → IntMulOk (prodI (sizes.take i)) x) (hz : sizes.length ≤ 100) :
    CallOk P0 w G A (dDef G f) [dTup (sizes.map dInt)] (dTup ((stridesI 1 sizes).map dInt)) := by
  obtain ⟨p, b, s, e, hd⟩ := hd
  cases (show defAt 21 = some (_, _, _) from rfl).symm.trans e
  refine CallOk.ret (ns := ["sizes"]) T.toBase hd (by walk_at "sig") rfl hr fun A env hr' hfe => ?_
  obtain ⟨L, a, q, c, rfl⟩ := hfe
  refine Ret.openPair hr'.1 (.inl rfl) (.inl rfl) Ev.cint ?_ (by with_unfolding_all rfl) (fun _ => rfl)
  refine Ret.cons (Step.loop (fun i => [("far", dInt (prodI (sizes.take i))), ("sizes", dTup (sizes.map dInt))]) (fun i => [("found", (stridesI 1 (sizes.take i)).map dInt)]) (EvIt.tup hr'.1 (Ev.name rfl)) (.cons rfl (.cons rfl .nil)) rfl (fun _ _ => by simp [dom_cons]) fun i d hd => ?_) ?_ (fun _ => by simp [dom_cons])
  · obtain ⟨x, hx, rfl⟩ := map_get hd
    refine ⟨[("size", dInt x)], AsgnOk.name (.inl rfl) (fun b h => h.own), noNames ["size"] ["found"], ?_⟩
    refine Step.cons (Step.append (Ev.name rfl) (d := dInt (prodI (sizes.take i))) rfl (RepA.head) ?_) ?_ (fun _ => by simp [dom_cons])
    · rw [List.length_map, stridesI_length, List.length_take, sizeLine_eq]; omega
    · rw [stridesI_take hx, List.map_append, Int.one_mul]
      exact (Step.assign (.inl rfl) (Ev.bin (Ev.name rfl) (Ev.name rfl) (Bin.mul (hm i x hx)))).out (.cons (by rw [prodI_take hx]; rfl) (.cons rfl .nil))
  · rw [List.length_map, List.take_length]
    exact Ret.close (Ret.ret (Ev.call CallOk.tuple_lst (Ev.bt T rfl) ⟨Ev.name rfl, trivial⟩))
end
end Mine

namespace Mine
open PySem.Calls
open Sem (wp)
open AutoSeq1 (wpAny_loadPart')

section
variable {prog : Program} {w : World} {A : Around} {E : Value → Shared → Prop} {s : Shared}

theorem nextOf_tuple_item {it t : Addr} {i : Nat} {items : Array Value} {x : Value} {Q : Value → Shared → Prop} (hit : s.heap.IsTupleIter it t i) (ht : s.heap.IsTuple t items) (hx : items[i]? = some x)
    (hQ : ∀ h', h'.IsTupleIter it t (i + 1) → Heap.SameBut it s.heap h' → Q x { s with heap := h' }) : wpAny (model prog w) A (Builtin.SmallTypes.nextOf (.ref it)) Q E s := by
  obtain ⟨o, ho, hc, hd⟩ := id hit
  obtain ⟨ot, hot, _, nt, hdt⟩ := ht
  unfold Builtin.SmallTypes.nextOf
  refine wpAny_bind (wpAny_callSpecial?_slot (name := Str.ofString "__next__") hit.typeIs F.slot_tuple_iterator_next
    (wpAny_call_entry F.slot_tuple_iterator_next hit.typeIs F.entry_tuple_iterator_next ?_ (F.args_tuple_iterator_next_1 _)))
  show wpAny _ _ (field (.ref it) 0 >>= _) _ _ s
  refine wpAny_bind (wpAny_field ho hd (x := .ref t) rfl ?_)
  show wpAny _ _ (if (Value.ref t == Value.none) = true then _ else _) _ _ s
  rw [if_neg (show ¬ ((Value.ref t == Value.none) = true) from Bool.false_ne_true)]
  show wpAny _ _ (field (.ref it) 1 >>= _) _ _ s
  refine wpAny_bind (wpAny_field ho hd (x := .int i 0) rfl ?_)
  show wpAny _ _ (seqItems? (.ref t) >>= _) _ _ s
  refine wpAny_bind (wpAny_seqItems hot hdt ?_)
  simp only [Int.toNat_natCast, hx]
  refine wpAny_bind (wpAny_setField ho hd (by simp) (wpAny_pure ⟨x, rfl, wpAny_pure (hQ _ ⟨_, Heap.get?_update_self _ ho (Obj.isFreed_of_fields (Obj.data_mapFields hd _)), (Obj.cls_mapFields ..).trans hc, ?_⟩ (Heap.SameBut.update ..))⟩))
  rw [Obj.data_mapFields hd]; simp [rawInt]

theorem nextOf_tuple_end {it t : Addr} {i : Nat} {items : Array Value} {Q : Value → Shared → Prop} (hh : A.handled = none) (hit : s.heap.IsTupleIter it t i) (ht : s.heap.IsTuple t items) (hx : items[i]? = none)
    (hE : ∀ h' e, Heap.ExtBut it s.heap h' → (∃ o, h'.get? e = some o ∧ o.cls = .type "StopIteration") → E (.ref e) { s with heap := h' }) : wpAny (model prog w) A (Builtin.SmallTypes.nextOf (.ref it)) Q E s := by
  obtain ⟨o, ho, hc, hd⟩ := id hit
  obtain ⟨ot, hot, _, nt, hdt⟩ := ht
  unfold Builtin.SmallTypes.nextOf
  refine wpAny_bind (wpAny_callSpecial?_slot (name := Str.ofString "__next__") hit.typeIs F.slot_tuple_iterator_next
    (wpAny_call_entry F.slot_tuple_iterator_next hit.typeIs F.entry_tuple_iterator_next ?_ (F.args_tuple_iterator_next_1 _)))
  show wpAny _ _ (field (.ref it) 0 >>= _) _ _ s
  refine wpAny_bind (wpAny_field ho hd (x := .ref t) rfl ?_)
  show wpAny _ _ (if (Value.ref t == Value.none) = true then _ else _) _ _ s
  rw [if_neg (show ¬ ((Value.ref t == Value.none) = true) from Bool.false_ne_true)]
  show wpAny _ _ (field (.ref it) 1 >>= _) _ _ s
  refine wpAny_bind (wpAny_field ho hd (x := .int i 0) rfl ?_)
  show wpAny _ _ (seqItems? (.ref t) >>= _) _ _ s
  refine wpAny_bind (wpAny_seqItems hot hdt ?_)
  simp only [Int.toNat_natCast, hx]
  refine wpAny_bind (wpAny_rule (wpAny_bind (wpAny_setField ho hd (by simp) ?_)))
  show wpAny _ _ (newExc (.type "StopIteration") [] >>= _) _ _ _
  refine wpAny_bind ?_
  simp only [newExc, newTuple]
  refine wpAny_bind (wpAny_newObj_type ?_ (by size_fits))
  refine wpAny_bind (m := firstArgMember _ _) (wpAny_of_eq (a := Value.none) (by first | rfl | (simp only [firstArgMember]; rfl)) ?_)
  refine wpAny_newObj_type ?_ (by size_fits)
  simp only [raiseNew]
  refine wpAny_bind (wpAny_handled ?_)
  first | rw [show A.in1.handled = none from hh] | rw [hh]
  refine wpAny_bind (wpAny_pure (wpAny_throw (hE _ _ (((Heap.SameBut.update ..).extBut.push _).push _) ⟨_, Heap.get?_push_size _ rfl, rfl⟩)))
end

/-- a list or a tuple as a source of items: its iterator's object o, its states St -/
structure ItOf (l : Addr) (lo : Obj) (vs : List Value) (o : Obj) (St : Addr → Nat → Heap → Prop) : Prop where
  free : o.isFreed = false
  iter : ∀ (prog : Program) (w : World) (A : Around) (E : Value → Shared → Prop) (s : Shared) (Q : Value → Shared → Prop), s.heap.get? l = some lo → Q (.ref s.heap.objs.size) { s with heap := s.heap.push o } →
    wpAny (model prog w) A (pyIter (.ref l)) Q E s
  start : ∀ it h, h.get? it = some o → h.get? l = some lo → St it 0 h
  draws : ∀ (prog : Program) (w : World) (A : Around) (it : Addr), A.handled = none → l ≠ it → Draws prog w A it [it, l] vs.length (fun i v => vs[i]? = some v) (St it)

theorem itOf_lst {l : Addr} {n : Nat} {vs : List Value} : ItOf l { cls := .type "list", data := .seq vs.toArray n } vs { cls := .type "list_iterator", data := .fields #[.ref l, .int 0 0] } (fun it i h => h.IsListIter it l i ∧ h.IsList l vs.toArray) where
  free := rfl
  iter := fun prog w A E s Q e hQ => wpAny_pyIter_list (items := vs.toArray) ⟨_, e, rfl, n, rfl⟩ hQ
  start := fun it h e e' => ⟨⟨_, e, rfl, rfl⟩, _, e', rfl, n, rfl⟩
  draws := fun prog w A it hh hne => by
    have := Draws.list (prog := prog) (w := w) hh it l hne vs.toArray
    simpa using this
theorem itOf_tup {l : Addr} {n : Nat} {vs : List Value} : ItOf l { cls := .type "tuple", data := .seq vs.toArray n } vs { cls := .type "tuple_iterator", data := .fields #[.ref l, .int 0 0] } (fun it i h => h.IsTupleIter it l i ∧ h.IsTuple l vs.toArray) where
  free := rfl
  iter := fun prog w A E s Q e hQ => wpAny_pyIter_tuple (items := vs.toArray) ⟨_, e, rfl, n, rfl⟩ hQ
  start := fun it h e e' => ⟨⟨_, e, rfl, rfl⟩, _, e', rfl, n, rfl⟩
  draws := fun prog w A it hh hne =>
    { live := fun _ _ st => let ⟨o, ho, _⟩ := st.1; ⟨o, ho⟩
      frame := fun _ _ _ st hk => ⟨st.1.at fun o e => hk it (by simp) o e, (let ⟨o, ho, r⟩ := st.2; ⟨o, hk l (by simp) o ho, r⟩)⟩
      item := fun i s Q E hi st hQ => by
        refine nextOf_tuple_item st.1 st.2 (x := vs[i]) (by simp [hi]) fun h' hit' hs' => ?_
        exact hQ _ h' s.toks (by simp [hi]) ⟨hit', st.2.extBut hs'.extBut hne⟩ hs'
      done := fun s Q E st hE => nextOf_tuple_end hh st.1 st.2 (by simp) hE }

def SeqKind (k : String) : Prop := k = "list" ∨ k = "tuple"
theorem itOf_any {k : String} (hk : SeqKind k) (l : Addr) (n : Nat) (vs : List Value) : ∃ o St, ItOf l { cls := .type k, data := .seq vs.toArray n } vs o St := by
  rcases hk with rfl | rfl
  · exact ⟨_, _, itOf_lst⟩
  · exact ⟨_, _, itOf_tup⟩

/- enumerate -/
theorem meets_enum {l : Addr} {lo : Obj} {vs : List Value} {o : Obj} {St : Addr → Nat → Heap → Prop} (I : ItOf l lo vs o St) :
    Meets (Builtin.«enumerate.__new__» ⟨[.type "enumerate", .ref l], []⟩) (fun _ R s => s.heap.get? l = some lo ∧
      R (.ok (.ret (.ref (s.heap.push o).objs.size))) { s with heap := (s.heap.push o).push { cls := .type "enumerate", data := .fields #[.none, .bool false, .ref s.heap.objs.size, rawInt 0, .none, .none] } }) :=
  .of_wp fun prog w A R s h => by
    obtain ⟨hp, g, d, tk, os⟩ := s; obtain ⟨hl, h⟩ := h
    have hsub := sub_enumerate
    have hL : (Shared.heap ⟨hp, g, d, tk, os⟩).get? l = some lo := hl
    have hI : ∀ {A : Around} {E : Value → Shared → Prop} {Q : Value → Shared → Prop}, Q (.ref hp.objs.size) ⟨hp.push o, g, d, tk, os⟩ → wpAny (model prog w) A (pyIter (.ref l)) Q E ⟨hp, g, d, tk, os⟩ := fun {A E Q} h => I.iter prog w A E ⟨hp, g, d, tk, os⟩ Q hl h
    clear hl hL
    wp_walk using hI
    refine wpAny_stack_any fun st => wpAny_pure ?_
    split
    · rename_i c _ _ _ _ _
      cases (c == Value.type "enumerate")
      · wp_walk using hI
        exact ⟨_, rfl, h⟩
      · wp_walk using hI
        exact ⟨_, rfl, h⟩
    · wp_walk using hI
      exact ⟨_, rfl, h⟩
end Mine

namespace Mine
open PySem.Calls
open Sem (wp)

section
variable {prog : Program} {w : World} {G : Heap} {A : Around} {env : Env} {ρ : Rho} {E : Value → Shared → Prop} {s s' : Shared} {X : Addr → Prop} {mg mb : Str → Option Value}
  {l : Addr} {lo : Obj} {vs : List Value} {o : Obj} {St : Addr → Nat → Heap → Prop}

theorem call_enum (I : ItOf l lo vs o St) {Q : Value → Shared → Prop} (hl : s.heap.get? l = some lo)
    (h : ∀ h', IsEnum h' (s.heap.objs.size + 1) s.heap.objs.size 0 .none → h'.get? s.heap.objs.size = some o → (∀ b o, s.heap.get? b = some o → h'.get? b = some o) → Q (.ref (s.heap.objs.size + 1)) { s with heap := h' }) :
    wpAny (model prog w) A (call (.type "enumerate") [.ref l]) Q E s := by
  refine callType_new F.called_enumerate (by decide) (F.typeCall_enumerate_1 _) (F.newCall_enumerate_1 _) (fun obj => F.args_object_init_2 obj _) F.entry_enumerate_new (meets_enum I) ⟨hl, ?_⟩
  have hz : (s.heap.push o).objs.size = s.heap.objs.size + 1 := Heap.size_push ..
  show _ ∧ _
  rw [hz]
  have he : IsEnum ((s.heap.push o).push { cls := .type "enumerate", data := .fields #[.none, .bool false, .ref s.heap.objs.size, rawInt 0, .none, .none] }) (s.heap.objs.size + 1) s.heap.objs.size 0 .none := by
    have := Heap.get?_push_size (s.heap.push o) (o := { cls := .type "enumerate", data := .fields #[.none, .bool false, .ref s.heap.objs.size, rawInt 0, .none, .none] }) rfl
    rw [hz] at this; exact this
  exact ⟨⟨_, he, rfl⟩, h _ he (Heap.get?_push_of_some _ (Heap.get?_push_size _ I.free)) fun b o x => Heap.get?_push_of_some _ (Heap.get?_push_of_some _ x)⟩

/-- a call of a name, its answer used at once -/
theorem callEv {x : Str} {p pos : Pos} {args : List Expr} {fd : Den} {ds : List Den} {Q : Value → Shared → Prop} (ok : Ok G X env ρ s) (hn : Ev prog w G A env ρ (.Name x p) fd) (ha : All2 (fun e d => Ev prog w G A env ρ e d) args ds)
    (keeper : ∀ (g : View) (h : Heap) (f : Value), (∀ a o, g a o → h.get? a = some o) → fd.is g f → ∃ k, (k = Keeper.frame ∨ k = Keeper.machine ∨ k = Keeper.boundFrame) ∧ Looks (model prog w) h (keeperOf f) k)
    (run : ∀ s₂ f vs, Grows s s₂ → Ok G X env ρ s₂ → fd.is (vw X s₂.heap) f → All2 (fun d v => d.is (vw X s₂.heap) v) ds vs → wpAny (model prog w) A (call f vs) Q E s₂)
    (hp : ∀ env, starEach args env = args.map (fun e => (false, eval e env)) := by intro _; rfl) : wpAny (model prog w) A (eval (.Call (.Name x p) args [] pos) env) Q E s := by
  refine wpAny_Call_NameR (hn.use ok fun f s₁ k₁ ok₁ hf => ?_)
  have hplain : ((backTo pos (starEach args env)).any (·.1) || ([] : List (Option Str × Sem Value)).any (·.1.isNone)) = false := by
    rw [hp env]
    simp [backTo, List.any_map, Function.comp_def]
  refine callWith_of (P := fun h => ∃ s, h = s.heap ∧ Grows s₁ s) hplain (fun h ⟨s₂, e, k₂⟩ => keeper (vw X h) h f (fun a o q => q.1) (e ▸ Den.keeps fd k₂ hf)) ?_
  have fin : wpAny (model prog w) A (spliced (backTo pos (starEach args env))) (fun vs s₂ => (∃ s, s₂.heap = s.heap ∧ Grows s₁ s) ∧ wpAny (model prog w) A (call f ([] ++ vs) []) Q E s₂) E s₁ :=
    wpAny_mono (Evs.spliced ha (hp env) ok₁) (fun vs s₂ ⟨k₂, hvs⟩ => ⟨⟨s₂, rfl, k₂⟩, run s₂ f vs (k₁.tr k₂) (ok₁.keeps k₂) (Den.keeps fd k₂ hf) hvs⟩) fun _ _ x => x
  cases args with
  | nil =>
    cases ds with
    | nil => exact evalArgs_nil3 ⟨⟨s₁, rfl, Grows.rfl' s₁⟩, run s₁ f [] k₁ ok₁ hf trivial⟩
    | cons => exact ha.elim
  | cons e es =>
    have hs := hp env
    rw [hs] at fin ⊢
    exact Calls.evalArgs_plain fin

def enumD (ds : List Den) (i : Nat) (d : Den) : Den := dTup [dInt i, d]
def enumL (ds : List Den) : List Den := (List.range ds.length).map fun i => dTup [dInt (Int.ofNat i), ds.getD i dNone]

theorem enumL_get {ds : List Den} {i : Nat} {d : Den} (h : (enumL ds)[i]? = some d) : ∃ d', ds[i]? = some d' ∧ d = dTup [dInt (i : Int), d'] := by
  unfold enumL at h
  rw [List.getElem?_map] at h
  obtain ⟨j, hj, rfl⟩ := Option.map_eq_some_iff.mp h
  have := List.getElem?_eq_some_iff.mp hj
  obtain ⟨hlt, q⟩ := this
  rw [List.getElem_range] at q
  subst q
  rw [List.length_range] at hlt
  exact ⟨ds[i], List.getElem?_eq_getElem hlt, by rw [List.getD_eq_getElem?_getD, List.getElem?_eq_getElem hlt]; rfl⟩

theorem Feed.enum {elts : List Expr} {k : Nat} {pos : Pos} {e it : Addr} {ds : List Den} (hh : A.handled = none) (I : ItOf l lo vs o St) (hel : e ≠ l) (hil : it ≠ l) (hei : e ≠ it) (hX : X e ∧ X it) (hXl : ¬ X l) (h₀ : Heap) (hv : All2 (fun d v => d.is (vw X h₀) v) ds vs) :
    Feed prog w A X e (.Tuple elts k pos) (fun b => b = e ∨ b = it) (enumL ds) (fun i h => (∃ old, IsEnum h e it i old) ∧ St it i h ∧ ∀ a o, vw X h₀ a o → vw X h a o) := by
  have D := I.draws prog w A.in1 it hh (Ne.symm hil)
  have hlen : vs.length = (enumL ds).length := by rw [← hv.length, enumL, List.length_map, List.length_range]
  refine ⟨fun i h h' st kk => ?_, fun i h b st hb => ?_, fun i s d E hlv hd st => ?_, fun s E st => ?_, fun i s E st => ?_⟩
  · obtain ⟨⟨old, he⟩, hs, hk⟩ := st
    refine ⟨⟨old, kk e _ (.inr (.inl rfl)) he⟩, D.frame _ _ _ hs fun b hb o x => kk b o ?_ x, fun a o q => ⟨kk a o (.inl q.2) (hk a o q).1, q.2⟩⟩
    simp only [List.mem_cons, List.not_mem_nil, or_false] at hb
    rcases hb with rfl | rfl
    · exact .inr (.inr rfl)
    · exact .inl hXl
  · obtain ⟨⟨old, he⟩, hs, hk⟩ := st
    rcases hb with rfl | rfl
    · exact ⟨_, he⟩
    · exact D.live _ _ hs
  · obtain ⟨⟨old, he⟩, hs, hk⟩ := st
    obtain ⟨d', hd', rfl⟩ := enumL_get hd
    obtain ⟨v, hv', hdv⟩ := hv.get hd'
    have hi : i < vs.length := (List.getElem?_eq_some_iff.mp hv').1
    have helt : e < s.heap.objs.size := Heap.lt_size he
    refine wpAny_pyNext_enum_itemD D he hs hi hei (by simp [hei, hel]) fun x h' tk hP ho hs' hT hsz hkk => ⟨_, rfl, ?_⟩
    have hx : x = v := by rw [hv'] at hP; cases hP; rfl
    subst hx
    refine wpAny_letOwnedTupleGo_enum ho fun h'' he' hs'' => ?_
    have k₂ : KeepM (fun b => b = e ∨ b = it) s ⟨h'', s.gens, s.drawn, tk + 1, s.os⟩ := ⟨h'', tk + 1, rfl, fun b ob hb eb => hs''.extBut b ob (fun z => hb (.inl z)) (hkk b ob (fun z => hb (.inl z)) (fun z => hb (.inr z)) eb)⟩
    have up : ∀ a o, vw X h₀ a o → vw X h'' a o := fun a ob q => ⟨k₂.get (fun z => q.2 (z.elim (fun z => z ▸ hX.1) fun z => z ▸ hX.2)) (hk a ob q).1, q.2⟩
    refine ⟨k₂, ⟨⟨x, by simpa using he'⟩, D.frame _ _ _ hs' fun b hb ob y => hs''.extBut b ob (fun z => ?_) y, up⟩, s.heap.objs.size, 0, [.int i tk, x], rfl, ⟨?_, ?_⟩, ?_, ⟨tk, rfl⟩, d'.mono up hdv, trivial⟩
    · subst z
      simp [hei, hel] at hb
    · exact hs''.extBut _ _ (Nat.ne_of_gt helt) hT
    · intro z
      obtain ⟨ob, eb⟩ := hlv _ z
      rw [get_size] at eb; cases eb
    · rw [sizeLine_eq]; show 2 ≤ _; decide
  · obtain ⟨⟨old, he⟩, hs, hk⟩ := st
    rw [← hlen] at he hs
    refine wpAny_pyNext_enum_endD D he hs fun h' hx => ⟨rfl, h', s.toks, rfl, fun b ob hb eb => hx b ob (fun z => hb (.inr z)) eb⟩
  · obtain ⟨⟨old, he⟩, hs, hk⟩ := st
    exact wpAny_pyIter_enum he ⟨rfl, rfl⟩
end
end Mine

namespace Mine
open PySem.Calls
open Sem (wp)

section
variable {prog : Program} {w : World} {G : Heap} {A : Around} {env : Env} {ρ : Rho} {E : Value → Shared → Prop} {s s' : Shared} {X : Addr → Prop} {mg mb : Str → Option Value}
  {l : Addr} {lo : Obj} {vs : List Value} {o : Obj} {St : Addr → Nat → Heap → Prop}

theorem get_none {h : Heap} {b : Addr} (hb : h.objs.size ≤ b) : h.get? b = none := by
  cases e : h.get? b with
  | none => rfl
  | some o => exact absurd (Heap.lt_size e) (Nat.not_lt.mpr hb)

theorem EvIt.enum {elts : List Expr} {k : Nat} {pos pos' p q : Pos} {y : Str} {kd : String} {ds : List Den} (T : Tops G mg mb) (hh : A.handled = none) (hk : env.kindOf "enumerate" = some .globalImplicit) (sk : SeqKind kd)
    (he : Ev prog w G A env ρ (.Name y q) (dSeq kd ds)) : EvIt prog w G A env ρ (.Tuple elts k pos) (.Call (.Name "enumerate" p) [.Name y q] [] pos') (enumL ds) := fun X s E ok => by
  refine callEv (fd := dVal (.type "enumerate")) (ds := [dSeq kd ds]) ok (Ev.bt T hk) ⟨he, trivial⟩ (keep_val (fun a e => by cases e)) fun s₂ f vs k₂ ok₂ hf hv => ?_
  have hf' : f = .type "enumerate" := hf
  subst hf'
  match vs, hv with
  | [v], ⟨⟨l, n, us, e, ha, hz, hus⟩, _⟩ =>
    subst e
    obtain ⟨o, St, I⟩ := itOf_any sk l n us
    refine call_enum I ha.1 fun h' hen hit hgr => ?_
    refine wpAny_pyIter_enum hen ⟨_, rfl, ?_, ?_⟩
    · exact k₂.tr ⟨h', s₂.toks, rfl, hgr⟩
    · have hn1 : ∀ b, b = s₂.heap.objs.size + 1 ∨ b = s₂.heap.objs.size → s₂.heap.get? b = none := fun b hb => get_none (by rcases hb with rfl | rfl; exact Nat.le_succ _; exact Nat.le_refl _)
      refine ⟨fun b => b = s₂.heap.objs.size + 1 ∨ b = s₂.heap.objs.size, fun b hb => k₂.none (hn1 b hb), fun b hb => ?_, fun X' hw hX => ?_⟩
      · rcases hb with rfl | rfl
        · exact ⟨_, hen⟩
        · exact ⟨_, hit⟩
      · have hlt : l < s₂.heap.objs.size := Heap.lt_size ha.1
        have up : ∀ a o', vw X s₂.heap a o' → vw X' h' a o' := fun a o' q => by
          have e := hgr a o' q.1
          refine ⟨e, fun z => ?_⟩
          rcases hX a o' z e with h | h
          · exact q.2 h
          · have := hn1 a h; rw [q.1] at this; cases this
        have hXl : ¬ X' l := (up l _ ha).2
        refine ⟨_, Feed.enum hh I (fun e => ?_) (fun e => ?_) (fun e => ?_) ⟨hw _ (.inl rfl), hw _ (.inr rfl)⟩ hXl h' (hus.mono fun d v q => d.mono up q), fun h kk => ⟨⟨.none, kk _ _ hen⟩, I.start _ _ (kk _ _ hit) (kk _ _ (hgr _ _ ha.1)), fun a o' q => ⟨kk a o' q.1, q.2⟩⟩⟩
        · rw [← e] at hlt; exact absurd hlt (Nat.not_lt.mpr (Nat.le_succ _))
        · rw [← e] at hlt; exact absurd hlt (Nat.lt_irrefl _)
        · exact absurd e (Nat.ne_of_gt (Nat.lt_succ_self _))
end
end Mine

namespace Mine
open PySem.Calls
open Sem (wp)

section
variable {prog : Program} {w : World} {A : Around} {E : Value → Shared → Prop} {s s' : Shared}

theorem fr1 {it l c : Addr} {n i : Nat} {P : Nat → Value → Prop} {St : Nat → Heap → Prop} {h h' : Heap} (D : Draws prog w A it [it, l] n P St) (st : St i h) (hk : Heap.ExtBut c h h') (h1 : it ≠ c) (h2 : l ≠ c) : St i h' :=
  D.frame _ _ _ st fun b hb o e => hk b o (by
    simp only [List.mem_cons, List.not_mem_nil, or_false] at hb
    rcases hb with rfl | rfl
    · exact h1
    · exact h2) e

theorem zip_item {z TI TO i1 i2 l1 l2 : Addr} {k1 k2 n1 n2 : Nat} {P1 P2 : Nat → Value → Prop} {S1 S2 : Nat → Heap → Prop} {a b : Value} {Q : Value → Shared → Prop} (D : ZipApart z TI TO i1 i2 l1 l2)
    (D1 : Draws prog w A i1 [i1, l1] n1 P1 S1) (D2 : Draws prog w A i2 [i2, l2] n2 P2 S2)
    (hz : IsZip s.heap z TI TO .none) (hTI : IsPair s.heap TI (.ref i1) (.ref i2)) (hTO : IsPair s.heap TO a b)
    (h1 : S1 k1 s.heap) (h2 : S2 k2 s.heap) (hx : k1 < n1) (hy : k2 < n2)
    (hQ : ∀ h' tk x y, P1 k1 x → P2 k2 y → IsZip h' z TI TO (rawInt s.heap.objs.size) → IsPair h' TO x y → S1 (k1 + 1) h' → S2 (k2 + 1) h' → IsPair h' s.heap.objs.size x y →
      (∀ c o, c ≠ z → c ≠ TO → c ≠ i1 → c ≠ i2 → s.heap.get? c = some o → h'.get? c = some o) → Q (.ref s.heap.objs.size) { s with heap := h', toks := tk }) :
    wpAny (model prog w) A (Builtin.«zip.__next__» ⟨[.ref z], []⟩) (fun fin s' => ∃ v, fin = .done (.ret v) ∧ Q v s') E s := by
  show wpAny _ _ (field (.ref z) 2 >>= _) _ _ _
  refine wpAny_bind (wpAny_field hz rfl (x := .bool false) rfl ?_)
  show wpAny _ _ (field (.ref z) 3 >>= _) _ _ _
  refine wpAny_bind (wpAny_field hz rfl (x := .ref TI) rfl ?_)
  refine wpAny_bind (wpAny_seqItems hTI rfl ?_)
  show wpAny _ _ (Builtin.SmallTypes.ownedTupleIsFree (.ref z) >>= _) _ _ _
  refine wpAny_bind ?_
  unfold Builtin.SmallTypes.ownedTupleIsFree
  refine wpAny_bind (wpAny_field hz rfl (x := .none) rfl (wpAny_pure ?_))
  simp only [if_true]
  refine wpAny_bind (wpAny_rule ?_)
  refine wpAny_bind (wpAny_field hz rfl (x := .ref TO) rfl ?_)
  refine wpAny_bind (wpAny_setField_rec hz (by simp) fun h₁ hz₁ hs₁ => ?_)
  replace hz₁ : IsZip h₁ z TI TO .ellipsis := hz₁
  refine wpAny_bind ?_
  simp only [List.zipIdx_cons, List.zipIdx_nil, List.forIn_cons, List.forIn_nil]
  refine wpAny_bind (wpAny_bind (wpAny_onRaise ?_))
  show wpAny _ _ (Builtin.SmallTypes.nextOf (.ref i1) >>= _) _ _ _
  refine wpAny_bind (D1.item k1 _ _ _ hx (fr1 D1 h1 hs₁.extBut D.i1z D.l1z) fun x h₂ tk₂ px h1₂ hs₂ => wpAny_pure ?_)
  have hTO₂ : IsPair h₂ TO a b := hs₂.extBut _ _ D.TOi1 (hs₁.extBut _ _ D.TOz hTO)
  refine wpAny_bind (wpAny_seqItems hTO₂ rfl ?_)
  refine wpAny_bind (wpAny_updateSeq_pair hTO₂ fun h₃ hTO₃ hs₃ => ?_)
  replace hTO₃ : IsPair h₃ TO x b := hTO₃
  refine wpAny_bind (wpAny_letGo (wpAny_pure ?_))
  refine wpAny_bind (wpAny_bind (wpAny_onRaise ?_))
  show wpAny _ _ (Builtin.SmallTypes.nextOf (.ref i2) >>= _) _ _ _
  have h2₃ : S2 k2 h₃ := fr1 D2 (fr1 D2 (fr1 D2 h2 hs₁.extBut D.i2z D.l2z) hs₂.extBut D.i12.symm D.l2i1) hs₃.extBut D.TOi2.symm D.l2TO
  refine wpAny_bind (D2.item k2 _ _ _ hy h2₃ fun y h₄ tk₄ py h2₄ hs₄ => wpAny_pure ?_)
  have hTO₄ : IsPair h₄ TO x b := hs₄.extBut _ _ D.TOi2 hTO₃
  refine wpAny_bind (wpAny_seqItems hTO₄ rfl ?_)
  refine wpAny_bind (wpAny_updateSeq_pair hTO₄ fun h₅ hTO₅ hs₅ => ?_)
  replace hTO₅ : IsPair h₅ TO x y := hTO₅
  refine wpAny_bind (wpAny_letGo (wpAny_pure (wpAny_pure ?_)))
  refine wpAny_bind (wpAny_seqItems hTO₅ rfl ?_)
  refine wpAny_bind (wpAny_newTuple ?_)
  have hsz : h₅.objs.size = s.heap.objs.size := by rw [hs₅.1, hs₄.1, hs₃.1, hs₂.1, hs₁.1]
  have hz₅ : IsZip h₅ z TI TO .ellipsis := hs₅.extBut _ _ D.TOz.symm (hs₄.extBut _ _ D.i2z.symm (hs₃.extBut _ _ D.TOz.symm (hs₂.extBut _ _ D.i1z.symm hz₁)))
  have hk₅ : ∀ c o, c ≠ z → c ≠ TO → c ≠ i1 → c ≠ i2 → s.heap.get? c = some o → h₅.get? c = some o := fun c o c1 c2 c3 c4 e =>
    hs₅.extBut _ _ c2 (hs₄.extBut _ _ c4 (hs₃.extBut _ _ c2 (hs₂.extBut _ _ c3 (hs₁.extBut _ _ c1 e))))
  have h1₅ : S1 (k1 + 1) h₅ := fr1 D1 (fr1 D1 (fr1 D1 h1₂ hs₃.extBut D.TOi1.symm D.l1TO) hs₄.extBut D.i12 D.l1i2) hs₅.extBut D.TOi1.symm D.l1TO
  have h2₅ : S2 (k2 + 1) h₅ := fr1 D2 h2₄ hs₅.extBut D.TOi2.symm D.l2TO
  have hzlt : z < h₅.objs.size := Heap.lt_size hz₅
  show wpAny _ _ (Builtin.SmallTypes.ownedTupleHandOut (.ref z) (.ref h₅.objs.size) >>= _) _ _ _
  refine wpAny_bind ?_
  unfold Builtin.SmallTypes.ownedTupleHandOut
  have hz₆ : IsZip (h₅.push { cls := .type "tuple", data := .seq #[x, y] }) z TI TO .ellipsis := Heap.get?_push_of_some _ hz₅
  refine wpAny_bind (wpAny_setField_rec hz₆ (by simp) fun h₇ hz₇ hs₇ => ?_)
  replace hz₇ : IsZip h₇ z TI TO (rawInt h₅.objs.size) := hz₇
  refine wpAny_setField_rec hz₇ (by simp) fun h₈ hz₈ hs₈ => ?_
  replace hz₈ : IsZip h₈ z TI TO (rawInt h₅.objs.size) := hz₈
  have hT₈ : IsPair h₈ h₅.objs.size x y := hs₈.extBut _ _ (Nat.ne_of_gt hzlt) (hs₇.extBut _ _ (Nat.ne_of_gt hzlt) (Heap.get?_push_size _ rfl))
  have up : ∀ c o, c ≠ z → h₅.get? c = some o → h₈.get? c = some o := fun c o c1 e => hs₈.extBut _ _ c1 (hs₇.extBut _ _ c1 (Heap.get?_push_of_some _ e))
  rw [hsz] at hz₈ hT₈
  refine wpAny_pure ⟨_, rfl, ?_⟩
  show Q (.ref h₅.objs.size) _
  rw [hsz]
  have hx5 : Heap.ExtBut z h₅ h₈ := fun c o c1 e => up c o c1 e
  exact hQ h₈ _ x y px py hz₈ (up _ _ D.TOz hTO₅) (fr1 D1 h1₅ hx5 D.i1z D.l1z) (fr1 D2 h2₅ hx5 D.i2z D.l2z) hT₈ fun c o c1 c2 c3 c4 e => up c o c1 (hk₅ c o c1 c2 c3 c4 e)

theorem zip_end {z TI TO i1 i2 l1 l2 : Addr} {k n1 n2 : Nat} {P1 P2 : Nat → Value → Prop} {S1 S2 : Nat → Heap → Prop} {a b : Value} {Q : Fin → Shared → Prop} (D : ZipApart z TI TO i1 i2 l1 l2)
    (D1 : Draws prog w A i1 [i1, l1] n1 P1 S1) (D2 : Draws prog w A i2 [i2, l2] n2 P2 S2)
    (hz : IsZip s.heap z TI TO .none) (hTI : IsPair s.heap TI (.ref i1) (.ref i2)) (hTO : IsPair s.heap TO a b)
    (h1 : S1 k s.heap) (h2 : S2 k s.heap) (hend : k = n1 ∨ (k < n1 ∧ k = n2))
    (hE : ∀ h' tk e, (∀ c o, c ≠ z → c ≠ TO → c ≠ i1 → c ≠ i2 → s.heap.get? c = some o → h'.get? c = some o) → (∃ o, h'.get? e = some o ∧ o.cls = .type "StopIteration") → E (.ref e) { s with heap := h', toks := tk }) :
    wpAny (model prog w) A (Builtin.«zip.__next__» ⟨[.ref z], []⟩) Q E s := by
  show wpAny _ _ (field (.ref z) 2 >>= _) _ _ _
  refine wpAny_bind (wpAny_field hz rfl (x := .bool false) rfl ?_)
  show wpAny _ _ (field (.ref z) 3 >>= _) _ _ _
  refine wpAny_bind (wpAny_field hz rfl (x := .ref TI) rfl ?_)
  refine wpAny_bind (wpAny_seqItems hTI rfl ?_)
  show wpAny _ _ (Builtin.SmallTypes.ownedTupleIsFree (.ref z) >>= _) _ _ _
  refine wpAny_bind ?_
  unfold Builtin.SmallTypes.ownedTupleIsFree
  refine wpAny_bind (wpAny_field hz rfl (x := .none) rfl (wpAny_pure ?_))
  simp only [if_true]
  refine wpAny_bind (wpAny_rule ?_)
  refine wpAny_bind (wpAny_field hz rfl (x := .ref TO) rfl ?_)
  refine wpAny_bind (wpAny_setField_rec hz (by simp) fun h₁ hz₁ hs₁ => ?_)
  replace hz₁ : IsZip h₁ z TI TO .ellipsis := hz₁
  refine wpAny_bind ?_
  simp only [List.zipIdx_cons, List.zipIdx_nil, List.forIn_cons, List.forIn_nil]
  refine wpAny_bind (wpAny_bind (wpAny_onRaise ?_))
  show wpAny _ _ (Builtin.SmallTypes.nextOf (.ref i1) >>= _) _ _ _
  rcases hend with hx | ⟨hx, hy⟩
  · refine wpAny_bind (D1.done _ _ _ (by rw [← hx]; exact fr1 D1 h1 hs₁.extBut D.i1z D.l1z) fun h₂ e hs₂ he => ?_)
    obtain ⟨oe, hoe, hce⟩ := he
    have hz₂ : IsZip h₂ z TI TO .ellipsis := hs₂ _ _ D.i1z.symm hz₁
    have hez : e ≠ z := fun x => by subst x; rw [hz₂] at hoe; cases hoe; simp at hce
    refine wpAny_setField_rec hz₂ (by simp) fun h₃ _ hs₃ => hE h₃ s.toks e (fun c o c1 _ c3 _ x => hs₃.extBut _ _ c1 (hs₂ _ _ c3 (hs₁.extBut _ _ c1 x))) ⟨oe, hs₃.extBut _ _ hez hoe, hce⟩
  · refine wpAny_bind (D1.item k _ _ _ hx (fr1 D1 h1 hs₁.extBut D.i1z D.l1z) fun x h₂ tk₂ px h1₂ hs₂ => wpAny_pure ?_)
    have hTO₂ : IsPair h₂ TO a b := hs₂.extBut _ _ D.TOi1 (hs₁.extBut _ _ D.TOz hTO)
    refine wpAny_bind (wpAny_seqItems hTO₂ rfl ?_)
    refine wpAny_bind (wpAny_updateSeq_pair hTO₂ fun h₃ hTO₃ hs₃ => ?_)
    refine wpAny_bind (wpAny_letGo (wpAny_pure ?_))
    refine wpAny_bind (wpAny_bind (wpAny_onRaise ?_))
    show wpAny _ _ (Builtin.SmallTypes.nextOf (.ref i2) >>= _) _ _ _
    have h2₃ : S2 k h₃ := fr1 D2 (fr1 D2 (fr1 D2 h2 hs₁.extBut D.i2z D.l2z) hs₂.extBut D.i12.symm D.l2i1) hs₃.extBut D.TOi2.symm D.l2TO
    refine wpAny_bind (D2.done _ _ _ (by rw [← hy]; exact h2₃) fun h₄ e hs₄ he => ?_)
    obtain ⟨oe, hoe, hce⟩ := he
    have hz₄ : IsZip h₄ z TI TO .ellipsis := hs₄ _ _ D.i2z.symm (hs₃.extBut _ _ D.TOz.symm (hs₂.extBut _ _ D.i1z.symm hz₁))
    have hez : e ≠ z := fun x => by subst x; rw [hz₄] at hoe; cases hoe; simp at hce
    refine wpAny_setField_rec hz₄ (by simp) fun h₅ _ hs₅ => hE h₅ tk₂ e (fun c o c1 c2 c3 c4 x => hs₅.extBut _ _ c1 (hs₄ _ _ c4 (hs₃.extBut _ _ c2 (hs₂.extBut _ _ c3 (hs₁.extBut _ _ c1 x))))) ⟨oe, hs₅.extBut _ _ hez hoe, hce⟩

theorem pyNext_zip_item {z TI TO i1 i2 l1 l2 : Addr} {k1 k2 n1 n2 : Nat} {P1 P2 : Nat → Value → Prop} {S1 S2 : Nat → Heap → Prop} {a b : Value} {Q : Option Value → Shared → Prop} (D : ZipApart z TI TO i1 i2 l1 l2)
    (D1 : Draws prog w A.in1 i1 [i1, l1] n1 P1 S1) (D2 : Draws prog w A.in1 i2 [i2, l2] n2 P2 S2)
    (hz : IsZip s.heap z TI TO .none) (hTI : IsPair s.heap TI (.ref i1) (.ref i2)) (hTO : IsPair s.heap TO a b)
    (h1 : S1 k1 s.heap) (h2 : S2 k2 s.heap) (hx : k1 < n1) (hy : k2 < n2)
    (hQ : ∀ h' tk x y, P1 k1 x → P2 k2 y → IsZip h' z TI TO (rawInt s.heap.objs.size) → IsPair h' TO x y → S1 (k1 + 1) h' → S2 (k2 + 1) h' → IsPair h' s.heap.objs.size x y →
      (∀ c o, c ≠ z → c ≠ TO → c ≠ i1 → c ≠ i2 → s.heap.get? c = some o → h'.get? c = some o) → Q (some (.ref s.heap.objs.size)) { s with heap := h', toks := tk }) :
    wpAny (model prog w) A (pyNext (.ref z)) Q E s := by
  have hT : s.TypeIs (.ref z) "zip" := ⟨_, hz, rfl⟩
  unfold pyNext
  exact wpAny_bind (wpAny_attempt (wpAny_callSpecial?_slot (name := Str.ofString "__next__") hT F.slot_zip_next
    (wpAny_call_entry F.slot_zip_next hT F.entry_zip_next
      (zip_item D D1 D2 hz hTI hTO h1 h2 hx hy fun h' tk x y a1 a2 a3 a4 a5 a6 a7 a8 => wpAny_pure (hQ h' tk x y a1 a2 a3 a4 a5 a6 a7 a8)) (F.args_zip_next_1 _))))

theorem pyNext_zip_end {z TI TO i1 i2 l1 l2 : Addr} {k n1 n2 : Nat} {P1 P2 : Nat → Value → Prop} {S1 S2 : Nat → Heap → Prop} {a b : Value} {Q : Option Value → Shared → Prop} (D : ZipApart z TI TO i1 i2 l1 l2)
    (D1 : Draws prog w A.in1 i1 [i1, l1] n1 P1 S1) (D2 : Draws prog w A.in1 i2 [i2, l2] n2 P2 S2)
    (hz : IsZip s.heap z TI TO .none) (hTI : IsPair s.heap TI (.ref i1) (.ref i2)) (hTO : IsPair s.heap TO a b)
    (h1 : S1 k s.heap) (h2 : S2 k s.heap) (hend : k = n1 ∨ (k < n1 ∧ k = n2))
    (hQ : ∀ h' tk, (∀ c o, c ≠ z → c ≠ TO → c ≠ i1 → c ≠ i2 → s.heap.get? c = some o → h'.get? c = some o) → Q none { s with heap := h', toks := tk }) : wpAny (model prog w) A (pyNext (.ref z)) Q E s := by
  have hT : s.TypeIs (.ref z) "zip" := ⟨_, hz, rfl⟩
  unfold pyNext
  refine wpAny_bind (wpAny_attempt (wpAny_callSpecial?_slot (name := Str.ofString "__next__") hT F.slot_zip_next
    (wpAny_call_entry F.slot_zip_next hT F.entry_zip_next (zip_end D D1 D2 hz hTI hTO h1 h2 hend fun h' tk e hk he => ?_) (F.args_zip_next_1 _))))
  obtain ⟨o, ho, hc⟩ := he
  refine wpAny_bind (wpAny_isInstance (T := "StopIteration") (b := true) ⟨o, ho, hc⟩ isSubtype_stop ?_)
  exact wpAny_pure (hQ _ _ hk)

abbrev zH1 (h : Heap) (o1 : Obj) : Heap := h.push o1
abbrev zH2 (h : Heap) (o1 o2 : Obj) : Heap := (zH1 h o1).push o2
abbrev zH3 (h : Heap) (o1 o2 : Obj) : Heap := (zH2 h o1 o2).push { cls := .type "tuple", data := .seq #[.ref h.objs.size, .ref (zH1 h o1).objs.size] }
abbrev zH4 (h : Heap) (o1 o2 : Obj) : Heap := (zH3 h o1 o2).push { cls := .type "tuple", data := .seq #[.none, .none] }
abbrev zH5 (h : Heap) (o1 o2 : Obj) : Heap := (zH4 h o1 o2).push { cls := .type "zip", data := .fields #[.none, .bool false, .bool false, .ref (zH2 h o1 o2).objs.size, .ref (zH3 h o1 o2).objs.size] }

theorem meets_zip {l1 l2 : Addr} {lo1 lo2 : Obj} {us vs : List Value} {o1 o2 : Obj} {S1 S2 : Addr → Nat → Heap → Prop} (I1 : ItOf l1 lo1 us o1 S1) (I2 : ItOf l2 lo2 vs o2 S2) :
    Meets (Builtin.«zip.__new__» ⟨[.type "zip", .ref l1, .ref l2], []⟩) (fun _ R s => (s.heap.get? l1 = some lo1 ∧ s.heap.get? l2 = some lo2) ∧
      R (.ok (.ret (.ref (zH4 s.heap o1 o2).objs.size))) { s with heap := zH5 s.heap o1 o2 }) :=
  .of_wp fun prog w A R s h => by
    obtain ⟨hp, g, d, tk, os⟩ := s; obtain ⟨⟨hl1, hl2⟩, h⟩ := h
    have hsub := sub_zip
    have hI1 : ∀ {A : Around} {E : Value → Shared → Prop} {Q : Value → Shared → Prop}, Q (.ref hp.objs.size) ⟨hp.push o1, g, d, tk, os⟩ → wpAny (model prog w) A (pyIter (.ref l1)) Q E ⟨hp, g, d, tk, os⟩ := fun {A E Q} h => I1.iter prog w A E ⟨hp, g, d, tk, os⟩ Q hl1 h
    have hI2 : ∀ {A : Around} {E : Value → Shared → Prop} {Q : Value → Shared → Prop}, Q (.ref (hp.push o1).objs.size) ⟨(hp.push o1).push o2, g, d, tk, os⟩ → wpAny (model prog w) A (pyIter (.ref l2)) Q E ⟨hp.push o1, g, d, tk, os⟩ := fun {A E Q} h => I2.iter prog w A E ⟨hp.push o1, g, d, tk, os⟩ Q (Heap.get?_push_of_some _ hl2) h
    clear hl1 hl2
    wp_walk using hI1, hI2
    exact ⟨_, rfl, h⟩

theorem call_zip {l1 l2 : Addr} {lo1 lo2 : Obj} {us vs : List Value} {o1 o2 : Obj} {S1 S2 : Addr → Nat → Heap → Prop} (I1 : ItOf l1 lo1 us o1 S1) (I2 : ItOf l2 lo2 vs o2 S2) {Q : Value → Shared → Prop} (hl1 : s.heap.get? l1 = some lo1) (hl2 : s.heap.get? l2 = some lo2)
    (h : ∀ h', IsZip h' (s.heap.objs.size + 4) (s.heap.objs.size + 2) (s.heap.objs.size + 3) .none → IsPair h' (s.heap.objs.size + 2) (.ref s.heap.objs.size) (.ref (s.heap.objs.size + 1)) →
      IsPair h' (s.heap.objs.size + 3) .none .none → h'.get? s.heap.objs.size = some o1 → h'.get? (s.heap.objs.size + 1) = some o2 →
      (∀ c o, s.heap.get? c = some o → h'.get? c = some o) → Q (.ref (s.heap.objs.size + 4)) { s with heap := h' }) :
    wpAny (model prog w) A (call (.type "zip") [.ref l1, .ref l2]) Q E s := by
  refine callType_new F.called_zip (by decide) (F.typeCall_zip_2 _ _) (F.newCall_zip_2 _ _) (fun obj => F.args_object_init_3 obj _ _) F.entry_zip_new
    (meets_zip I1 I2) ⟨⟨hl1, hl2⟩, ?_⟩
  have z1 : (zH1 s.heap o1).objs.size = s.heap.objs.size + 1 := Heap.size_push ..
  have z2 : (zH2 s.heap o1 o2).objs.size = s.heap.objs.size + 2 := by rw [Heap.size_push, z1]
  have z3 : (zH3 s.heap o1 o2).objs.size = s.heap.objs.size + 3 := by rw [Heap.size_push, z2]
  have z4 : (zH4 s.heap o1 o2).objs.size = s.heap.objs.size + 4 := by rw [Heap.size_push, z3]
  have g5 : (zH5 s.heap o1 o2).get? (zH4 s.heap o1 o2).objs.size = some _ := Heap.get?_push_size _ rfl
  have g4 : (zH5 s.heap o1 o2).get? (zH3 s.heap o1 o2).objs.size = some _ := Heap.get?_push_of_some _ (Heap.get?_push_size _ rfl)
  have g3 : (zH5 s.heap o1 o2).get? (zH2 s.heap o1 o2).objs.size = some _ := Heap.get?_push_of_some _ (Heap.get?_push_of_some _ (Heap.get?_push_size _ rfl))
  have g2 : (zH5 s.heap o1 o2).get? (zH1 s.heap o1).objs.size = some o2 := Heap.get?_push_of_some _ (Heap.get?_push_of_some _ (Heap.get?_push_of_some _ (Heap.get?_push_size _ I2.free)))
  have g1 : (zH5 s.heap o1 o2).get? s.heap.objs.size = some o1 := Heap.get?_push_of_some _ (Heap.get?_push_of_some _ (Heap.get?_push_of_some _ (Heap.get?_push_of_some _ (Heap.get?_push_size _ I1.free))))
  show _ ∧ _
  rw [z2, z3, z4] at g5
  rw [z1, z2] at g3
  rw [z3] at g4
  rw [z1] at g2
  rw [z4]
  exact ⟨⟨_, g5, rfl⟩, h _ g5 g3 g4 g1 g2 fun c o x =>
    Heap.get?_push_of_some _ (Heap.get?_push_of_some _ (Heap.get?_push_of_some _ (Heap.get?_push_of_some _ (Heap.get?_push_of_some _ x))))⟩
end
end Mine

namespace Mine
open PySem.Calls
open Sem (wp)

def zipL (ds es : List Den) : List Den := List.zipWith (fun a b => dTup [a, b]) ds es
theorem zipL_get {ds es : List Den} {i : Nat} {d : Den} (h : (zipL ds es)[i]? = some d) : ∃ a b, ds[i]? = some a ∧ es[i]? = some b ∧ d = dTup [a, b] := by
  unfold zipL at h
  rw [List.getElem?_zipWith] at h
  cases ha : ds[i]? with
  | none => rw [ha] at h; cases h
  | some a =>
    cases hb : es[i]? with
    | none => rw [ha, hb] at h; cases h
    | some b => rw [ha, hb] at h; cases h; exact ⟨a, b, rfl, rfl, rfl⟩
theorem zipL_length {ds es : List Den} : (zipL ds es).length = min ds.length es.length := by unfold zipL; rw [List.length_zipWith]

def ZW (z TI TO i1 i2 : Addr) (b : Addr) : Prop := b = z ∨ b = TI ∨ b = TO ∨ b = i1 ∨ b = i2

section
variable {prog : Program} {w : World} {G : Heap} {A : Around} {env : Env} {ρ : Rho} {E : Value → Shared → Prop} {s s' : Shared} {X : Addr → Prop} {mg mb : Str → Option Value}
  {l1 l2 : Addr} {lo1 lo2 : Obj} {us vs : List Value} {o1 o2 : Obj} {S1 S2 : Addr → Nat → Heap → Prop}

theorem Feed.zip {elts : List Expr} {k : Nat} {pos : Pos} {z TI TO i1 i2 : Addr} {ds es : List Den} (hh : A.handled = none) (I1 : ItOf l1 lo1 us o1 S1) (I2 : ItOf l2 lo2 vs o2 S2) (D : ZipApart z TI TO i1 i2 l1 l2)
    (hX : ∀ b, ZW z TI TO i1 i2 b → X b) (hX1 : ¬ X l1) (hX2 : ¬ X l2) (h₀ : Heap) (hu : All2 (fun d v => d.is (vw X h₀) v) ds us) (hv : All2 (fun d v => d.is (vw X h₀) v) es vs) :
    Feed prog w A X z (.Tuple elts k pos) (ZW z TI TO i1 i2) (zipL ds es) (fun i h => IsZip h z TI TO .none ∧ IsPair h TI (.ref i1) (.ref i2) ∧ (∃ a b, IsPair h TO a b) ∧ S1 i1 i h ∧ S2 i2 i h ∧ ∀ a o, vw X h₀ a o → vw X h a o) := by
  have D1 := I1.draws prog w A.in1 i1 hh D.l1i1
  have D2 := I2.draws prog w A.in1 i2 hh D.l2i2
  have hlu : us.length = ds.length := hu.length.symm
  have hlv : vs.length = es.length := hv.length.symm
  refine ⟨fun i h h' st kk => ?_, fun i h b st hb => ?_, fun i s d E hlv' hd st => ?_, fun s E st => ?_, fun i s E st => ?_⟩
  · obtain ⟨hz, hTI, ⟨a, b, hTO⟩, h1, h2, hk⟩ := st
    refine ⟨kk z _ (.inr (.inl rfl)) hz, kk TI _ (.inr (.inr (.inl rfl))) hTI, ⟨a, b, kk TO _ (.inr (.inr (.inr (.inl rfl)))) hTO⟩, D1.frame _ _ _ h1 fun b hb o x => kk b o ?_ x, D2.frame _ _ _ h2 fun b hb o x => kk b o ?_ x, fun a o q => ⟨kk a o (.inl q.2) (hk a o q).1, q.2⟩⟩
    · simp only [List.mem_cons, List.not_mem_nil, or_false] at hb
      rcases hb with rfl | rfl
      · exact .inr (.inr (.inr (.inr (.inl rfl))))
      · exact .inl hX1
    · simp only [List.mem_cons, List.not_mem_nil, or_false] at hb
      rcases hb with rfl | rfl
      · exact .inr (.inr (.inr (.inr (.inr rfl))))
      · exact .inl hX2
  · obtain ⟨hz, hTI, ⟨a, b', hTO⟩, h1, h2, hk⟩ := st
    rcases hb with rfl | rfl | rfl | rfl | rfl
    · exact ⟨_, hz⟩
    · exact ⟨_, hTI⟩
    · exact ⟨_, hTO⟩
    · exact D1.live _ _ h1
    · exact D2.live _ _ h2
  · obtain ⟨hz, hTI, ⟨a, b', hTO⟩, h1, h2, hk⟩ := st
    obtain ⟨da, db, ha, hb, rfl⟩ := zipL_get hd
    obtain ⟨u, hu', hdu⟩ := hu.get ha
    obtain ⟨v, hv', hdv⟩ := hv.get hb
    have hi1 : i < us.length := (List.getElem?_eq_some_iff.mp hu').1
    have hi2 : i < vs.length := (List.getElem?_eq_some_iff.mp hv').1
    refine pyNext_zip_item D D1 D2 hz hTI hTO h1 h2 hi1 hi2 fun h' tk x y p1 p2 hz' hTO' h1' h2' hT' hkk => ⟨_, rfl, ?_⟩
    have hx : x = u := by rw [hu'] at p1; cases p1; rfl
    have hy : y = v := by rw [hv'] at p2; cases p2; rfl
    subst hx hy
    refine wpAny_letOwnedTupleGo_zip hz' fun h'' hz'' hs'' => ?_
    have k₂ : KeepM (ZW z TI TO i1 i2) s ⟨h'', s.gens, s.drawn, tk, s.os⟩ := ⟨h'', tk, rfl, fun b ob hb eb => hs''.extBut b ob (fun q => hb (.inl q)) (hkk b ob (fun q => hb (.inl q)) (fun q => hb (.inr (.inr (.inl q)))) (fun q => hb (.inr (.inr (.inr (.inl q))))) (fun q => hb (.inr (.inr (.inr (.inr q))))) eb)⟩
    have up : ∀ a o, vw X h₀ a o → vw X h'' a o := fun a ob q => ⟨k₂.get (fun q' => q.2 (hX a q')) (hk a ob q).1, q.2⟩
    have hzlt : z < s.heap.objs.size := Heap.lt_size hz
    refine ⟨k₂, ⟨hz'', hs''.extBut _ _ D.TIz (hkk _ _ D.TIz D.TITO D.TIi1 D.TIi2 hTI), ⟨_, _, hs''.extBut _ _ D.TOz hTO'⟩, fr1 D1 h1' hs''.extBut D.i1z D.l1z, fr1 D2 h2' hs''.extBut D.i2z D.l2z, up⟩, s.heap.objs.size, 0, [x, y], rfl, ⟨?_, ?_⟩, ?_, da.mono up hdu, db.mono up hdv, trivial⟩
    · exact hs''.extBut _ _ (Nat.ne_of_gt hzlt) hT'
    · intro q
      obtain ⟨ob, eb⟩ := hlv' _ q
      rw [get_size] at eb; cases eb
    · rw [sizeLine_eq]; show 2 ≤ _; decide
  · obtain ⟨hz, hTI, ⟨a, b', hTO⟩, h1, h2, hk⟩ := st
    rw [zipL_length] at h1 h2
    refine pyNext_zip_end D D1 D2 hz hTI hTO h1 h2 ?_ fun h' tk hx => ⟨rfl, h', tk, rfl, fun b ob hb eb => hx b ob (fun q => hb (.inl q)) (fun q => hb (.inr (.inr (.inl q)))) (fun q => hb (.inr (.inr (.inr (.inl q))))) (fun q => hb (.inr (.inr (.inr (.inr q))))) eb⟩
    rw [hlu, hlv]
    rcases Nat.lt_or_ge es.length ds.length with h | h
    · exact .inr ⟨by rw [Nat.min_eq_right (Nat.le_of_lt h)]; exact h, Nat.min_eq_right (Nat.le_of_lt h)⟩
    · exact .inl (Nat.min_eq_left h)
  · exact wpAny_pyIter_zip st.1 ⟨rfl, rfl⟩

theorem zap {n l1 l2 : Nat} (h1 : l1 < n) (h2 : l2 < n) : ZipApart (n + 4) (n + 2) (n + 3) n (n + 1) l1 l2 := by
  constructor <;> (show (_ : Nat) ≠ _; omega)

theorem EvIt.zip {elts : List Expr} {k : Nat} {pos pos' p : Pos} {a₁ a₂ : Expr} {kd₁ kd₂ : String} {ds es : List Den} (T : Tops G mg mb) (hh : A.handled = none) (hk : env.kindOf "zip" = some .globalImplicit) (sk₁ : SeqKind kd₁) (sk₂ : SeqKind kd₂)
    (he₁ : Ev prog w G A env ρ a₁ (dSeq kd₁ ds)) (he₂ : Ev prog w G A env ρ a₂ (dSeq kd₂ es)) (hp : ∀ env, starEach [a₁, a₂] env = [a₁, a₂].map (fun e => (false, eval e env)) := by intro _; rfl) :
    EvIt prog w G A env ρ (.Tuple elts k pos) (.Call (.Name "zip" p) [a₁, a₂] [] pos') (zipL ds es) := fun X s E ok => by
  refine callEv (fd := dVal (.type "zip")) (ds := [dSeq kd₁ ds, dSeq kd₂ es]) ok (Ev.bt T hk) ⟨he₁, he₂, trivial⟩ (keep_val (fun a e => by cases e)) (fun s₂ f vs k₂ ok₂ hf hv => ?_) hp
  have hf' : f = .type "zip" := hf
  subst hf'
  match vs, hv with
  | [v₁, v₂], ⟨⟨l1, n1, us, e1, ha1, hz1, hus⟩, ⟨l2, n2, vs, e2, ha2, hz2, hvs⟩, _⟩ =>
    subst e1 e2
    obtain ⟨o1, S1, I1⟩ := itOf_any sk₁ l1 n1 us
    obtain ⟨o2, S2, I2⟩ := itOf_any sk₂ l2 n2 vs
    refine call_zip I1 I2 ha1.1 ha2.1 fun h' hz hTI hTO hi1 hi2 hgr => ?_
    refine wpAny_pyIter_zip hz ⟨_, rfl, ?_, ?_⟩
    · exact k₂.tr ⟨h', s₂.toks, rfl, hgr⟩
    · have hn1 : ∀ b, ZW (s₂.heap.objs.size + 4) (s₂.heap.objs.size + 2) (s₂.heap.objs.size + 3) s₂.heap.objs.size (s₂.heap.objs.size + 1) b → s₂.heap.get? b = none := fun b hb => get_none (by
        rcases hb with rfl | rfl | rfl | rfl | rfl
        · exact Nat.le_add_right _ _
        · exact Nat.le_add_right _ _
        · exact Nat.le_add_right _ _
        · exact Nat.le_refl _
        · exact Nat.le_add_right _ _)
      refine ⟨ZW (s₂.heap.objs.size + 4) (s₂.heap.objs.size + 2) (s₂.heap.objs.size + 3) s₂.heap.objs.size (s₂.heap.objs.size + 1), fun b hb => k₂.none (hn1 b hb), fun b hb => ?_, fun X' hw hX => ?_⟩
      · rcases hb with rfl | rfl | rfl | rfl | rfl
        · exact ⟨_, hz⟩
        · exact ⟨_, hTI⟩
        · exact ⟨_, hTO⟩
        · exact ⟨_, hi1⟩
        · exact ⟨_, hi2⟩
      · have up : ∀ a o', vw X s₂.heap a o' → vw X' h' a o' := fun a o' q => by
          have e := hgr a o' q.1
          refine ⟨e, fun z => ?_⟩
          rcases hX a o' z e with h | h
          · exact q.2 h
          · have := hn1 a h; rw [q.1] at this; cases this
        refine ⟨_, Feed.zip hh I1 I2 (zap (Heap.lt_size ha1.1) (Heap.lt_size ha2.1)) hw (up l1 _ ha1).2 (up l2 _ ha2).2 h' (hus.mono fun d v q => d.mono up q) (hvs.mono fun d v q => d.mono up q),
          fun h kk => ⟨kk _ _ hz, kk _ _ hTI, ⟨_, _, kk _ _ hTO⟩, I1.start _ _ (kk _ _ hi1) (kk _ _ (hgr _ _ ha1.1)), I2.start _ _ (kk _ _ hi2) (kk _ _ (hgr _ _ ha2.1)), fun a o' q => ⟨kk a o' q.1, q.2⟩⟩⟩
end
end Mine

namespace Mine
open PySem.Calls

def AllL {α : Type} (P : α → Prop) : List α → Prop
  | [] => True
  | x :: xs => P x ∧ AllL P xs
theorem AllL.mem {α : Type} {P : α → Prop} : ∀ {l : List α}, AllL P l → ∀ x ∈ l, P x
  | _ :: _, h, _, .head _ => h.1
  | _ :: _, h, x, .tail _ m => AllL.mem h.2 x m

section
variable {prog : Program} {w : World} {G : Heap} {A : Around} {env cenv : Env} {ρ ρ' ρ'' : Rho} {E : Value → Shared → Prop} {s s' : Shared} {X X₀ M W : Addr → Prop} {D : Addr} {os os' : List Den} {mg mb : Str → Option Value} {α α' α'' : Alpha} {ad ad' : Str → Addr}
  {scope : Scope} {h₀ : Heap}

def frees (scope : Scope) : List Str := scope.names.filterMap fun p => match p.2 with | .free => some p.1 | _ => none
def Held (env : Env) (n : Str) : Prop := (env.kindOf n = some .cell ∨ env.kindOf n = some .free) ∧ (env.cells.lookup n).isSome = true
theorem free_of (h : AllL (Held env) (frees scope)) : ∀ n, (n, NameKind.free) ∈ scope.names → (env.kindOf n = some .cell ∨ env.kindOf n = some .free) ∧ (env.cells.lookup n).isSome = true := fun n hn =>
  AllL.mem h n (List.mem_filterMap.mpr ⟨(n, .free), hn, rfl⟩)

theorem CEnv.kind (hc : CEnv scope env h₀ cenv) {x : Str} {k : NameKind} (h : scope.names.lookup x = some k) (hk : (k == .free) = false) : cenv.kindOf x = some k := by
  obtain ⟨cells, C, rfl⟩ := hc.eq
  have := relabel_lookup (env := env) h
  rw [hk] at this
  exact this
/-- names that a comprehension holds of its surroundings -/
theorem CEnv.hold (hc : CEnv scope env h₀ cenv) {x : Str} (h : scope.names.lookup x = some .free) : Held cenv x := by
  refine ⟨?_, hc.held x (mem_of_lookupK h)⟩
  obtain ⟨cells, C, rfl⟩ := hc.eq
  have := relabel_lookup (env := env) h
  by_cases hb : ((NameKind.free == NameKind.free) && env.scope.kind == .function && env.kindOf x == some .cell) = true
  · rw [if_pos hb] at this; exact .inl this
  · rw [if_neg hb] at this; exact .inr this
theorem CEnv.holdC (hc : CEnv scope env h₀ cenv) {x : Str} (h : scope.names.lookup x = some .cell) : Held cenv x := by
  refine ⟨.inl (hc.kind h rfl), ?_⟩
  obtain ⟨c, e, _⟩ := hc.cell x h
  rw [e]; rfl
theorem own_names {new : Rho} (xs : List Str) (h : AllL (fun x => isFree scope x = false) xs) (e : names new = xs := by rfl) : OwnNames scope new := fun x hx => AllL.mem h x (e ▸ hx)

theorem Ev.cast {e : Expr} {d d' : Den} (h : Ev prog w G A env ρ e d) (k : d = d') : Ev prog w G A env ρ e d' := k ▸ h
theorem Tr.cast {e : Expr} {b b' : Bool} (k : b = b') (h : Tr prog w G A env ρ e b) : Tr prog w G A env ρ e b' := k ▸ h
theorem Ret.cast {ss : List Stmt} {d d' : Den} (h : Ret prog w G A env ρ α ss d) (k : d = d') : Ret prog w G A env ρ α ss d' := k ▸ h
theorem Step.cast' {ss : List Stmt} {ρ₁ : Rho} {α₁ : Alpha} (h : Step prog w G A env ρ α ss ρ' α') (k : ρ' = ρ₁) (k' : α' = α₁) : Step prog w G A env ρ α ss ρ₁ α₁ := by subst k k'; exact h
theorem AsgnOk.mine {x : Str} {pos : Pos} {d : Den} (hc : CEnv scope env h₀ cenv) (hx : scope.names.lookup x = some .local ∨ scope.names.lookup x = some .cell) :
    AsgnOk prog w G A cenv (CW cenv h₀) (.Name x pos) d [(x, d)] := by
  rcases hx with hx | hx
  · refine AsgnOk.name (.inl (hc.kind hx rfl)) fun b hb => ⟨hb.own, ?_⟩
    rcases hb with ⟨_, rfl⟩ | ⟨hk, _⟩
    · exact hc.loc
    · rw [hc.kind hx rfl] at hk; cases hk
  · obtain ⟨c, hl, hn⟩ := hc.cell x hx
    refine AsgnOk.name (.inr ⟨hc.kind hx rfl, by rw [hl]; rfl⟩) fun b hb => ⟨hb.own, ?_⟩
    rcases hb with ⟨hk, _⟩ | ⟨_, hl'⟩
    · rw [hc.kind hx rfl] at hk; cases hk
    · rw [hl] at hl'; cases hl'; exact hn
end

local macro_rules | `(tactic| walk_at "sig") => `(tactic| exact ⟨fun name qual kV doc pm an cdv ct vs hl => by (first | (match vs, hl with | [_], _ => with_unfolding_all rfl) | (match vs, hl with | [_, _], _ => with_unfolding_all rfl) | (match vs, hl with | [_, _, _], _ => with_unfolding_all rfl) | (match vs, hl with | [_, _, _, _, _], _ => with_unfolding_all rfl)), by decide +kernel, by decide +kernel, by decide +kernel, rfl, rfl, rfl⟩)

section
variable {w : World} {G : Heap} {A : Around} {mg mb : Str → Option Value}

/-- the rows of indices -/
def rowsStep (found : List (List Int)) (size : Int) : List (List (List Int)) := (rangeL 0 size).map fun i => found.map fun row => row ++ [i]
def rowsF (sizes : List Int) : List (List Int) := sizes.foldl (fun f x => (rowsStep f x).flatten) [[]]
theorem rowsF_take {sizes : List Int} {i : Nat} {x : Int} (h : sizes[i]? = some x) : rowsF (sizes.take (i + 1)) = (rowsStep (rowsF (sizes.take i)) x).flatten := by
  unfold rowsF; rw [List.take_add_one, h]; simp

def dRow (r : List Int) : Den := dTup (r.map dInt)
def dRows (rs : List (List Int)) : Den := dLst (rs.map dRow)

theorem rows_ok {f : Addr} {k : Nat} (T : Tops G mg mb) (hd : IsDefN G f 47) (hr : Room (k + 1) A) (sizes : List Int) (hs : ∀ x ∈ sizes, 0 ≤ x ∧ x ≤ 1000) (hz : sizes.length ≤ 100) (hm : ∀ i ≤ sizes.length, (rowsF (sizes.take i)).length ≤ 1000)
    (hw : ∀ r ∈ rowsF sizes, True) (hl : ∀ i ≤ sizes.length, ∀ r ∈ rowsF (sizes.take i), r.length ≤ 100) :
    CallOk P0 w G A (dDef G f) [dTup (sizes.map dInt)] (dRows (rowsF sizes)) := by
  obtain ⟨p, b, s, e, hd⟩ := hd
  cases (show defAt 47 = some (_, _, _) from rfl).symm.trans e
  refine CallOk.ret (ns := ["sizes"]) T.toBase hd (by walk_at "sig") rfl hr fun A env hr' hfe => ?_
  obtain ⟨L, a, q, c, rfl⟩ := hfe
  refine Ret.cons (Step.assign (.inr ⟨rfl, rfl⟩) (Ev.list (ds := [dTup []]) ⟨Ev.tuple (ds := []) trivial (Nat.zero_le _), trivial⟩ (by rw [sizeLine_eq]; decide))) ?_ (fun _ => Iff.rfl)
  refine Ret.cons (Step.loop (fun i => [("found", dRows (rowsF (sizes.take i))), ("sizes", dTup (sizes.map dInt))]) (fun _ => []) (EvIt.tup hr'.1 (Ev.name rfl)) (.cons rfl (.cons rfl .nil)) rfl (fun _ _ => Iff.rfl) fun i d hd => ?_) ?_ (fun _ => Iff.rfl)
  · obtain ⟨x, hx, rfl⟩ := map_get hd
    have hxm := hs x (List.mem_of_getElem? hx)
    have hi : i < sizes.length := (List.getElem?_eq_some_iff.mp hx).1
    refine ⟨[("size", dInt x)], AsgnOk.name (.inl rfl) (fun b h => h.own), fun _ _ => noDom, ?_⟩
    refine (Step.assign (d := dRows (rowsF (sizes.take (i + 1)))) (.inr ⟨rfl, rfl⟩) ?_).out (.cons rfl (.cons rfl .nil))
    rw [rowsF_take hx]
    unfold dRows
    rw [List.map_flatten]
    refine Ev.comp2 ⟨EvIt.rng hr'.1 (Ev.call CallOk.range1 (Ev.bt T rfl) ⟨Ev.name rfl, trivial⟩) (by omega) (by omega), by decide +kernel, free_of ⟨⟨.inl rfl, rfl⟩, trivial⟩, rfl, by simp [rowsStep], ?_, fun h₀ cenv hc j d out hj ho => ?_, fun _ => rfl, fun _ _ => rfl⟩
    · rw [← List.map_flatten, List.length_map, ← rowsF_take hx, sizeLine_eq]
      have := hm (i + 1) hi; omega
    · obtain ⟨y, hy, rfl⟩ := map_get hj
      obtain ⟨o', ho', rfl⟩ := map_get ho
      unfold rowsStep at ho'
      obtain ⟨y', hy', rfl⟩ := map_get ho'
      rw [hy] at hy'; cases hy'
      refine ⟨[("index", dInt y)], (rowsF (sizes.take i)).map dRow, AsgnOk.mine hc (.inl rfl), own_names ["index"] ⟨rfl, trivial⟩, EvIt.lst hr'.1 (Ev.name rfl), by simp, fun m d₁ o hd₁ ho₁ => ?_⟩
      obtain ⟨r, hr₁, rfl⟩ := map_get hd₁
      obtain ⟨r', hr₂, rfl⟩ := map_get ho₁
      obtain ⟨r'', hr₃, rfl⟩ := map_get hr₂
      rw [hr₁] at hr₃; cases hr₃
      have hlen : r.length ≤ 100 := hl i (Nat.le_of_lt hi) r (List.mem_of_getElem? hr₁)
      refine ⟨[("row", dRow r)], AsgnOk.mine hc (.inl rfl), fun x hx => ?_, ?_⟩
      · simp only [names, List.map_cons, List.map_nil, List.mem_singleton] at hx; subst hx; rfl
      · refine Ev.cast (Ev.bin (Ev.name rfl) (Ev.tuple (ds := [dInt y]) ⟨Ev.name rfl, trivial⟩ (by rw [sizeLine_eq]; exact Nat.le_of_ble_eq_true rfl)) (Bin.addT (xs := r.map dInt) (ys := [dInt y]) (by rw [List.length_map, sizeLine_eq]; simp only [List.length_cons, List.length_nil]; omega))) ?_
        unfold dRow
        rw [List.map_append]; rfl
  · rw [List.length_map, List.take_length]
    exact Ret.ret (Ev.name rfl)
end
end Mine

namespace Mine
open PySem.Calls

local macro_rules | `(tactic| walk_at "sig") => `(tactic| exact ⟨fun name qual kV doc pm an cdv ct vs hl => by (first | (match vs, hl with | [_], _ => with_unfolding_all rfl) | (match vs, hl with | [_, _], _ => with_unfolding_all rfl) | (match vs, hl with | [_, _, _], _ => with_unfolding_all rfl) | (match vs, hl with | [_, _, _, _, _], _ => with_unfolding_all rfl)), by decide +kernel, by decide +kernel, by decide +kernel, rfl, rfl, rfl⟩)

def lessF (sizes : List Int) (rank : Int) : List Int := (List.range sizes.length).map fun (i : Nat) => if (i : Int) = rank then 1 else sizes.getD i 0
def rowKey (k : Nat) (row : List Int) : List Int := row.take k ++ [0] ++ row.drop (k + 1)
def lineP (rows : List (List Int)) (k : Nat) (other : List Int) (n : Nat) : List Int := ((List.range n).filter fun p => decide (rowKey k (rows.getD p []) = other)).map Int.ofNat
def lineF (rows : List (List Int)) (k : Nat) (other : List Int) : List Int := lineP rows k other rows.length
def linesF (sizes : List Int) (k : Nat) : List (List Int) := (rowsF (lessF sizes k)).map fun other => lineF (rowsF sizes) k other

theorem lineP_succ {rows : List (List Int)} {k : Nat} {other row : List Int} {n : Nat} (h : rows[n]? = some row) :
    lineP rows k other (n + 1) = if rowKey k row = other then lineP rows k other n ++ [(n : Int)] else lineP rows k other n := by
  unfold lineP
  rw [List.range_succ, List.filter_append, List.map_append]
  have e : rows.getD n [] = row := by rw [List.getD_eq_getElem?_getD, h]; rfl
  by_cases hq : rowKey k row = other
  · rw [if_pos hq, List.filter_cons]
    simp only [e, hq, decide_true, if_true, List.filter_nil, List.map_cons, List.map_nil]; rfl
  · rw [if_neg hq, List.filter_cons]
    simp only [e, hq, decide_false, Bool.false_eq_true, if_false, List.filter_nil, List.map_nil, List.append_nil]
theorem lineP_length (rows : List (List Int)) (k : Nat) (other : List Int) (n : Nat) : (lineP rows k other n).length ≤ n := by
  unfold lineP
  rw [List.length_map]
  exact Nat.le_trans (List.length_filter_le ..) (by rw [List.length_range]; exact Nat.le_refl _)

section
variable {prog : Program} {w : World} {G : Heap} {A : Around} {env cenv : Env} {ρ ρ' ρ'' : Rho} {E : Value → Shared → Prop} {s s' : Shared} {X X₀ M W : Addr → Prop} {mg mb : Str → Option Value} {α α' α'' : Alpha}
  {scope : Scope} {h₀ : Heap}

theorem small2 {n : Nat} (h : n ≤ 1000) : n ≤ sizeLine := by rw [sizeLine_eq]; omega

theorem All2.getD' {ds : List Den} {i : Nat} {d d' : Den} (h : ds[i]? = some d) : ds.getD i d' = d := by rw [List.getD_eq_getElem?_getD, h]; rfl

/-- 1 if at == rank else size, of each -/
theorem less_ev {p1 p2 p3 p4 p5 p6 p7 p8 p9 p10 p11 p12 p13 : Pos} {k1 k2 : Nat} {sizes : List Int} {rank : Int} (T : Tops G mg mb) (hh : A.handled = none) (hk : env.kindOf "enumerate" = some .globalImplicit)
    (hn : scope.names = ([(".0", .local), ("at", .local), ("size", .local), ("rank", .free)] : List (Str × NameKind))) (hsk : scope.kind = .function) (hrank : Held env "rank") (hs : ρ.lookup ("sizes" : Str) = some (dTup (sizes.map dInt))) (hr : ρ.lookup ("rank" : Str) = some (dInt rank)) (hz : sizes.length ≤ 1000) :
    Ev prog w G A env ρ (.ListComp (.IfExp (.Compare (.Name "at" p1) [.Eq] [.Name "rank" p2] p3) (.Constant (.int 1) k1 p4) (.Name "size" p5) p6) [⟨.Tuple [.Name "at" p7, .Name "size" p8] k2 p9, .Call (.Name "enumerate" p10) [.Name "sizes" p11] [] p12, [], 0⟩] scope p13) (dLst ((lessF sizes rank).map dInt)) := by
  have hfr : frees scope = (["rank"] : List Str) := by unfold frees; rw [hn]; rfl
  refine Ev.comp1 ⟨EvIt.enum T hh hk (.inr rfl) (Ev.name hs), by rw [hn]; decide +kernel, free_of (by rw [hfr]; exact ⟨hrank, trivial⟩), hsk, by simp [lessF, enumL], small2 (by rw [List.length_map]; simpa [lessF] using hz), fun h₀ cenv hc i d o hd ho => ?_, fun _ => rfl⟩
  obtain ⟨d', hd', rfl⟩ := enumL_get hd
  obtain ⟨x, hx, rfl⟩ := map_get hd'
  obtain ⟨y, hy, rfl⟩ := map_get ho
  have hi : i < sizes.length := (List.getElem?_eq_some_iff.mp hx).1
  have hyx : y = if (i : Int) = rank then 1 else x := by
    unfold lessF at hy
    rw [List.getElem?_map, List.getElem?_range hi] at hy
    simp only [Option.map_some, Option.some.injEq] at hy
    rw [← hy, List.getD_eq_getElem?_getD, hx]; rfl
  have e1 : scope.names.lookup ("at" : Str) = some .local := by rw [hn]; rfl
  have e2 : scope.names.lookup ("size" : Str) = some .local := by rw [hn]; rfl
  have e3 : scope.names.lookup ("rank" : Str) = some .free := by rw [hn]; rfl
  have f1 : isFree scope "at" = false := by unfold isFree; rw [e1]
  have f2 : isFree scope "size" = false := by unfold isFree; rw [e2]
  refine ⟨[("size", dInt x), ("at", dInt (i : Int))], AsgnOk.tup hh (.cons rfl (AsgnOk.mine hc (.inl e1)) (.cons rfl (AsgnOk.mine hc (.inl e2)) .nil)) fun b h => h.1, own_names ["size", "at"] ⟨f2, f1, trivial⟩, ?_⟩
  have hin : ((("size", dInt x) :: ("at", dInt (i : Int)) :: inner scope ρ) : Rho).lookup ("rank" : Str) = some (dInt rank) := by
    rw [lookup_cons_ne (by decide), lookup_cons_ne (by decide)]
    have f3 : isFree scope "rank" = true := by unfold isFree; rw [e3]
    have key : ∀ {ρ : Rho}, ρ.lookup ("rank" : Str) = some (dInt rank) → (inner scope ρ).lookup ("rank" : Str) = some (dInt rank) := by
      intro ρ
      induction ρ with
      | nil => intro h; cases h
      | cons p r ih =>
        obtain ⟨n, dn⟩ := p
        intro h
        rw [List.lookup_cons] at h
        unfold inner
        rw [List.filter_cons]
        cases hn : ("rank" : Str) == n with
        | true =>
          rw [hn] at h
          have := beq_iff_eq.mp hn
          subst this
          simp only [f3, if_true]
          rw [List.lookup_cons, beq_self_eq_true]; exact h
        | false =>
          rw [hn] at h
          by_cases hf : isFree scope n = true
          · simp only [hf, if_true]; rw [List.lookup_cons, hn]; exact ih h
          · simp only [hf, Bool.false_eq_true, if_false]; exact ih h
    exact key hr
  refine Ev.cast (Ev.ife (d := dInt (if (i : Int) = rank then 1 else x)) (Tr.cmp (Ev.name (d := dInt (i : Int)) rfl) (Ev.name hin) Cmp.eqI) (fun h => ?_) (fun h => ?_)) (by rw [hyx])
  · rw [if_pos (beq_iff_eq.mp h)]; exact Ev.cint
  · rw [if_neg (beq_eq_false_iff_ne.mp h)]; exact Ev.name rfl
end

section
variable {w : World} {G : Heap} {A : Around} {mg mb : Str → Option Value}

/-- sizes that are small -/
structure Sz (sizes : List Int) : Prop where
  len : sizes.length ≤ 100
  val : ∀ x ∈ sizes, 0 ≤ x ∧ x ≤ 1000
  rows : ∀ i ≤ sizes.length, (rowsF (sizes.take i)).length ≤ 1000
  wide : ∀ i ≤ sizes.length, ∀ r ∈ rowsF (sizes.take i), r.length = i

theorem rd_ints (xs : List Int) : RD (dTup (xs.map dInt)) (.tuple (xs.map .int)) := RD.tup (rd_map (fun _ => RD.int) xs)
theorem lay_ints (xs : List Int) : Lay 1 (.tuple (xs.map .int)) := Lay.tuple fun p hp => by
  obtain ⟨x, _, rfl⟩ := List.mem_map.mp hp
  exact Lay.int

theorem lines_ok {f : Addr} {k : Nat} (T : Tops G mg mb) (hd : IsDefN G f 49) (hr : Room (k + 2) A) (sizes : List Int) (rank : Nat) (hs : Sz sizes) (hs' : Sz (lessF sizes rank)) (hrk : rank < sizes.length) :
    CallOk P0 w G A (dDef G f) [dTup (sizes.map dInt), dInt rank] (dLst ((linesF sizes rank).map fun l => dLst (l.map dInt))) := by
  obtain ⟨p, b, s, e, hd⟩ := hd
  cases (show defAt 49 = some (_, _, _) from rfl).symm.trans e
  clear e
  refine CallOk.ret (ns := ["sizes", "rank"]) T.toBase hd (by walk_at "sig") rfl hr fun A env hr' hfe => ?_
  clear hd
  obtain ⟨L, a, q, c, rfl⟩ := hfe
  obtain ⟨fr, hfr, dfr⟩ := T.defs 47 "_law_rows" (by decide +kernel)
  have hlw : (lessF sizes (rank : Int)).length = sizes.length := by simp [lessF]
  refine Ret.cons (Step.assign (.inl rfl) (Ev.call (rows_ok T dfr hr' sizes hs.val hs.len hs.rows (fun _ _ => trivial) (fun i hi r hr => by rw [hs.wide i hi r hr]; exact Nat.le_trans hi hs.len)) (Ev.gdef T.toBase rfl hfr) ⟨Ev.name rfl, trivial⟩)) ?_ (fun _ => Iff.rfl)
  refine Ret.open (.inl rfl) ?_
  refine Ret.cons (Step.loop (ds := (rowsF (lessF sizes rank)).map dRow) (fun i => [("rows", dRows (rowsF sizes)), ("rank", dInt rank)]) (fun i => [("found", ((linesF sizes rank).take i).map fun l => dLst (l.map dInt))])
    (EvIt.lst hr'.1 (Ev.call (rows_ok T dfr hr' (lessF sizes rank) hs'.val hs'.len hs'.rows (fun _ _ => trivial) (fun i hi r hr => by rw [hs'.wide i hi r hr]; exact Nat.le_trans hi hs'.len)) (Ev.gdef T.toBase rfl hfr)
      ⟨Ev.call CallOk.tuple_lst (Ev.bt T rfl) ⟨less_ev T hr'.1 rfl rfl rfl ⟨.inl rfl, rfl⟩ rfl rfl (Nat.le_trans hs.len (by decide)), trivial⟩, trivial⟩)) (.cons rfl (.cons rfl .nil)) rfl (fun _ _ => by simp [dom_cons]) fun i d hd => ?_) ?_ (fun _ => by simp [dom_cons])
  · obtain ⟨other, ho, rfl⟩ := map_get hd
    refine ⟨[("other", dRow other)], AsgnOk.name (.inl rfl) (fun b h => h.own), noNames ["other"] ["found"], ?_⟩
    have hline : (linesF sizes rank)[i]? = some (lineF (rowsF sizes) rank other) := by unfold linesF; rw [List.getElem?_map, ho]; rfl
    have hwl : (rowsF sizes).length ≤ 1000 := by have := hs.rows sizes.length (Nat.le_refl _); rwa [List.take_length] at this
    have hil : i < (linesF sizes rank).length := (List.getElem?_eq_some_iff.mp hline).1
    have hll : (linesF sizes rank).length ≤ 1000 := by
      unfold linesF; rw [List.length_map]
      have := hs'.rows (lessF sizes rank).length (Nat.le_refl _); rwa [List.take_length] at this
    refine Step.scoped (ρ' := [("other", dRow other), ("rows", dRows (rowsF sizes)), ("rank", dInt rank)]) (os := (lineF (rowsF sizes) rank other).map dInt) (.inl rfl) ?_ ?_
    · refine Step.cast' (Step.loop (ds := enumL ((rowsF sizes).map dRow)) (fun i => [("other", dRow other), ("rows", dRows (rowsF sizes)), ("rank", dInt rank)]) (fun j => [("line", (lineP (rowsF sizes) rank other j).map dInt), ("found", ((linesF sizes rank).take i).map fun l => dLst (l.map dInt))])
        (EvIt.enum T hr'.1 rfl (.inl rfl) (Ev.name rfl)) (.cons rfl (.cons rfl (.cons rfl .nil))) rfl (fun _ _ => by simp [dom_cons]) fun j d hd => ?_) rfl ?_
      · obtain ⟨d', hd', rfl⟩ := enumL_get hd
        obtain ⟨row, hrow, rfl⟩ := map_get hd'
        refine ⟨[("row", dRow row), ("place", dInt j)], AsgnOk.tup hr'.1 (.cons rfl (AsgnOk.name (.inl rfl) (fun b h => h.own)) (.cons rfl (AsgnOk.name (.inl rfl) (fun b h => h.own)) .nil)) fun b h => h, noNames ["row", "place"] ["line", "found"], ?_⟩
        have hwd : row.length = sizes.length := by
          have := hs.wide sizes.length (Nat.le_refl _) row (by rw [List.take_length]; exact List.mem_of_getElem? hrow)
          exact this
        have hl1 := hs.len
        rw [lineP_succ hrow]
        refine (Step.ifT (ρ' := [("row", dRow row), ("place", dInt j), ("other", dRow other), ("rows", dRows (rowsF sizes)), ("rank", dInt rank)]) (b := decide (rowKey rank row = other)) ?_ (fun h => ?_) (fun h => ?_)).out (.cons rfl (.cons rfl (.cons rfl .nil)))
        rotate_left
        · rw [if_pos (of_decide_eq_true h), List.map_append]
          refine Step.append (Ev.name rfl) (d := dInt j) rfl RepA.head ?_
          rw [List.length_map]
          have := lineP_length (rowsF sizes) rank other j
          have := (List.getElem?_eq_some_iff.mp hrow).1
          rw [sizeLine_eq]; omega
        · rw [if_neg (of_decide_eq_false h)]
          exact Step.nil
        · refine Tr.cast ?_ (Tr.cmp (Ev.bin (Ev.bin (Ev.sub (Ev.name (d := dRow row) rfl) (Ev.slice (lo := none) (hi := some (rank : Int)) trivial (Ev.name rfl)) (Itm.tupUpto (k := rank) rfl (by rw [List.length_map]; omega) (small2 (by rw [List.length_map]; omega))))
            (Ev.tuple (ds := [dInt 0]) ⟨Ev.cint, trivial⟩ (small2 (by show 1 ≤ 1000; decide))) (Bin.addT (small2 (by simp; omega)))) (Ev.sub (Ev.name (d := dRow row) rfl) (Ev.slice (lo := some ((rank + 1 : Nat) : Int)) (hi := none) (Ev.cast (Ev.bin (Ev.name rfl) Ev.cint Bin.add) (by rfl)) trivial) (Itm.tupFrom (k := rank + 1) rfl (by omega) (by rw [List.length_map]; omega) (small2 (by rw [List.length_map]; omega))))
            (Bin.addT (small2 (by simp; omega)))) (Ev.name (d := dRow other) rfl) (Cmp.eqD (p := .tuple ((rowKey rank row).map .int)) (q := .tuple (other.map .int)) ?_ (rd_ints other) (lay_ints _) (lay_ints _) hr'.units))
          · rw [PyData.eqv, eqv_ints]
          · have : ((row.map dInt).take rank ++ [dInt 0]) ++ (row.map dInt).drop (rank + 1) = (rowKey rank row).map dInt := by
              unfold rowKey; rw [List.map_append, List.map_append, List.map_take, List.map_drop]; rfl
            rw [this]; exact rd_ints _
      · rw [enumL, List.length_map, List.length_range, List.length_map]; rfl
    · refine ((Step.append (Ev.name rfl) (d := dLst ((lineF (rowsF sizes) rank other).map dInt)) rfl RepA.head ?_).out (.cons rfl (.cons rfl .nil))).cast' rfl ?_
      · rw [List.length_map, List.length_take, sizeLine_eq]; omega
      · rw [List.take_add_one, hline, List.map_append]; rfl
  · rw [List.length_map]
    refine Ret.close (Ret.cast (Ret.ret (Ev.name rfl)) ?_)
    have : (rowsF (lessF sizes rank)).length = (linesF sizes rank).length := by unfold linesF; rw [List.length_map]
    rw [this, List.take_length]
end
end Mine

namespace Mine
open PySem.Calls

local macro_rules | `(tactic| walk_at "sig") => `(tactic| exact ⟨fun name qual kV doc pm an cdv ct vs hl => by (first | (match vs, hl with | [_], _ => with_unfolding_all rfl) | (match vs, hl with | [_, _], _ => with_unfolding_all rfl) | (match vs, hl with | [_, _, _], _ => with_unfolding_all rfl) | (match vs, hl with | [_, _, _, _, _], _ => with_unfolding_all rfl)), by decide +kernel, by decide +kernel, by decide +kernel, rfl, rfl, rfl⟩)

def dOpt : Option Str → Den
  | none => dNone
  | some x => dStr x
def pOpt : Option Str → PyData
  | none => .none
  | some x => .str x
theorem rd_opt (o : Option Str) : RD (dOpt o) (pOpt o) := by cases o with | none => exact RD.none | some x => exact RD.str

/-- folding from the left -/
def accW (wf : Str → Str → Str) (acc : Option Str) (x : Str) : Str := match acc with | none => x | some a => wf a x
def foldW (wf : Str → Str → Str) (start : Option Str) (ws : List Str) : Option Str := ws.foldl (fun acc x => some (accW wf acc x)) start
theorem foldW_take {wf : Str → Str → Str} {start : Option Str} {ws : List Str} {i : Nat} {x : Str} (h : ws[i]? = some x) : foldW wf start (ws.take (i + 1)) = some (accW wf (foldW wf start (ws.take i)) x) := by
  unfold foldW; rw [List.take_add_one, h]; simp
theorem foldW_some (wf : Str → Str → Str) (a : Str) : ∀ ws : List Str, foldW wf (some a) ws = some (ws.foldl wf a)
  | [] => rfl
  | x :: r => by
    have := foldW_some wf (wf a x) r
    unfold foldW at this ⊢
    rw [List.foldl_cons, List.foldl_cons]; exact this
theorem foldW_list (wf : Str → Str → Str) (start : Option Str) (ws : List Str) : foldW wf start ws = match start.toList ++ ws with | [] => none | x :: r => some (r.foldl wf x) := by
  cases start with
  | some a => exact foldW_some wf a ws
  | none =>
    cases ws with
    | nil => rfl
    | cons x r => exact foldW_some wf x r

/-- a way of joining that grows little -/
def Wide (wf : Str → Str → Str) : Prop := ∀ a b, (wf a b).length ≤ a.length + b.length + 2
theorem foldl_len {wf : Str → Str → Str} (hw : Wide wf) : ∀ (ws : List Str) (a : Str), (∀ x ∈ ws, x.length ≤ 1) → (ws.foldl wf a).length ≤ a.length + 3 * ws.length
  | [], a, _ => Nat.le_refl _
  | x :: r, a, h => by
    have h1 := foldl_len hw r (wf a x) fun y hy => h y (.tail _ hy)
    have h2 := hw a x
    have h3 := h x (.head _)
    rw [List.foldl_cons, List.length_cons]; omega
theorem foldW_len {wf : Str → Str → Str} (hw : Wide wf) {start : Option Str} {ws : List Str} {r : Str} (hs : ∀ x, start = some x → x.length ≤ 1) (h : ∀ x ∈ ws, x.length ≤ 1) (e : foldW wf start ws = some r) : r.length ≤ 1 + 3 * ws.length := by
  rw [foldW_list] at e
  cases start with
  | some a =>
    have e' : some (ws.foldl wf a) = some r := e
    cases e'
    have := foldl_len hw ws a h
    have := hs a rfl
    omega
  | none =>
    cases ws with
    | nil => cases e
    | cons x q =>
      have e' : some (q.foldl wf x) = some r := e
      cases e'
      have := foldl_len hw q x fun y hy => h y (.tail _ hy)
      have := h x (.head _)
      rw [List.length_cons]; omega

section
variable {w : World} {G : Heap} {A : Around} {mg mb : Str → Option Value}

/-- a value that joins two texts -/
structure WayOk (w : World) (G : Heap) (wd : Den) (wf : Str → Str → Str) : Prop where
  call : ∀ A, Room 1 A → ∀ a b : Str, a.length ≤ 1000 → b.length ≤ 1000 → CallOk P0 w G A wd [dStr a, dStr b] (dStr (wf a b))
  wide : Wide wf

abbrev dWs (ws : List Str) : Den := dLst (ws.map dStr)

theorem eqv_nil (ps : List PyData) : PyData.eqv (.list ps) (.list []) = ps.isEmpty := by
  cases ps <;> rfl

theorem folded_ok {f : Addr} {k : Nat} (T : Tops G mg mb) (hd : IsDefN G f 32) (hr : Room (k + 2) A) {wd : Den} {wf : Str → Str → Str} (W : WayOk w G wd wf) (ws : List Str) (start : Option Str) (hs : ∀ x, start = some x → x.length ≤ 1) (hw : ∀ x ∈ ws, x.length ≤ 1) (hz : ws.length ≤ 100) :
    CallOk P0 w G A (dDef G f) [dWs ws, dOpt start, wd] (dOpt (foldW wf start ws)) := by
  obtain ⟨p, b, s, e, hd⟩ := hd
  cases (show defAt 32 = some (_, _, _) from rfl).symm.trans e
  clear e
  refine CallOk.ret (ns := ["items", "start", "call"]) T.toBase hd (by walk_at "sig") rfl hr fun A env hr' hfe => ?_
  clear hd
  obtain ⟨L, a, q, c, rfl⟩ := hfe
  refine Ret.cons (Step.assign (.inl rfl) (Ev.name rfl)) ?_ (fun _ => Iff.rfl)
  refine Ret.cons (Step.loop (ds := ws.map dStr) (fun i => [("worth", dOpt (foldW wf start (ws.take i))), ("call", wd)]) (fun _ => []) (EvIt.lst hr'.1 (Ev.name rfl)) (.cons rfl (.cons rfl .nil)) rfl (fun _ _ => Iff.rfl) fun i d hd => ?_) ?_ (fun _ => Iff.rfl)
  · obtain ⟨x, hx, rfl⟩ := map_get hd
    refine ⟨[("item", dStr x)], AsgnOk.name (.inl rfl) (fun b h => h.own), fun _ _ => noDom, ?_⟩
    refine (Step.assign (d := dOpt (foldW wf start (ws.take (i + 1)))) (.inl rfl) ?_).out (.cons rfl (.cons rfl .nil))
    rw [foldW_take hx]
    have hi := (List.getElem?_eq_some_iff.mp hx).1
    cases hq : foldW wf start (ws.take i) with
    | none => exact Ev.ife (c := true) (Tr.cmp (Ev.name (d := dNone) rfl) Ev.cnone Cmp.isNone) (fun _ => Ev.name rfl) (fun h => nomatch h)
    | some a =>
      have hl := foldW_len W.wide hs (fun y hy => hw y (List.mem_of_mem_take hy)) hq
      rw [List.length_take] at hl
      have hx1 := hw x (List.mem_of_getElem? hx)
      exact Ev.ife (c := false) (Tr.cmp (Ev.name (d := dStr a) rfl) Ev.cnone (Cmp.isSome Some'.str)) (fun h => nomatch h) (fun _ => Ev.call (W.call A (hr'.mono (by omega)) a x (by omega) (by omega)) (Ev.name rfl) ⟨Ev.name rfl, Ev.name rfl, trivial⟩)
  · rw [List.length_map, List.take_length]
    exact Ret.ret (Ev.name rfl)

def runF (wf : Str → Str → Str) (ws : List Str) : List Str := (List.range ws.length).map fun m => (foldW wf none (ws.take (m + 1))).getD ⟨#[]⟩
theorem runF_get {wf : Str → Str → Str} {ws : List Str} {i : Nat} {x : Str} (h : ws[i]? = some x) : (runF wf ws)[i]? = some (accW wf (foldW wf none (ws.take i)) x) := by
  have hi := (List.getElem?_eq_some_iff.mp h).1
  unfold runF
  rw [List.getElem?_map, List.getElem?_range hi]
  simp only [Option.map_some, foldW_take h, Option.getD_some]

theorem flat_str {x : Str} : Flat (dStr x) := fun _ _ _ h => h

theorem running_ok {f : Addr} {k : Nat} (T : Tops G mg mb) (hd : IsDefN G f 36) (hr : Room (k + 2) A) {wd : Den} {wf : Str → Str → Str} (W : WayOk w G wd wf) (ws : List Str) (hw : ∀ x ∈ ws, x.length ≤ 1) (hz : ws.length ≤ 100) (hok : ∀ x ∈ runF wf ws, PyData.strOk x = true) :
    CallOk P0 w G A (dDef G f) [dWs ws, wd] (dWs (runF wf ws)) := by
  obtain ⟨p, b, s, e, hd⟩ := hd
  cases (show defAt 36 = some (_, _, _) from rfl).symm.trans e
  clear e
  refine CallOk.ret (ns := ["items", "call"]) T.toBase hd (by walk_at "sig") rfl hr fun A env hr' hfe => ?_
  clear hd
  obtain ⟨L, a, q, c, rfl⟩ := hfe
  have hlen : (runF wf ws).length = ws.length := by simp [runF]
  refine Ret.open (.inl rfl) ?_
  refine Ret.cons (Step.loop (ds := ws.map dStr) (fun i => [("call", wd)]) (fun i => [("found", ((runF wf ws).take i).map dStr)]) (EvIt.lst hr'.1 (Ev.name rfl)) (.cons rfl .nil) rfl (fun _ _ => by simp [dom_cons]) fun i d hd => ?_) ?_ (fun _ => by simp [dom_cons])
  · obtain ⟨x, hx, rfl⟩ := map_get hd
    refine ⟨[("item", dStr x)], AsgnOk.name (.inl rfl) (fun b h => h.own), noNames ["item"] ["found"], ?_⟩
    have hi := (List.getElem?_eq_some_iff.mp hx).1
    have hg := runF_get (wf := wf) hx
    have hx1 := hw x (List.mem_of_getElem? hx)
    refine ((Step.append_peek (d := dStr (accW wf (foldW wf none (ws.take i)) x)) ?_ flat_str ?_).out (.cons rfl .nil)).cast' rfl ?_
    · refine Ev.ife (c := ((runF wf ws).take i).isEmpty) (Tr.cmp (Ev.name (d := dWs ((runF wf ws).take i)) rfl) (Ev.list (ds := []) trivial (Nat.zero_le _)) ?_) (fun h => ?_) (fun h => ?_)
      · have := Cmp.eqD (prog := P0) (w := w) (A := A) (RD.lst (rd_map (f := dStr) (q := PyData.str) (fun _ => RD.str) ((runF wf ws).take i))) (RD.lst (ds := []) (ps := []) trivial) (n := 1) (m := 1) (Lay.list fun p hp => by
          obtain ⟨y, hy, rfl⟩ := List.mem_map.mp hp
          exact Lay.str (hok y (List.mem_of_mem_take hy))) (Lay.list fun p hp => by cases hp) hr'.units
        rw [eqv_nil] at this
        rwa [show (((runF wf ws).take i).map PyData.str).isEmpty = ((runF wf ws).take i).isEmpty by cases (runF wf ws).take i <;> rfl] at this
      · have : i = 0 := by
          rcases Nat.eq_zero_or_pos i with h0 | h0
          · exact h0
          · rw [List.isEmpty_iff] at h
            have := congrArg List.length h
            rw [List.length_take, hlen] at this
            simp only [List.length_nil] at this; omega
        subst this
        exact Ev.name rfl
      · have hpos : 0 < i := by
          rcases Nat.eq_zero_or_pos i with h0 | h0
          · subst h0; simp at h
          · exact h0
        obtain ⟨j, rfl⟩ : ∃ j, i = j + 1 := ⟨i - 1, by omega⟩
        obtain ⟨y, hy⟩ : ∃ y, ws[j]? = some y := ⟨ws[j]'(by omega), List.getElem?_eq_getElem _⟩
        have hgj := runF_get (wf := wf) hy
        rw [foldW_take hy]
        have hl := foldW_len W.wide (start := none) (fun _ h => nomatch h) (fun z hz => hw z (List.mem_of_mem_take hz)) (foldW_take (wf := wf) (start := none) hy)
        rw [List.length_take] at hl
        refine Ev.call (W.call A (hr'.mono (by omega)) _ x (by omega) (by omega)) (Ev.name rfl) ⟨Ev.sub (Ev.name (d := dWs ((runF wf ws).take (j + 1))) rfl) Ev.neg1 (Itm.last ?_ ?_), Ev.name rfl, trivial⟩
        · rw [List.getLast?_eq_getElem?, List.length_map, List.length_take, hlen, show min (j + 1) ws.length - 1 = j by omega, List.getElem?_map, List.getElem?_take, if_pos (Nat.lt_succ_self j), hgj]; rfl
        · rw [List.length_map, List.length_take, sizeLine_eq]; omega
    · rw [List.length_map, List.length_take, sizeLine_eq]; omega
    · show [((_ : Str), _)] = [((_ : Str), _)]
      rw [List.take_add_one, hg, List.map_append]; rfl
  · rw [List.length_map]
    refine Ret.close (Ret.cast (Ret.ret (Ev.name rfl)) ?_)
    rw [← hlen, List.take_length]
end
end Mine

namespace Mine
open PySem.Calls

local macro_rules | `(tactic| walk_at "sig") => `(tactic| exact ⟨fun name qual kV doc pm an cdv ct vs hl => by (first | (match vs, hl with | [_], _ => with_unfolding_all rfl) | (match vs, hl with | [_, _], _ => with_unfolding_all rfl) | (match vs, hl with | [_, _, _], _ => with_unfolding_all rfl) | (match vs, hl with | [_, _, _, _, _], _ => with_unfolding_all rfl)), by decide +kernel, by decide +kernel, by decide +kernel, rfl, rfl, rfl⟩)

section
variable {w : World} {G : Heap} {A : Around} {mg mb : Str → Option Value}

theorem rd_strs (ws : List Str) : RD (dWs ws) (.list (ws.map .str)) := RD.lst (rd_map (fun _ => RD.str) ws)
theorem lay_strs {ws : List Str} (h : ∀ x ∈ ws, PyData.strOk x = true) : Lay 1 (.list (ws.map .str)) := Lay.list fun p hp => by
  obtain ⟨y, hy, rfl⟩ := List.mem_map.mp hp
  exact Lay.str (h y hy)

theorem from_left_ok {f : Addr} {k : Nat} (T : Tops G mg mb) (hd : IsDefN G f 48) (hr : Room (k + 2) A) {wd : Den} {wf : Str → Str → Str} (W : WayOk w G wd wf) (ws : List Str) (start : Option Str) (hs : ∀ x, start = some x → x.length ≤ 1 ∧ PyData.strOk x = true) (hw : ∀ x ∈ ws, x.length ≤ 1 ∧ PyData.strOk x = true) (hz : ws.length ≤ 100) :
    CallOk P0 w G A (dDef G f) [dWs ws, dOpt start, wd] (dOpt (foldW wf start ws)) := by
  obtain ⟨p, b, s, e, hd⟩ := hd
  cases (show defAt 48 = some (_, _, _) from rfl).symm.trans e
  clear e
  refine CallOk.ret (ns := ["words", "start", "way"]) T.toBase hd (by walk_at "sig") rfl hr fun A env hr' hfe => ?_
  clear hd
  obtain ⟨L, a, q, c, rfl⟩ := hfe
  have hall : ∀ x ∈ start.toList ++ ws, x.length ≤ 1 ∧ PyData.strOk x = true := fun x hx => by
    rcases List.mem_append.mp hx with h | h
    · cases start with
      | none => cases h
      | some a => rw [Option.toList_some, List.mem_singleton] at h; exact h ▸ hs a rfl
    · exact hw x h
  have hzl : (start.toList ++ ws).length ≤ 101 := by
    rw [List.length_append]
    cases start with
    | none => simp only [Option.toList_none, List.length_nil]; omega
    | some a => simp only [Option.toList_some, List.length_cons, List.length_nil]; omega
  refine Ret.cons (Step.assign (d := dWs (start.toList ++ ws)) (.inl rfl) ?_) ?_ (fun _ => Iff.rfl)
  · refine Ev.cast (Ev.bin (d₁ := dWs start.toList) (d₂ := dWs ws) ?_ (Ev.name rfl) (Bin.addL (small2 ?_))) (by unfold dWs; rw [List.map_append])
    · cases start with
      | none => exact Ev.ife (c := true) (Tr.cmp (Ev.name (d := dNone) rfl) Ev.cnone Cmp.isNone) (fun _ => Ev.list (ds := []) trivial (Nat.zero_le _)) (fun h => nomatch h)
      | some a => exact Ev.ife (c := false) (Tr.cmp (Ev.name (d := dStr a) rfl) Ev.cnone (Cmp.isSome Some'.str)) (fun h => nomatch h) (fun _ => Ev.list (ds := [dStr a]) ⟨Ev.name rfl, trivial⟩ (small2 (by show 1 ≤ 1000; decide)))
    · rw [List.length_map, List.length_map, ← List.length_append]; omega
  rw [foldW_list]
  generalize start.toList ++ ws = some' at *
  refine Ret.ifT (b := some'.isEmpty) (Tr.cmp (Ev.name (d := dWs some') rfl) (Ev.list (ds := []) trivial (Nat.zero_le _)) ?_) (fun h => ?_) (fun h => ?_)
  · have := Cmp.eqD (prog := P0) (w := w) (A := A) (rd_strs some') (RD.lst (ds := []) (ps := []) trivial) (n := 1) (m := 1) (lay_strs fun x hx => (hall x hx).2) (Lay.list fun p hp => by cases hp) hr'.units
    rw [eqv_nil] at this
    rwa [show (some'.map PyData.str).isEmpty = some'.isEmpty by cases some' <;> rfl] at this
  · rw [List.isEmpty_iff.mp h]
    exact Ret.ret Ev.cnone
  · cases some' with
    | nil => cases h
    | cons x r =>
      have hx0 := hall x (.head _)
      refine Ret.cons (Step.assign (d := dStr x) (.inl rfl) (Ev.sub (Ev.name (d := dWs (x :: r)) rfl) Ev.cint (Itm.lst (by decide) rfl (small2 (by rw [List.length_map]; omega))))) ?_ (fun _ => Iff.rfl)
      have hsl : ∀ {ρ : Rho} {p1 p2 p3 p4 : Pos} {k : Nat} {env : Env}, ρ.lookup ("some" : Str) = some (dWs (x :: r)) → Ev P0 w G A env ρ (.Subscript (.Name "some" p1) (.Slice (some (.Constant (.int 1) k p2)) none none p3) p4) (dWs r) := fun h =>
        Ev.sub (Ev.name h) (Ev.slice (lo := some 1) (hi := none) Ev.cint trivial) (Itm.lstFrom (k := 1) rfl (small2 (by rw [List.length_map]; omega)))
      refine Ret.cons (Step.loop (ds := r.map dStr) (fun i => [("found", dStr ((r.take i).foldl wf x)), ("way", wd)]) (fun _ => []) (EvIt.lst hr'.1 (hsl rfl)) (.cons rfl (.cons rfl .nil)) rfl (fun _ _ => Iff.rfl) fun i d hd => ?_) ?_ (fun _ => Iff.rfl)
      · obtain ⟨y, hy, rfl⟩ := map_get hd
        refine ⟨[("word", dStr y)], AsgnOk.name (.inl rfl) (fun b h => h.own), fun _ _ => noDom, ?_⟩
        have hi := (List.getElem?_eq_some_iff.mp hy).1
        have hy1 := hall y (.tail _ (List.mem_of_getElem? hy))
        have hfl := foldl_len W.wide (r.take i) x fun z hz => (hall z (.tail _ (List.mem_of_mem_take hz))).1
        rw [List.length_take] at hfl
        rw [List.length_cons] at hzl
        refine (Step.assign (d := dStr ((r.take (i + 1)).foldl wf x)) (.inl rfl) ?_).out (.cons rfl (.cons rfl .nil))
        rw [List.take_add_one, hy, Option.toList_some, List.foldl_append]
        exact Ev.call (W.call A (hr'.mono (by omega)) _ y (by omega) (by omega)) (Ev.name rfl) ⟨Ev.name rfl, Ev.name rfl, trivial⟩
      · rw [List.length_map, List.take_length]
        exact Ret.ret (Ev.name rfl)

/-- the sizes with that of a rank made 1 -/
theorem without_rank_ok {f : Addr} {k : Nat} (T : Tops G mg mb) (hd : IsDefN G f 34) (hr : Room (k + 1) A) (sizes : List Int) (rank : Int) (hz : sizes.length ≤ 1000) :
    CallOk P0 w G A (dDef G f) [dTup (sizes.map dInt), dInt rank] (dTup ((lessF sizes rank).map dInt)) := by
  obtain ⟨p, b, s, e, hd⟩ := hd
  cases (show defAt 34 = some (_, _, _) from rfl).symm.trans e
  clear e
  refine CallOk.ret (ns := ["sizes", "rank"]) T.toBase hd (by walk_at "sig") rfl hr fun A env hr' hfe => ?_
  clear hd
  obtain ⟨L, a, q, c, rfl⟩ := hfe
  exact Ret.ret (Ev.call CallOk.tuple_lst (Ev.bt T rfl) ⟨less_ev T hr'.1 rfl rfl rfl ⟨.inl rfl, rfl⟩ rfl rfl hz, trivial⟩)

/-- places by lines -/
def placesStep (found : List Int) (far size : Int) : List (List Int) := (rangeL 0 size).map fun st => found.map fun p => p + far * st
def placesF (sizes : List Int) (rank : Nat) (n : Nat) : List Int := (List.range n).foldl (fun f i => if i = rank then f else (placesStep f ((stridesI 1 sizes).getD i 0) (sizes.getD i 0)).flatten) [0]
def alongF (sizes : List Int) (rank : Nat) : List (List Int) := (placesF sizes rank sizes.length).map fun p => (rangeL 0 (sizes.getD rank 0)).map fun st => p + (stridesI 1 sizes).getD rank 0 * st

theorem placesF_succ {sizes : List Int} {rank n : Nat} : placesF sizes rank (n + 1) = if n = rank then placesF sizes rank n else (placesStep (placesF sizes rank n) ((stridesI 1 sizes).getD n 0) (sizes.getD n 0)).flatten := by
  unfold placesF; rw [List.range_succ, List.foldl_append]; rfl

/-- what the sizes must keep for the walks of places -/
structure Pz (sizes : List Int) : Prop where
  len : sizes.length ≤ 100
  val : ∀ x ∈ sizes, 0 ≤ x ∧ x ≤ 1000
  mul : ∀ i x, sizes[i]? = some x → IntMulOk (prodI (sizes.take i)) x
  far : ∀ x ∈ stridesI 1 sizes, ∀ y : Int, IntMulOk x y

theorem along_ok {f : Addr} {k : Nat} (T : Tops G mg mb) (hd : IsDefN G f 33) (hr : Room (k + 2) A) (sizes : List Int) (rank : Nat) (hp : Pz sizes) (hrk : rank < sizes.length) (hm : ∀ i ≤ sizes.length, (placesF sizes rank i).length ≤ 1000) :
    CallOk P0 w G A (dDef G f) [dTup (sizes.map dInt), dInt rank] (dLst ((alongF sizes rank).map fun l => dLst (l.map dInt))) := by
  obtain ⟨p, b, s, e, hd⟩ := hd
  cases (show defAt 33 = some (_, _, _) from rfl).symm.trans e
  clear e
  refine CallOk.ret (ns := ["sizes", "rank"]) T.toBase hd (by walk_at "sig") rfl hr fun A env hr' hfe => ?_
  clear hd
  obtain ⟨L, a, q, c, rfl⟩ := hfe
  obtain ⟨fs, hfs, dfs⟩ := T.defs 21 "strides_of" (by decide +kernel)
  have hsl : (stridesI 1 sizes).length = sizes.length := stridesI_length ..
  have hlen := hp.len
  refine Ret.cons (Step.assign (.inr ⟨rfl, rfl⟩) (Ev.call (strides_of_ok T dfs hr' sizes hp.mul hp.len) (Ev.gdef T.toBase rfl hfs) ⟨Ev.name rfl, trivial⟩)) ?_ (fun _ => Iff.rfl)
  refine Ret.cons (Step.assign (.inr ⟨rfl, rfl⟩) (Ev.list (ds := [dInt 0]) ⟨Ev.cint, trivial⟩ (small2 (by show 1 ≤ 1000; decide)))) ?_ (fun _ => Iff.rfl)
  refine Ret.cons (Step.loop (ds := enumL (sizes.map dInt)) (fun i => [("found", dLst ((placesF sizes rank i).map dInt)), ("steps", dTup ((stridesI 1 sizes).map dInt)), ("sizes", dTup (sizes.map dInt)), ("rank", dInt rank)]) (fun _ => []) (EvIt.enum T hr'.1 rfl (.inr rfl) (Ev.name rfl)) (.cons rfl (.cons rfl (.cons rfl (.cons rfl .nil)))) rfl (fun _ _ => Iff.rfl) fun i d hd => ?_) ?_ (fun _ => Iff.rfl)
  · obtain ⟨d', hd', rfl⟩ := enumL_get hd
    obtain ⟨x, hx, rfl⟩ := map_get hd'
    have hi := (List.getElem?_eq_some_iff.mp hx).1
    have hxm := hp.val x (List.mem_of_getElem? hx)
    have hgx : sizes.getD i 0 = x := by rw [List.getD_eq_getElem?_getD, hx]; rfl
    obtain ⟨far, hfar⟩ : ∃ far, (stridesI 1 sizes)[i]? = some far := ⟨(stridesI 1 sizes)[i]'(by omega), List.getElem?_eq_getElem _⟩
    have hgf : (stridesI 1 sizes).getD i 0 = far := by rw [List.getD_eq_getElem?_getD, hfar]; rfl
    refine ⟨[("size", dInt x), ("at", dInt i)], AsgnOk.tup hr'.1 (.cons rfl (AsgnOk.name (.inr ⟨rfl, rfl⟩) (fun b h => h.own)) (.cons rfl (AsgnOk.name (.inl rfl) (fun b h => h.own)) .nil)) fun b h => h, fun _ _ => noDom, ?_⟩
    refine (Step.ifT (ρ' := [("found", dLst ((placesF sizes rank (i + 1)).map dInt)), ("size", dInt x), ("at", dInt i), ("steps", dTup ((stridesI 1 sizes).map dInt)), ("sizes", dTup (sizes.map dInt)), ("rank", dInt rank)]) (Tr.cmp (Ev.name (d := dInt i) rfl) (Ev.name (d := dInt rank) rfl) Cmp.neI) (fun h => ?_) (fun h => ?_)).out (.cons rfl (.cons rfl (.cons rfl (.cons rfl .nil))))
    · have hne : i ≠ rank := fun e => by subst e; simp at h
      refine (Step.assign (d := dLst ((placesF sizes rank (i + 1)).map dInt)) (.inr ⟨rfl, rfl⟩) ?_).out (.cons rfl (.cons rfl (.cons rfl (.cons rfl (.cons rfl (.cons rfl .nil))))))
      have hb := hm (i + 1) hi
      rw [placesF_succ, if_neg hne, hgf, hgx] at hb ⊢
      rw [List.map_flatten]
      refine Ev.comp2 ⟨EvIt.rng hr'.1 (Ev.call CallOk.range1 (Ev.bt T rfl) ⟨Ev.name rfl, trivial⟩) (by omega) (by omega), by decide +kernel, free_of ⟨⟨.inl rfl, rfl⟩, ⟨.inl rfl, rfl⟩, ⟨.inl rfl, rfl⟩, trivial⟩, rfl, by simp [placesStep], ?_, fun h₀ cenv hc j d out hj ho => ?_, fun _ => rfl, fun _ _ => rfl⟩
      · rw [← List.map_flatten, List.length_map]; exact small2 hb
      · obtain ⟨y, hy, rfl⟩ := map_get hj
        obtain ⟨o', ho', rfl⟩ := map_get ho
        unfold placesStep at ho'
        obtain ⟨y', hy', rfl⟩ := map_get ho'
        rw [hy] at hy'; cases hy'
        refine ⟨[("step", dInt y)], (placesF sizes rank i).map dInt, AsgnOk.mine hc (.inl rfl), own_names ["step"] ⟨rfl, trivial⟩, EvIt.lst hr'.1 (Ev.name rfl), by simp, fun m d₁ o hd₁ ho₁ => ?_⟩
        obtain ⟨r, hr₁, rfl⟩ := map_get hd₁
        obtain ⟨r', hr₂, rfl⟩ := map_get ho₁
        obtain ⟨r'', hr₃, rfl⟩ := map_get hr₂
        rw [hr₁] at hr₃; cases hr₃
        refine ⟨[("place", dInt r)], AsgnOk.mine hc (.inl rfl), fun x hx => ?_, ?_⟩
        · simp only [names, List.map_cons, List.map_nil, List.mem_singleton] at hx; subst hx; rfl
        · exact Ev.bin (Ev.name rfl) (Ev.bin (Ev.sub (Ev.name (d := dTup ((stridesI 1 sizes).map dInt)) rfl) (Ev.name (d := dInt i) rfl) (Itm.tup (d := dInt far) (Int.natCast_nonneg _) (by rw [Int.toNat_natCast, List.getElem?_map, hfar]; rfl) (small2 (by rw [List.length_map]; omega)))) (Ev.name rfl) (Bin.mul (hp.far far (List.mem_of_getElem? hfar) y))) Bin.add
    · have he : i = rank := by have h' : (i : Int) = rank := (by simpa using h); omega
      rw [placesF_succ, if_pos he]
      exact Step.nil.out (.cons rfl (.cons rfl (.cons rfl (.cons rfl (.cons rfl (.cons rfl .nil))))))
  · have hel : (enumL (sizes.map dInt)).length = sizes.length := by simp [enumL]
    rw [hel]
    obtain ⟨far, hfar⟩ : ∃ far, (stridesI 1 sizes)[rank]? = some far := ⟨(stridesI 1 sizes)[rank]'(by omega), List.getElem?_eq_getElem _⟩
    have hgf : (stridesI 1 sizes).getD rank 0 = far := by rw [List.getD_eq_getElem?_getD, hfar]; rfl
    obtain ⟨x, hx⟩ : ∃ x, sizes[rank]? = some x := ⟨sizes[rank], List.getElem?_eq_getElem hrk⟩
    have hgx : sizes.getD rank 0 = x := by rw [List.getD_eq_getElem?_getD, hx]; rfl
    have hxm := hp.val x (List.mem_of_getElem? hx)
    unfold alongF
    rw [hgf, hgx, List.map_map]
    have hpl := hm sizes.length (Nat.le_refl _)
    refine Ret.ret (Ev.comp1 ⟨EvIt.lst hr'.1 (Ev.name rfl), by decide +kernel, free_of ⟨⟨.inl rfl, rfl⟩, ⟨.inl rfl, rfl⟩, ⟨.inl rfl, rfl⟩, trivial⟩, rfl, by rw [List.length_map, List.length_map], by rw [List.length_map]; exact small2 hpl, fun h₀ cenv hc i d o hd ho => ?_, fun _ => rfl⟩)
    obtain ⟨y, hy, rfl⟩ := map_get hd
    obtain ⟨y', hy', rfl⟩ := map_get ho
    rw [hy] at hy'; cases hy'
    refine ⟨[("place", dInt y)], AsgnOk.mine hc (.inr rfl), own_names ["place"] ⟨rfl, trivial⟩, ?_⟩
    show Ev P0 w G A cenv _ _ (dLst (((rangeL 0 x).map fun st => y + far * st).map dInt))
    have hitem : ∀ {cenv : Env} {ρ : Rho} {p1 p2 p3 : Pos}, ρ.lookup ("steps" : Str) = some (dTup ((stridesI 1 sizes).map dInt)) → ρ.lookup ("rank" : Str) = some (dInt rank) → Ev P0 w G A cenv ρ (.Subscript (.Name "steps" p1) (.Name "rank" p2) p3) (dInt far) := fun h1 h2 =>
      Ev.sub (Ev.name h1) (Ev.name h2) (Itm.tup (d := dInt far) (Int.natCast_nonneg _) (by rw [Int.toNat_natCast, List.getElem?_map, hfar]; rfl) (small2 (by rw [List.length_map]; omega)))
    refine Ev.comp1 ⟨EvIt.rng hr'.1 (Ev.call CallOk.range1 (Ev.bt T ?_) ⟨Ev.sub (Ev.name (d := dTup (sizes.map dInt)) rfl) (Ev.name (d := dInt rank) rfl) (Itm.tup (d := dInt x) (Int.natCast_nonneg _) (by rw [Int.toNat_natCast, List.getElem?_map, hx]; rfl) (small2 (by rw [List.length_map]; omega))), trivial⟩) (by omega) (by omega), by decide +kernel, free_of ⟨hc.holdC rfl, hc.hold rfl, hc.hold rfl, trivial⟩, rfl, by simp, ?_, fun h₁ cenv₁ hc₁ j d₁ o₁ hd₁ ho₁ => ?_, fun _ => rfl⟩
    · exact hc.kind rfl rfl
    · rw [List.length_map, List.length_map, rangeL, List.length_map, List.length_range]; exact small2 (by omega)
    · obtain ⟨z, hz, rfl⟩ := map_get hd₁
      obtain ⟨z', hz', rfl⟩ := map_get ho₁
      obtain ⟨z'', hz'', rfl⟩ := map_get hz'
      rw [hz] at hz''; cases hz''
      refine ⟨[("step", dInt z)], AsgnOk.mine hc₁ (.inl rfl), own_names ["step"] ⟨rfl, trivial⟩, ?_⟩
      exact Ev.bin (Ev.name rfl) (Ev.bin (hitem rfl rfl) (Ev.name rfl) (Bin.mul (hp.far far (List.mem_of_getElem? hfar) z))) Bin.add
end
end Mine

namespace Mine
open PySem.Calls

local macro_rules | `(tactic| walk_at "sig") => `(tactic| exact ⟨fun name qual kV doc pm an cdv ct vs hl => by (first | (match vs, hl with | [_], _ => with_unfolding_all rfl) | (match vs, hl with | [_, _], _ => with_unfolding_all rfl) | (match vs, hl with | [_, _, _], _ => with_unfolding_all rfl) | (match vs, hl with | [_, _, _, _, _], _ => with_unfolding_all rfl)), by decide +kernel, by decide +kernel, by decide +kernel, rfl, rfl, rfl⟩)

theorem inner_some {scope : Scope} {x : Str} {d : Den} (hf : isFree scope x = true) : ∀ {ρ : Rho}, ρ.lookup x = some d → (inner scope ρ).lookup x = some d
  | [], h => by cases h
  | (n, dn) :: r, h => by
    rw [List.lookup_cons] at h
    unfold inner
    rw [List.filter_cons]
    cases hn : x == n with
    | true =>
      rw [hn] at h
      have := beq_iff_eq.mp hn
      subst this
      simp only [hf, if_true]
      rw [List.lookup_cons, beq_self_eq_true]; exact h
    | false =>
      rw [hn] at h
      have ih := inner_some hf (ρ := r) h
      by_cases hq : isFree scope n = true
      · simp only [hq, if_true]; rw [List.lookup_cons, hn]; exact ih
      · simp only [hq, Bool.false_eq_true, if_false]; exact ih

def pickS (ws : List Str) (l : List Int) : List Str := l.map fun p => ws.getD p.toNat ⟨#[]⟩

section
variable {prog : Program} {w : World} {G : Heap} {A : Around} {env cenv : Env} {ρ ρ' ρ'' : Rho} {mg mb : Str → Option Value} {scope : Scope} {h₀ : Heap}

/-- [items[place] for place in line] -/
theorem pick_ev {p1 p2 p3 p4 p5 p6 : Pos} {n : Str} {ws : List Str} {l : List Int} (hh : A.handled = none) (hl : ρ.lookup ("line" : Str) = some (dLst (l.map dInt))) (hw : ρ.lookup n = some (dWs ws)) (hp : ∀ p ∈ l, 0 ≤ p ∧ p.toNat < ws.length) (hz : l.length ≤ 1000) (hz' : ws.length ≤ 1000)
    (hk : scope.kind = .function) (e1 : scope.names.lookup ("place" : Str) = some .local) (e2 : scope.names.lookup n = some .free) (hnm : ∀ p ∈ scope.names, scope.names.lookup p.1 = some p.2) (hfr : frees scope = [n]) (hn : Held env n) (hne : n ≠ ("place" : Str))
    (hd : (n == ("__debug__" : Str)) = false) (hc' : (n == ("__classdict__" : Str)) = false) :
    Ev prog w G A env ρ (.ListComp (.Subscript (.Name n p1) (.Name "place" p2) p3) [⟨.Name "place" p4, .Name "line" p5, [], 0⟩] scope p6) (dWs (pickS ws l)) := by
  refine Ev.comp1 ⟨EvIt.lst hh (Ev.name hl), hnm, free_of (by rw [hfr]; exact ⟨hn, trivial⟩), hk, by simp [pickS], by rw [List.length_map, pickS, List.length_map]; exact small2 hz, fun h₀ cenv hc i d o hd ho => ?_, fun _ => rfl⟩
  obtain ⟨y, hy, rfl⟩ := map_get hd
  obtain ⟨x, hx, rfl⟩ := map_get ho
  unfold pickS at hx
  obtain ⟨y', hy', rfl⟩ := map_get hx
  rw [hy] at hy'; cases hy'
  obtain ⟨h0, h1⟩ := hp y (List.mem_of_getElem? hy)
  refine ⟨[("place", dInt y)], AsgnOk.mine hc (.inl e1), own_names ["place"] ⟨(by show isFree scope "place" = false; unfold isFree; rw [e1]), trivial⟩, ?_⟩
  have hw' : (([("place", dInt y)] : Rho) ++ inner scope ρ).lookup n = some (dWs ws) := by
    rw [List.cons_append, List.nil_append, lookup_cons_ne hne]
    exact inner_some (by unfold isFree; rw [e2]) hw
  exact Ev.sub (Ev.name hw' ‹_› hc') (Ev.name (d := dInt y) rfl) (Itm.lst h0 (by rw [List.getElem?_map, List.getD_eq_getElem?_getD, List.getElem?_eq_getElem h1]; rfl) (small2 (by rw [List.length_map]; exact hz')))
end

section
variable {w : World} {G : Heap} {A : Around} {mg mb : Str → Option Value}

theorem pick_mem {ws : List Str} {l : List Int} (hp : ∀ p ∈ l, 0 ≤ p ∧ p.toNat < ws.length) : ∀ x ∈ pickS ws l, x ∈ ws := fun x hx => by
  obtain ⟨p, hpl, rfl⟩ := List.mem_map.mp hx
  have h := (hp p hpl).2
  rw [List.getD_eq_getElem?_getD, List.getElem?_eq_getElem h]
  exact List.getElem_mem h

def redF (wf : Str → Str → Str) (ws : List Str) (ls : List (List Int)) (start : Option Str) : List (Option Str) := ls.map fun l => foldW wf start (pickS ws l)

theorem reduced_ok {f : Addr} {k : Nat} (T : Tops G mg mb) (hd : IsDefN G f 35) (hr : Room (k + 3) A) {wd : Den} {wf : Str → Str → Str} (W : WayOk w G wd wf) (ws : List Str) (start : Option Str) (hs : ∀ x, start = some x → x.length ≤ 1) (hw : ∀ x ∈ ws, x.length ≤ 1) (hz : ws.length ≤ 100)
    (sizes : List Int) (rank : Nat) (hp : Pz sizes) (hrk : rank < sizes.length) (hm : ∀ i ≤ sizes.length, (placesF sizes rank i).length ≤ 1000) (hin : ∀ l ∈ alongF sizes rank, l.length ≤ 100 ∧ ∀ p ∈ l, 0 ≤ p ∧ p.toNat < ws.length) :
    CallOk P0 w G A (dDef G f) [dWs ws, dTup (sizes.map dInt), dInt rank, dOpt start, wd] (dLst ((redF wf ws (alongF sizes rank) start).map dOpt)) := by
  obtain ⟨p, b, s, e, hd⟩ := hd
  cases (show defAt 35 = some (_, _, _) from rfl).symm.trans e
  clear e
  refine CallOk.ret (ns := ["items", "sizes", "rank", "start", "call"]) T.toBase hd (by walk_at "sig") rfl hr fun A env hr' hfe => ?_
  clear hd
  obtain ⟨L, a, q, c, rfl⟩ := hfe
  obtain ⟨fa, hfa, dfa⟩ := T.defs 33 "along" (by decide +kernel)
  obtain ⟨ff, hff, dff⟩ := T.defs 32 "folded" (by decide +kernel)
  have hpl := hm sizes.length (Nat.le_refl _)
  have hal : (alongF sizes rank).length ≤ 1000 := by unfold alongF; rw [List.length_map]; exact hpl
  refine Ret.ret (Ev.comp1 ⟨EvIt.lst hr'.1 (Ev.call (along_ok T dfa hr' sizes rank hp hrk hm) (Ev.gdef T.toBase rfl hfa) ⟨Ev.name rfl, Ev.name rfl, trivial⟩), by decide +kernel, free_of ⟨⟨.inl rfl, rfl⟩, ⟨.inl rfl, rfl⟩, ⟨.inl rfl, rfl⟩, trivial⟩, rfl, by simp [redF], by rw [List.length_map, redF, List.length_map]; exact small2 hal, fun h₀ cenv hc i d o hd ho => ?_, fun _ => rfl⟩)
  obtain ⟨l, hl, rfl⟩ := map_get hd
  obtain ⟨o', ho', rfl⟩ := map_get ho
  unfold redF at ho'
  obtain ⟨l', hl', rfl⟩ := map_get ho'
  rw [hl] at hl'; cases hl'
  obtain ⟨hl1, hl2⟩ := hin l (List.mem_of_getElem? hl)
  refine ⟨[("line", dLst (l.map dInt))], AsgnOk.mine hc (.inl rfl), own_names ["line"] ⟨rfl, trivial⟩, ?_⟩
  exact Ev.call (folded_ok T dff hr' W (pickS ws l) start hs (fun x hx => hw x (pick_mem hl2 x hx)) (by unfold pickS; rw [List.length_map]; exact hl1)) (Ev.gdef T.toBase (hc.kind rfl rfl) hff)
    ⟨pick_ev hr'.1 rfl rfl hl2 (Nat.le_trans hl1 (by decide)) (Nat.le_trans hz (by decide)) rfl rfl rfl (by decide +kernel) rfl (hc.hold rfl) (by decide) (by decide) (by decide), Ev.name rfl, Ev.name rfl, trivial⟩
end
end Mine

namespace Mine
open PySem.Calls

/-- the entries of an object's dict -/
def Ent (g : View) : List DictEntry → List (Str × Den) → Prop
  | [], [] => True
  | e :: es, (x, d) :: r => (∃ tk, e.key = .str x tk) ∧ d.is g e.val ∧ Ent g es r
  | _, _ => False

theorem Ent.mono {g g' : View} (k : ∀ a o, g a o → g' a o) : ∀ {es : List DictEntry} {fs : List (Str × Den)}, Ent g es fs → Ent g' es fs
  | [], [], _ => trivial
  | [], _ :: _, h => h.elim
  | _ :: _, [], h => h.elim
  | _ :: _, (_, d) :: _, ⟨a, b, c⟩ => ⟨a, d.mono k b, Ent.mono k c⟩
theorem Ent.length {g : View} : ∀ {es : List DictEntry} {fs : List (Str × Den)}, Ent g es fs → es.length = fs.length
  | [], [], _ => rfl
  | [], _ :: _, h => h.elim
  | _ :: _, [], h => h.elim
  | _ :: _, _ :: _, ⟨_, _, c⟩ => by rw [List.length_cons, List.length_cons, Ent.length c]
theorem isStr_str {x y : Str} {t : Tok} : Value.isStr (.str y t) x = (y == x) := rfl
theorem Ent.get {g : View} {x : Str} {d : Den} : ∀ {es : List DictEntry} {fs : List (Str × Den)}, Ent g es fs → fs.lookup x = some d → ∃ u, getL x es = some (some u) ∧ d.is g u
  | [], [], _, h => by cases h
  | [], _ :: _, h, _ => h.elim
  | _ :: _, [], h, _ => h.elim
  | e :: es, (y, d') :: r, ⟨⟨tk, a⟩, b, c⟩, h => by
    rw [List.lookup_cons] at h
    unfold getL
    rw [List.find?_cons, a, isStr_str]
    cases hx : x == y with
    | true =>
      rw [hx] at h; cases h
      have e' := beq_iff_eq.mp hx
      subst e'
      rw [beq_self_eq_true]
      exact ⟨_, rfl, b⟩
    | false =>
      rw [hx] at h
      have : (y == x) = false := beq_eq_false_iff_ne.mpr fun q => beq_eq_false_iff_ne.mp hx q.symm
      rw [this]
      obtain ⟨u, hu, hd⟩ := Ent.get c h
      refine ⟨u, ?_, hd⟩
      unfold getL at hu
      cases hf : es.find? (·.key.isStr x) with
      | some en => rw [hf] at hu; exact hu
      | none => rw [hf] at hu; simp only at hu; split at hu <;> cases hu
theorem Ent.noRef {g : View} : ∀ {es : List DictEntry} {fs : List (Str × Den)}, Ent g es fs → es.any (·.refKey) = false
  | [], [], _ => rfl
  | [], _ :: _, h => h.elim
  | _ :: _, [], h => h.elim
  | e :: es, (y, d') :: r, ⟨⟨tk, a⟩, b, c⟩ => by
    rw [List.any_cons, Ent.noRef c, Bool.or_false]
    obtain ⟨h, k, v⟩ := e
    have a' : k = .str y tk := a
    subst a'; rfl
theorem Ent.noKey {g : View} {x : Str} : ∀ {es : List DictEntry} {fs : List (Str × Den)}, Ent g es fs → fs.lookup x = none → es.find? (·.key.isStr x) = none
  | [], [], _, h => rfl
  | [], _ :: _, h, _ => h.elim
  | _ :: _, [], h, _ => h.elim
  | e :: es, (y, d') :: r, ⟨⟨tk, a⟩, b, c⟩, h => by
    rw [List.lookup_cons] at h
    rw [List.find?_cons, a, isStr_str]
    cases hx : x == y with
    | true => rw [hx] at h; cases h
    | false =>
      rw [hx] at h
      have : (y == x) = false := beq_eq_false_iff_ne.mpr fun q => beq_eq_false_iff_ne.mp hx q.symm
      rw [this]
      exact Ent.noKey c h
theorem Ent.getNone {g : View} {x : Str} {es : List DictEntry} {fs : List (Str × Den)} (h : Ent g es fs) (e : fs.lookup x = none) : getL x es = some none := by
  unfold getL
  rw [h.noKey e]
  simp only [h.noRef, Bool.false_eq_true, if_false]
theorem Ent.put {g : View} {x : Str} {d : Den} {v : Value} {hs : Int} {t : Tok} (hv : d.is g v) : ∀ {es : List DictEntry} {fs : List (Str × Den)}, Ent g es fs → fs.lookup x = none → Ent g (putL x hs (.str x t) v es) (fs ++ [(x, d)])
  | [], [], _, _ => ⟨⟨t, rfl⟩, hv, trivial⟩
  | [], _ :: _, h, _ => h.elim
  | _ :: _, [], h, _ => h.elim
  | e :: es, (y, d') :: r, ⟨⟨tk, a⟩, b, c⟩, h => by
    rw [List.lookup_cons] at h
    cases hx : x == y with
    | true => rw [hx] at h; cases h
    | false =>
      rw [hx] at h
      have : (y == x) = false := beq_eq_false_iff_ne.mpr fun q => beq_eq_false_iff_ne.mp hx q.symm
      unfold putL
      rw [a, isStr_str, this]
      exact ⟨⟨tk, a⟩, b, Ent.put hv c h⟩
theorem putL_length (x : Str) (hs : Int) (key v : Value) : ∀ es : List DictEntry, (putL x hs key v es).length ≤ es.length + 1
  | [] => Nat.le_refl _
  | e :: r => by
    unfold putL
    split
    · simp
    · have := putL_length x hs key v r
      rw [List.length_cons, List.length_cons]; omega

/-- an object of a class, its attributes -/
def dObj (C : Addr) (fs : List (Str × Den)) : Den where
  is g v := ∃ x dx es n, v = .ref x ∧ g x (instObj C dx) ∧ g dx (dictOf es n) ∧ Ent g es fs
  mono := fun k ⟨x, dx, es, n, e, a, b, c⟩ => ⟨x, dx, es, n, e, k _ _ a, k _ _ b, c.mono k⟩

/-- a value and the whole base heap in view -/
def dBase (G : Heap) (u : Value) : Den where
  is g v := v = u ∧ ∀ a o, G.get? a = some o → g a o
  mono := fun k ⟨e, h⟩ => ⟨e, fun a o q => k _ _ (h a o q)⟩

def Handed (d : Den) : Prop := ∀ g v, d.is g v → handedIn v = true
theorem Handed.seq {k : String} {ds : List Den} : Handed (dSeq k ds) := fun g v ⟨a, _, _, e, _⟩ => by subst e; rfl
theorem Handed.int {i : Int} : Handed (dInt i) := fun g v ⟨t, e⟩ => by subst e; rfl
theorem Handed.ref {a : Addr} : Handed (dVal (.ref a)) := fun g v e => by have e' : v = .ref a := e; subst e'; rfl
theorem Handed.obj {C : Addr} {fs : List (Str × Den)} : Handed (dObj C fs) := fun g v ⟨x, _, _, _, e, _⟩ => by subst e; rfl

/-- what is known of a class of the base heap -/
structure Cls (G : Heap) (K : Frag) (C fI : Addr) (attrs : List Str) (meths : List (Str × Addr)) : Prop where
  inn : K.In G
  makes : makesIn K C = true
  init : findIn K (.ref C) "__init__" = some (some (.ref fI))
  fn : typeIn K (.ref fI) = some (.type "function")
  setattr : findIn K (.ref C) "__setattr__" = some (some (.builtin "object.__setattr__"))
  over : plainOver K C = true
  hasDict : hasDictIn K C = true
  get : plainGet K C ⟨#[]⟩ = true
  attr : ∀ x ∈ attrs, takerIn K C x = some none ∧ findIn K (.ref C) x = some none
  meth : ∀ x f, (x, f) ∈ meths → findIn K (.ref C) x = some (some (.ref f)) ∧ isFn K (.ref f) = true
  keep : keepIn K (.ref C) = true

section
variable {prog : Program} {w : World} {G : Heap} {A : Around} {env cenv : Env} {ρ ρ' ρ'' : Rho} {E : Value → Shared → Prop} {s s' : Shared} {X X₀ M W : Addr → Prop} {mg mb : Str → Option Value} {α α' α'' : Alpha}
  {K : Frag} {C fI : Addr} {attrs : List Str} {meths : List (Str × Addr)}

theorem Ev.gref {x : Str} {pos : Pos} {f : Addr} (B : Base G mg mb) (hk : env.kindOf x = some .globalImplicit) (hv : mg x = some (.ref f)) (hd : (x == ("__debug__" : Str)) = false := by decide) :
    Ev prog w G A env ρ (.Name x pos) (dBase G (.ref f)) := fun X s E ok =>
  wpAny_mono (Ev.glob B hk hv hd X s E ok) (fun v s' ⟨k, e⟩ => ⟨k, e, (ok.keeps k).base⟩) fun _ _ x => x

theorem getAttr_obj {attr : Str} {fs : List (Str × Den)} {d : Den} {v : Value} {ex : Bool} (c : Cls G K C fI attrs meths) (ha : attr ∈ attrs) (hl : fs.lookup attr = some d) (hh : Handed d) (hb : ∀ a o, G.get? a = some o → s.heap.get? a = some o)
    (hv : (dObj C fs).is (vw X s.heap) v) : wpAny (model prog w) A (getAttr v attr ex) (fun v s' => Grows s s' ∧ d.is (vw X s'.heap) v) E s := by
  obtain ⟨x, dx, es, n, rfl, hx, hd, he⟩ := hv
  obtain ⟨u, hu, hdu⟩ := he.get hl
  obtain ⟨h1, h2⟩ := c.attr attr ha
  have KI : K.In s.heap := fun a o e => hb a o (c.inn a o e)
  exact get_value KI ⟨hx.1, rfl, rfl, hd.1⟩ (plainGet_of c.get).1 (findObj_own c.hasDict h2 rfl (by rw [lookIn_dict]; exact hu)) (hh _ _ hdu) ⟨Grows.toks, hdu⟩

theorem Ev.attr {value : Expr} {attr : Str} {pos : Pos} {fs : List (Str × Den)} {d : Den} (c : Cls G K C fI attrs meths) (hx : Ev prog w G A env ρ value (dObj C fs)) (ha : attr ∈ attrs) (hl : fs.lookup attr = some d) (hh : Handed d)
    (he : eval (.Attribute value attr pos) env = (do
      let o ← eval value env
      standAt pos.atName
      let r ← holding [o] (getAttr o attr true)
      letTemporaryGo value o r
      pure r) := by with_unfolding_all rfl) :
    Ev prog w G A env ρ (.Attribute value attr pos) d := fun X s E ok =>
  Attribute_any_ (hx.use ok fun v s₁ k₁ ok₁ hv => wpAny_mono (getAttr_obj c ha hl hh (fun a o e => (ok₁.base a o e).1) hv) (fun u s₂ q => ⟨k₁.tr q.1, q.2⟩) fun _ _ x => x) he

theorem Room.under {k : Nat} {C : Addr} {vs : List Value} (h : Room (k + 1) A) : Room k (A.under (.builtin "type.__call__" ⟨.ref C :: vs, []⟩)) := by
  obtain ⟨a, b, c⟩ := h
  refine ⟨a, ?_, ?_⟩
  · show A.depth + 1 + k ≤ 900; omega
  · show A.units + 1 + 10 * k + 100 ≤ 9900; omega

/-- object.__setattr__ into the object's own dict -/
theorem osa_raw {R : Result → Shared → Prop} {x dx : Addr} {ox : Obj} {name : Str} {tk : Tok} {v : Value} {es : List DictEntry} {n : Nat} (KI : K.In s.heap)
    (I : InstAt s.heap x ox C (some (dictOf es n))) (hd : ox.dict = some dx) (hdx : s.heap.get? dx = some (dictOf es n)) (hp : plainOver K C = true) (ht : takerIn K C name = some none) (hh : hasDictIn K C = true)
    (hl : (getL name es).isSome = true) (hz : es.length + 1 ≤ 1000)
    (h : ∀ h', h'.get? dx = some (dictOf (putL name (PyData.keyHash w.params name) (.str name s.toks) v es) (putN name es n)) → Heap.SameBut dx s.heap h' → R (.ok (.ret .none)) { s with heap := h', toks := s.toks + 1 }) :
    codeAny (model prog w) A (.call (.builtin "object.__setattr__") ⟨[.ref x, .str name tk, v], []⟩) R s := by
  refine osa_open KI I hp ht fun b => ?_
  obtain ⟨cd, hc, hd'⟩ := any_some hh
  have D' := Heap.get?_update_self (Obj.putName name (PyData.keyHash w.params name) (.str name s.toks) v) hdx (by rw [putName_dict]; rfl)
  obtain ⟨hx, hcl, hn, -⟩ := I
  obtain ⟨oc, odi, oda, osl⟩ := ox
  dsimp only at hcl hd
  subst hcl hd
  refine wpAny_bind (wpAny_pure (wpAny_bind (wpAny_bind (wpAny_loadPart hx (wpAny_bind ((looks_clsIn KI hc).here ?_))))))
  rw [hd']
  refine wpAny_pure (a := some dx) (wpAny_bind (wpAny_pure (wpAny_bind ?_)))
  unfold nsSet
  refine wpAny_bind (wpAny_bind (wpAny_askSetting (wpAny_pure (wpAny_bind (wpAny_mkText (wpAny_bind (wpAny_loadPart hdx ?_)))))))
  dsimp only
  have c : (!es.toArray.any (·.key.isStr name) && es.toArray.any (·.refKey)) = false := by
    rw [← Array.any_toList, ← Array.any_toList]
    unfold getL at hl
    split at hl
    · rename_i en he
      rw [List.any_eq_true.mpr ⟨en, List.mem_of_find?_eq_some he, List.find?_some he⟩]; rfl
    · split at hl
      · cases hl
      · rename_i z; rw [Bool.not_eq_true] at z; rw [show es.toArray.toList.any (·.refKey) = false from z, Bool.and_false]
  rw [aRefKeyMayBeTheName_at, c]
  refine wpAny_updatePart hdx ?_
  rw [putName_dict] at D'
  have hlen := putL_length name (PyData.keyHash w.params name) (.str name s.toks) v es
  refine wpAny_bind (wpAny_lookBehind D' (pastItsLine_dict (by rw [List.size_toArray, sizeLine_eq]; omega)) ?_)
  exact wpAny_pure (h _ D' (Heap.SameBut.update ..))

theorem set_raw {x dx : Addr} {ox : Obj} {name : Str} {v : Value} {es : List DictEntry} {n : Nat} {Q : Unit → Shared → Prop} (c : Cls G K C fI attrs meths) (ha : name ∈ attrs) (hb : ∀ a o, G.get? a = some o → s.heap.get? a = some o)
    (I : InstAt s.heap x ox C (some (dictOf es n))) (hd : ox.dict = some dx) (hdx : s.heap.get? dx = some (dictOf es n)) (hl : (getL name es).isSome = true) (hz : es.length + 1 ≤ 1000)
    (h : ∀ h' hs t, h'.get? dx = some (dictOf (putL name hs (.str name t) v es) (putN name es n)) → Heap.SameBut dx s.heap h' → Q () { s with heap := h', toks := s.toks + 2 }) :
    wpAny (model prog w) A (setAttr (.ref x) name v) Q E s := by
  have KI : K.In s.heap := fun a o e => hb a o (c.inn a o e)
  exact set_plain KI I c.setattr (osa_raw (s := { s with toks := s.toks + 1 }) KI I hd hdx c.over (c.attr name ha).1 c.hasDict hl hz fun h' e hs => h h' _ _ e hs)
end
end Mine

namespace Mine
open PySem.Calls

/-- the frame of an __init__: the object's dict is being filled -/
structure OkD (G : Heap) (X : Addr → Prop) (env : Env) (ρ : Rho) (s : Shared) (C x dx : Addr) (fs : List (Str × Den)) : Prop where
  ok : Ok G X env ρ s
  xd : X dx
  no : ¬ Own env dx
  inst : vw X s.heap x (instObj C dx)
  dct : ∃ es n, s.heap.get? dx = some (dictOf es n) ∧ Ent (vw X s.heap) es fs

section
variable {prog : Program} {w : World} {G : Heap} {A : Around} {env cenv : Env} {ρ ρ' ρ'' : Rho} {E : Value → Shared → Prop} {s s' : Shared} {X X₀ M W : Addr → Prop} {mg mb : Str → Option Value} {α α' α'' : Alpha}
  {K : Frag} {C fI x dx : Addr} {attrs : List Str} {meths : List (Str × Addr)} {fs : List (Str × Den)} {params : Arguments} {body : List Stmt} {scope : Scope} {ns : List Str} {ds : List Den} {vs : List Value}

theorem OkD.keeps (o : OkD G X env ρ s C x dx fs) (k : Grows s s') : OkD G X env ρ s' C x dx fs :=
  ⟨o.ok.keeps k, o.xd, o.no, ⟨Grows.at k o.inst.1, o.inst.2⟩, let ⟨es, n, a, b⟩ := o.dct; ⟨es, n, Grows.at k a, b.mono (vw_keeps k)⟩⟩

/-- self.attr = e -/
theorem OkD.set {attr : Str} {p p' pos : Pos} {e : Expr} {d : Den} (c : Cls G K C fI attrs meths) (o : OkD G X env ρ s C x dx fs) (ha : attr ∈ attrs) (he : Ev prog w G A env ρ e d) (hs : ρ.lookup ("self" : Str) = some (dVal (.ref x))) (hf : fs.lookup attr = none) (hz : fs.length ≤ 100)
    (hsw : swapsWith e (some (.Attribute (.Name "self" p) attr p')) pos.line env = pure false := by rfl) :
    wpAny (model prog w) A (exec (.Assign [.Attribute (.Name "self" p) attr p'] e pos) env) (fun f s' => f = .next ∧ KeepM (fun b => b = dx) s s' ∧ OkD G X env ρ s' C x dx (fs ++ [(attr, d)])) E s := by
  refine plainObj_wpAny_Assign_Attribute (he.use o.ok fun v s₁ k₁ ok₁ hv => (Ev.name (pos := p) hs).use ok₁ fun u s₂ k₂ ok₂ hu => ?_) hsw
  have hu' : u = .ref x := hu
  subst hu'
  have o₂ := (o.keeps k₁).keeps k₂
  obtain ⟨es, n, hdx, hent⟩ := o₂.dct
  have hlen := hent.length
  refine set_raw c ha (fun a ob e => (ok₂.base a ob e).1) ⟨o₂.inst.1, rfl, rfl, hdx⟩ rfl hdx (by rw [hent.getNone hf]; rfl) (by omega) fun h' hsh t hd' hs' => ?_
  have k₃ : KeepM (fun b => b = dx) s₂ { s₂ with heap := h', toks := s₂.toks + 2 } := ⟨h', _, rfl, fun b ob hb e => hs'.extBut b ob hb e⟩
  refine ⟨rfl, (KeepM.of_keeps (k₁.tr k₂)).trans k₃, ok₂.keepM k₃ (fun b e => e ▸ o.xd) (fun b hb e => o.no (e ▸ hb)) (fun b e => ⟨_, e ▸ hd'⟩), o.xd, o.no, ⟨k₃.get (fun e => o₂.inst.2 (e ▸ o.xd)) o₂.inst.1, o₂.inst.2⟩, _, _, hd', ?_⟩
  have up : ∀ a ob, vw X s₂.heap a ob → vw X h' a ob := fun a ob q => ⟨k₃.get (fun e => q.2 (e ▸ o.xd)) q.1, q.2⟩
  exact Ent.put (d.mono up (Den.keeps d k₂ hv)) (hent.mono up) hf

theorem cls_run {k : Nat} {Q : Value → Shared → Prop} (B : Base G mg mb) (c : Cls G K C fI attrs meths) (hd : IsDef G fI params body scope) (sg : Sig params body scope ("self" :: ns)) (hlen : ds.length = ns.length) (hr : Room (k + 2) A)
    (hX : ∀ b, X b → ∃ o, s.heap.get? b = some o) (hb : ∀ a o, G.get? a = some o → vw X s.heap a o) (hv : All2 (fun d v => d.is (vw X s.heap) v) ds vs)
    (h : ∀ (A' : Around) (env : Env) (s₁ : Shared) (x dx : Addr) (E' : Value → Shared → Prop), Room k A' → FEnv scope env → Grows s s₁ → s.heap.get? x = none → s.heap.get? dx = none → (∀ b, Own env b → s.heap.get? b = none) →
      OkD G (fun b => (X b ∨ b = dx) ∨ Own env b) env (("self", dVal (.ref x)) :: ns.zip ds) s₁ C x dx [] → wpAny (model prog w) A' (execs body env) (fun f s' => f = .next ∧ Q (.ref x) s') E' s₁) :
    wpAny (model prog w) A (call (.ref C) vs) Q E s := by
  have KI : K.In s.heap := fun a o e => (hb a o (c.inn a o e)).1
  obtain ⟨hp, g, d, t, os⟩ := s
  refine wpAny_call (make_core (makes_of KI c.makes) (looks_findIn KI c.init) (fun self => bind_fn KI self c.fn) (.inl rfl) ?_)
  have k₁ : Grows ⟨hp, g, d, t, os⟩ ⟨(hp.push emptyDict).push (instObj C hp.objs.size), g, d, t, os⟩ := ⟨_, t, rfl, fun b o e => Heap.get?_push_of_some _ (Heap.get?_push_of_some _ e)⟩
  have hdx : ((hp.push emptyDict).push (instObj C hp.objs.size)).get? hp.objs.size = some emptyDict := Heap.get?_push_of_some _ (Heap.get?_push_size _ rfl)
  have hx : ((hp.push emptyDict).push (instObj C hp.objs.size)).get? (hp.objs.size + 1) = some (instObj C hp.objs.size) := by
    have := Heap.get?_push_size (hp.push emptyDict) (o := instObj C hp.objs.size) rfl
    rwa [Heap.size_push] at this
  have ndx : hp.get? hp.objs.size = none := get_size _
  have nx : hp.get? (hp.objs.size + 1) = none := get_none (Nat.le_succ _)
  have hXlt : ∀ b, X b → b < hp.objs.size := fun b q => let ⟨_, e⟩ := hX b q; Heap.lt_size e
  have hX₁ : ∀ b, (X b ∨ b = hp.objs.size) → ∃ o, ((hp.push emptyDict).push (instObj C hp.objs.size)).get? b = some o := fun b q => q.elim (fun q => let ⟨o, e⟩ := hX b q; ⟨o, Grows.at k₁ e⟩) fun e => by subst e; exact ⟨_, hdx⟩
  have up : ∀ a o, vw X hp a o → vw (fun b => X b ∨ b = hp.objs.size) ((hp.push emptyDict).push (instObj C hp.objs.size)) a o := fun a o q => ⟨Grows.at k₁ q.1, fun z => z.elim q.2 fun e => by have := q.1; rw [e, ndx] at this; cases this⟩
  refine call_def (ds := dVal (.ref (hp.objs.size + 1)) :: ds) (s := ⟨(hp.push emptyDict).push (instObj C hp.objs.size), g, d, t, os⟩) (X := fun b => X b ∨ b = hp.objs.size) B hd sg hr.under hX₁ (fun a o e => up a o (hb a o e)) ⟨rfl, hv.mono fun d v q => d.mono up q⟩ (by rw [List.length_cons, List.length_cons, ← hv.length, hlen]) fun env s₁ hfe g₁ hnone ok => ?_
  have hno : ¬ Own env hp.objs.size := fun z => by have := hnone _ z; rw [hdx] at this; cases this
  have hnx : ¬ Own env (hp.objs.size + 1) := fun z => by have := hnone _ z; rw [hx] at this; cases this
  refine wpAny_mono (h _ env s₁ (hp.objs.size + 1) hp.objs.size _ hr.under.deeper hfe (k₁.tr g₁) nx ndx (fun b hb => k₁.none (hnone b hb)) ⟨ok, .inl (.inr rfl), hno, ⟨Grows.at g₁ hx, ?_⟩, [], 0, Grows.at g₁ hdx, trivial⟩) (fun f s' ⟨e, q⟩ => ?_) fun _ _ x => x
  · rintro ((z | z) | z)
    · exact absurd (hXlt _ z) (Nat.not_lt.mpr (Nat.le_succ _))
    · exact absurd z (Nat.ne_of_gt (Nat.lt_succ_self _))
    · exact hnx z
  · subst e
    exact ⟨rfl, q⟩
end
end Mine

namespace Mine
open PySem.Calls

/-- the method at a place of a class of the program's top -/
def methAt (n m : Nat) : Option (Arguments × List Stmt × Scope) := match PySem.Challenge.pw_pq0697_01.main.body[n]? with
  | some (.ClassDef _ _ _ body _ _ _ _ _ _ _) => match body[m]? with
    | some (.FunctionDef _ args b _ _ _ scope _ _ _) => some (args, b, scope)
    | _ => none
  | _ => none
def IsDefM (G : Heap) (f : Addr) (n m : Nat) : Prop := ∃ p b s, methAt n m = some (p, b, s) ∧ IsDef G f p b s

section
variable {prog : Program} {w : World} {G : Heap} {A : Around} {env cenv : Env} {ρ ρ' ρ'' : Rho} {E : Value → Shared → Prop} {s s' : Shared} {X X₀ M W : Addr → Prop} {mg mb : Str → Option Value} {α α' α'' : Alpha}
  {K : Frag} {C fI x dx tl : Addr} {attrs : List Str} {meths : List (Str × Addr)} {fs : List (Str × Den)} {params : Arguments} {body : List Stmt} {scope : Scope} {ns : List Str} {ds : List Den} {vs : List Value} {os os' : List Den}

theorem keep_base {v : Value} {K : Frag} (hK : K.In G) (hk : keepIn K v = true) : ∀ (g : View) (h : Heap) (f : Value), (∀ a o, g a o → h.get? a = some o) → (dBase G v).is g f → ∃ k, (k = Keeper.frame ∨ k = Keeper.machine ∨ k = Keeper.boundFrame) ∧ Looks (model prog w) h (keeperOf f) k := fun g h f hg ⟨e, hb⟩ => by
  subst e
  exact keeps_K hk h fun a o q => hg a o (hb a o (hK a o q))

/-- obj.name(args) -/
theorem callMeth {o : Expr} {name : Str} {apos pos : Pos} {args : List Expr} {f : Addr} {Q : Value → Shared → Prop} (c : Cls G K C fI attrs meths) (hm : (name, f) ∈ meths) (hkf : keepIn K (.ref f) = true) (ok : Ok G X env ρ s) (ho : Ev prog w G A env ρ o (dObj C fs)) (hl : fs.lookup name = none)
    (ha : All2 (fun e d => Ev prog w G A env ρ e d) args ds)
    (run : ∀ s₂ u vs, Grows s s₂ → Ok G X env ρ s₂ → (dObj C fs).is (vw X s₂.heap) u → All2 (fun d v => d.is (vw X s₂.heap) v) ds vs → wpAny (model prog w) A (call (.ref f) (u :: vs)) Q E s₂)
    (pl : Sem Bool) (he : eval (.Call (.Attribute o name apos) args [] pos) env = (do
      let ov ← eval o env
      standAt apos.atName
      let (f, first) ← holding [ov] (getMethod ov name pl)
      PySem.callWith pos f first (backTo pos (starEach args env)) (backToKw pos (keywordEach [] env))))
    (hp : starEach args env = args.map (fun e => (false, eval e env))) : wpAny (model prog w) A (eval (.Call (.Attribute o name apos) args [] pos) env) Q E s := by
  refine methodCall_KW (pl := pl) (ho.use ok fun v s₁ k₁ ok₁ hv => ?_) he
  obtain ⟨x, dx, es, n, rfl, hx, hd, hen⟩ := id hv
  obtain ⟨hf1, hf2⟩ := c.meth name f hm
  have KI : ∀ {s : Shared}, Ok G X env ρ s → K.In s.heap := fun ok a o e => (ok.base a o (c.inn a o e)).1
  refine method_fn (od := some (dictOf es n)) (KI ok₁) ⟨hx.1, rfl, rfl, hd.1⟩ (plainGet_of c.get).1 (plainGet_of c.get).2 hf1 (beq_iff_eq.mp hf2) (by show (lookIn name (dictOf es n)).map _ = _; rw [lookIn_dict, hen.getNone hl]; rfl) ?_
  have hplain : ((backTo pos (starEach args env)).any (·.1) || ([] : List (Option Str × Sem Value)).any (·.1.isNone)) = false := by
    rw [hp]
    simp [backTo, List.any_map, Function.comp_def]
  refine callWith_of (P := fun h => ∃ s, h = s.heap ∧ Grows s₁ s) hplain (fun h ⟨s₂, e, k₂⟩ => keeps_K hkf h (e ▸ KI (ok₁.keeps k₂))) ?_
  have fin : wpAny (model prog w) A (spliced (backTo pos (starEach args env))) (fun vs s₂ => (∃ s, s₂.heap = s.heap ∧ Grows s₁ s) ∧ wpAny (model prog w) A (call (.ref f) ([.ref x] ++ vs) []) Q E s₂) E s₁ :=
    wpAny_mono (Evs.spliced ha hp ok₁) (fun vs s₂ ⟨k₂, hvs⟩ => ⟨⟨s₂, rfl, k₂⟩, run s₂ (.ref x) vs (k₁.tr k₂) (ok₁.keeps k₂) (Den.keeps _ k₂ hv) hvs⟩) fun _ _ x => x
  cases args with
  | nil =>
    cases ds with
    | nil => exact evalArgs_nil3 ⟨⟨s₁, rfl, Grows.rfl' s₁⟩, run s₁ (.ref x) [] k₁ ok₁ hv trivial⟩
    | cons => exact ha.elim
  | cons e es' =>
    rw [hp] at fin ⊢
    exact Calls.evalArgs_plain fin

/-- a call that may fill a list at tl -/
structure CallM (prog : Program) (w : World) (G : Heap) (A : Around) (f : Addr) (dsT : Addr → List Den) (os os' : List Den) (r : Den) : Prop where
  run : ∀ (X : Addr → Prop) (s : Shared) (E : Value → Shared → Prop) (vs : List Value) (tl : Addr), (∀ b, X b → ∃ o, s.heap.get? b = some o) → (∀ a o, G.get? a = some o → vw X s.heap a o) → X tl → Acc X s.heap tl os →
    All2 (fun d v => d.is (vw X s.heap) v) (dsT tl) vs → wpAny (model prog w) A (call (.ref f) vs) (fun v s' => KeepM (fun b => b = tl) s s' ∧ (∃ o, s'.heap.get? tl = some o) ∧ r.is (vw X s'.heap) v ∧ Acc X s'.heap tl os') E s

/-- evaluating e may fill the list at tl -/
def EvM (prog : Program) (w : World) (G : Heap) (A : Around) (env : Env) (ρ : Rho) (tl : Addr) (os os' : List Den) (e : Expr) (d : Den) : Prop :=
  ∀ (X : Addr → Prop) (s : Shared) (E : Value → Shared → Prop), Ok G X env ρ s → X tl → ¬ Own env tl → Acc X s.heap tl os →
    wpAny (model prog w) A (eval e env) (fun v s' => KeepM (fun b => b = tl) s s' ∧ (∃ o, s'.heap.get? tl = some o) ∧ d.is (vw X s'.heap) v ∧ Acc X s'.heap tl os') E s
def RetM (prog : Program) (w : World) (G : Heap) (A : Around) (env : Env) (ρ : Rho) (tl : Addr) (os os' : List Den) (ss : List Stmt) (d : Den) : Prop :=
  ∀ (X : Addr → Prop) (s : Shared) (E : Value → Shared → Prop), Ok G X env ρ s → X tl → ¬ Own env tl → Acc X s.heap tl os →
    wpAny (model prog w) A (execs ss env) (fun f s' => ∃ v, f = .ret v ∧ KeepM (fun b => Own env b ∨ b = tl) s s' ∧ (∃ o, s'.heap.get? tl = some o) ∧ d.is (vw X s'.heap) v ∧ Acc X s'.heap tl os') E s

theorem RetM.ret {e : Expr} {pos : Pos} {rest : List Stmt} {d : Den} (h : EvM prog w G A env ρ tl os os' e d) : RetM prog w G A env ρ tl os os' (.Return (some e) pos :: rest) d := fun X s E ok hX hO acc =>
  wpAny_execs_cons (wpAny_Return_some (wpAny_mono (h X s E ok hX hO acc) (fun v s' ⟨k, l, hv, a⟩ => ⟨v, rfl, k.mono fun b e => .inr e, l, hv, a⟩) fun _ _ x => x))

theorem RetM.cons {st : Stmt} {rest : List Stmt} {d : Den} (h : Step prog w G A env ρ [] [st] ρ' []) (h' : RetM prog w G A env ρ' tl os os' rest d) : RetM prog w G A env ρ tl os os' (st :: rest) d := fun X s E ok hX hO acc => by
  refine wpAny_execs_cons ?_
  have h₁ := h X (fun _ => 0) s E (OkA.of ok)
  have : wpAny (model prog w) A (exec st env) (fun f s' => f = .next ∧ KeepM (MA env (fun _ => 0) []) s s' ∧ OkA G X env ρ' (fun _ => 0) [] s') E s := by
    rw [execs_cons] at h₁
    intro Γ p hΓ
    have q := h₁ Γ p hΓ
    rw [Sem.wp_bind'] at q
    refine Sem.wp_mono _ Γ _ (fun f p' s' q' => ?_) (fun _ _ _ q' => q') p s q
    cases f with
    | next => exact q'
    | brk => exact absurd q'.1 (by intro e; cases e)
    | cont => exact absurd q'.1 (by intro e; cases e)
    | ret v => exact absurd q'.1 (by intro e; cases e)
  refine wpAny_mono this (fun f s₁ ⟨e, k, o₁⟩ => ?_) fun _ _ x => x
  subst e
  have hMA : ∀ b, MA env (fun _ => 0) [] b → Own env b := fun b hb => hb.elim id fun ⟨x, hx, _⟩ => by cases hx
  refine wpAny_mono (h' X s₁ E o₁.plain hX hO (acc.keepM k (fun b hb => ok.own b (hMA b hb)) fun z => hO (hMA _ z))) (fun f s₂ ⟨v, e, k₂, l, hv, a⟩ => ⟨v, e, (k.mono fun b hb => .inl (hMA b hb)).trans k₂, l, hv, a⟩) fun _ _ x => x

theorem CallM.ret {f : Addr} {dsT : Addr → List Den} {r : Den} {k : Nat} (B : Base G mg mb) (hd : IsDef G f params body scope) (sg : Sig params body scope ns) (hlen : ∀ tl, (dsT tl).length = ns.length) (hr : Room (k + 1) A)
    (h : ∀ (A' : Around) (env : Env) (tl : Addr), Room k A' → FEnv scope env → RetM prog w G A' env (ns.zip (dsT tl)) tl os os' body r) : CallM prog w G A f dsT os os' r where
  run := fun X s E vs tl hX hb hXt acc hv => by
    refine wpAny_call (call_def (ds := dsT tl) B hd sg hr hX hb hv (by rw [← hv.length, hlen]) fun env s₁ hfe g hnone ok => ?_)
    have hO : ¬ Own env tl := fun z => by
      obtain ⟨o, e⟩ := hX tl hXt
      have := hnone tl z; rw [e] at this; cases this
    have acc₁ : Acc (fun b => X b ∨ Own env b) s₁.heap tl os := by
      obtain ⟨vs', e, hz, hh⟩ := acc
      refine ⟨vs', Grows.at g e, hz, hh.mono fun d v q => d.mono (fun a o q => ⟨Grows.at g q.1, fun z => z.elim q.2 fun z => ?_⟩) q⟩
      have := hnone a z; rw [q.1] at this; cases this
    refine wpAny_mono (h _ env tl hr.deeper hfe _ s₁ _ ok (.inl hXt) hO acc₁) (fun f s₂ ⟨v, e, k₂, l, hv₂, a₂⟩ => ?_) fun _ _ x => x
    subst e
    refine ⟨?_, l, r.mono (fun a o q => ⟨q.1, fun z => q.2 (.inl z)⟩) hv₂, a₂.sub fun b hb => .inl hb⟩
    obtain ⟨h', tk, rfl, kk⟩ := k₂
    obtain ⟨h₁, tk₁, rfl, kk₁⟩ := g
    refine ⟨h', tk, rfl, fun b o hb e => kk b o (fun z => ?_) (kk₁ b o e)⟩
    rcases z with z | z
    · have := hnone b z; rw [e] at this; cases this
    · exact hb z

theorem EvM.meth {o : Expr} {name : Str} {apos pos : Pos} {args : List Expr} {f : Addr} {d : Den} {dsT : Addr → List Den} (c : Cls G K C fI attrs meths) (hm : (name, f) ∈ meths) (hkf : keepIn K (.ref f) = true) (ho : Ev prog w G A env ρ o (dObj C fs)) (hl : fs.lookup name = none)
    (ha : All2 (fun e d => Ev prog w G A env ρ e d) args ds) (cm : CallM prog w G A f dsT os os' d) (hT : dsT tl = dObj C fs :: ds) (pl : Sem Bool)
    (he : eval (.Call (.Attribute o name apos) args [] pos) env = (do
      let ov ← eval o env
      standAt apos.atName
      let (f, first) ← holding [ov] (getMethod ov name pl)
      PySem.callWith pos f first (backTo pos (starEach args env)) (backToKw pos (keywordEach [] env))))
    (hp : starEach args env = args.map (fun e => (false, eval e env))) : EvM prog w G A env ρ tl os os' (.Call (.Attribute o name apos) args [] pos) d := fun X s E ok hX hO acc => by
  refine callMeth c hm hkf ok ho hl ha (fun s₂ u vs k₂ ok₂ hu hvs => ?_) pl he hp
  refine wpAny_mono (cm.run X s₂ E (u :: vs) tl ok₂.live ok₂.base hX (acc.keeps k₂) (by rw [hT]; exact ⟨hu, hvs⟩)) (fun v s₃ ⟨k₃, l, hv, a⟩ => ⟨(KeepM.of_keeps k₂).trans k₃, l, hv, a⟩) fun _ _ x => x

theorem Ev.meth {o : Expr} {name : Str} {apos pos : Pos} {args : List Expr} {f : Addr} {d : Den} (c : Cls G K C fI attrs meths) (hm : (name, f) ∈ meths) (hkf : keepIn K (.ref f) = true) (ho : Ev prog w G A env ρ o (dObj C fs)) (hl : fs.lookup name = none)
    (ha : All2 (fun e d => Ev prog w G A env ρ e d) args ds) (cm : CallOk prog w G A (dDef G f) (dObj C fs :: ds) d) (pl : Sem Bool)
    (he : eval (.Call (.Attribute o name apos) args [] pos) env = (do
      let ov ← eval o env
      standAt apos.atName
      let (f, first) ← holding [ov] (getMethod ov name pl)
      PySem.callWith pos f first (backTo pos (starEach args env)) (backToKw pos (keywordEach [] env))))
    (hp : starEach args env = args.map (fun e => (false, eval e env))) : Ev prog w G A env ρ (.Call (.Attribute o name apos) args [] pos) d := fun X s E ok => by
  refine callMeth c hm hkf ok ho hl ha (fun s₂ u vs k₂ ok₂ hu hvs => ?_) pl he hp
  exact wpAny_mono (cm.run X s₂ E (.ref f) (u :: vs) ok₂.live ok₂.base ⟨rfl, fun o e => ok₂.base f o e⟩ ⟨hu, hvs⟩) (fun v s₃ ⟨k₃, hv⟩ => ⟨k₂.tr k₃, hv⟩) fun _ _ x => x
end
end Mine

namespace Mine
open PySem.Calls

section
variable {prog : Program} {w : World} {G : Heap} {A : Around} {env cenv : Env} {ρ ρ' ρ'' : Rho} {E : Value → Shared → Prop} {s s' : Shared} {X X₀ M W : Addr → Prop} {mg mb : Str → Option Value} {α α' α'' : Alpha}

/-- one clause with a test that never holds -/
theorem Ev.comp_none {target iter elt c : Expr} {scope : Scope} {pos : Pos} {ds : List Den} (hit : EvIt prog w G A env ρ target iter ds) (nm : ∀ p ∈ scope.names, scope.names.lookup p.1 = some p.2)
    (free : ∀ n, (n, NameKind.free) ∈ scope.names → (env.kindOf n = some .cell ∨ env.kindOf n = some .free) ∧ (env.cells.lookup n).isSome = true) (kind : scope.kind = .function)
    (step : ∀ (h₀ : Heap) (cenv : Env), CEnv scope env h₀ cenv → ∀ (i : Nat) (d : Den), ds[i]? = some d → ∃ new, AsgnOk prog w G A cenv (CW cenv h₀) target d new ∧ OwnNames scope new ∧ Tr prog w G A cenv (new ++ inner scope ρ) c false)
    (fold : ∀ x, foldedSetIterable iter env x = pure x := by intro _; rfl) :
    Ev prog w G A env ρ (.ListComp elt [⟨target, iter, [c], 0⟩] scope pos) (dLst []) :=
  Ev.of_comp (fun X s E Q ok hf => by
    have hfl : ((ds.map fun _ => ([] : List Den)) : List (List Den)).flatten = [] := by
      induction ds with
      | nil => rfl
      | cons d r ih => rw [List.map_cons, List.flatten_cons]; exact List.flatten_eq_nil_iff.mpr fun l hl => (by obtain ⟨_, _, rfl⟩ := List.mem_map.mp hl; rfl)
    refine comp_core (ds.map fun _ => []) ok hit nm free kind (by rw [List.length_map]) (by rw [hfl]; exact Nat.zero_le _) (fun h₀ cenv hc I D => ⟨iter.pos, (forIn [c] true fun c r => if r = true then do let ok ← isTrue c cenv (eval c cenv); pure (ForInStep.yield ok) else pure (ForInStep.yield r)) >>= fun ok =>
      (if ok then (do let _ ← PySem.call (.builtin "list.append") [.ref D, ← eval elt cenv]) else pure ()), ?_, fun X' hXD hWD i d out hd ho => ?_⟩) (by rw [hfl]; exact hf) fold
    · refine (compTurn_list ..).trans ?_
      congr 1; funext _; congr 1; funext r
      cases r with
      | none => rfl
      | some v =>
        simp only [bind_assoc]
        congr 1; funext _; congr 1; funext _; congr 1; funext ok
        cases ok <;> simp only [Bool.false_eq_true, if_false, if_true, bind_assoc, pure_bind]
    · obtain ⟨_, _, rfl⟩ := map_get ho
      obtain ⟨new, ha, hn, ht⟩ := step h₀ cenv hc i d hd
      refine ⟨new, ha, fun s E os ok acc hz => ?_⟩
      refine wpAny_bind (wpAny_tests_one (ht.use ok fun s₁ k₁ ok₁ => ?_))
      refine wpAny_pure ⟨KeepM.of_keeps k₁, ok₁.forget hn, ?_⟩
      rw [List.append_nil]; exact acc.keeps k₁) rfl
end
end Mine

namespace Mine
open PySem.Calls

local macro_rules | `(tactic| walk_at "sig") => `(tactic| exact ⟨fun name qual kV doc pm an cdv ct vs hl => by (first | (match vs, hl with | [_], _ => with_unfolding_all rfl) | (match vs, hl with | [_, _], _ => with_unfolding_all rfl) | (match vs, hl with | [_, _, _], _ => with_unfolding_all rfl) | (match vs, hl with | [_, _, _, _], _ => with_unfolding_all rfl) | (match vs, hl with | [_, _, _, _, _], _ => with_unfolding_all rfl)), by decide +kernel, by decide +kernel, by decide +kernel, rfl, rfl, rfl⟩)

/-- the two classes of the program's top -/
structure Insts (G : Heap) (mg mb : Str → Option Value) (K : Frag) (CH CT iH iT fput fnew fobj : Addr) : Prop extends Tops G mg mb where
  hc : Cls G K CH iH ["things"] [("put", fput), ("new_array", fnew), ("object", fobj)]
  tc : Cls G K CT iT ["kind", "fields", "sizes"] []
  kput : keepIn K (.ref fput) = true
  knew : keepIn K (.ref fnew) = true
  kobj : keepIn K (.ref fobj) = true
  gH : mg "Heap" = some (.ref CH)
  gT : mg "Thing" = some (.ref CT)
  dH : IsDefM G iH 16 0
  dput : IsDefM G fput 16 1
  dnew : IsDefM G fnew 16 3
  dobj : IsDefM G fobj 16 5
  dT : IsDefM G iT 15 0

def dThing (CT : Addr) (kd fd sd : Den) : Den := dObj CT [("kind", kd), ("fields", fd), ("sizes", sd)]

section
variable {w : World} {G : Heap} {A : Around} {mg mb : Str → Option Value} {K : Frag} {CH CT iH iT fput fnew fobj : Addr}

theorem thing_ok {k : Nat} (T : Insts G mg mb K CH CT iH iT fput fnew fobj) (hr : Room (k + 2) A) (kd fd sd : Den) : CallOk P0 w G A (dBase G (.ref CT)) [kd, fd, sd] (dThing CT kd fd sd) where
  keeper := keep_base T.tc.inn T.tc.keep
  run := fun X s E f vs hX hb hf hv => by
    obtain ⟨p, b, sc, e, hd⟩ := T.dT
    cases (show methAt 15 0 = some (_, _, _) from rfl).symm.trans e
    clear e
    obtain ⟨rfl, _⟩ := hf
    refine cls_run (ns := ["kind", "fields", "sizes"]) (ds := [kd, fd, sd]) T.toBase T.tc hd (by walk_at "sig") rfl hr hX hb hv fun A' env s₁ x dx E' hr' hfe g nx ndx hnone o => ?_
    obtain ⟨L, a, q, c, rfl⟩ := hfe
    refine wpAny_execs_cons (wpAny_mono (o.set (d := kd) T.tc (.head _) (Ev.name rfl) rfl rfl (by decide)) (fun f s₂ ⟨e, k₂, o₂⟩ => ?_) fun _ _ x => x)
    subst e
    refine wpAny_execs_cons (wpAny_mono (o₂.set (d := fd) T.tc (.tail _ (.head _)) (Ev.name rfl) rfl rfl (by show 1 ≤ 100; decide)) (fun f s₃ ⟨e, k₃, o₃⟩ => ?_) fun _ _ x => x)
    subst e
    refine wpAny_execs_cons (wpAny_mono (o₃.set (d := sd) T.tc (.tail _ (.tail _ (.head _))) (Ev.name rfl) rfl rfl (by show 2 ≤ 100; decide)) (fun f s₄ ⟨e, k₄, o₄⟩ => ?_) fun _ _ x => x)
    subst e
    refine wpAny_execs_nil ⟨rfl, ?_, ?_⟩
    · have kk := k₂.trans (k₃.trans k₄)
      obtain ⟨h', tk, rfl, kk⟩ := kk
      obtain ⟨h₁, tk₁, rfl, kk₁⟩ := g
      exact ⟨h', tk, rfl, fun b o e => kk b o (fun z => by rw [z, ndx] at e; cases e) (kk₁ b o e)⟩
    · obtain ⟨es, n, hes, hent⟩ := o₄.dct
      have hsub : ∀ (P : Addr → Prop) a o, vw (fun b => (X b ∨ b = dx) ∨ P b) s₄.heap a o → vw X s₄.heap a o := fun P a o q => ⟨q.1, fun z => q.2 (.inl (.inl z))⟩
      refine ⟨x, dx, es, n, rfl, hsub _ _ _ o₄.inst, ⟨hes, fun z => ?_⟩, hent.mono (hsub _)⟩
      obtain ⟨o', e'⟩ := hX dx z
      rw [ndx] at e'; cases e'

abbrev dHp (CH tl : Addr) : Den := dObj CH [("things", dVal (.ref tl))]

theorem put_ok {k : Nat} (T : Insts G mg mb K CH CT iH iT fput fnew fobj) (hr : Room (k + 1) A) (d : Den) : CallM P0 w G A fput (fun tl => [dHp CH tl, d]) [] [d] (dInt 0) := by
  obtain ⟨p, b, sc, e, hd⟩ := T.dput
  cases (show methAt 16 1 = some (_, _, _) from rfl).symm.trans e
  clear e
  refine CallM.ret (ns := ["self", "thing"]) T.toBase hd (by walk_at "sig") (fun _ => rfl) hr fun A env tl hr' hfe => ?_
  clear hd
  obtain ⟨L, a, q, c, rfl⟩ := hfe
  intro X s E ok hXt hO acc
  have hself : ∀ {env : Env} {ρ : Rho} {s : Shared} {E : Value → Shared → Prop} {p p' : Pos} {Q : Value → Shared → Prop}, Ok G X env ρ s → ρ.lookup ("self" : Str) = some (dHp CH tl) → (∀ s', Grows s s' → Ok G X env ρ s' → Q (.ref tl) s') → wpAny (model P0 w) A (eval (.Attribute (.Name "self" p) "things" p') env) Q E s := fun {env ρ s E p p' Q} ok hl h =>
    (Ev.attr (d := dVal (.ref tl)) T.hc (Ev.name (d := dHp CH tl) hl) (.head _) rfl Handed.ref).use ok fun v s₁ k₁ ok₁ hv => by
      have hv' : v = .ref tl := hv
      subst hv'; exact h s₁ k₁ ok₁
  refine wpAny_execs_cons (wpAny_Expr (wpAny_Call_append rfl rfl rfl rfl ?_) (interactive_no ok) rfl)
  refine hself ok rfl fun s₁ k₁ ok₁ => ?_
  have acc₁ := acc.keeps k₁
  obtain ⟨us, eu, _, hus⟩ := acc₁
  refine ⟨tl, us.toArray, rfl, ⟨_, _, eu, rfl, rfl, rfl⟩, ?_⟩
  refine (Ev.name (d := d) rfl).use ok₁ fun v s₂ k₂ ok₂ hv => ?_
  refine wpAny_mono ((acc.keeps (k₁.tr k₂)).append hXt hv (by decide)) (fun r s₃ ⟨e, k₃, acc₃, o₃, ho₃⟩ => ?_) fun _ _ x => x
  subst e
  have ok₃ := ok₂.keepM k₃ (fun b e => e ▸ hXt) (fun b hb e => hO (e ▸ hb)) fun b e => ⟨o₃, e ▸ ho₃⟩
  refine wpAny_execs_cons (wpAny_Return_some (wpAny_BinOp ?_))
  refine callEv (fd := dVal (.builtin "len")) (ds := [dVal (.ref tl)]) ok₃ (Ev.bf T.toTops rfl) ⟨Ev.attr T.hc (Ev.name (d := dHp CH tl) rfl) (.head _) rfl Handed.ref, trivial⟩ (keep_val (fun a e => by cases e)) fun s₄ f vs k₄ ok₄ hf hvs => ?_
  have hf' : f = .builtin "len" := hf
  subst hf'
  match vs, hvs with
  | [u], ⟨hu, _⟩ =>
    have hu' : u = .ref tl := hu
    subst hu'
    have acc₄ := acc₃.keeps k₄
    obtain ⟨ws, ew, _, hws⟩ := id acc₄
    have sub : ∀ {d : Den} {v : Value}, d.is (vw X s₄.heap) v → d.is (vw (fun b => X b ∧ b ≠ tl) s₄.heap) v := fun {d v} q => d.mono (fun a o q => ⟨q.1, fun z => q.2 z.1⟩) q
    refine wpAny_mono (CallOk.len_lst (prog := P0) (w := w) (G := G) (ds := [d]).run (fun b => X b ∧ b ≠ tl) s₄ _ (.builtin "len") [.ref tl] (fun b hb => ok₄.live b hb.1) (fun a o e => ⟨(ok₄.base a o e).1, fun z => (ok₄.base a o e).2 z.1⟩) rfl
      ⟨⟨tl, _, ws, rfl, ⟨ew, fun z => z.2 rfl⟩, small2 (by show 1 ≤ 1000; decide), hws.mono fun d v q => sub q⟩, trivial⟩) (fun v₅ s₅ ⟨k₅, hv₅⟩ => ?_) fun _ _ x => x
    refine Ev.cint.use (ok₄.keeps k₅) fun v' s₆ k₆ ok₆ hv' => ?_
    refine wpAny_mono (Bin.sub X s₆ _ v₅ v' ok₆.live (Den.keeps (X := X) (dInt _) k₆ hv₅) hv') (fun v s₇ ⟨k₇, hv₇⟩ => ?_) fun _ _ x => x
    have kg : Grows s₃ s₇ := ((k₄.tr k₅).tr k₆).tr k₇
    refine ⟨v, rfl, ((KeepM.of_keeps (k₁.tr k₂)).trans (k₃.trans (KeepM.of_keeps kg))).mono fun b e => .inr e, ⟨_, Grows.at kg ho₃⟩, hv₇, acc₃.keeps kg⟩

theorem new_array_ok {k : Nat} (T : Insts G mg mb K CH CT iH iT fput fnew fobj) (hr : Room (k + 3) A) (kd : Den) (szs its : List Den) :
    CallM P0 w G A fnew (fun tl => [dHp CH tl, kd, dTup szs, dLst its]) [] [dThing CT kd (dLst its) (dTup szs)] (dInt 0) := by
  obtain ⟨p, b, sc, e, hd⟩ := T.dnew
  cases (show methAt 16 3 = some (_, _, _) from rfl).symm.trans e
  clear e
  refine CallM.ret (ns := ["self", "kind", "sizes", "items"]) T.toBase hd (by walk_at "sig") (fun _ => rfl) hr fun A env tl hr' hfe => ?_
  clear hd
  obtain ⟨L, a, q, c, rfl⟩ := hfe
  refine RetM.ret (EvM.meth (f := fput) T.hc (.head _) T.kput (Ev.name rfl) rfl (ds := [dThing CT kd (dLst its) (dTup szs)]) ⟨?_, trivial⟩ (put_ok T hr' _) rfl _ rfl rfl)
  exact Ev.call (thing_ok T hr' kd (dLst its) (dTup szs)) (Ev.gref T.toBase rfl T.gT) ⟨Ev.name rfl, Ev.call CallOk.list_lst (Ev.bt T.toTops rfl) ⟨Ev.name rfl, trivial⟩, Ev.call CallOk.tuple_tup (Ev.bt T.toTops rfl) ⟨Ev.name rfl, trivial⟩, trivial⟩
end
end Mine

namespace Mine
open PySem.Calls

local macro_rules | `(tactic| walk_at "sig") => `(tactic| exact ⟨fun name qual kV doc pm an cdv ct vs hl => by (first | (match vs, hl with | [_], _ => with_unfolding_all rfl) | (match vs, hl with | [_, _], _ => with_unfolding_all rfl) | (match vs, hl with | [_, _, _], _ => with_unfolding_all rfl) | (match vs, hl with | [_, _, _, _], _ => with_unfolding_all rfl) | (match vs, hl with | [_, _, _, _, _], _ => with_unfolding_all rfl)), by decide +kernel, by decide +kernel, by decide +kernel, rfl, rfl, rfl⟩)

section
variable {prog : Program} {w : World} {G : Heap} {A : Around} {env cenv : Env} {ρ ρ' ρ'' : Rho} {E : Value → Shared → Prop} {s s' : Shared} {X X₀ M W : Addr → Prop} {mg mb : Str → Option Value} {α α' α'' : Alpha}
  {params : Arguments} {body : List Stmt} {scope : Scope} {ns : List Str} {ds : List Den} {vs : List Value} {os os' : List Den} {tl : Addr}

theorem CallOk.retV {dV : Value} {f : Addr} {r : Den} {k : Nat} (B : Base G mg mb) (hd : IsDefV G dV f params body scope) (sg : SigV scope ns)
    (hbind : ∀ name qual kV doc pm an cdv ct (A' : Around) (E' : Value → Shared → Prop) (Q : List (Str × Value) → Shared → Prop) (s : Shared) (vs : List Value), vs.length = ns.length → (∀ a o, G.get? a = some o → s.heap.get? a = some o) → Q (ns.zip vs) s → wpAny (model prog w) A' (bindArgs (fnOf name qual params body scope dV kV doc pm an cdv ct) ⟨vs, []⟩) Q E' s)
    (hlen : ds.length = ns.length) (hr : Room (k + 1) A)
    (h : ∀ (A' : Around) (env : Env), Room k A' → FEnv scope env → Ret prog w G A' env (ns.zip ds) [] body r) : CallOk prog w G A (dDef G f) ds r where
  keeper := fun g hp fv hg ⟨e, hf⟩ => by
    subst e
    obtain ⟨o, name, qual, kV, doc, pm, an, cdv, ct, ho, hdt, _⟩ := hd
    obtain ⟨oc, od, dt, sl⟩ := o
    have hdt' : dt = _ := hdt
    subst hdt'
    exact keeps_F hp ⟨oc, od, _, sl, hg _ _ (hf _ ho)⟩
  run := fun X s E fv vs hX hb hf hv => by
    obtain ⟨e, _⟩ := hf
    subst e
    have hl : vs.length = ns.length := by rw [← hv.length, hlen]
    refine wpAny_call (call_defV (ds := ds) B hd (fun _ _ _ _ _ _ _ _ _ _ _ q => hbind _ _ _ _ _ _ _ _ _ _ _ _ vs hl (fun a o e => (hb a o e).1) q) sg hr hX hb hv hl fun env s₁ hfe g hnone ok => ?_)
    refine wpAny_mono (h _ env hr.deeper hfe _ (fun _ => 0) s₁ _ (OkA.of ok)) (fun f s₂ ⟨v, e, k₂, hv₂⟩ => ?_) fun _ _ x => x
    subst e
    refine ⟨?_, r.mono (fun a o q => ⟨q.1, fun z => q.2 ⟨.inl z, fun ⟨x, hx, _⟩ => by cases hx⟩⟩) hv₂⟩
    obtain ⟨h', tk, rfl, kk⟩ := k₂
    obtain ⟨h₁, tk₁, rfl, kk₁⟩ := g
    refine ⟨h', tk, rfl, fun b o e => kk b o (fun z => ?_) (kk₁ b o e)⟩
    rcases z with z | ⟨x, hx, _⟩
    · have := hnone b z; rw [e] at this; cases this
    · cases hx

theorem Step.exprCall {f : Expr} {args : List Expr} {kws : List Keyword} {p pos : Pos} {d : Den} (h : Ev prog w G A env ρ (.Call f args kws p) d) : Step prog w G A env ρ α [.Expr (.Call f args kws p) pos] ρ α := Step.of_exec fun X ad s E o =>
  wpAny_Expr_any (h.use o.plain fun v s₁ k₁ _ hv => ⟨rfl, KeepM.of_keeps k₁, o.keeps k₁⟩) (interactive_no o.ok) rfl

/-- (e₁, e₂) where the second fills the list -/
theorem EvM.pair {e₁ e₂ : Expr} {k : Nat} {pos : Pos} {d₁ d₂ : Den} (h₁ : Ev prog w G A env ρ e₁ d₁) (h₂ : EvM prog w G A env ρ tl os os' e₂ d₂) (hst : starEach [e₁, e₂] env = [(false, eval e₁ env), (false, eval e₂ env)] := by rfl) :
    EvM prog w G A env ρ tl os os' (.Tuple [e₁, e₂] k pos) (dTup [d₁, d₂]) := fun X s E ok hXt hO acc => by
  refine Tuple_ ?_
  rw [hst]
  refine Calls.spliced_cons (h₁.use ok fun v₁ s₁ k₁ ok₁ hv₁ => Calls.spliced_cons (wpAny_mono (h₂ X s₁ E ok₁ hXt hO (acc.keeps k₁)) (fun v₂ s₂ ⟨k₂, ⟨o, ho⟩, hv₂, acc₂⟩ => Calls.spliced_nil ?_) fun _ _ x => x))
  refine wpAny_newObj_type ?_ (by show (2 : Nat) ≤ sizeLine; decide)
  have k₃ : Grows s₂ { s₂ with heap := s₂.heap.push { cls := .type "tuple", data := .seq [v₁, v₂].toArray } } := Grows.push
  have hv₁' := Den.keepM d₁ k₂ (fun b e => e ▸ hXt) hv₁
  refine ⟨(KeepM.of_keeps k₁).trans (k₂.trans (KeepM.of_keeps k₃)), ⟨o, Grows.at k₃ ho⟩, ⟨s₂.heap.objs.size, _, [v₁, v₂], rfl, ⟨Heap.get?_push_size _ rfl, fun z => ?_⟩, small2 (by show 2 ≤ 1000; decide), Den.keeps _ k₃ hv₁', Den.keeps _ k₃ hv₂, trivial⟩, acc₂.keeps k₃⟩
  have ok₂ := ok₁.live _ z
  obtain ⟨o', e'⟩ := ok₂
  by_cases hz : s₂.heap.objs.size = tl
  · rw [← hz, get_size] at ho; cases ho
  · have := k₂.get hz e'; rw [get_size] at this; cases this
end

section
variable {w : World} {G : Heap} {A : Around} {mg mb : Str → Option Value} {K : Frag} {CH CT iH iT fput fnew fobj : Addr}

theorem named_ok {f : Addr} {k : Nat} (T : Tops G mg mb) (hg : mg "named" = some (.ref f)) (hr : Room (k + 1) A) (x : Str) (ps : List Den) : CallOk P0 w G A (dDef G f) [dStr x, dTup ps] (dTup [dStr "name", dStr x, dTup ps]) := by
  obtain ⟨f', T₀, o, dflt, n, p, b, s, hg', e, hd, ho, hdt⟩ := T.named
  rw [hg] at hg'
  cases hg'
  cases (show defAt 13 = some (_, _, _) from rfl).symm.trans e
  clear e
  refine CallOk.retV (ns := ["name", "params"]) T.toBase hd ⟨by decide +kernel, by decide +kernel, by decide +kernel, rfl, rfl, rfl⟩ (fun name qual kV doc pm an cdv ct A' E' Q s vs hl hb q => ?_) rfl hr fun A env hr' hfe => ?_
  · match vs, hl with
    | [v₁, v₂], _ => first | exact (BindsTo.of_eq (s := s) (binds := [("name", v₁), ("params", v₂)]) (by with_unfolding_all rfl)) _ _ _ _ q | exact (BindsTo.of_defaults (s := s) (binds := [("name", v₁), ("params", v₂)]) rfl (hb _ _ ho) hdt rfl rfl) _ _ _ _ q
  · clear hd
    obtain ⟨L, a, q, c, rfl⟩ := hfe
    exact Ret.ret (Ev.tuple ⟨Ev.cstr, Ev.name rfl, Ev.call CallOk.tuple_tup (Ev.bt T rfl) ⟨Ev.name rfl, trivial⟩, trivial⟩ (small2 (by show 3 ≤ 1000; decide)))

def dKind (ik : Den) (rank : Int) : Den := dTup [dStr "name", dStr "Array", dTup [ik, dTup [dStr "n", dInt rank]]]
theorem array_kind_ok {f : Addr} {k : Nat} (T : Tops G mg mb) (hd : IsDefN G f 17) (hr : Room (k + 2) A) (ik : Den) (rank : Int) : CallOk P0 w G A (dDef G f) [ik, dInt rank] (dKind ik rank) := by
  obtain ⟨p, b, s, e, hd⟩ := hd
  cases (show defAt 17 = some (_, _, _) from rfl).symm.trans e
  clear e
  refine CallOk.ret (ns := ["item", "rank"]) T.toBase hd (by walk_at "sig") rfl hr fun A env hr' hfe => ?_
  clear hd
  obtain ⟨L, a, q, c, rfl⟩ := hfe
  obtain ⟨fn, _, _, _, _, _, _, _, hfn, _⟩ := T.named
  exact Ret.ret (Ev.call (named_ok T hfn hr' "Array" [ik, dTup [dStr "n", dInt rank]]) (Ev.gdef T.toBase rfl hfn)
    ⟨Ev.cstr, Ev.tuple ⟨Ev.name rfl, Ev.tuple ⟨Ev.cstr, Ev.name rfl, trivial⟩ (small2 (by show 2 ≤ 1000; decide)), trivial⟩ (small2 (by show 2 ≤ 1000; decide)), trivial⟩)

theorem check_sizes_ok {f : Addr} {k : Nat} (T : Tops G mg mb) (hd : IsDefN G f 23) (hr : Room (k + 2) A) (sizes : List Int) (hs : ∀ x ∈ sizes, 0 ≤ x) (hm : ∀ i x, sizes[i]? = some x → IntMulOk (prodI (sizes.take i)) x) (hp : prodI sizes ≤ 20000) :
    CallOk P0 w G A (dDef G f) [dTup (sizes.map dInt)] dNone := by
  obtain ⟨p, b, s, e, hd⟩ := hd
  cases (show defAt 23 = some (_, _, _) from rfl).symm.trans e
  clear e
  refine CallOk.step (ns := ["sizes"]) (ρ' := fun _ => []) T.toBase hd (by walk_at "sig") rfl hr fun A env hr' hfe => ?_
  clear hd
  obtain ⟨L, a, q, c, rfl⟩ := hfe
  obtain ⟨fm, hfm, dfm⟩ := T.defs 20 "many_of" (by decide +kernel)
  obtain ⟨t, ht⟩ := T.most
  refine Step.ifT (b := false) (Tr.cast (by simp) (Tr.or2 (b := false) (c := false) (Tr.cmp (Ev.comp_none (EvIt.tup hr'.1 (Ev.name rfl)) (by decide +kernel) (free_of trivial) rfl fun h₀ cenv hc i d hd => ?_) (Ev.list (ds := []) trivial (Nat.zero_le _)) ?_) fun _ => ?_)) (fun h => nomatch h) (fun _ => Step.nil.out .nil)
  · obtain ⟨x, hx, rfl⟩ := map_get hd
    have hx0 := hs x (List.mem_of_getElem? hx)
    exact ⟨[("size", dInt x)], AsgnOk.mine hc (.inl rfl), own_names ["size"] ⟨rfl, trivial⟩, Tr.cast (by simp; omega) (Tr.cmp (Ev.name (d := dInt x) rfl) Ev.cint Cmp.ltI)⟩
  · exact Cmp.neD (RD.lst (ds := []) (ps := []) trivial) (RD.lst (ds := []) (ps := []) trivial) (n := 1) (m := 1) (Lay.list fun p hp => by cases hp) (Lay.list fun p hp => by cases hp) hr'.units
  · exact Tr.cast (by simp; omega) (Tr.cmp (Ev.call (many_of_ok T.toBase dfm hr' sizes hm) (Ev.gdef T.toBase rfl hfm) ⟨Ev.name rfl, trivial⟩) (Ev.weaken (d' := dInt 20000) (Ev.glob T.toBase rfl ht) fun g v e => ⟨t, e⟩) Cmp.gtI)

theorem made_ok {f : Addr} {k : Nat} (T : Insts G mg mb K CH CT iH iT fput fnew fobj) (hd : IsDefN G f 30) (hr : Room (k + 4) A) (ik : Den) (sizes : List Int) (its : List Den) (hs : ∀ x ∈ sizes, 0 ≤ x) (hm : ∀ i x, sizes[i]? = some x → IntMulOk (prodI (sizes.take i)) x) (hp : prodI sizes ≤ 20000) (hl : (its.length : Int) = prodI sizes) :
    CallM P0 w G A f (fun tl => [dHp CH tl, ik, dTup (sizes.map dInt), dLst its]) [] [dThing CT (dKind ik sizes.length) (dLst its) (dTup (sizes.map dInt))] (dTup [dStr "array", dInt 0]) := by
  obtain ⟨p, b, s, e, hd⟩ := hd
  cases (show defAt 30 = some (_, _, _) from rfl).symm.trans e
  clear e
  refine CallM.ret (ns := ["heap", "item_kind", "sizes", "items"]) T.toBase hd (by walk_at "sig") (fun _ => rfl) hr fun A env tl hr' hfe => ?_
  clear hd
  obtain ⟨L, a, q, c, rfl⟩ := hfe
  obtain ⟨fc, hfc, dfc⟩ := T.defs 23 "check_sizes" (by decide +kernel)
  obtain ⟨fm, hfm, dfm⟩ := T.defs 20 "many_of" (by decide +kernel)
  obtain ⟨fk, hfk, dfk⟩ := T.defs 17 "array_kind" (by decide +kernel)
  refine RetM.cons (Step.exprCall (Ev.call (check_sizes_ok T.toTops dfc (hr'.mono (j := 1 + 2) (by omega)) sizes hs hm hp) (Ev.gdef T.toBase rfl hfc) ⟨Ev.name rfl, trivial⟩)) ?_
  refine RetM.cons (Step.ifT (b := false) (Tr.cast ?_ (Tr.cmp (Ev.call (many_of_ok T.toBase dfm (hr'.mono (j := 1 + 1) (by omega)) sizes hm) (Ev.gdef T.toBase rfl hfm) ⟨Ev.name rfl, trivial⟩) (Ev.call (CallOk.len_lst (ds := its)) (Ev.bf T.toTops rfl) ⟨Ev.name rfl, trivial⟩) Cmp.neI)) (fun h => nomatch h) (fun _ => Step.nil)) ?_
  · rw [hl]; simp
  refine RetM.ret (EvM.pair Ev.cstr (EvM.meth (f := fnew) T.hc (.tail _ (.head _)) T.knew (Ev.name rfl) rfl (ds := [dKind ik sizes.length, dTup (sizes.map dInt), dLst its]) ⟨?_, Ev.name rfl, Ev.name rfl, trivial⟩ (new_array_ok T hr' _ _ _) rfl _ rfl rfl))
  refine Ev.call (array_kind_ok T.toTops dfk (hr'.mono (j := 1 + 2) (by omega)) ik sizes.length) (Ev.gdef T.toBase rfl hfk) ⟨Ev.name rfl, Ev.cast (Ev.call (CallOk.len_tup (ds := sizes.map dInt)) (Ev.bf T.toTops rfl) ⟨Ev.name rfl, trivial⟩) (by rw [List.length_map]), trivial⟩
end
end Mine

namespace Mine
open PySem.Calls

section
variable {prog : Program} {w : World} {G : Heap} {A : Around} {env cenv : Env} {ρ ρ' ρ'' : Rho} {E : Value → Shared → Prop} {s s' : Shared} {X X₀ M W : Addr → Prop} {mg mb : Str → Option Value} {α α' α'' : Alpha}
  {params : Arguments} {body : List Stmt} {scope : Scope} {ns : List Str} {ds : List Den} {vs : List Value} {os os' : List Den} {tl : Addr} {ad : Str → Addr}

/-- (x, y) = e -/
theorem Step.assignT {elts : List Expr} {k : Nat} {tpos pos : Pos} {value : Expr} {d : Den} {new : Rho} (h : Ev prog w G A env ρ value d) (ha : AsgnOk prog w G A env (Own env) (.Tuple elts k tpos) d new) (hn : ∀ x ∈ names new, ¬ Dom α x)
    (hs : swapsWithSole [.Tuple elts k tpos] value pos.line env = pure false := by rfl) (hw : swappedStores [.Tuple elts k tpos] value env = pure none := by rfl) :
    Step prog w G A env ρ α [.Assign [.Tuple elts k tpos] value pos] (new ++ ρ) α := Step.of_exec fun X ad s E o => by
  refine Assign_Tuple (h.use o.plain fun v s₁ k₁ _ hv => ?_) hs hw
  have o₁ := o.keeps k₁
  refine wpAny_mono (ha X _ s₁ E v o₁.ok hv) (fun _ s₂ ⟨k₂, ok₂⟩ => ?_) fun _ _ x => x
  exact ⟨rfl, (KeepM.of_keeps k₁).trans (k₂.mono fun b h => .inl h), o₁.bind ok₂ k₂ hn⟩

/-- x = [.. for ..] on one line, x a local: the name is bound before the frame goes -/
theorem Step.assign_comp1 {x : Str} {px pos cpos : Pos} {target iter elt : Expr} {outs : List Den} (c : Comp1 prog w G A env ρ target iter elt scope ds outs) (hx : Stores env x) (hα : α.lookup x = none := by rfl)
    (hs : swapsWith (.ListComp elt [⟨target, iter, [], 0⟩] scope cpos) (some (.Name x px)) pos.line env = pure true := by rfl) :
    Step prog w G A env ρ α [.Assign [.Name x px] (.ListComp elt [⟨target, iter, [], 0⟩] scope cpos) pos] ((x, dLst outs) :: ρ) α := Step.of_exec fun X ad s E o => by
  rw [exec_Assign_Name_used _ _ _ _ hs]
  refine wpAny_bind (wpAny_standAt (wpAny_bind ?_))
  show wpAny _ A (comprehension (.ListComp elt [⟨target, iter, [], 0⟩] scope cpos) scope env (firstIterPos [⟨target, iter, [], 0⟩] cpos) (newList []) (firstAsync [⟨target, iter, [], 0⟩]) (firstIter [⟨target, iter, [], 0⟩] env) (some (PySem.assign (.Name x px) env)) >>= fun _ => pure ()) _ _ _
  refine wpAny_bind ?_
  refine c.core (use := some (PySem.assign (.Name x px) env)) o.plain fun s' D C g hC hns hD hDC => ?_
  obtain ⟨m, hn⟩ := hns
  have hXC : ¬ X C := fun z => by obtain ⟨ob, e⟩ := o.ok.live C z; rw [hC] at e; cases e
  have o₁ : OkA G (fun b => X b ∨ b = C) env ρ ad α s' := o.enter g (fun b h => .inl h) (fun b hb hx => hb.resolve_left hx ▸ hC) fun b hb hx => by
    obtain ⟨ob, _, _, e, _⟩ := hn
    exact ⟨ob, hb.resolve_left hx ▸ e⟩
  refine wpAny_assign_Name (wpAny_mono (o₁.store hx (fun z => by unfold Dom at z; rw [hα] at z; cases z) hD) (fun _ s₂ ⟨k₂, o₂⟩ => ?_) fun _ _ x => x)
  have hMC : ¬ MA env ad α C := fun z => hXC (o.MA_X C z)
  obtain ⟨ob, es, ep, e, r⟩ := hn
  refine ⟨m, ⟨ob, es, ep, k₂.get hMC e, r⟩, fun h' hs' => wpAny_pure (wpAny_pure ⟨rfl, ?_, ?_⟩)⟩
  · have k₃ : KeepM (fun b => b = C) s₂ { s₂ with heap := h' } := ⟨h', s₂.toks, rfl, fun b o hb e => hs'.extBut b o hb e⟩
    have kk := ((KeepM.of_keeps g).trans ((k₂.mono fun b h => .inl h).trans (k₃.mono (M' := fun b => MA env ad α b ∨ b = C) fun b h => .inr h)))
    obtain ⟨h₁, tk, e₁, kk⟩ := kk
    exact ⟨h₁, tk, e₁, fun b ob hb eb => kk b ob (fun z => z.elim hb fun z => by rw [z, hC] at eb; cases eb) eb⟩
  · have k₃ : KeepM (fun b => b = C) s₂ { s₂ with heap := h' } := ⟨h', s₂.toks, rfl, fun b o hb e => hs'.extBut b o hb e⟩
    exact o₂.leave k₃ (fun b h => .inr h) (fun b h => ⟨.inl h, fun e => hXC (e ▸ h)⟩) fun b hb => o.MA_X b hb

/-- x, y = ([], []) -/
theorem Ret.openPair2 {x y : Str} {px py tp lp lp' vp pos : Pos} {k k' : Nat} {rest : List Stmt} {d : Den} (hh : A.handled = none) (hx : Stores env x) (hy : Stores env y) (h : Ret prog w G A env ρ ((x, []) :: (y, []) :: α) rest d)
    (hw : swappedStores [.Tuple [.Name x px, .Name y py] k tp] (.Tuple [.List [] lp, .List [] lp'] k' vp) env = pure (some [x, y])) (hst : ∀ env, starEach [.List [] lp, .List [] lp'] env = [(false, eval (.List [] lp) env), (false, eval (.List [] lp') env)])
    (hα : α.lookup x = none := by rfl) (hαy : α.lookup y = none := by rfl) (hρ : ρ.lookup x = none := by rfl) (hρy : ρ.lookup y = none := by rfl) (hxy : x ≠ y := by decide) :
    Ret prog w G A env ρ α (.Assign [.Tuple [.Name x px, .Name y py] k tp] (.Tuple [.List [] lp, .List [] lp'] k' vp) pos :: rest) d := fun X ad s E o => by
  have hα' : ¬ Dom α x := fun z => by unfold Dom at z; rw [hα] at z; cases z
  have hαy' : ¬ Dom α y := fun z => by unfold Dom at z; rw [hαy] at z; cases z
  refine wpAny_execs_cons (Assign_Tuple_swapped (names := [x, y]) (Tuple_ ?_) rfl hw)
  rw [hst]
  let a₁ := s.heap.objs.size
  refine Calls.spliced_cons (eval_nil_list ?_)
  refine Calls.spliced_cons (eval_nil_list (Calls.spliced_nil ?_))
  have hsz : (s.heap.push (LCg.lst [])).objs.size = s.heap.objs.size + 1 := Heap.size_push ..
  refine wpAny_newObj_type ?_ (by show (2 : Nat) ≤ sizeLine; decide)
  rw [show (Shared.heap { s with heap := s.heap.push (LCg.lst []) }).objs.size = s.heap.objs.size + 1 from hsz]
  have g₁ : Grows s { s with heap := (s.heap.push (LCg.lst [])).push (LCg.lst []) } := ⟨_, s.toks, rfl, fun b ob e => Heap.get?_push_of_some _ (Heap.get?_push_of_some _ e)⟩
  have e₁ : ((s.heap.push (LCg.lst [])).push (LCg.lst [])).get? s.heap.objs.size = some (LCg.lst []) := Heap.get?_push_of_some _ (Heap.get?_push_size _ rfl)
  have e₂ : ((s.heap.push (LCg.lst [])).push (LCg.lst [])).get? (s.heap.objs.size + 1) = some (LCg.lst []) := by
    have := Heap.get?_push_size (s.heap.push (LCg.lst [])) (o := LCg.lst []) rfl
    rwa [hsz] at this
  have hN : ∀ b, (b = s.heap.objs.size ∨ b = s.heap.objs.size + 1) → s.heap.get? b = none := fun b e => get_none (by rcases e with rfl | rfl; exact Nat.le_refl _; exact Nat.le_succ _)
  have o₂ : OkA G (fun b => X b ∨ (b = s.heap.objs.size ∨ b = s.heap.objs.size + 1)) env ρ ad α { s with heap := (s.heap.push (LCg.lst [])).push (LCg.lst []) } := o.enter g₁ (fun b h => .inl h) (fun b hb hx => hN b (hb.resolve_left hx)) fun b hb hx => by
    rcases hb.resolve_left hx with rfl | rfl
    · exact ⟨_, e₁⟩
    · exact ⟨_, e₂⟩
  let s₂ : Shared := { s with heap := (s.heap.push (LCg.lst [])).push (LCg.lst []) }
  have k₃ : Grows s₂ { s₂ with heap := s₂.heap.push { cls := .type "tuple", data := .seq [Value.ref s.heap.objs.size, .ref (s.heap.objs.size + 1)].toArray } } := Grows.push
  refine wpAny_unpackItems_tuple (items := [Value.ref s.heap.objs.size, .ref (s.heap.objs.size + 1)].toArray) hh ⟨_, Heap.get?_push_size _ rfl, rfl, _, rfl⟩ fun h₄ hs₄ => ?_
  have k₄ : Grows { s₂ with heap := s₂.heap.push { cls := .type "tuple", data := .seq [Value.ref s.heap.objs.size, .ref (s.heap.objs.size + 1)].toArray } } { s₂ with heap := h₄ } := ⟨h₄, s₂.toks, rfl, fun b ob e => hs₄ b ob (Nat.ne_of_lt (Heap.lt_size e)) e⟩
  have o₄ := (o₂.keeps (s' := { s₂ with heap := s₂.heap.push { cls := .type "tuple", data := .seq [Value.ref s.heap.objs.size, .ref (s.heap.objs.size + 1)].toArray } }) k₃).keeps k₄
  have ha₁ : h₄.get? s.heap.objs.size = some (LCg.lst []) := Grows.at (k₃.tr k₄) e₁
  have ha₂ : h₄.get? (s.heap.objs.size + 1) = some (LCg.lst []) := Grows.at (k₃.tr k₄) e₂
  show wpAny _ A (assignInOrder [fun v => bindName env y v, fun v => bindName env x v] [.ref (s.heap.objs.size + 1), .ref s.heap.objs.size]) _ _ _
  have hNX : ∀ b, (b = s.heap.objs.size ∨ b = s.heap.objs.size + 1) → ¬ X b := fun b hb z => by obtain ⟨ob, e⟩ := o.ok.live _ z; rw [hN b hb] at e; cases e
  have hO : ∀ b, (b = s.heap.objs.size ∨ b = s.heap.objs.size + 1) → ¬ Own env b := fun b hb z => hNX b hb (o.ok.own _ z)
  have hne : ∀ b, (b = s.heap.objs.size ∨ b = s.heap.objs.size + 1) → ∀ z, Dom α z → ad z ≠ b := fun b hb z hz e => hNX b hb (e ▸ o.MA_X _ (.inr ⟨z, hz, rfl⟩))
  refine wpAny_bind (wpAny_holding (wpAny_bindName ?_))
  refine wpAny_mono (o₄.promote hy hαy' hρy (.inr (.inr rfl)) (hO _ (.inr rfl)) (hne _ (.inr rfl)) ha₂) (fun _ s₅ ⟨k₅, o₅⟩ => ?_) fun _ _ x => x
  refine wpAny_bind (wpAny_holding (wpAny_bindName ?_))
  have hdx : ¬ Dom ((y, []) :: α) x := fun z => (dom_cons.mp z).elim hxy hα'
  refine wpAny_mono (o₅.promote (a := s.heap.objs.size) hx hdx hρ (.inr (.inl rfl)) (hO _ (.inl rfl)) (fun z hz e => ?_) (k₅.get (hO _ (.inl rfl)) ha₁)) (fun _ s₆ ⟨k₆, o₆⟩ => ?_) fun _ _ x => x
  · by_cases hzy : z = y
    · rw [if_pos hzy] at e; exact absurd e (Nat.ne_of_gt (Nat.lt_succ_self _))
    · rw [if_neg hzy] at e; exact hne _ (.inl rfl) z ((dom_cons.mp hz).resolve_left hzy) e
  refine wpAny_pure ?_
  have kk : KeepM (MA env ad α) s s₆ := (KeepM.of_keeps (g₁.tr (k₃.tr k₄))).trans ((k₅.mono fun b h => .inl h).trans (k₆.mono fun b h => .inl h))
  refine Ret.after o hN (kk.mono fun b h => .inl h) o₆ (fun z hz => ?_) h
  by_cases e : z = x
  · exact .inr (.inl (if_pos e))
  · rcases (dom_cons.mp hz).resolve_left e |> dom_cons.mp with e' | e'
    · refine .inr (.inr ?_)
      rw [if_neg e]; exact if_pos e'
    · by_cases e'' : z = y
      · exact absurd (e'' ▸ e') hαy'
      · refine .inl ⟨e', ?_⟩
        rw [if_neg e]; exact if_neg e''
end
end Mine

namespace Mine
open PySem.Calls

local macro_rules | `(tactic| walk_at "sig") => `(tactic| exact ⟨fun name qual kV doc pm an cdv ct vs hl => by (first | (match vs, hl with | [_], _ => with_unfolding_all rfl) | (match vs, hl with | [_, _], _ => with_unfolding_all rfl) | (match vs, hl with | [_, _, _], _ => with_unfolding_all rfl) | (match vs, hl with | [_, _, _, _], _ => with_unfolding_all rfl) | (match vs, hl with | [_, _, _, _, _], _ => with_unfolding_all rfl)), by decide +kernel, by decide +kernel, by decide +kernel, rfl, rfl, rfl⟩)

abbrev dHeap (CH : Addr) (th : Den) : Den := dObj CH [("things", dLst [th])]

/-- a value that stands for an array or a view: its tag, its address 0 -/
structure IsArr (vds : List Den) (x : Str) : Prop where
  tag : vds[0]? = some (dStr x)
  adr : vds[1]? = some (dInt 0)
  len : vds.length ≤ 100
  kind : x = "array" ∨ x = "view"

section
variable {w : World} {G : Heap} {A : Around} {mg mb : Str → Option Value} {K : Frag} {CH CT iH iT fput fnew fobj : Addr}

theorem object_ok {k : Nat} (T : Insts G mg mb K CH CT iH iT fput fnew fobj) (hr : Room (k + 1) A) (th : Den) : CallOk P0 w G A (dDef G fobj) [dHeap CH th, dInt 0] th := by
  obtain ⟨p, b, s, e, hd⟩ := T.dobj
  cases (show methAt 16 5 = some (_, _, _) from rfl).symm.trans e
  clear e
  refine CallOk.ret (ns := ["self", "address"]) T.toBase hd (by walk_at "sig") rfl hr fun A env hr' hfe => ?_
  clear hd
  obtain ⟨L, a, q, c, rfl⟩ := hfe
  have hthings : ∀ {env : Env} {ρ : Rho} {p p' : Pos}, ρ.lookup ("self" : Str) = some (dHeap CH th) → Ev P0 w G A env ρ (.Attribute (.Name "self" p) "things" p') (dLst [th]) := fun h =>
    Ev.attr T.hc (Ev.name h) (.head _) rfl Handed.seq
  refine Ret.ifT (b := false) (Tr.cast ?_ (Tr.not (Tr.chain (d₁ := dInt 0) (d₂ := dInt 0) (d₃ := dInt 1) Ev.cint (Ev.name rfl) (fun _ => Ev.call (CallOk.len_lst (ds := [th])) (Ev.bf T.toTops rfl) ⟨hthings rfl, trivial⟩) Cmp.leI (fun _ => Cmp.ltI)))) (fun h => nomatch h) fun _ => ?_
  · decide
  · exact Ret.ret (Ev.sub (hthings rfl) (Ev.name rfl) (Itm.lst (by decide) rfl (small2 (by show 1 ≤ 1000; decide))))

theorem rd_pair : RD (dTup [dStr "array", dStr "view"]) (.tuple [.str "array", .str "view"]) := RD.tup ⟨RD.str, RD.str, trivial⟩

theorem is_array_ok {f : Addr} {k : Nat} (T : Tops G mg mb) (hd : IsDefN G f 24) (hr : Room (k + 1) A) {vds : List Den} {x : Str} (hv : IsArr vds x) : CallOk P0 w G A (dDef G f) [dTup vds] (dBool true) := by
  obtain ⟨p, b, s, e, hd⟩ := hd
  cases (show defAt 24 = some (_, _, _) from rfl).symm.trans e
  clear e
  refine CallOk.ret (ns := ["value"]) T.toBase hd (by walk_at "sig") rfl hr fun A env hr' hfe => ?_
  clear hd
  obtain ⟨L, a, q, c, rfl⟩ := hfe
  have hok : PyData.strOk x = true := by rcases hv.kind with rfl | rfl <;> decide +kernel
  refine Ret.cast (Ret.ret (Ev.cmp (Ev.sub (Ev.name (d := dTup vds) rfl) Ev.cint (Itm.tup (by decide) hv.tag (small2 (Nat.le_trans hv.len (by decide))))) (Ev.tuple (ds := [dStr "array", dStr "view"]) ⟨Ev.cstr, Ev.cstr, trivial⟩ (small2 (by show 2 ≤ 1000; decide)))
    (Cmp.inT RD.str rd_pair (Lay.str hok) (m := 0) (fun q hq => ?_) hr'.units (n := 0)))) ?_
  · rcases List.mem_cons.mp hq with rfl | hq
    · exact Lay.str (by decide +kernel)
    · rw [List.mem_singleton.mp hq]; exact Lay.str (by decide +kernel)
  · congr 1
    rcases hv.kind with rfl | rfl <;> decide +kernel

theorem parent_of_ok {f : Addr} {k : Nat} (T : Insts G mg mb K CH CT iH iT fput fnew fobj) (hd : IsDefN G f 25) (hr : Room (k + 2) A) (th : Den) {vds : List Den} {x : Str} (hv : IsArr vds x) : CallOk P0 w G A (dDef G f) [dHeap CH th, dTup vds] th := by
  obtain ⟨p, b, s, e, hd⟩ := hd
  cases (show defAt 25 = some (_, _, _) from rfl).symm.trans e
  clear e
  refine CallOk.ret (ns := ["heap", "value"]) T.toBase hd (by walk_at "sig") rfl hr fun A env hr' hfe => ?_
  clear hd
  obtain ⟨L, a, q, c, rfl⟩ := hfe
  obtain ⟨fi, hfi, dfi⟩ := T.defs 24 "is_array" (by decide +kernel)
  refine Ret.ifT (b := false) (Tr.not (b := true) (Tr.plain (Ev.call (is_array_ok T.toTops dfi hr' hv) (Ev.gdef T.toBase rfl hfi) ⟨Ev.name rfl, trivial⟩))) (fun h => nomatch h) fun _ => ?_
  exact Ret.ret (Ev.meth T.hc (.tail _ (.tail _ (.head _))) T.kobj (Ev.name (d := dHeap CH th) rfl) rfl (ds := [dInt 0]) ⟨Ev.sub (Ev.name (d := dTup vds) rfl) Ev.cint (Itm.tup (by decide) hv.adr (small2 (Nat.le_trans hv.len (by decide)))), trivial⟩ (object_ok T hr' th) _ rfl rfl)

abbrev dThg (CT : Addr) (kd : Den) (its : List Den) (sizes : List Int) : Den := dThing CT kd (dLst its) (dTup (sizes.map dInt))

def dArr : List Den := [dStr "array", dInt 0]
def dView (p : Int) (ks ss : List Int) : List Den := [dStr "view", dInt 0, dInt p, dTup (ks.map dInt), dTup (ss.map dInt)]
theorem isArr_arr : IsArr dArr "array" := ⟨rfl, rfl, by decide +kernel, .inl rfl⟩
theorem isArr_view (p : Int) (ks ss : List Int) : IsArr (dView p ks ss) "view" := ⟨rfl, rfl, by show 5 ≤ 100; decide, .inr rfl⟩

theorem tag_test {env : Env} {ρ : Rho} {vds : List Den} {x : Str} {p1 p2 p3 p4 p5 : Pos} {k1 k2 : Nat} {b : Bool} (hu : A.units + 64 < cLine) (hv : IsArr vds x) (h : ρ.lookup ("value" : Str) = some (dTup vds)) (hb : PyData.eqv (.str x) (.str "view") = b) :
    Tr P0 w G A env ρ (.Compare (.Subscript (.Name "value" p1) (.Constant (.int 0) k1 p2) p3) [.Eq] [.Constant (.str "view") k2 p4] p5) b := by
  have hok : PyData.strOk x = true := by rcases hv.kind with rfl | rfl <;> decide +kernel
  exact Tr.cast hb (Tr.cmp (Ev.sub (Ev.name h) Ev.cint (Itm.tup (by decide) hv.tag (small2 (Nat.le_trans hv.len (by decide))))) Ev.cstr (Cmp.eqD RD.str RD.str (Lay.str hok) (n := 0) (m := 0) (Lay.str (by decide +kernel)) hu))

theorem sizes_of_arr {f : Addr} {k : Nat} (T : Insts G mg mb K CH CT iH iT fput fnew fobj) (hd : IsDefN G f 26) (hr : Room (k + 3) A) (kd : Den) (its : List Den) (sizes : List Int) :
    CallOk P0 w G A (dDef G f) [dHeap CH (dThg CT kd its sizes), dTup dArr] (dTup (sizes.map dInt)) := by
  obtain ⟨p, b, s, e, hd⟩ := hd
  cases (show defAt 26 = some (_, _, _) from rfl).symm.trans e
  clear e
  refine CallOk.ret (ns := ["heap", "value"]) T.toBase hd (by walk_at "sig") rfl hr fun A env hr' hfe => ?_
  clear hd
  obtain ⟨L, a, q, c, rfl⟩ := hfe
  obtain ⟨fp, hfp, dfp⟩ := T.defs 25 "parent_of" (by decide +kernel)
  exact Ret.ret (Ev.ife (c := false) (tag_test hr'.units isArr_arr rfl (by decide +kernel)) (fun h => nomatch h) fun _ => Ev.attr T.tc (Ev.call (parent_of_ok T dfp hr' _ isArr_arr) (Ev.gdef T.toBase rfl hfp) ⟨Ev.name rfl, Ev.name rfl, trivial⟩) (.tail _ (.tail _ (.head _))) rfl Handed.seq)

theorem sizes_of_view {f : Addr} {k : Nat} (T : Tops G mg mb) (hd : IsDefN G f 26) (hr : Room (k + 1) A) (th : Den) (p : Int) (ks ss : List Int) :
    CallOk P0 w G A (dDef G f) [dHeap CH th, dTup (dView p ks ss)] (dTup (ks.map dInt)) := by
  obtain ⟨p, b, s, e, hd⟩ := hd
  cases (show defAt 26 = some (_, _, _) from rfl).symm.trans e
  clear e
  refine CallOk.ret (ns := ["heap", "value"]) T.toBase hd (by walk_at "sig") rfl hr fun A env hr' hfe => ?_
  clear hd
  obtain ⟨L, a, q, c, rfl⟩ := hfe
  exact Ret.ret (Ev.ife (c := true) (tag_test hr'.units (isArr_view _ ks ss) rfl (by decide +kernel)) (fun _ => Ev.sub (Ev.name rfl) Ev.cint (Itm.tup (by decide) rfl (small2 (by show 5 ≤ 1000; decide)))) fun h => nomatch h)

theorem layout_of_view {f : Addr} {k : Nat} (T : Tops G mg mb) (hd : IsDefN G f 27) (hr : Room (k + 1) A) (th : Den) (p : Int) (ks ss : List Int) :
    CallOk P0 w G A (dDef G f) [dHeap CH th, dTup (dView p ks ss)] (dTup [dInt p, dTup (ss.map dInt)]) := by
  obtain ⟨p, b, s, e, hd⟩ := hd
  cases (show defAt 27 = some (_, _, _) from rfl).symm.trans e
  clear e
  refine CallOk.ret (ns := ["heap", "value"]) T.toBase hd (by walk_at "sig") rfl hr fun A env hr' hfe => ?_
  clear hd
  obtain ⟨L, a, q, c, rfl⟩ := hfe
  refine Ret.ret (Ev.ife (c := true) (tag_test hr'.units (isArr_view _ ks ss) rfl (by decide +kernel)) (fun _ => ?_) fun h => nomatch h)
  refine Ev.tuple ⟨Ev.sub (Ev.name rfl) Ev.cint (Itm.tup (by decide) rfl (small2 (by show 5 ≤ 1000; decide))), Ev.sub (Ev.name rfl) Ev.cint (Itm.tup (by decide) rfl (small2 (by show 5 ≤ 1000; decide))), trivial⟩ (small2 (by show 2 ≤ 1000; decide))

theorem layout_of_arr {f : Addr} {k : Nat} (T : Insts G mg mb K CH CT iH iT fput fnew fobj) (hd : IsDefN G f 27) (hr : Room (k + 4) A) (kd : Den) (its : List Den) (sizes : List Int) (hp : Pz sizes) :
    CallOk P0 w G A (dDef G f) [dHeap CH (dThg CT kd its sizes), dTup dArr] (dTup [dInt 0, dTup ((stridesI 1 sizes).map dInt)]) := by
  obtain ⟨p, b, s, e, hd⟩ := hd
  cases (show defAt 27 = some (_, _, _) from rfl).symm.trans e
  clear e
  refine CallOk.ret (ns := ["heap", "value"]) T.toBase hd (by walk_at "sig") rfl hr fun A env hr' hfe => ?_
  clear hd
  obtain ⟨L, a, q, c, rfl⟩ := hfe
  obtain ⟨fs, hfs, dfs⟩ := T.defs 26 "sizes_of" (by decide +kernel)
  obtain ⟨ft, hft, dft⟩ := T.defs 21 "strides_of" (by decide +kernel)
  refine Ret.ret (Ev.ife (c := false) (tag_test hr'.units isArr_arr rfl (by decide +kernel)) (fun h => nomatch h) fun _ => ?_)
  exact Ev.tuple ⟨Ev.cint, Ev.call (strides_of_ok T.toTops dft (hr'.mono (j := 2 + 1) (by omega)) sizes hp.mul hp.len) (Ev.gdef T.toBase rfl hft) ⟨Ev.call (sizes_of_arr T dfs hr' kd its sizes) (Ev.gdef T.toBase rfl hfs) ⟨Ev.name rfl, Ev.name rfl, trivial⟩, trivial⟩, trivial⟩ (small2 (by show 2 ≤ 1000; decide))
end
end Mine

namespace Mine
open PySem.Calls

local macro_rules | `(tactic| walk_at "sig") => `(tactic| exact ⟨fun name qual kV doc pm an cdv ct vs hl => by (first | (match vs, hl with | [_], _ => with_unfolding_all rfl) | (match vs, hl with | [_, _], _ => with_unfolding_all rfl) | (match vs, hl with | [_, _, _], _ => with_unfolding_all rfl) | (match vs, hl with | [_, _, _, _], _ => with_unfolding_all rfl) | (match vs, hl with | [_, _, _, _, _], _ => with_unfolding_all rfl)), by decide +kernel, by decide +kernel, by decide +kernel, rfl, rfl, rfl⟩)

section
variable {w : World} {G : Heap} {A : Around} {mg mb : Str → Option Value} {K : Frag} {CH CT iH iT fput fnew fobj : Addr}

def placesV (p : Int) (ks ss : List Int) (n : Nat) : List Int := (List.range n).foldl (fun f i => (placesStep f (ss.getD i 0) (ks.getD i 0)).flatten) [p]
theorem placesV_succ {p : Int} {ks ss : List Int} {n : Nat} : placesV p ks ss (n + 1) = (placesStep (placesV p ks ss n) (ss.getD n 0) (ks.getD n 0)).flatten := by
  unfold placesV; rw [List.range_succ, List.foldl_append]; rfl

/-- what a view must keep for the walks of its places -/
structure Vz (ks ss : List Int) : Prop where
  len : ks.length ≤ 100
  eq : ss.length = ks.length
  val : ∀ x ∈ ks, 0 ≤ x ∧ x ≤ 1000
  far : ∀ x ∈ ss, ∀ y : Int, IntMulOk x y

theorem places_of_ok {f : Addr} {k : Nat} (T : Tops G mg mb) (hd : IsDefN G f 28) (hr : Room (k + 2) A) (th : Den) (p : Int) (ks ss : List Int) (hv : Vz ks ss) (hm : ∀ i ≤ ks.length, (placesV p ks ss i).length ≤ 1000) :
    CallOk P0 w G A (dDef G f) [dHeap CH th, dTup (dView p ks ss)] (dLst ((placesV p ks ss ks.length).map dInt)) := by
  obtain ⟨p', b, s, e, hd⟩ := hd
  cases (show defAt 28 = some (_, _, _) from rfl).symm.trans e
  clear e
  refine CallOk.ret (ns := ["heap", "value"]) T.toBase hd (by walk_at "sig") rfl hr fun A env hr' hfe => ?_
  clear hd
  obtain ⟨L, a, q, c, rfl⟩ := hfe
  obtain ⟨fs, hfs, dfs⟩ := T.defs 26 "sizes_of" (by decide +kernel)
  obtain ⟨fl, hfl, dfl⟩ := T.defs 27 "layout_of" (by decide +kernel)
  refine Ret.cons (Step.assignT (Ev.call (layout_of_view T dfl hr' th p ks ss) (Ev.gdef T.toBase rfl hfl) ⟨Ev.name rfl, Ev.name rfl, trivial⟩) (AsgnOk.tup (ds := [dInt p, dTup (ss.map dInt)]) hr'.1 (.cons rfl (AsgnOk.name (.inl rfl) (fun b h => h.own)) (.cons rfl (AsgnOk.name (.inl rfl) (fun b h => h.own)) .nil)) fun b h => h) (fun _ _ => noDom)) ?_ (fun _ => Iff.rfl)
  refine Ret.cons (Step.assign (.inr ⟨rfl, rfl⟩) (Ev.list (ds := [dInt p]) ⟨Ev.name rfl, trivial⟩ (small2 (by show 1 ≤ 1000; decide)))) ?_ (fun _ => Iff.rfl)
  refine Ret.cons (Step.loop (ds := zipL (ks.map dInt) (ss.map dInt)) (fun i => [("found", dLst ((placesV p ks ss i).map dInt))]) (fun _ => []) (EvIt.zip T hr'.1 rfl (.inr rfl) (.inr rfl) (Ev.call (sizes_of_view T dfs hr' th p ks ss) (Ev.gdef T.toBase rfl hfs) ⟨Ev.name rfl, Ev.name rfl, trivial⟩) (Ev.name rfl)) (.cons rfl .nil) rfl (fun _ _ => Iff.rfl) fun i d hd => ?_) ?_ (fun _ => Iff.rfl)
  · obtain ⟨da, db, ha, hb, rfl⟩ := zipL_get hd
    obtain ⟨x, hx, rfl⟩ := map_get ha
    obtain ⟨far, hfar, rfl⟩ := map_get hb
    have hi := (List.getElem?_eq_some_iff.mp hx).1
    have hxm := hv.val x (List.mem_of_getElem? hx)
    have hgx : ks.getD i 0 = x := by rw [List.getD_eq_getElem?_getD, hx]; rfl
    have hgf : ss.getD i 0 = far := by rw [List.getD_eq_getElem?_getD, hfar]; rfl
    refine ⟨[("far", dInt far), ("size", dInt x)], AsgnOk.tup hr'.1 (.cons rfl (AsgnOk.name (.inl rfl) (fun b h => h.own)) (.cons rfl (AsgnOk.name (.inr ⟨rfl, rfl⟩) (fun b h => h.own)) .nil)) fun b h => h, fun _ _ => noDom, ?_⟩
    refine (Step.assign (d := dLst ((placesV p ks ss (i + 1)).map dInt)) (.inr ⟨rfl, rfl⟩) ?_).out (.cons rfl .nil)
    have hb := hm (i + 1) hi
    rw [placesV_succ, hgf, hgx] at hb ⊢
    rw [List.map_flatten]
    refine Ev.comp2 ⟨EvIt.rng hr'.1 (Ev.call CallOk.range1 (Ev.bt T rfl) ⟨Ev.name rfl, trivial⟩) (by omega) (by omega), by decide +kernel, free_of ⟨⟨.inl rfl, rfl⟩, ⟨.inl rfl, rfl⟩, trivial⟩, rfl, by simp [placesStep], ?_, fun h₀ cenv hc j d out hj ho => ?_, fun _ => rfl, fun _ _ => rfl⟩
    · rw [← List.map_flatten, List.length_map]; exact small2 hb
    · obtain ⟨y, hy, rfl⟩ := map_get hj
      obtain ⟨o', ho', rfl⟩ := map_get ho
      unfold placesStep at ho'
      obtain ⟨y', hy', rfl⟩ := map_get ho'
      rw [hy] at hy'; cases hy'
      refine ⟨[("at", dInt y)], (placesV p ks ss i).map dInt, AsgnOk.mine hc (.inl rfl), own_names ["at"] ⟨rfl, trivial⟩, EvIt.lst hr'.1 (Ev.name rfl), by simp, fun m d₁ o hd₁ ho₁ => ?_⟩
      obtain ⟨r, hr₁, rfl⟩ := map_get hd₁
      obtain ⟨r', hr₂, rfl⟩ := map_get ho₁
      obtain ⟨r'', hr₃, rfl⟩ := map_get hr₂
      rw [hr₁] at hr₃; cases hr₃
      refine ⟨[("place", dInt r)], AsgnOk.mine hc (.inl rfl), fun x hx => ?_, ?_⟩
      · simp only [names, List.map_cons, List.map_nil, List.mem_singleton] at hx; subst hx; rfl
      · exact Ev.bin (Ev.name rfl) (Ev.bin (Ev.name rfl) (Ev.name rfl) (Bin.mul (hv.far far (List.mem_of_getElem? hfar) y))) Bin.add
  · have hzl : (zipL (ks.map dInt) (ss.map dInt)).length = ks.length := by rw [zipL_length, List.length_map, List.length_map, hv.eq, Nat.min_self]
    rw [hzl]
    exact Ret.ret (Ev.name rfl)

def pickD (its : List Den) (ps : List Int) : List Den := ps.map fun p => its.getD p.toNat dNone

theorem items_of_ok {f : Addr} {k : Nat} (T : Insts G mg mb K CH CT iH iT fput fnew fobj) (hd : IsDefN G f 29) (hr : Room (k + 3) A) (kd : Den) (its : List Den) (sizes : List Int) (hz : its.length ≤ 1000) (p : Int) (ks ss : List Int) (hv : Vz ks ss) (hm : ∀ i ≤ ks.length, (placesV p ks ss i).length ≤ 1000)
    (hin : ∀ q ∈ placesV p ks ss ks.length, 0 ≤ q ∧ q.toNat < its.length) :
    CallOk P0 w G A (dDef G f) [dHeap CH (dThg CT kd its sizes), dTup (dView p ks ss)] (dLst (pickD its (placesV p ks ss ks.length))) := by
  obtain ⟨p', b, s, e, hd⟩ := hd
  cases (show defAt 29 = some (_, _, _) from rfl).symm.trans e
  clear e
  refine CallOk.ret (ns := ["heap", "value"]) T.toBase hd (by walk_at "sig") rfl hr fun A env hr' hfe => ?_
  clear hd
  obtain ⟨L, a, q, c, rfl⟩ := hfe
  obtain ⟨fp, hfp, dfp⟩ := T.defs 25 "parent_of" (by decide +kernel)
  obtain ⟨fl, hfl, dfl⟩ := T.defs 28 "places_of" (by decide +kernel)
  refine Ret.cons (Step.assign (.inr ⟨rfl, rfl⟩) (Ev.attr T.tc (Ev.call (parent_of_ok T dfp hr' _ (isArr_view p ks ss)) (Ev.gdef T.toBase rfl hfp) ⟨Ev.name rfl, Ev.name rfl, trivial⟩) (.tail _ (.head _)) rfl Handed.seq)) ?_ (fun _ => Iff.rfl)
  have hpl := hm ks.length (Nat.le_refl _)
  refine Ret.ret (Ev.comp1 ⟨EvIt.lst hr'.1 (Ev.call (places_of_ok T.toTops dfl hr' _ p ks ss hv hm) (Ev.gdef T.toBase rfl hfl) ⟨Ev.name rfl, Ev.name rfl, trivial⟩), by decide +kernel, free_of ⟨⟨.inl rfl, rfl⟩, trivial⟩, rfl, by simp [pickD], by rw [pickD, List.length_map]; exact small2 hpl, fun h₀ cenv hc i d o hd ho => ?_, fun _ => rfl⟩)
  obtain ⟨y, hy, rfl⟩ := map_get hd
  unfold pickD at ho
  obtain ⟨y', hy', rfl⟩ := map_get ho
  rw [hy] at hy'; cases hy'
  obtain ⟨h0, h1⟩ := hin y (List.mem_of_getElem? hy)
  exact ⟨[("place", dInt y)], AsgnOk.mine hc (.inl rfl), own_names ["place"] ⟨rfl, trivial⟩, Ev.sub (Ev.name (d := dLst its) rfl) (Ev.name (d := dInt y) rfl) (Itm.lst h0 (by rw [List.getD_eq_getElem?_getD, List.getElem?_eq_getElem h1]; rfl) (small2 hz))⟩
end
end Mine

namespace Mine
open PySem.Calls

local macro_rules | `(tactic| walk_at "sig") => `(tactic| exact ⟨fun name qual kV doc pm an cdv ct vs hl => by (first | (match vs, hl with | [_], _ => with_unfolding_all rfl) | (match vs, hl with | [_, _], _ => with_unfolding_all rfl) | (match vs, hl with | [_, _, _], _ => with_unfolding_all rfl) | (match vs, hl with | [_, _, _, _], _ => with_unfolding_all rfl) | (match vs, hl with | [_, _, _, _, _], _ => with_unfolding_all rfl)), by decide +kernel, by decide +kernel, by decide +kernel, rfl, rfl, rfl⟩)

theorem Cmp.isNotNone {prog : Program} {w : World} {A : Around} : Cmp prog w A .IsNot dNone dNone false := fun X s E v₁ v₂ e₁ e₂ => by
  have e₁' : v₁ = .none := e₁
  have e₂' : v₂ = .none := e₂
  subst e₁' e₂'
  exact isnot_none_gen ⟨rfl, Grows.rfl' s⟩
theorem Cmp.isNotSome {prog : Program} {w : World} {A : Around} {d : Den} (h : Some' d) : Cmp prog w A .IsNot d dNone true := fun X s E v₁ v₂ e₁ e₂ => by
  have e₂' : v₂ = .none := e₂
  subst e₂'
  exact isnot_none_ne (h _ _ e₁) ⟨rfl, Grows.rfl' s⟩

/-- a part of a view: all, or one index -/
def dPart : Option Int → Den
  | none => dNone
  | some q => dInt q
def dParts (ps : List (Option Int)) : Den := dLst (ps.map dPart)
/-- what taken_row answers: (first, step, many) -/
def dTaken : Option Int → Int → Den
  | none, size => dTup [dInt 1, dInt 1, dInt size]
  | some q, _ => dTup [dInt q, dInt 1, dNone]
def pTaken : Option Int → Int → PyData
  | none, size => .tuple [.int 1, .int 1, .int size]
  | some q, _ => .tuple [.int q, .int 1, .none]
theorem rd_taken (o : Option Int) (size : Int) : RD (dTaken o size) (pTaken o size) := by
  cases o with
  | none => exact RD.tup ⟨RD.int, RD.int, RD.int, trivial⟩
  | some q => exact RD.tup ⟨RD.int, RD.int, RD.none, trivial⟩
theorem lay_taken (o : Option Int) (size : Int) : Lay 1 (pTaken o size) := by
  cases o with
  | none =>
    refine Lay.tuple fun p hp => ?_
    simp only [List.mem_cons, List.not_mem_nil, or_false] at hp
    rcases hp with rfl | rfl | rfl <;> exact Lay.int
  | some q =>
    refine Lay.tuple fun p hp => ?_
    simp only [List.mem_cons, List.not_mem_nil, or_false] at hp
    rcases hp with rfl | rfl | rfl
    · exact Lay.int
    · exact Lay.int
    · exact Lay.none

section
variable {w : World} {G : Heap} {A : Around} {mg mb : Str → Option Value} {K : Frag} {CH CT iH iT fput fnew fobj : Addr}

theorem taken_row_ok {f : Addr} {k : Nat} (T : Tops G mg mb) (hd : IsDefN G f 38) (hr : Room (k + 1) A) (o : Option Int) (size : Int) (ho : ∀ q, o = some q → 1 ≤ q ∧ q ≤ size) : CallOk P0 w G A (dDef G f) [dPart o, dInt size] (dTaken o size) := by
  obtain ⟨p', b, s, e, hd⟩ := hd
  cases (show defAt 38 = some (_, _, _) from rfl).symm.trans e
  clear e
  refine CallOk.ret (ns := ["part", "size"]) T.toBase hd (by walk_at "sig") rfl hr fun A env hr' hfe => ?_
  clear hd
  obtain ⟨L, a, q, c, rfl⟩ := hfe
  cases o with
  | none =>
    refine Ret.ifT (b := true) (Tr.cmp (Ev.name (d := dNone) rfl) Ev.cnone Cmp.isNone) (fun _ => ?_) (fun h => nomatch h)
    exact Ret.ret (Ev.tuple ⟨Ev.cint, Ev.cint, Ev.name rfl, trivial⟩ (small2 (by show 3 ≤ 1000; decide)))
  | some q =>
    obtain ⟨h1, h2⟩ := ho q rfl
    refine Ret.ifT (b := false) (Tr.cmp (Ev.name (d := dInt q) rfl) Ev.cnone (Cmp.isSome Some'.int)) (fun h => nomatch h) (fun _ => ?_)
    refine Ret.ifT (b := true) (Tr.plain (Ev.call (CallOk.isint (i := q)) (Ev.bf T rfl) ⟨Ev.name rfl, Ev.bt T rfl, trivial⟩)) (fun _ => ?_) (fun h => nomatch h)
    refine Ret.ret (Ev.ife (c := true) (Tr.cast ?_ (Tr.chain (d₁ := dInt 1) (d₂ := dInt q) (d₃ := dInt size) Ev.cint (Ev.name rfl) (fun _ => Ev.name rfl) Cmp.leI (fun _ => Cmp.leI))) (fun _ => ?_) (fun h => nomatch h))
    · simp [h1, h2]
    · exact Ev.tuple ⟨Ev.name rfl, Ev.cint, Ev.cnone, trivial⟩ (small2 (by show 3 ≤ 1000; decide))

def vPlace (ps : List (Option Int)) (fs : List Int) (n : Nat) : Int := (List.range n).foldl (fun a i => match ps.getD i none with | none => a | some q => a + (q - 1) * fs.getD i 0) 0
def vKept (ps : List (Option Int)) (xs : List Int) (n : Nat) : List Int := (List.range n).foldl (fun a i => match ps.getD i none with | none => a ++ [xs.getD i 0] | some _ => a) []
theorem vPlace_succ {ps : List (Option Int)} {fs : List Int} {n : Nat} : vPlace ps fs (n + 1) = match ps.getD n none with | none => vPlace ps fs n | some q => vPlace ps fs n + (q - 1) * fs.getD n 0 := by
  unfold vPlace; rw [List.range_succ, List.foldl_append]; rfl
theorem vKept_succ {ps : List (Option Int)} {xs : List Int} {n : Nat} : vKept ps xs (n + 1) = match ps.getD n none with | none => vKept ps xs n ++ [xs.getD n 0] | some _ => vKept ps xs n := by
  unfold vKept; rw [List.range_succ, List.foldl_append]; rfl
theorem vKept_len (ps : List (Option Int)) (xs : List Int) : ∀ n, (vKept ps xs n).length ≤ n
  | 0 => Nat.le_refl _
  | n + 1 => by
    rw [vKept_succ]
    have := vKept_len ps xs n
    split
    · rw [List.length_append]; simp only [List.length_cons, List.length_nil]; omega
    · omega

/-- one part for each rank, within its size -/
structure PartsOk (sizes : List Int) (ps : List (Option Int)) : Prop where
  len : ps.length = sizes.length
  val : ∀ (i : Nat) (q x : Int), ps[i]? = some (some q) → sizes[i]? = some x → 1 ≤ q ∧ q ≤ x

def viewD (sizes : List Int) (ps : List (Option Int)) : List Den := dView (vPlace ps (stridesI 1 sizes) sizes.length) (vKept ps sizes sizes.length) (vKept ps (stridesI 1 sizes) sizes.length)

theorem view_of_ok {f : Addr} {k : Nat} (T : Insts G mg mb K CH CT iH iT fput fnew fobj) (hd : IsDefN G f 41) (hr : Room (k + 5) A) (kd : Den) (its : List Den) (sizes : List Int) (hp : Pz sizes) (ps : List (Option Int)) (hps : PartsOk sizes ps) :
    CallOk P0 w G A (dDef G f) [dHeap CH (dThg CT kd its sizes), dTup dArr, dParts ps] (dTup (viewD sizes ps)) := by
  obtain ⟨p', b, s, e, hd⟩ := hd
  cases (show defAt 41 = some (_, _, _) from rfl).symm.trans e
  clear e
  refine CallOk.ret (ns := ["heap", "value", "parts"]) T.toBase hd (by walk_at "sig") rfl hr fun A env hr' hfe => ?_
  clear hd
  obtain ⟨L, a, q, c, rfl⟩ := hfe
  obtain ⟨fs, hfs, dfs⟩ := T.defs 26 "sizes_of" (by decide +kernel)
  obtain ⟨fl, hfl, dfl⟩ := T.defs 27 "layout_of" (by decide +kernel)
  obtain ⟨ft, hft, dft⟩ := T.defs 38 "taken_row" (by decide +kernel)
  have hlen := hp.len
  have hsl : (stridesI 1 sizes).length = sizes.length := stridesI_length ..
  refine Ret.cons (Step.assign (.inl rfl) (Ev.call (sizes_of_arr T dfs (hr'.mono (j := 1 + 3) (by omega)) kd its sizes) (Ev.gdef T.toBase rfl hfs) ⟨Ev.name rfl, Ev.name rfl, trivial⟩)) ?_ (fun _ => Iff.rfl)
  refine Ret.ifT (b := false) (Tr.cast ?_ (Tr.cmp (Ev.call (CallOk.len_lst (ds := ps.map dPart)) (Ev.bf T.toTops rfl) ⟨Ev.name rfl, trivial⟩) (Ev.call (CallOk.len_tup (ds := sizes.map dInt)) (Ev.bf T.toTops rfl) ⟨Ev.name rfl, trivial⟩) Cmp.neI)) (fun h => nomatch h) fun _ => ?_
  · rw [List.length_map, List.length_map, hps.len]; simp
  let rows : List Den := List.zipWith dTaken ps sizes
  have hrl : rows.length = sizes.length := by show (List.zipWith dTaken ps sizes).length = _; rw [List.length_zipWith, hps.len, Nat.min_self]
  refine Ret.cons (Step.assign_comp1 (ds := zipL (ps.map dPart) (sizes.map dInt)) (outs := rows) ⟨EvIt.zip T.toTops hr'.1 rfl (.inl rfl) (.inr rfl) (Ev.name rfl) (Ev.name rfl), by decide +kernel, free_of trivial, rfl, by rw [hrl, zipL_length, List.length_map, List.length_map, hps.len, Nat.min_self], by rw [hrl]; exact small2 (by omega), fun h₀ cenv hc i d o hd ho => ?_, fun _ => rfl⟩ (.inl rfl)) ?_ (fun _ => Iff.rfl)
  · obtain ⟨da, db, ha, hb, rfl⟩ := zipL_get hd
    obtain ⟨o', ho', rfl⟩ := map_get ha
    obtain ⟨x, hx, rfl⟩ := map_get hb
    have he : o = dTaken o' x := by
      have ho2 : (List.zipWith dTaken ps sizes)[i]? = some o := ho
      rw [List.getElem?_zipWith, ho', hx] at ho2
      exact (Option.some.inj ho2).symm
    subst he
    refine ⟨[("size", dInt x), ("part", dPart o')], AsgnOk.tup hr'.1 (.cons rfl (AsgnOk.mine hc (.inl rfl)) (.cons rfl (AsgnOk.mine hc (.inl rfl)) .nil)) fun b h => h.1, own_names ["size", "part"] ⟨rfl, rfl, trivial⟩, ?_⟩
    exact Ev.call (taken_row_ok T.toTops dft (hr'.mono (j := 1 + 1) (by omega)) o' x fun q hq => hps.val i q x (by rw [ho', hq]) hx) (Ev.gdef T.toBase (hc.kind rfl rfl) hft) ⟨Ev.name rfl, Ev.name rfl, trivial⟩
  have hrd : RD (dLst rows) (.list (List.zipWith pTaken ps sizes)) := by
    refine RD.lst ?_
    show All2 RD (List.zipWith dTaken ps sizes) _
    have : ∀ (ps : List (Option Int)) (xs : List Int), All2 RD (List.zipWith dTaken ps xs) (List.zipWith pTaken ps xs) := by
      intro ps
      induction ps with
      | nil => intro xs; cases xs <;> trivial
      | cons o r ih =>
        intro xs
        cases xs with
        | nil => trivial
        | cons x xs => exact ⟨rd_taken o x, ih xs⟩
    exact this ps sizes
  refine Ret.ifT (b := false) (Tr.cast ?_ (Tr.cmp Ev.cnone (Ev.name rfl) (Cmp.inL RD.none hrd (Lay.none (n := 0)) (m := 1) (fun q hq => ?_) hr'.units))) (fun h => nomatch h) fun _ => ?_
  · rw [List.any_eq_false]
    intro y hy
    obtain ⟨i, hi⟩ := List.mem_iff_getElem?.mp hy
    rw [List.getElem?_zipWith] at hi
    cases ho : ps[i]? with
    | none => rw [ho] at hi; cases hi
    | some o =>
      cases hx : sizes[i]? with
      | none => rw [ho, hx] at hi; cases hi
      | some x =>
        rw [ho, hx] at hi; cases hi
        cases o <;> simp [pTaken, PyData.eqv]
  · obtain ⟨i, hi⟩ := List.mem_iff_getElem?.mp hq
    rw [List.getElem?_zipWith] at hi
    cases ho : ps[i]? with
    | none => rw [ho] at hi; cases hi
    | some o =>
      cases hx : sizes[i]? with
      | none => rw [ho, hx] at hi; cases hi
      | some x => rw [ho, hx] at hi; cases hi; exact lay_taken o x
  refine Ret.cons (Step.assignT (Ev.call (layout_of_arr T dfl hr' kd its sizes hp) (Ev.gdef T.toBase rfl hfl) ⟨Ev.name rfl, Ev.name rfl, trivial⟩) (AsgnOk.tup (ds := [dInt 0, dTup ((stridesI 1 sizes).map dInt)]) hr'.1 (.cons rfl (AsgnOk.name (.inl rfl) (fun b h => h.own)) (.cons rfl (AsgnOk.name (.inl rfl) (fun b h => h.own)) .nil)) fun b h => h) (fun _ _ => noDom)) ?_ (fun _ => Iff.rfl)
  refine Ret.openPair2 hr'.1 (.inl rfl) (.inl rfl) ?_ (by with_unfolding_all rfl) (fun _ => rfl)
  refine Ret.cons (Step.loop (ds := zipL rows ((stridesI 1 sizes).map dInt)) (fun i => [("place", dInt (vPlace ps (stridesI 1 sizes) i)), ("value", dTup dArr)]) (fun i => [("kept", (vKept ps sizes i).map dInt), ("steps", (vKept ps (stridesI 1 sizes) i).map dInt)]) (EvIt.zip T.toTops hr'.1 rfl (.inl rfl) (.inr rfl) (Ev.name rfl) (Ev.name rfl)) (.cons rfl (.cons rfl .nil)) rfl (fun _ _ => by simp [dom_cons]) fun i d hd => ?_) ?_ (fun _ => by simp [dom_cons])
  · obtain ⟨da, db, ha, hb, rfl⟩ := zipL_get hd
    obtain ⟨far, hfar, rfl⟩ := map_get hb
    have ha' : (List.zipWith dTaken ps sizes)[i]? = some da := ha
    rw [List.getElem?_zipWith] at ha'
    cases ho : ps[i]? with
    | none => rw [ho] at ha'; cases ha'
    | some o =>
      cases hx : sizes[i]? with
      | none => rw [ho, hx] at ha'; cases ha'
      | some x =>
        rw [ho, hx] at ha'; cases ha'
        have hi := (List.getElem?_eq_some_iff.mp hx).1
        have hgf : (stridesI 1 sizes).getD i 0 = far := by rw [List.getD_eq_getElem?_getD, hfar]; rfl
        have hgx : sizes.getD i 0 = x := by rw [List.getD_eq_getElem?_getD, hx]; rfl
        have hgo : ps.getD i none = o := by rw [List.getD_eq_getElem?_getD, ho]; rfl
        have hfm := hp.far far (List.mem_of_getElem? hfar)
        have hk1 := vKept_len ps sizes i
        have hk2 := vKept_len ps (stridesI 1 sizes) i
        have comm : ∀ y : Int, IntMulOk y far := fun y => by
          have := hfm y
          unfold IntMulOk at this ⊢
          rw [Bool.and_comm (decide (Builtin.Int.intBits far > _)), Int.add_comm] at this
          exact this
        cases o with
        | none =>
          have hT : dTaken none x = dTup [dInt 1, dInt 1, dInt x] := rfl
          rw [hT]
          refine ⟨[("far", dInt far), ("many", dInt x), ("step", dInt 1), ("first", dInt 1)], AsgnOk.tup hr'.1 (.cons rfl (AsgnOk.tup hr'.1 (.cons rfl (AsgnOk.name (.inl rfl) (fun b h => h.own)) (.cons rfl (AsgnOk.name (.inl rfl) (fun b h => h.own)) (.cons rfl (AsgnOk.name (.inl rfl) (fun b h => h.own)) .nil))) fun b h => h) (.cons rfl (AsgnOk.name (.inl rfl) (fun b h => h.own)) .nil)) fun b h => h, noNames ["far", "many", "step", "first"] ["kept", "steps"], ?_⟩
          refine Step.cons (Step.assign (d := dInt (vPlace ps (stridesI 1 sizes) (i + 1))) (.inl rfl) (Ev.cast (Ev.bin (Ev.name rfl) (Ev.bin (Ev.bin (Ev.name rfl) Ev.cint Bin.sub) (Ev.name rfl) (Bin.mul (comm _))) Bin.add) ?_)) ?_ (fun _ h => h)
          · rw [vPlace_succ, hgo]; simp
          · refine (Step.ifT (ρ' := [("place", dInt (vPlace ps (stridesI 1 sizes) (i + 1))), ("far", dInt far), ("many", dInt x), ("step", dInt 1), ("first", dInt 1), ("place", dInt (vPlace ps (stridesI 1 sizes) i)), ("value", dTup dArr)]) (b := true) (Tr.cmp (Ev.name (d := dInt x) rfl) Ev.cnone (Cmp.isNotSome Some'.int)) (fun _ => ?_) (fun h => nomatch h)).out (.cons rfl (.cons rfl .nil))
            rw [vKept_succ, vKept_succ, hgo]
            refine Step.cons (ρ' := [("place", dInt (vPlace ps (stridesI 1 sizes) (i + 1))), ("far", dInt far), ("many", dInt x), ("step", dInt 1), ("first", dInt 1), ("place", dInt (vPlace ps (stridesI 1 sizes) i)), ("value", dTup dArr)]) (α' := [("kept", (vKept ps sizes i ++ [sizes.getD i 0]).map dInt), ("steps", (vKept ps (stridesI 1 sizes) i).map dInt)]) ?_ ?_ (fun _ => by simp [dom_cons])
            · refine (Step.append (os := (vKept ps sizes i).map dInt) (Ev.name (d := dInt x) rfl) rfl RepA.head ?_).cast' rfl ?_
              · rw [List.length_map, sizeLine_eq]; omega
              · rw [hgx, List.map_append]; rfl
            · refine (Step.append (os := (vKept ps (stridesI 1 sizes) i).map dInt) (d := dInt (1 * far)) (Ev.bin (Ev.name rfl) (Ev.name rfl) (Bin.mul (comm _))) rfl (RepA.tail RepA.head (by decide)) ?_).cast' rfl ?_
              · rw [List.length_map, sizeLine_eq]; omega
              · rw [hgf, Int.one_mul]; simp only [List.map_append, List.map_cons, List.map_nil]
        | some r =>
          have hT : dTaken (some r) x = dTup [dInt r, dInt 1, dNone] := rfl
          rw [hT]
          refine ⟨[("far", dInt far), ("many", dNone), ("step", dInt 1), ("first", dInt r)], AsgnOk.tup hr'.1 (.cons rfl (AsgnOk.tup hr'.1 (.cons rfl (AsgnOk.name (.inl rfl) (fun b h => h.own)) (.cons rfl (AsgnOk.name (.inl rfl) (fun b h => h.own)) (.cons rfl (AsgnOk.name (.inl rfl) (fun b h => h.own)) .nil))) fun b h => h) (.cons rfl (AsgnOk.name (.inl rfl) (fun b h => h.own)) .nil)) fun b h => h, noNames ["far", "many", "step", "first"] ["kept", "steps"], ?_⟩
          refine Step.cons (Step.assign (d := dInt (vPlace ps (stridesI 1 sizes) (i + 1))) (.inl rfl) (Ev.cast (Ev.bin (Ev.name rfl) (Ev.bin (Ev.bin (Ev.name rfl) Ev.cint Bin.sub) (Ev.name rfl) (Bin.mul (comm _))) Bin.add) ?_)) ?_ (fun _ h => h)
          · rw [vPlace_succ, hgo, hgf]
          · rw [vKept_succ, vKept_succ, hgo]
            refine (Step.ifT (b := false) (Tr.cmp (Ev.name (d := dNone) rfl) Ev.cnone Cmp.isNotNone) (fun h => nomatch h) (fun _ => Step.nil)).out (.cons rfl (.cons rfl .nil))
  · have hzl : (zipL rows ((stridesI 1 sizes).map dInt)).length = sizes.length := by rw [zipL_length, List.length_map, hrl, hsl, Nat.min_self]
    rw [hzl]
    refine Ret.close (Ret.close (Ret.ret ?_))
    exact Ev.tuple ⟨Ev.cstr, Ev.sub (Ev.name (d := dTup dArr) rfl) Ev.cint (Itm.tup (by decide) rfl (small2 (by show 2 ≤ 1000; decide))), Ev.name rfl, Ev.call CallOk.tuple_lst (Ev.bt T.toTops rfl) ⟨Ev.name rfl, trivial⟩, Ev.call CallOk.tuple_lst (Ev.bt T.toTops rfl) ⟨Ev.name rfl, trivial⟩, trivial⟩ (small2 (by show 5 ≤ 1000; decide))
end
end Mine

namespace Mine
open PySem.Calls

local macro_rules | `(tactic| walk_at "sig") => `(tactic| exact ⟨fun name qual kV doc pm an cdv ct vs hl => by (first | (match vs, hl with | [_], _ => with_unfolding_all rfl) | (match vs, hl with | [_, _], _ => with_unfolding_all rfl) | (match vs, hl with | [_, _, _], _ => with_unfolding_all rfl) | (match vs, hl with | [_, _, _, _], _ => with_unfolding_all rfl) | (match vs, hl with | [_, _, _, _, _], _ => with_unfolding_all rfl)), by decide +kernel, by decide +kernel, by decide +kernel, rfl, rfl, rfl⟩)

section
variable {w : World} {G : Heap} {A : Around} {mg mb : Str → Option Value} {K : Frag} {CH CT iH iT fput fnew fobj : Addr}

def waysF (rank : Nat) (i : Nat) (size : Int) : List (Option Int) := if i = rank then [none] else (rangeL 1 (size + 1)).map some
def chosenStep (found : List (List (Option Int))) (ways : List (Option Int)) : List (List (List (Option Int))) := ways.map fun wy => found.map fun ps => ps ++ [wy]
def chosenF (sizes : List Int) (rank : Nat) (n : Nat) : List (List (Option Int)) := (List.range n).foldl (fun f i => (chosenStep f (waysF rank i (sizes.getD i 0))).flatten) [[]]
theorem chosenF_succ {sizes : List Int} {rank n : Nat} : chosenF sizes rank (n + 1) = (chosenStep (chosenF sizes rank n) (waysF rank n (sizes.getD n 0))).flatten := by
  unfold chosenF; rw [List.range_succ, List.foldl_append]; rfl

theorem line_views_ok {f : Addr} {k : Nat} (T : Insts G mg mb K CH CT iH iT fput fnew fobj) (hd : IsDefN G f 42) (hr : Room (k + 6) A) (kd : Den) (its : List Den) (sizes : List Int) (rank : Nat) (hp : Pz sizes) (hm : ∀ i ≤ sizes.length, (chosenF sizes rank i).length ≤ 1000) (hw : ∀ i ≤ sizes.length, ∀ ps ∈ chosenF sizes rank i, ps.length = i)
    (hps : ∀ ps ∈ chosenF sizes rank sizes.length, PartsOk sizes ps) :
    CallOk P0 w G A (dDef G f) [dHeap CH (dThg CT kd its sizes), dTup dArr, dInt rank] (dLst ((chosenF sizes rank sizes.length).map fun ps => dTup (viewD sizes ps))) := by
  obtain ⟨p', b, s, e, hd⟩ := hd
  cases (show defAt 42 = some (_, _, _) from rfl).symm.trans e
  clear e
  refine CallOk.ret (ns := ["heap", "value", "rank"]) T.toBase hd (by walk_at "sig") rfl hr fun A env hr' hfe => ?_
  clear hd
  obtain ⟨L, a, q, c, rfl⟩ := hfe
  obtain ⟨fs, hfs, dfs⟩ := T.defs 26 "sizes_of" (by decide +kernel)
  obtain ⟨fv, hfv, dfv⟩ := T.defs 41 "view_of" (by decide +kernel)
  have hlen := hp.len
  refine Ret.cons (Step.assign (.inl rfl) (Ev.call (sizes_of_arr T dfs (hr'.mono (j := 2 + 3) (by omega)) kd its sizes) (Ev.gdef T.toBase rfl hfs) ⟨Ev.name rfl, Ev.name rfl, trivial⟩)) ?_ (fun _ => Iff.rfl)
  refine Ret.cons (Step.assign (d := dLst ((chosenF sizes rank 0).map dParts)) (.inr ⟨rfl, rfl⟩) (Ev.list (ds := [dLst []]) ⟨Ev.list (ds := []) trivial (Nat.zero_le _), trivial⟩ (small2 (by show 1 ≤ 1000; decide)))) ?_ (fun _ => Iff.rfl)
  refine Ret.cons (Step.loop (ds := enumL (sizes.map dInt)) (fun i => [("chosen", dLst ((chosenF sizes rank i).map dParts)), ("heap", dHeap CH (dThg CT kd its sizes)), ("value", dTup dArr), ("rank", dInt rank)]) (fun _ => []) (EvIt.enum T.toTops hr'.1 rfl (.inr rfl) (Ev.name rfl)) (.cons rfl (.cons rfl (.cons rfl (.cons rfl .nil)))) rfl (fun _ _ => Iff.rfl) fun i d hd => ?_) ?_ (fun _ => Iff.rfl)
  · obtain ⟨d', hd', rfl⟩ := enumL_get hd
    obtain ⟨x, hx, rfl⟩ := map_get hd'
    have hi := (List.getElem?_eq_some_iff.mp hx).1
    have hxm := hp.val x (List.mem_of_getElem? hx)
    have hgx : sizes.getD i 0 = x := by rw [List.getD_eq_getElem?_getD, hx]; rfl
    refine ⟨[("size", dInt x), ("at", dInt i)], AsgnOk.tup hr'.1 (.cons rfl (AsgnOk.name (.inl rfl) (fun b h => h.own)) (.cons rfl (AsgnOk.name (.inl rfl) (fun b h => h.own)) .nil)) fun b h => h, fun _ _ => noDom, ?_⟩
    refine Step.cons (Step.assign (d := dLst ((waysF rank i x).map dPart)) (.inl rfl) ?_) ?_ (fun _ h => h)
    · refine Ev.ife (c := decide (i = rank)) (Tr.cast ?_ (Tr.cmp (Ev.name (d := dInt i) rfl) (Ev.name (d := dInt rank) rfl) Cmp.eqI)) (fun h => ?_) (fun h => ?_)
      · by_cases h : i = rank
        · simp [h]
        · simp only [h, decide_false]; exact beq_eq_false_iff_ne.mpr fun e => h (by omega)
      · have he := of_decide_eq_true h
        unfold waysF; rw [if_pos he]
        exact Ev.list (ds := [dNone]) ⟨Ev.cnone, trivial⟩ (small2 (by show 1 ≤ 1000; decide))
      · have he := of_decide_eq_false h
        unfold waysF; rw [if_neg he, List.map_map]
        exact Ev.call (CallOk.list_rng hr'.1 (by omega) (by omega)) (Ev.bt T.toTops rfl) ⟨Ev.call CallOk.range2 (Ev.bt T.toTops rfl) ⟨Ev.cint, Ev.bin (Ev.name rfl) Ev.cint Bin.add, trivial⟩, trivial⟩
    · refine (Step.assign (d := dLst ((chosenF sizes rank (i + 1)).map dParts)) (.inr ⟨rfl, rfl⟩) ?_).out (.cons rfl (.cons rfl (.cons rfl (.cons rfl .nil))))
      have hb := hm (i + 1) hi
      have hwi := hw i (Nat.le_of_lt hi)
      rw [chosenF_succ, hgx] at hb ⊢
      rw [List.map_flatten]
      refine Ev.comp2 ⟨EvIt.lst hr'.1 (Ev.name (d := dLst ((waysF rank i x).map dPart)) rfl), by decide +kernel, free_of ⟨⟨.inl rfl, rfl⟩, trivial⟩, rfl, by simp [chosenStep], ?_, fun h₀ cenv hc j d out hj ho => ?_, fun _ => rfl, fun _ _ => rfl⟩
      · rw [← List.map_flatten, List.length_map]; exact small2 hb
      · obtain ⟨y, hy, rfl⟩ := map_get hj
        obtain ⟨o', ho', rfl⟩ := map_get ho
        unfold chosenStep at ho'
        obtain ⟨y', hy', rfl⟩ := map_get ho'
        rw [hy] at hy'; cases hy'
        refine ⟨[("way", dPart y)], (chosenF sizes rank i).map dParts, AsgnOk.mine hc (.inl rfl), own_names ["way"] ⟨rfl, trivial⟩, EvIt.lst hr'.1 (Ev.name rfl), by simp, fun m d₁ o hd₁ ho₁ => ?_⟩
        obtain ⟨r, hr₁, rfl⟩ := map_get hd₁
        obtain ⟨r', hr₂, rfl⟩ := map_get ho₁
        obtain ⟨r'', hr₃, rfl⟩ := map_get hr₂
        rw [hr₁] at hr₃; cases hr₃
        have hrl := hwi r (List.mem_of_getElem? hr₁)
        refine ⟨[("parts", dParts r)], AsgnOk.mine hc (.inl rfl), fun x hx => ?_, ?_⟩
        · simp only [names, List.map_cons, List.map_nil, List.mem_singleton] at hx; subst hx; rfl
        · refine Ev.cast (Ev.bin (Ev.name rfl) (Ev.list (ds := [dPart y]) ⟨Ev.name rfl, trivial⟩ (small2 (by show 1 ≤ 1000; decide))) (Bin.addL (xs := r.map dPart) (ys := [dPart y]) (small2 (by rw [List.length_map]; simp only [List.length_cons, List.length_nil]; omega)))) ?_
          unfold dParts; rw [List.map_append]; rfl
  · have hel : (enumL (sizes.map dInt)).length = sizes.length := by simp [enumL]
    rw [hel]
    refine Ret.ret (Ev.comp1 ⟨EvIt.lst hr'.1 (Ev.name (d := dLst ((chosenF sizes rank sizes.length).map dParts)) rfl), by decide +kernel, free_of ⟨⟨.inl rfl, rfl⟩, ⟨.inl rfl, rfl⟩, trivial⟩, rfl, by simp, by rw [List.length_map]; exact small2 (hm _ (Nat.le_refl _)), fun h₀ cenv hc i d o hd ho => ?_, fun _ => rfl⟩)
    obtain ⟨y, hy, rfl⟩ := map_get hd
    obtain ⟨y', hy', rfl⟩ := map_get ho
    rw [hy] at hy'; cases hy'
    refine ⟨[("parts", dParts y)], AsgnOk.mine hc (.inl rfl), own_names ["parts"] ⟨rfl, trivial⟩, ?_⟩
    exact Ev.call (view_of_ok T dfv hr' kd its sizes hp y (hps y (List.mem_of_getElem? hy))) (Ev.gdef T.toBase (hc.kind rfl rfl) hfv) ⟨Ev.name rfl, Ev.name rfl, Ev.name rfl, trivial⟩
end
end Mine

namespace Mine
open PySem.Calls
open Sem (wp)

/-- a lambda's function -/
def dLam (params : Arguments) (body : Expr) (scope : Scope) : Den where
  is g v := ∃ f c' qual pm ctv oc vs t, v = .ref f ∧ g f (kla_obj "<lambda>" qual params body scope [] pm c' ctv) ∧ g c' oc ∧ oc.data = .fields vs ∧ vs[1]? = some (.str qual t)
  mono := fun k ⟨f, c', qual, pm, ctv, oc, vs, t, e, a, b, r⟩ => ⟨f, c', qual, pm, ctv, oc, vs, t, e, k _ _ a, k _ _ b, r⟩

section
variable {prog : Program} {w : World} {G : Heap} {A : Around} {env cenv : Env} {ρ ρ' ρ'' : Rho} {E : Value → Shared → Prop} {s s' : Shared} {X X₀ M W : Addr → Prop} {mg mb : Str → Option Value}
  {params : Arguments} {body : Expr} {scope : Scope} {ns : List Str} {ds : List Den} {vs : List Value}

theorem call_lam {f c' : Addr} {qual : Str} {pm ctv : Value} {R : Result → Shared → Prop} {k : Nat} (B : Base G mg mb) (ho : s.heap.get? f = some (kla_obj "<lambda>" qual params body scope [] pm c' ctv)) (hcd : s.heap.CodeRec (.ref c') qual)
    (hbind : bindArgs (kla_fn "<lambda>" qual params body scope [] pm (.ref c') ctv) ⟨vs, []⟩ = pure (ns.zip vs)) (sg : SigV scope ns) (hr : Room (k + 1) A)
    (hX : ∀ b, X b → ∃ o, s.heap.get? b = some o) (hb : ∀ a o, G.get? a = some o → vw X s.heap a o) (hv : All2 (fun d v => d.is (vw X s.heap) v) ds vs) (hl : vs.length = ns.length)
    (h : ∀ (env : Env) (s₁ : Shared), FEnv scope env → Grows s s₁ → (∀ b, Own env b → s.heap.get? b = none) → Ok G (fun b => X b ∨ Own env b) env (ns.zip ds) s₁ →
      wpAny (model prog w) (A.deeper env) (eval body env) (fun v s' => R (.ok (.ret v)) s')
        (fun e s' => wpAny (model prog w) (A.deeper env) (leaving env e) (fun _ s'' => R (.error e) s'') (fun e' s'' => R (.error e') s'') s') s₁) :
    codeAny (model prog w) A (.call (.ref f) ⟨vs, []⟩) R s := by
  have hk : ∀ a o, G.get? a = some o → s.heap.get? a = some o := fun a o e => (hb a o e).1
  obtain ⟨hh, hdep, hun⟩ := hr
  refine kla_callFunE (show A.depth < 1000 by omega) ho rfl sg.co sg.gen rfl hcd ?_
  rw [hbind]
  refine wpAny_pure (wpAny_newFunctionEnv_cells sg.kind (fun x hx => ?_) fun env he s₁ ic => ?_)
  · have hx' : x.1 ∈ ns := (List.of_mem_zip (a := x.1) (b := x.2) hx).1
    rcases sg.kinds x.1 hx' with q | q
    · exact .inl q
    · exact .inr ⟨q, cellsFrom_some _ _ _ (.inl q)⟩
  · have hkeep := ic.toInCall.keep
    obtain ⟨h₁, tk₁, e₁, _⟩ := ic.done
    have g : Grows s s₁ := ⟨h₁, tk₁, e₁, fun b o e => by have := hkeep b o e; rw [e₁] at this; exact this⟩
    have hfe : FEnv scope env := ⟨_, _, _, _, he⟩
    have hown : ∀ b, Own env b → s.heap.objs.size ≤ b := fun b hb => by
      rcases hb with rfl | ⟨x, e⟩
      · exact ic.toInCall.fresh
      · exact Nat.le_of_lt (Nat.lt_of_le_of_lt ic.toInCall.fresh (ic.above x b (mem_of_lookup e)))
    have hnone : ∀ b, Own env b → s.heap.get? b = none := fun b hb => get_none (hown b hb)
    have hlive : ∀ b, Own env b → ∃ o, s₁.heap.get? b = some o := fun b hb => by
      rcases hb with rfl | ⟨x, e⟩
      · obtain ⟨o, _, _, q, _⟩ := ic.toInCall.ns; exact ⟨o, q⟩
      · obtain ⟨o, q, _⟩ := ic.cell x b e; exact ⟨o, q⟩
    have up : ∀ a o, vw X s.heap a o → vw (fun b => X b ∨ Own env b) s₁.heap a o := fun a o q => ⟨Grows.at g q.1, fun z => z.elim q.2 fun z => by
      have := hnone a z; rw [q.1] at this; cases this⟩
    have hkindEq : env.kindOf = fun x => scope.names.lookup x := by funext x; rw [he]; rfl
    have ok : Ok G (fun b => X b ∨ Own env b) env (ns.zip ds) s₁ := by
      refine { kind := by rw [he]; exact sg.kind, glob := by rw [he]; rfl, blt := by rw [he]; rfl, live := fun b q => ?_, own := fun b q => .inr q, ns := ⟨_, ic.toInCall.ns⟩, cell := fun x c e => ⟨⟨_, ic.cell x c e⟩, fun z => ?_⟩, inj := fun x y c ex ey => ?_,
               base := fun a o e => up a o (hb a o e), vars := fun x d e => ?_ }
      · rcases q with q | q
        · obtain ⟨o, e⟩ := hX b q; exact ⟨o, Grows.at g e⟩
        · exact hlive b q
      · have := ic.above x c (mem_of_lookup e)
        exact absurd (z ▸ this) (Nat.lt_irrefl _)
      · exact name_of_addr ic.apart (mem_of_lookup ex) (mem_of_lookup ey)
      · obtain ⟨v, hm, hv'⟩ := zip_lookup hv e
        have hx' : x ∈ ns := (List.of_mem_zip hm).1
        have hnd : ((ns.zip vs).map (·.1)).Nodup := by
          have hzip : (ns.zip vs).map (·.1) = ns := by
            rw [List.map_fst_zip]; rw [hl]; exact Nat.le_refl _
          rw [hzip]; exact sg.nodup
        refine ⟨v, ?_, d.mono up hv'⟩
        rcases sg.kinds x hx' with q | q
        · exact .inl ⟨by rw [hkindEq]; exact q, _, ic.toInCall.ns, bindL_here hnd hm (by rw [hkindEq]; exact q)⟩
        · have hsome : (env.cells.lookup x).isSome = true := by rw [he]; exact cellsFrom_some _ _ _ (.inl q)
          obtain ⟨c, hc⟩ := Option.isSome_iff_exists.mp hsome
          refine .inr ⟨.inl (by rw [hkindEq]; exact q), c, hc, ?_⟩
          have := ic.cell x c hc
          rw [bindC_here hnd hm (by rw [hkindEq]; show scope.names.lookup x ≠ _; rw [q]; intro z; cases z)] at this
          exact this
    exact ⟨(B.lim.keeps hk).keeps hkeep, kla_codeExpr (h env s₁ hfe g hnone ok)⟩

theorem CallOk.lam {r : Den} {k : Nat} (B : Base G mg mb) (hbind : ∀ qual pm c' ctv (vs : List Value), vs.length = ns.length → bindArgs (kla_fn "<lambda>" qual params body scope [] pm (.ref c') ctv) ⟨vs, []⟩ = pure (ns.zip vs)) (sg : SigV scope ns) (hlen : ds.length = ns.length) (hr : Room (k + 1) A)
    (h : ∀ (A' : Around) (env : Env), Room k A' → FEnv scope env → Ev prog w G A' env (ns.zip ds) body r) : CallOk prog w G A (dLam params body scope) ds r where
  keeper := fun g hp fv hg ⟨f, c', qual, pm, ctv, oc, vs, t, e, a, _⟩ => by
    subst e
    exact keeps_F hp ⟨_, _, _, _, hg _ _ a⟩
  run := fun X s E fv vs hX hb hf hv => by
    obtain ⟨f, c', qual, pm, ctv, oc, us, t, e, ha, hc, hd, hq⟩ := hf
    subst e
    have hl : vs.length = ns.length := by rw [← hv.length, hlen]
    refine wpAny_call (call_lam (ds := ds) B ha.1 ⟨c', oc, us, t, rfl, hc.1, hd, hq⟩ (hbind _ _ _ _ vs hl) sg hr hX hb hv hl fun env s₁ hfe g hnone ok => ?_)
    refine wpAny_mono (h _ env hr.deeper hfe _ s₁ _ ok) (fun v s₂ ⟨k₂, hv₂⟩ => ⟨g.tr k₂, r.mono (fun a o q => ⟨q.1, fun z => q.2 (.inl z)⟩) hv₂⟩) fun _ _ x => x

/-- what makes a lambda -/
structure WayTop (G : Heap) (mg : Str → Option Value) (P c : Addr) : Prop where
  bmain : ∃ bm ob, mg "__builtins__" = some (.ref bm) ∧ bm ≠ builtinsNs ∧ G.get? bm = some ob ∧ ob.cls = .type "module" ∧ ob.dict = some builtinsNs ∧ ob.data = .plain
  code : CodeHd G c P

theorem lam_make {P c : Addr} {ps : Array Value} {pos : Pos} (B : Base G mg mb) (T : WayTop G mg P c) (ok : Ok G X env ρ s) (hXP : X P) (hP : s.heap.get? P = some (tabObj ps)) (hc : env.code = .ref c) (ht : TriplesOk ps.toList) (hnf : codeAmong pos ps.toList = none)
    (hcl : closureFor scope env = pure []) (hdef : defaultsOf params env = ([], [])) :
    wpAny (model prog w) A (eval (.Lambda params body scope pos) env) (fun v s' => KeepM (fun b => b = P) s s' ∧ (∃ c' : Addr, s'.heap.get? P = some (tabObj (ps ++ #[rawInt pos.line, rawInt pos.col, .ref c']))) ∧ (dLam params body scope).is (vw X s'.heap) v) E s := by
  have hk : ∀ a o, G.get? a = some o → s.heap.get? a = some o := fun a o e => (ok.base a o e).1
  obtain ⟨bm, ob, b1, b2, b3, b4, b5, b6⟩ := T.bmain
  have hbP : bm ≠ P := fun q => (ok.base _ _ b3).2 (q ▸ hXP)
  have hgP : mainGlobals ≠ P := fun q => by
    obtain ⟨o, es, ep, e, _⟩ := B.g
    exact (ok.base _ _ e).2 (q ▸ hXP)
  have hbG : bm ≠ mainGlobals := fun q => by
    obtain ⟨o, es, ep, e, hd, _⟩ := B.g
    rw [q, e] at b3; cases b3; rw [hd] at b6; cases b6
  refine kla_eval hdef ?_
  refine kla_makeFunction (mg := mg) hcl ok.glob (B.g.keeps hk) hc (T.code.keeps hk) hP ht hnf hgP ⟨bm, ob, b1, b2, hbG, hbP, hk _ _ b3, b4, b5, b6⟩ fun c' ctv h' tk hx hge hlt hrec htb => ?_
  obtain ⟨c₂, oc, vs, t, e2, hoc, hd, hv⟩ := hrec
  cases e2
  have hXlt : ∀ b, X b → b < s.heap.objs.size := fun b q => ok.lt q
  refine ⟨⟨_, tk, rfl, fun b o hb e => Heap.get?_push_of_some _ (hx b o hb e)⟩, ⟨c', Heap.get?_push_of_some _ htb⟩, h'.objs.size, c', _, _, ctv, oc, vs, t, rfl, ⟨Heap.get?_push_size _ rfl, fun z => ?_⟩, ⟨Heap.get?_push_of_some _ hoc, fun z => ?_⟩, hd, hv⟩
  · exact absurd (Nat.lt_of_lt_of_le (hXlt _ z) hge) (Nat.not_lt.mpr (Nat.le_of_lt hlt))
  · exact absurd (hXlt _ z) (Nat.not_lt.mpr hge)

theorem Itm.strUpto {x : Str} {j : Int} (hz : x.length ≤ sizeLine) : Itm prog w A (dStr x) (dSlice none (some j)) (dStr (Txt.slice x none (some j))) := fun X s E v₁ v₂ hX hv hi' => by
  obtain ⟨t, rfl⟩ := hv
  obtain ⟨sl, vl, vu, rfl, hsl, pl, ⟨u, rfl⟩⟩ := hi'
  have pl' : vl = .none := pl
  subst pl'
  exact ⟨⟨_, _, typeIs_str _ _ _, F.slot_str_getitem.lookup⟩, wpAny_getItem_str_slice (l := none) (u := some (j, u)) (st := none) ⟨_, hsl.1, rfl, rfl⟩ rfl (post_val_or_str ⟨Nat.le_trans (Txt.slice_le x _ _) hz, fun t' k => ⟨⟨s.heap, k, rfl, fun _ _ e => e⟩, t', rfl⟩⟩)⟩
end
end Mine

namespace Mine
open PySem.Calls
open Sem (wp)

/-- the ways: the lambdas of _law_way -/
def lamAt (i : Nat) : Option (Arguments × Expr × Scope) := match defAt 46 with
  | some (_, [.Assign _ (.List ls _) _, .Return (some (.Subscript (.BinOp _ _ (.List ls' _) _) _ _)) _], _) => match (ls ++ ls')[i]? with
    | some (.Lambda p b s _) => some (p, b, s)
    | _ => none
  | _ => none
def dWay (i : Nat) : Den := match lamAt i with
  | some (p, b, s) => dLam p b s
  | none => dNone
def wfOf : Nat → Str → Str → Str
  | 0, a, b => a ++ b
  | 1, a, b => b ++ a
  | 2, a, b => Txt.slice (a ++ b) none (some 2)
  | _, a, b => ((a ++ "(") ++ b) ++ ")"

def IsDefNW (G : Heap) (f : Addr) (n : Nat) (cdv : Value) : Prop := ∃ p b s, defAt n = some (p, b, s) ∧ IsDefW G .none cdv f p b s

local macro_rules | `(tactic| walk_at "sig") => `(tactic| exact ⟨by decide +kernel, by decide +kernel, by decide +kernel, rfl, rfl, rfl⟩)

theorem len_app (a b : Str) : (a ++ b).length = a.length + b.length := PySem.Str.length_append a b
theorem wide_of : ∀ i, Wide (wfOf i)
  | 0, a, b => by show (a ++ b).length ≤ _; rw [len_app]; omega
  | 1, a, b => by show (b ++ a).length ≤ _; rw [len_app]; omega
  | 2, a, b => by
    show (Txt.slice (a ++ b) none (some 2)).length ≤ _
    have := Txt.slice_le (a ++ b) none (some 2)
    rw [len_app] at this; omega
  | n + 3, a, b => by
    show (((a ++ "(") ++ b) ++ ")" : Str).length ≤ _
    rw [len_app, len_app, len_app]
    have h1 : (("(" : Str)).length = 1 := rfl
    have h2 : ((")" : Str)).length = 1 := rfl
    omega

section
variable {prog : Program} {w : World} {A : Around} {env : Env} {E : Value → Shared → Prop} {s : Shared}
theorem List3 {e₀ e₁ e₂ : Expr} {pos : Pos} {Q : Value → Shared → Prop} (h : wpAny (model prog w) A (eval e₀ env) (fun v₀ s₁ => wpAny (model prog w) A (eval e₁ env) (fun v₁ s₂ => wpAny (model prog w) A (eval e₂ env) (fun v₂ s₃ =>
    Q (.ref s₃.heap.objs.size) { s₃ with heap := s₃.heap.push { cls := .type "list", data := .seq [v₀, v₁, v₂].toArray } }) E s₂) E s₁) E s)
    (hst : starEach [e₀, e₁, e₂] env = [(false, eval e₀ env), (false, eval e₁ env), (false, eval e₂ env)] := by rfl) : wpAny (model prog w) A (eval (.List [e₀, e₁, e₂] pos) env) Q E s := by
  refine List_ ?_
  rw [hst]
  exact Calls.spliced_cons (wpAny_mono h (fun v₀ s₁ h₁ => Calls.spliced_cons (wpAny_mono h₁ (fun v₁ s₂ h₂ => Calls.spliced_cons (wpAny_mono h₂ (fun v₂ s₃ h₃ => Calls.spliced_nil (wpAny_newObj_type h₃ (small2 (by show 3 ≤ 1000; decide)))) fun _ _ x => x)) fun _ _ x => x)) fun _ _ x => x)
theorem List1 {e₀ : Expr} {pos : Pos} {Q : Value → Shared → Prop} (h : wpAny (model prog w) A (eval e₀ env) (fun v₀ s₃ =>
    Q (.ref s₃.heap.objs.size) { s₃ with heap := s₃.heap.push { cls := .type "list", data := .seq [v₀].toArray } }) E s)
    (hst : starEach [e₀] env = [(false, eval e₀ env)] := by rfl) : wpAny (model prog w) A (eval (.List [e₀] pos) env) Q E s := by
  refine List_ ?_
  rw [hst]
  exact Calls.spliced_cons (wpAny_mono h (fun v₂ s₃ h₃ => Calls.spliced_nil (wpAny_newObj_type h₃ (small2 (by show 1 ≤ 1000; decide)))) fun _ _ x => x)
end

section
variable {w : World} {G : Heap} {A : Around} {mg mb : Str → Option Value}

theorem way_ok (B : Base G mg mb) (i : Nat) (hi : i < 4) : WayOk w G (dWay i) (wfOf i) where
  wide := wide_of i
  call := fun A hr a b ha hb => by
    match i, hi with
    | 0, _ =>
      refine CallOk.lam (ns := ["one", "two"]) (ds := [dStr a, dStr b]) B (fun qual pm c' ctv vs hl => by match vs, hl with | [_, _], _ => with_unfolding_all rfl) (by walk_at "sig") rfl hr fun A' env hr' hfe => ?_
      exact Ev.bin (Ev.name rfl) (Ev.name rfl) (Bin.addS (by rw [sizeLine_eq]; omega))
    | 1, _ =>
      refine CallOk.lam (ns := ["one", "two"]) (ds := [dStr a, dStr b]) B (fun qual pm c' ctv vs hl => by match vs, hl with | [_, _], _ => with_unfolding_all rfl) (by walk_at "sig") rfl hr fun A' env hr' hfe => ?_
      exact Ev.bin (Ev.name rfl) (Ev.name rfl) (Bin.addS (by rw [sizeLine_eq]; omega))
    | 2, _ =>
      refine CallOk.lam (ns := ["one", "two"]) (ds := [dStr a, dStr b]) B (fun qual pm c' ctv vs hl => by match vs, hl with | [_, _], _ => with_unfolding_all rfl) (by walk_at "sig") rfl hr fun A' env hr' hfe => ?_
      exact Ev.sub (Ev.bin (Ev.name rfl) (Ev.name rfl) (Bin.addS (x := a) (y := b) (by rw [sizeLine_eq]; omega))) (Ev.slice (lo := none) (hi := some 2) trivial Ev.cint) (Itm.strUpto (by rw [len_app, sizeLine_eq]; omega))
    | 3, _ =>
      refine CallOk.lam (ns := ["one", "two"]) (ds := [dStr a, dStr b]) B (fun qual pm c' ctv vs hl => by match vs, hl with | [_, _], _ => with_unfolding_all rfl) (by walk_at "sig") rfl hr fun A' env hr' hfe => ?_
      have h1 : (("(" : Str)).length = 1 := rfl
      have h2 : ((")" : Str)).length = 1 := rfl
      exact Ev.bin (Ev.bin (Ev.bin (Ev.name rfl) Ev.cstr (Bin.addS (x := a) (y := "(") (by rw [sizeLine_eq]; omega))) (Ev.name rfl) (Bin.addS (x := a ++ "(") (y := b) (by rw [len_app, sizeLine_eq]; omega))) Ev.cstr (Bin.addS (x := (a ++ "(") ++ b) (y := ")") (by rw [len_app, len_app, sizeLine_eq]; omega))

theorem ways_get (n : Nat) (hn : n < 4) : [dWay 0, dWay 1, dWay 2, dWay 3][n]? = some (dWay n) := by
  have : n = 0 ∨ n = 1 ∨ n = 2 ∨ n = 3 := by omega
  rcases this with rfl | rfl | rfl | rfl <;> simp only [List.getElem?_cons_zero, List.getElem?_cons_succ]

set_option maxHeartbeats 1000000 in
theorem way_run {f P c : Addr} {k : Nat} {X : Addr → Prop} {s : Shared} {E : Value → Shared → Prop} (B : Base G mg mb) (WT : WayTop G mg P c) (hd : IsDefNW G f 46 (.ref c)) (hr : Room (k + 1) A) (n : Nat) (hn : n < 4) (t : Tok)
    (hX : ∀ b, X b → ∃ o, s.heap.get? b = some o) (hb : ∀ a o, G.get? a = some o → vw X s.heap a o) (hXP : X P) (hP : s.heap.get? P = some (tabObj #[])) :
    wpAny (model P0 w) A (call (.ref f) [.int n t]) (fun v s' => KeepM (fun b => b = P) s s' ∧ (∃ ps, s'.heap.get? P = some (tabObj ps)) ∧ (dWay n).is (vw X s'.heap) v) E s := by
  obtain ⟨p, b, sc, e, hd⟩ := hd
  cases (show defAt 46 = some (_, _, _) from rfl).symm.trans e
  clear e
  refine wpAny_call (call_defW (ns := ["number"]) (ds := [dInt n]) (vs := [.int n t]) B hd (fun name qual kV doc pm an ct A' E' Q q => ?_) (by walk_at "sig") hr hX hb ⟨⟨t, rfl⟩, trivial⟩ rfl fun env s₁ hfe g hnone ok => ?_)
  · exact (BindsTo.of_eq (s := s) (binds := [("number", .int n t)]) (by with_unfolding_all rfl)) _ _ _ _ q
  clear hd
  have hO : ¬ Own env P := fun z => by have := hnone _ z; rw [hP] at this; cases this
  obtain ⟨O, eO⟩ : ∃ O : Addr → Prop, O = Own env := ⟨_, rfl⟩
  obtain ⟨Y, eY⟩ : ∃ Y : Addr → Prop, Y = fun b => X b ∨ Own env b := ⟨_, rfl⟩
  rw [← eY] at ok
  have hYP : Y P := by rw [eY]; exact .inl hXP
  have hXY : ∀ b, X b → Y b := fun b h => by rw [eY]; exact .inl h
  have hno : ∀ b, O b → s.heap.get? b = none := fun b h => hnone b (eO ▸ h)
  have hOw : ∀ b, Own env b → O b := fun b h => eO ▸ h
  clear eY eO
  have step : ∀ {s s' : Shared} {ρ : Rho}, Ok G Y env ρ s → KeepM (fun b => b = P) s s' → (∃ o, s'.heap.get? P = some o) → Ok G Y env ρ s' := fun ok k l => ok.keepM k (fun b e => e ▸ hYP) (fun b hb e => hO (e ▸ hb)) fun b e => e ▸ l
  have dk : ∀ {s s' : Shared} {d : Den} {v : Value}, KeepM (fun b => b = P) s s' → d.is (vw Y s.heap) v → d.is (vw Y s'.heap) v := fun k h => Den.keepM _ k (fun b e => e ▸ hYP) h
  obtain ⟨L, a, q, rfl⟩ := hfe
  have hP₁ := Grows.at g hP
  refine wpAny_execs_cons (wpAny_Assign_Name (List3 ?_))
  refine (wpAny_mono (lam_make B WT ok hYP hP₁ rfl trivial rfl rfl rfl) (fun v₀ s₂ ⟨k₂, ⟨c₂, hP₂⟩, hv₀⟩ => ?_) fun _ _ x => x)
  have ok₂ := step ok k₂ ⟨_, hP₂⟩
  refine (wpAny_mono (lam_make B WT ok₂ hYP hP₂ rfl (by first | exact True.intro | (simp [TriplesOk, rawInt]; done)) (by first | rfl | (simp [codeAmong, rawInt]; done)) rfl rfl) (fun v₁ s₃ ⟨k₃, ⟨c₃, hP₃⟩, hv₁⟩ => ?_) fun _ _ x => x)
  have ok₃ := step ok₂ k₃ ⟨_, hP₃⟩
  refine (wpAny_mono (lam_make B WT ok₃ hYP hP₃ rfl (by first | exact True.intro | (simp [TriplesOk, rawInt]; done)) (by first | rfl | (simp [codeAmong, rawInt]; done)) rfl rfl) (fun v₂ s₄ ⟨k₄, ⟨c₄, hP₄⟩, hv₂⟩ => ?_) fun _ _ x => x)
  have ok₄ := step ok₃ k₄ ⟨_, hP₄⟩
  have k₅ : Grows s₄ { s₄ with heap := s₄.heap.push { cls := .type "list", data := .seq [v₀, v₁, v₂].toArray } } := Grows.push
  have hl : (dLst [dWay 0, dWay 1, dWay 2]).is (vw Y (s₄.heap.push { cls := .type "list", data := .seq [v₀, v₁, v₂].toArray })) (.ref s₄.heap.objs.size) :=
    ⟨_, _, [v₀, v₁, v₂], rfl, ⟨Heap.get?_push_size _ rfl, fresh_not ok₄.live⟩, small2 (by show 3 ≤ 1000; decide), Den.keeps _ k₅ (dk k₄ (dk k₃ hv₀)), Den.keeps _ k₅ (dk k₄ hv₁), Den.keeps _ k₅ hv₂, trivial⟩
  refine wpAny_mono ((ok₄.keeps (s' := { s₄ with heap := s₄.heap.push { cls := .type "list", data := .seq [v₀, v₁, v₂].toArray } }) k₅).store (x := "ways") (.inl rfl) hl) (fun _ s₆ ⟨k₆, ok₆⟩ => ?_) fun _ _ x => x
  have hP₆ : s₆.heap.get? P = some _ := k₆.get (fun z => hO z.own) (Grows.at k₅ hP₄)
  refine wpAny_execs_cons (wpAny_Return_some (Subscript_ (wpAny_BinOp ((Ev.name (d := dLst [dWay 0, dWay 1, dWay 2]) rfl).use ok₆ fun v₇ s₇ k₇ ok₇ hv₇ => List1 ?_))))
  refine (wpAny_mono (lam_make B WT ok₇ hYP (Grows.at k₇ hP₆) rfl (by first | exact True.intro | (simp [TriplesOk, rawInt]; done)) (by first | rfl | (simp [codeAmong, rawInt]; done)) rfl rfl) (fun v₈ s₈ ⟨k₈, ⟨c₈, hP₈⟩, hv₈⟩ => ?_) fun _ _ x => x)
  have ok₈ := step ok₇ k₈ ⟨_, hP₈⟩
  have k₉ : Grows s₈ { s₈ with heap := s₈.heap.push { cls := .type "list", data := .seq [v₈].toArray } } := Grows.push
  have ok₉ := ok₈.keeps (s' := { s₈ with heap := s₈.heap.push { cls := .type "list", data := .seq [v₈].toArray } }) k₉
  have hl₉ : (dLst [dWay 3]).is (vw Y (s₈.heap.push { cls := .type "list", data := .seq [v₈].toArray })) (.ref s₈.heap.objs.size) :=
    ⟨_, _, [v₈], rfl, ⟨Heap.get?_push_size _ rfl, fresh_not ok₈.live⟩, small2 (by show 1 ≤ 1000; decide), Den.keeps _ k₉ hv₈, trivial⟩
  refine wpAny_mono (Bin.addL (xs := [dWay 0, dWay 1, dWay 2]) (ys := [dWay 3]) (small2 (by show 4 ≤ 1000; decide)) _ _ _ _ _ ok₉.live (Den.keeps _ k₉ (dk k₈ hv₇)) hl₉) (fun v₁₀ s₁₀ ⟨k₁₀, hv₁₀⟩ => ?_) fun _ _ x => x
  refine (Ev.name (d := dInt n) rfl).use (ok₉.keeps k₁₀) fun v₁₁ s₁₁ k₁₁ ok₁₁ hv₁₁ => ?_
  have hway : [dWay 0, dWay 1, dWay 2, dWay 3][((n : Int)).toNat]? = some (dWay n) := by rw [Int.toNat_natCast]; exact ways_get n hn
  obtain ⟨⟨T, id, hT, hlk⟩, hg⟩ := Itm.lst (prog := P0) (w := w) (A := A.deeper _) (Int.natCast_nonneg n) hway (small2 (by show 4 ≤ 1000; decide)) _ s₁₁ _ _ _ ok₁₁.live (Den.keeps _ k₁₁ hv₁₀) hv₁₁
  refine tail_any hT hlk (wpAny_mono hg (fun v s₁₂ ⟨k₁₂, hv₁₂⟩ => ?_) fun _ _ x => x) rfl
  have kk := (KeepM.of_keeps (M := fun b => b = P ∨ O b) g).trans ((k₂.mono fun b h => .inl h).trans ((k₃.mono fun b h => .inl h).trans ((k₄.mono fun b h => .inl h).trans ((KeepM.of_keeps k₅).trans ((k₆.mono fun b h => .inr (hOw b h.own)).trans ((KeepM.of_keeps k₇).trans ((k₈.mono fun b h => .inl h).trans (KeepM.of_keeps (((k₉.tr k₁₀).tr k₁₁).tr k₁₂)))))))))
  refine ⟨?_, ⟨_, Grows.at (((k₉.tr k₁₀).tr k₁₁).tr k₁₂) hP₈⟩, (dWay n).mono (fun a o q => ⟨q.1, fun z => q.2 (hXY a z)⟩) hv₁₂⟩
  obtain ⟨h', tk, rfl, kk⟩ := kk
  exact ⟨h', tk, rfl, fun b o hb e => kk b o (fun z => z.elim hb fun z => by have := hno b z; rw [e] at this; cases this) e⟩
end
end Mine

namespace Mine
open PySem.Calls
open Sem (wp)

/-- a list, its object of any make -/
def dListW (ds : List Den) : Den where
  is g v := ∃ a o n vs, v = .ref a ∧ g a o ∧ o.cls = .type "list" ∧ o.data = .seq (List.toArray vs) n ∧ ds.length ≤ sizeLine ∧ All2 (fun d v => d.is g v) ds vs
  mono := fun hg ⟨a, o, n, vs, e, ha, hc, hd, hz, hv⟩ => ⟨a, o, n, vs, e, hg _ _ ha, hc, hd, hz, hv.mono fun d _ h => d.mono hg h⟩

section
variable {prog : Program} {w : World} {G : Heap} {A : Around} {env cenv : Env} {ρ ρ' ρ'' : Rho} {E : Value → Shared → Prop} {s s' : Shared} {X X₀ M W : Addr → Prop} {mg mb : Str → Option Value}

theorem CallOk.len_w {ds : List Den} : CallOk prog w G A (dVal (.builtin "len")) [dListW ds] (dInt ds.length) where
  keeper := keep_val (fun a e => by cases e)
  run := fun X s E f vs _ _ hf hv => by
    have hf' : f = .builtin "len" := hf
    subst hf'
    cases vs with
    | nil => exact hv.elim
    | cons v r =>
      cases r with
      | cons => exact hv.2.elim
      | nil =>
        obtain ⟨a, o, n, us, rfl, ha, hc, hd, hz, hvs⟩ := hv.1
        have hl := hvs.length
        have hsz : (us.toArray.size : Int) = ds.length := by rw [List.size_toArray, ← hl]
        have hfit : (us.toArray.size : Int) < 2 ^ 63 := by
          rw [hsz]
          have h1 : ds.length ≤ 16777216 := by rw [← sizeLine_eq]; exact hz
          clear hsz hl hvs hd hc ha hv hz
          omega
        refine call_len_list ⟨_, ha.1, hc, n, hd⟩ hfit ⟨Grows.toks, s.toks + 1, ?_⟩
        rw [hsz]
theorem Itm.lstW {ds : List Den} {i : Int} {d : Den} (h0 : 0 ≤ i) (hd : ds[i.toNat]? = some d) : Itm prog w A (dListW ds) (dInt i) d := fun X s E v₁ v₂ _ hv hi => by
  obtain ⟨a, o, n, vs, rfl, ha, hc, hdt, hz, hvs⟩ := hv
  obtain ⟨t, rfl⟩ := hi
  have hl : s.heap.IsList a vs.toArray := ⟨_, ha.1, hc, n, hdt⟩
  obtain ⟨v, e, r⟩ := hvs.get hd
  have hlt := (List.getElem?_eq_some_iff.mp hd).1
  have hfit : i < 2 ^ 63 := by have := sizeLine_eq; omega
  exact ⟨⟨_, _, hl.typeIs, slot_list_getitem.lookup⟩, wpAny_getItem_list hl h0 hfit (by rw [List.getElem?_toArray]; exact e) ⟨Grows.rfl' s, r⟩⟩

/-- looking into a list that is written elsewhere -/
theorem Ok.peek {x : Str} {a : Addr} {ds : List Den} {vs : List Value} (ok : Ok G X env ρ s) (hx : ρ.lookup x = some (dVal (.ref a))) (hl : s.heap.IsList a vs.toArray) (hO : ¬ Own env a) (hz : ds.length ≤ sizeLine) (hv : All2 (fun d v => d.is (vw X s.heap) v) ds vs) :
    Ok G (fun b => X b ∧ b ≠ a) env ((x, dListW ds) :: ρ) s := by
  have ok' := ok.leave (X₀ := fun b => X b ∧ b ≠ a) (KeepM.refl (M := fun _ => False) s) (fun _ h => h.elim) (fun b h => ⟨h.1, fun z => z⟩) fun b hb => ⟨ok.own b hb, fun z => hO (z ▸ hb)⟩
  refine { ok' with vars := fun y d hy => ?_ }
  by_cases hyx : y = x
  · subst hyx
    rw [lookup_cons_eq] at hy
    cases hy
    obtain ⟨v, hs, hv'⟩ := ok.vars y _ hx
    have hv'' : v = .ref a := hv'
    subst hv''
    obtain ⟨o, ho, hc, n, hd⟩ := hl
    exact ⟨_, hs, a, o, n, vs, rfl, ⟨ho, fun z => z.2 rfl⟩, hc, hd, hz, hv.mono fun d v q => d.mono (fun a ob r => ⟨r.1, fun z => r.2 z.1⟩) q⟩
  · rw [lookup_cons_ne hyx] at hy
    exact ok'.vars y d hy

theorem Bin.pow1015 : Bin prog w A .Pow (dInt 10) (dInt 15) (dInt 1000000000000000) := fun X s E v₁ v₂ _ ⟨_, e₁⟩ ⟨_, e₂⟩ => by
  subst e₁ e₂; exact AutoIntOps.pow_4 (by decide) (by decide) (by decide) (by decide) (by decide +kernel) (show (Made.int 1000000000000000).post _ s from ⟨Grows.toks, _, rfl⟩)

theorem Step.run {st : Stmt} {rest : List Stmt} {Q : Flow → Shared → Prop} (h : Step prog w G A env ρ [] [st] ρ' []) (ok : Ok G X env ρ s) (k : ∀ s', KeepM (Own env) s s' → Ok G X env ρ' s' → wpAny (model prog w) A (execs rest env) Q E s') : wpAny (model prog w) A (execs (st :: rest) env) Q E s := by
  refine wpAny_execs_cons ?_
  have h₁ := h X (fun _ => 0) s E (OkA.of ok)
  have : wpAny (model prog w) A (exec st env) (fun f s' => f = .next ∧ KeepM (MA env (fun _ => 0) []) s s' ∧ OkA G X env ρ' (fun _ => 0) [] s') E s := by
    rw [execs_cons] at h₁
    intro Γ p hΓ
    have q := h₁ Γ p hΓ
    rw [Sem.wp_bind'] at q
    refine Sem.wp_mono _ Γ _ (fun f p' s' q' => ?_) (fun _ _ _ q' => q') p s q
    cases f with
    | next => exact q'
    | brk => exact absurd q'.1 (by intro e; cases e)
    | cont => exact absurd q'.1 (by intro e; cases e)
    | ret v => exact absurd q'.1 (by intro e; cases e)
  refine wpAny_mono this (fun f s₁ ⟨e, k₁, o₁⟩ => ?_) fun _ _ x => x
  subst e
  exact k s₁ (k₁.mono fun b hb => hb.elim id fun ⟨x, hx, _⟩ => by cases hx) o₁.plain

theorem Ev.weakD {e : Expr} {d d' : Den} (h : Ev prog w G A env ρ e d) (k : d = d') : Ev prog w G A env ρ e d' := k ▸ h
end

/-- the supply: two counts, none below 0 -/
def Sup (a : Addr) (h : Heap) : Prop := ∃ i j t t', h.IsList a #[.int i t, .int j t'] ∧ 0 ≤ i ∧ 0 ≤ j
theorem Sup.live {a : Addr} {h : Heap} (x : Sup a h) : ∃ o, h.get? a = some o := let ⟨_, _, _, _, ⟨o, e, _⟩, _⟩ := x; ⟨o, e⟩
theorem Sup.keeps {a : Addr} {s s' : Shared} (x : Sup a s.heap) (k : Grows s s') : Sup a s'.heap := let ⟨i, j, t, t', ⟨o, e, r⟩, h⟩ := x; ⟨i, j, t, t', ⟨o, Grows.at k e, r⟩, h⟩
theorem Sup.keepM {a : Addr} {M : Addr → Prop} {s s' : Shared} (x : Sup a s.heap) (k : KeepM M s s') (h : ¬ M a) : Sup a s'.heap := let ⟨i, j, t, t', ⟨o, e, r⟩, h'⟩ := x; ⟨i, j, t, t', ⟨o, k.get h e, r⟩, h'⟩

local macro_rules | `(tactic| walk_at "sig") => `(tactic| exact ⟨fun name qual kV doc pm an cdv ct vs hl => by (first | (match vs, hl with | [_], _ => with_unfolding_all rfl) | (match vs, hl with | [_, _], _ => with_unfolding_all rfl) | (match vs, hl with | [_, _, _], _ => with_unfolding_all rfl) | (match vs, hl with | [_, _, _, _], _ => with_unfolding_all rfl) | (match vs, hl with | [_, _, _, _, _], _ => with_unfolding_all rfl)), by decide +kernel, by decide +kernel, by decide +kernel, rfl, rfl, rfl⟩)

section
variable {w : World} {G : Heap} {A : Around} {mg mb : Str → Option Value}

theorem List2 {prog : Program} {env : Env} {E : Value → Shared → Prop} {s : Shared} {e₀ e₁ : Expr} {pos : Pos} {Q : Value → Shared → Prop} (h : wpAny (model prog w) A (eval e₀ env) (fun v₀ s₁ => wpAny (model prog w) A (eval e₁ env) (fun v₁ s₃ =>
    Q (.ref s₃.heap.objs.size) { s₃ with heap := s₃.heap.push { cls := .type "list", data := .seq [v₀, v₁].toArray } }) E s₁) E s)
    (hst : starEach [e₀, e₁] env = [(false, eval e₀ env), (false, eval e₁ env)] := by rfl) : wpAny (model prog w) A (eval (.List [e₀, e₁] pos) env) Q E s := by
  refine List_ ?_
  rw [hst]
  exact Calls.spliced_cons (wpAny_mono h (fun v₀ s₁ h₁ => Calls.spliced_cons (wpAny_mono h₁ (fun v₂ s₃ h₃ => Calls.spliced_nil (wpAny_newObj_type h₃ (small2 (by show 2 ≤ 1000; decide)))) fun _ _ x => x)) fun _ _ x => x)
theorem smallMul {a b : Int} (h : Builtin.Int.intBits b ≤ 64) : IntMulOk a b := IntMulOk.of_right h

theorem supply_run {f : Addr} {k : Nat} {X : Addr → Prop} {s : Shared} {E : Value → Shared → Prop} (T : Tops G mg mb) (hd : IsDefN G f 44) (hr : Room (k + 1) A) (ns : List Int) (v : Value)
    (hX : ∀ b, X b → ∃ o, s.heap.get? b = some o) (hb : ∀ a o, G.get? a = some o → vw X s.heap a o) (hv : (dListW (ns.map dInt)).is (vw X s.heap) v) :
    wpAny (model P0 w) A (call (.ref f) [v]) (fun u s' => Grows s s' ∧ ∃ a, u = .ref a ∧ s.heap.get? a = none ∧ Sup a s'.heap) E s := by
  obtain ⟨p, b, sc, e, hd⟩ := hd
  cases (show defAt 44 = some (_, _, _) from rfl).symm.trans e
  clear e
  refine wpAny_call (call_def (ns := ["script"]) (ds := [dListW (ns.map dInt)]) T.toBase hd (by walk_at "sig") hr hX hb ⟨hv, trivial⟩ rfl fun env s₁ hfe g hnone ok => ?_)
  clear hd
  have hr' := hr.deeper (env := env)
  obtain ⟨L, a, q, c, rfl⟩ := hfe
  let store : Int := ns.headD 0
  let bulk : Int := if 0 ≤ store then store else 10 - store
  have hb0 : 0 ≤ bulk := by show 0 ≤ (if 0 ≤ store then store else 10 - store); split <;> omega
  refine Step.run (Step.assign (d := dInt store) (.inl rfl) (Ev.ife (c := decide (0 < (ns.map dInt).length)) (Tr.cast ?_ (Tr.cmp (Ev.call (CallOk.len_w (ds := ns.map dInt)) (Ev.bf T rfl) ⟨Ev.name rfl, trivial⟩) Ev.cint Cmp.gtI)) (fun h => ?_) (fun h => ?_))) ok fun s₂ k₂ ok₂ => ?_
  · simp
  · cases ns with
    | nil => simp at h
    | cons x r => exact Ev.sub (Ev.name (d := dListW ((x :: r).map dInt)) rfl) Ev.cint (Itm.lstW (by decide) rfl)
  · cases ns with
    | nil => exact Ev.cint
    | cons x r => simp at h
  refine Step.run (Step.assign (d := dInt bulk) (.inl rfl) (Ev.ife (c := decide (0 ≤ store)) (Tr.cmp (Ev.name (d := dInt store) rfl) Ev.cint Cmp.geI) (fun h => ?_) (fun h => ?_))) ok₂ fun s₃ k₃ ok₃ => ?_
  · have h' := of_decide_eq_true h
    exact Ev.weakD (Ev.name (d := dInt store) rfl) (by show _ = dInt (if 0 ≤ store then store else 10 - store); rw [if_pos h'])
  · have h' := of_decide_eq_false h
    exact Ev.weakD (Ev.bin Ev.cint (Ev.name (d := dInt store) rfl) Bin.sub) (by show _ = dInt (if 0 ≤ store then store else 10 - store); rw [if_neg h'])
  let i : Int := if 1000000000000000 ≤ bulk then bulk else 0
  have hi0 : 0 ≤ i := by show 0 ≤ (if 1000000000000000 ≤ bulk then bulk else 0); split <;> omega
  refine wpAny_execs_cons (wpAny_Return_some (List2 ?_))
  refine (Ev.ife (d := dInt i) (c := decide (1000000000000000 ≤ bulk)) (Tr.cmp (Ev.name (d := dInt bulk) rfl) (Ev.bin Ev.cint Ev.cint Bin.pow1015) Cmp.geI) (fun h => ?_) (fun h => ?_)).use ok₃ fun v₄ s₄ k₄ ok₄ hv₄ => ?_
  · have h' := of_decide_eq_true h
    exact Ev.weakD (Ev.name (d := dInt bulk) rfl) (by show _ = dInt (if 1000000000000000 ≤ bulk then bulk else 0); rw [if_pos h'])
  · have h' := of_decide_eq_false h
    exact Ev.weakD Ev.cint (by show _ = dInt (if 1000000000000000 ≤ bulk then bulk else 0); rw [if_neg h'])
  refine (Ev.bin (Ev.bin (Ev.bin (Ev.bin (Ev.name (d := dInt bulk) rfl) Ev.cint (Bin.mod (by decide))) Ev.cint (Bin.mul (smallMul (by decide +kernel)))) Ev.cint Bin.add) Ev.cint (Bin.mod (by decide))).use ok₄ fun v₅ s₅ k₅ ok₅ hv₅ => ?_
  obtain ⟨t, rfl⟩ := hv₄
  obtain ⟨t', rfl⟩ := hv₅
  have k₆ : Grows s₅ { s₅ with heap := s₅.heap.push { cls := .type "list", data := .seq [Value.int i t, .int ((bulk.fmod 999907 * 181 + 47).fmod 65419) t'].toArray } } := Grows.push
  have kk := (KeepM.of_keeps (M := Own _) g).trans (k₂.trans (k₃.trans (KeepM.of_keeps ((k₄.tr k₅).tr k₆))))
  obtain ⟨h', tk, e', kk⟩ := kk
  refine ⟨⟨h', tk, e', fun b o e => kk b o (fun z => by have := hnone b z; rw [e] at this; cases this) e⟩, s₅.heap.objs.size, rfl, ?_, i, _, t, t', ⟨_, Heap.get?_push_size _ rfl, rfl, _, rfl⟩, hi0, Int.fmod_nonneg_of_pos _ (by decide)⟩
  have kq := (KeepM.of_keeps (M := Own _) g).trans (k₂.trans (k₃.trans (KeepM.of_keeps (k₄.tr k₅))))
  obtain ⟨h₁, tk₁, e₁, kq⟩ := kq
  cases hq : s.heap.get? s₅.heap.objs.size with
  | none => rfl
  | some o =>
    have := kq _ o (fun z => by have := hnone _ z; rw [hq] at this; cases this) hq
    rw [e₁] at this
    have e₂ : h₁.get? h₁.objs.size = some o := this
    rw [get_size] at e₂; cases e₂
end
end Mine

namespace Mine
open PySem.Calls
open Sem (wp)

local macro_rules | `(tactic| walk_at "sig") => `(tactic| exact ⟨fun name qual kV doc pm an cdv ct vs hl => by (first | (match vs, hl with | [_], _ => with_unfolding_all rfl) | (match vs, hl with | [_, _], _ => with_unfolding_all rfl) | (match vs, hl with | [_, _, _], _ => with_unfolding_all rfl) | (match vs, hl with | [_, _, _, _], _ => with_unfolding_all rfl) | (match vs, hl with | [_, _, _, _, _], _ => with_unfolding_all rfl)), by decide +kernel, by decide +kernel, by decide +kernel, rfl, rfl, rfl⟩)

section
variable {w : World} {G : Heap} {A : Around} {mg mb : Str → Option Value}

theorem out_run {f a : Addr} {k : Nat} {X : Addr → Prop} {s : Shared} {E : Value → Shared → Prop} (T : Tops G mg mb) (hd : IsDefN G f 45) (hr : Room (k + 1) A) (m : Int) (hm0 : 0 < m) (hm1 : m ≤ 1000) (u : Value)
    (hX : ∀ b, X b → ∃ o, s.heap.get? b = some o) (hb : ∀ a o, G.get? a = some o → vw X s.heap a o) (hXa : X a) (hs : Sup a s.heap) (hu : (dInt m).is (vw X s.heap) u) :
    wpAny (model P0 w) A (call (.ref f) [.ref a, u]) (fun v s' => KeepM (fun b => b = a) s s' ∧ Sup a s'.heap ∧ ∃ r t, v = .int r t ∧ 0 ≤ r ∧ r < m) E s := by
  obtain ⟨p, b, sc, e, hd⟩ := hd
  cases (show defAt 45 = some (_, _, _) from rfl).symm.trans e
  clear e
  refine wpAny_call (call_def (ns := ["supply", "many"]) (ds := [dVal (.ref a), dInt m]) T.toBase hd (by walk_at "sig") hr hX hb ⟨rfl, hu, trivial⟩ rfl fun env s₁ hfe g hnone ok => ?_)
  clear hd
  have hO : ¬ Own env a := fun z => by obtain ⟨o, e⟩ := hs.live; have := hnone a z; rw [e] at this; cases this
  obtain ⟨O, eO⟩ : ∃ O : Addr → Prop, O = Own env := ⟨_, rfl⟩
  obtain ⟨Y, eY⟩ : ∃ Y : Addr → Prop, Y = fun b => X b ∨ Own env b := ⟨_, rfl⟩
  rw [← eY] at ok
  have hYa : Y a := by rw [eY]; exact .inl hXa
  have hno : ∀ b, O b → s.heap.get? b = none := fun b h => hnone b (eO ▸ h)
  have hOw : ∀ b, Own env b → O b := fun b h => eO ▸ h
  clear eY eO
  have fin : ∀ {s' : Shared}, KeepM (fun b => b = a ∨ O b) s₁ s' → KeepM (fun b => b = a) s s' := fun k => by
    obtain ⟨h', tk, rfl, kk⟩ := (KeepM.of_keeps (M := fun b => b = a ∨ O b) g).trans k
    exact ⟨h', tk, rfl, fun b o hb e => kk b o (fun z => z.elim hb fun z => by have := hno b z; rw [e] at this; cases this) e⟩
  have hpk : ∀ {ρ : Rho} {s : Shared} {i j : Int} {t t' : Tok}, Ok G Y env ρ s → ρ.lookup ("supply" : Str) = some (dVal (.ref a)) → s.heap.IsList a #[.int i t, .int j t'] → Ok G (fun b => Y b ∧ b ≠ a) env (("supply", dListW [dInt i, dInt j]) :: ρ) s := fun ok hl hL =>
    ok.peek (vs := [.int _ _, .int _ _]) hl hL hO (small2 (by show 2 ≤ 1000; decide)) ⟨⟨_, rfl⟩, ⟨_, rfl⟩, trivial⟩
  have lk : ∀ {h h' : Heap} {xs : Array Value}, h.IsList a xs → (∀ o, h.get? a = some o → h'.get? a = some o) → h'.IsList a xs := fun ⟨o, e, r⟩ k => ⟨o, k o e, r⟩
  have hrm := hr.deeper (env := env)
  obtain ⟨L, a', q, c, rfl⟩ := hfe
  obtain ⟨i, j, t, t', hl, hi0, hj0⟩ := hs
  have hl₁ : s₁.heap.IsList a #[.int i t, .int j t'] := lk hl fun o e => Grows.at g e
  have dabs : m.natAbs < 1073741824 := by omega
  refine wpAny_execs_cons (wpAny_If (Tr.use (b := decide (0 < i)) (Tr.cmp (Ev.sub (Ev.name (d := dListW [dInt i, dInt j]) rfl) Ev.cint (Itm.lstW (by decide) rfl)) Ev.cint Cmp.gtI) (hpk ok rfl hl₁) fun s₂ k₂ _ => ?_))
  have ok₂ := ok.keeps k₂
  have hl₂ := lk hl₁ fun o e => Grows.at k₂ e
  by_cases hi : 0 < i
  · rw [decide_eq_true hi]
    simp only [if_true]
    refine wpAny_execs_cons (wpAny_Assign_Name ((Ev.bin (Ev.sub (Ev.name (d := dListW [dInt i, dInt j]) rfl) Ev.cint (Itm.lstW (d := dInt i) (by decide) rfl)) (Ev.name (d := dInt m) rfl) (Bin.mod (by omega))).use (hpk ok₂ rfl hl₂) fun v₃ s₃ k₃ _ hv₃ => ?_))
    have hl₃ := lk hl₂ fun o e => Grows.at k₃ e
    refine wpAny_mono ((ok₂.keeps k₃).store (x := "piece") (d := dInt (i.fmod m)) (.inl rfl) hv₃) (fun _ s₄ ⟨k₄, ok₄⟩ => ?_) fun _ _ x => x
    have hl₄ := lk hl₃ fun o e => k₄.get (fun z => hO z.own) e
    refine wpAny_execs_cons (wpAny_Assign_Subscript ((Ev.bin (Ev.sub (Ev.name (d := dListW [dInt i, dInt j]) rfl) Ev.cint (Itm.lstW (d := dInt i) (by decide) rfl)) (Ev.name (d := dInt m) rfl) (Bin.fdiv (by omega) dabs)).use (hpk ok₄ rfl hl₄) fun v₅ s₅ k₅ _ hv₅ => ?_))
    have ok₅ := ok₄.keeps k₅
    refine (Ev.name (d := dVal (.ref a)) rfl).use ok₅ fun v₆ s₆ k₆ ok₆ hv₆ => ?_
    have hv₆' : v₆ = .ref a := hv₆
    subst hv₆'
    refine Ev.cint.use ok₆ fun v₇ s₇ k₇ ok₇ hv₇ => ?_
    obtain ⟨t₇, rfl⟩ := hv₇
    obtain ⟨t₅, rfl⟩ := hv₅
    have hl₇ := lk hl₄ fun o e => Grows.at ((k₅.tr k₆).tr k₇) e
    refine wpAny_setItem_list hl₇ (by decide) (by decide) (by show (0 : Int) < 2; decide) fun h' hl' hs' => ?_
    have k₈ : KeepM (fun b => b = a) s₇ { s₇ with heap := h' } := ⟨h', s₇.toks, rfl, fun b o hb e => hs'.extBut b o hb e⟩
    have ok₈ := ok₇.keepM k₈ (fun b e => e ▸ hYa) (fun b hb e => hO (e ▸ hb)) fun b e => e ▸ (let ⟨o, e, _⟩ := hl'; ⟨o, e⟩)
    refine wpAny_execs_cons (wpAny_Return_some ((Ev.name (d := dInt (i.fmod m)) rfl).use ok₈ fun v₉ s₉ k₉ ok₉ hv₉ => ?_))
    refine ⟨fin ?_, ⟨i.fdiv m, j, t₅, t', lk hl' fun o e => Grows.at k₉ e, Int.fdiv_nonneg hi0 (Int.le_of_lt hm0), hj0⟩, ?_⟩
    · exact (KeepM.of_keeps (k₂.tr k₃)).trans ((k₄.mono fun b h => .inr (hOw b h.own)).trans ((KeepM.of_keeps ((k₅.tr k₆).tr k₇)).trans ((k₈.mono fun b h => .inl h).trans (KeepM.of_keeps k₉))))
    · obtain ⟨t₉, rfl⟩ := hv₉
      exact ⟨_, t₉, rfl, Int.fmod_nonneg_of_pos _ hm0, Int.fmod_lt_of_pos _ hm0⟩
  · rw [decide_eq_false hi]
    simp only [Bool.false_eq_true, if_false]
    refine wpAny_execs_nil ?_
    refine wpAny_execs_cons (wpAny_Assign_Subscript ((Ev.bin (Ev.bin (Ev.bin (Ev.sub (Ev.name (d := dListW [dInt i, dInt j]) rfl) Ev.cint (Itm.lstW (d := dInt j) (by decide) rfl)) Ev.cint (Bin.mul (smallMul (by decide +kernel)))) Ev.cint Bin.add) Ev.cint (Bin.mod (by decide))).use (hpk ok₂ rfl hl₂) fun v₅ s₅ k₅ _ hv₅ => ?_))
    have ok₅ := ok₂.keeps k₅
    refine (Ev.name (d := dVal (.ref a)) rfl).use ok₅ fun v₆ s₆ k₆ ok₆ hv₆ => ?_
    have hv₆' : v₆ = .ref a := hv₆
    subst hv₆'
    refine Ev.cint.use ok₆ fun v₇ s₇ k₇ ok₇ hv₇ => ?_
    obtain ⟨t₇, rfl⟩ := hv₇
    obtain ⟨t₅, rfl⟩ := hv₅
    have hl₇ := lk hl₂ fun o e => Grows.at ((k₅.tr k₆).tr k₇) e
    refine wpAny_setItem_list hl₇ (by decide) (by decide) (by show (1 : Int) < 2; decide) fun h' hl' hs' => ?_
    have k₈ : KeepM (fun b => b = a) s₇ { s₇ with heap := h' } := ⟨h', s₇.toks, rfl, fun b o hb e => hs'.extBut b o hb e⟩
    have ok₈ := ok₇.keepM k₈ (fun b e => e ▸ hYa) (fun b hb e => hO (e ▸ hb)) fun b e => e ▸ (let ⟨o, e, _⟩ := hl'; ⟨o, e⟩)
    have hl₈ : ({ s₇ with heap := h' } : Shared).heap.IsList a #[.int i t, .int ((j * 191 + 5003).fmod 65419) t₅] := hl'
    refine wpAny_execs_cons (wpAny_Return_some ((Ev.bin (Ev.bin (Ev.sub (Ev.name (d := dListW [dInt i, dInt ((j * 191 + 5003).fmod 65419)]) rfl) Ev.cint (Itm.lstW (d := dInt ((j * 191 + 5003).fmod 65419)) (by decide) rfl)) Ev.cint (Bin.fdiv (by decide) (by decide))) (Ev.name (d := dInt m) rfl) (Bin.mod (by omega))).use (hpk ok₈ rfl hl₈) fun v₉ s₉ k₉ ok₉ hv₉ => ?_))
    refine ⟨fin ?_, ⟨i, (j * 191 + 5003).fmod 65419, t, t₅, lk hl₈ fun o e => Grows.at k₉ e, hi0, Int.fmod_nonneg_of_pos _ (by decide)⟩, ?_⟩
    · exact (KeepM.of_keeps k₂).trans ((KeepM.of_keeps ((k₅.tr k₆).tr k₇)).trans ((k₈.mono fun b h => .inl h).trans (KeepM.of_keeps k₉)))
    · obtain ⟨t₉, rfl⟩ := hv₉
      exact ⟨_, t₉, rfl, Int.fmod_nonneg_of_pos _ hm0, Int.fmod_lt_of_pos _ hm0⟩
end
end Mine

namespace Mine
open PySem.Calls

section
variable {prog : Program} {w : World} {G : Heap} {A : Around} {env : Env} {ρ : Rho} {E : Value → Shared → Prop} {s s' : Shared} {X X₀ M : Addr → Prop} {D : Addr} {os : List Den}

/-- one turn behind the target, which may write into Z -/
def TurnZ (prog : Program) (w : World) (G : Heap) (A : Around) (env : Env) (W Z : Addr → Prop) (J : Heap → Prop) (X : Addr → Prop) (ρ : Rho) (D : Addr) (rest : Sem Unit) (new : Rho) (out : List Den) : Prop :=
  ∀ (s : Shared) (E : Value → Shared → Prop) (os : List Den), Ok G X env (new ++ ρ) s → Acc X s.heap D os → J s.heap → os.length + out.length ≤ sizeLine →
    wpAny (model prog w) A rest (fun _ s' => KeepM (fun b => W b ∨ b = D ∨ Z b) s s' ∧ Ok G X env ρ s' ∧ Acc X s'.heap D (os ++ out) ∧ J s'.heap) E s

theorem comp_loopZ {Z : Addr → Prop} {J : Heap → Prop} (hJ : ∀ {M : Addr → Prop} {s s' : Shared}, J s.heap → KeepM M s s' → (∀ b, Z b → ¬ M b) → J s'.heap) {elt : Expr} {gens : List Comprehension} {scope : Scope} {pos p : Pos} {depth : Nat} {I : Addr} {target : Expr} {rest : Sem Unit} {wr : Addr → Prop} {ds : List Den} {St : Nat → Heap → Prop} {R : Result → Shared → Prop} {W : Addr → Prop} (hW : ∀ b, W b → Own env b)
    (outs : List (List Den))
    (heq : compTurn (.ListComp elt gens scope pos) depth (.ref I) (.ref D) env = (standAt p >>= fun _ => pyNext (.ref I) >>= fun r => match r with
      | none => pure (.done .next)
      | some v => letOwnedTupleGo target (.ref I) v >>= fun _ => assign target env v >>= fun _ => rest >>= fun _ => again (.compLoop (.ListComp elt gens scope pos) depth (.ref I) (.ref D) env)))
    (F : Feed prog w A X I target wr ds St) (hlen : outs.length = ds.length)
    (hstep : ∀ (i : Nat) (d : Den) (out : List Den), ds[i]? = some d → outs[i]? = some out → ∃ new, AsgnOk prog w G A env W target d new ∧ TurnZ prog w G A env W Z J X ρ D rest new out)
    (hZ : ∀ b, Z b → X b ∧ ¬ Own env b ∧ b ≠ D ∧ ¬ wr b) (hXD : X D) (hD : ¬ W D) (hwr : ∀ b, wr b → X b ∧ ¬ Own env b ∧ b ≠ D)
    (hX₀ : ∀ b, X₀ b → X b ∧ ¬ wr b) (hown : ∀ b, Own env b → X₀ b) (hD₀ : X₀ D)
    (ok : Ok G X env ρ s) (acc : Acc X s.heap D os) (jj : J s.heap) (st : St 0 s.heap) (hsz : os.length + outs.flatten.length ≤ sizeLine)
    (hR : ∀ s', KeepM (fun b => (W b ∨ b = D ∨ wr b) ∨ Z b) s s' → Ok G X₀ env ρ s' → Acc X₀ s'.heap D (os ++ outs.flatten) → J s'.heap → R (.ok .next) s') :
    codeAny (model prog w) A (.compLoop (.ListComp elt gens scope pos) depth (.ref I) (.ref D) env) R s := by
  refine codeAny_loop rfl (fun k s' => ∃ i, k = ds.length + 1 - i ∧ i ≤ ds.length ∧ KeepM (fun b => (W b ∨ b = D ∨ wr b) ∨ Z b) s s' ∧ Ok G X env ρ s' ∧ Acc X s'.heap D (os ++ (outs.take i).flatten) ∧ J s'.heap ∧ St i s'.heap) ?_ (ds.length + 1)
    ⟨0, rfl, Nat.zero_le _, KeepM.refl s, ok, by simpa using acc, jj, st⟩
  rintro _ s₁ ⟨i, rfl, hi, k₁, ok₁, acc₁, j₁, st₁⟩
  show wpAny _ A ((compTurn (.ListComp elt gens scope pos) depth (.ref I) (.ref D) env).onRaise (fun x => do noteFrame x env; theTreesLotGoes x)) _ _ s₁
  refine wpAny_noted ?_
  rw [heq]
  have hM : ∀ {P : Addr → Prop}, (∀ b, P b → W b ∨ b = D ∨ Z b) → (∀ b, P b → X b) ∧ ∀ b, P b → ¬ wr b := fun h =>
    ⟨fun b hb => (h b hb).elim (fun z => ok.own b (hW b z)) fun e => e.elim (fun e => e ▸ hXD) fun z => (hZ b z).1, fun b hb hw => (h b hb).elim (fun z => (hwr b hw).2.1 (hW b z)) fun e => e.elim (hwr b hw).2.2 fun z => (hZ b z).2.2.2 hw⟩
  have frame : ∀ {j : Nat} {P : Addr → Prop} {s₂ s₃ : Shared}, (∀ b, P b → W b ∨ b = D ∨ Z b) → KeepM P s₂ s₃ → St j s₂.heap → St j s₃.heap := fun h k st =>
    F.frame _ _ _ st fun b o hb e => k.get (fun z => hb.elim (fun n => n ((hM h).1 b z)) ((hM h).2 b z)) e
  refine wpAny_bind (wpAny_standAt (wpAny_bind ?_))
  by_cases hlt : i < ds.length
  · obtain ⟨d, hd⟩ : ∃ d, ds[i]? = some d := ⟨_, List.getElem?_eq_getElem hlt⟩
    obtain ⟨out, hout⟩ : ∃ out, outs[i]? = some out := ⟨_, List.getElem?_eq_getElem (hlen ▸ hlt)⟩
    obtain ⟨new, hasg, hturn⟩ := hstep i d out hd hout
    refine wpAny_mono (F.item i s₁ d _ ok₁.live hd st₁) (fun r s₂ h₂ => ?_) fun _ _ x => x
    obtain ⟨v, rfl, h₂⟩ := h₂
    refine wpAny_bind (wpAny_mono h₂ (fun _ s₃ h₃ => ?_) fun _ _ x => x)
    obtain ⟨k₃, st₃, hv⟩ := h₃
    have ok₃ : Ok G X env ρ s₃ := ok₁.keepM k₃ (fun b hb => (hwr b hb).1) (fun b hb hw => (hwr b hw).2.1 hb) fun b hb => F.live _ _ b st₃ hb
    have acc₃ := acc₁.keepM k₃ (fun b hb => (hwr b hb).1) fun hw => (hwr D hw).2.2 rfl
    refine wpAny_bind (wpAny_mono (hasg X ρ s₃ _ v ok₃ hv) (fun _ s₄ h₄ => ?_) fun _ _ x => x)
    obtain ⟨k₄, ok₄⟩ := h₄
    have j₃ := hJ j₁ k₃ fun b hz hw => (hZ b hz).2.2.2 hw
    have j₄ := hJ j₃ k₄ fun b hz hw => (hZ b hz).2.1 (hW b hw)
    have acc₄ := acc₃.keepM k₄ (fun b z => ok.own b (hW b z)) hD
    have st₄ := frame (fun b h => .inl h) k₄ st₃
    have hz : (os ++ (outs.take i).flatten).length + out.length ≤ sizeLine := by
      have h1 := flatten_take_le outs (i + 1)
      rw [flatten_take_succ hout, List.length_append] at h1
      rw [List.length_append]; omega
    refine wpAny_bind (wpAny_mono (hturn s₄ _ _ ok₄ acc₄ j₄ hz) (fun _ s₅ h₅ => ?_) fun _ _ x => x)
    obtain ⟨k₅, ok₅, acc₅, j₅⟩ := h₅
    have st₅ := frame (fun b h => h) k₅ st₄
    refine wpAny_pure ⟨rfl, ds.length + 1 - (i + 1), by omega, i + 1, rfl, hlt, ?_, ok₅, ?_, j₅, st₅⟩
    · exact k₁.trans ((k₃.mono fun b h => .inl (.inr (.inr h))).trans ((k₄.mono fun b h => .inl (.inl h)).trans (k₅.mono fun b h => h.elim (fun h => .inl (.inl h)) fun e => e.elim (fun e => .inl (.inr (.inl e))) .inr)))
    · rw [flatten_take_succ hout, ← List.append_assoc]; exact acc₅
  · obtain rfl : i = ds.length := Nat.le_antisymm hi (Nat.not_lt.mp hlt)
    refine wpAny_mono (F.done s₁ _ st₁) (fun r s₂ h₂ => ?_) fun _ _ x => x
    obtain ⟨rfl, k₂⟩ := h₂
    refine wpAny_pure (hR s₂ (k₁.trans (k₂.mono fun b h => .inl (.inr (.inr h)))) (ok₁.leave k₂ (fun b hb => (hwr b hb).1) hX₀ hown) ?_ (hJ j₁ k₂ fun b hz hw => (hZ b hz).2.2.2 hw))
    have := (acc₁.keepM k₂ (fun b hb => (hwr b hb).1) fun hw => (hwr D hw).2.2 rfl).sub fun b hb => (hX₀ b hb).1
    rw [List.take_of_length_le (by rw [hlen]; exact Nat.le_refl _)] at this
    exact this

theorem comp_coreZ {Z : Addr → Prop} {J : Heap → Prop} (hJ : ∀ {M : Addr → Prop} {s s' : Shared}, J s.heap → KeepM M s s' → (∀ b, Z b → ¬ M b) → J s'.heap) {first : Sem Value} {elt target iter : Expr} {ifs : List Expr} {gs : List Comprehension} {scope : Scope} {pos : Pos} {ds : List Den} {use : Option (Value → Sem Unit)} {Q : Value → Shared → Prop} {ppos : Pos}
    (outs : List (List Den)) (ok : Ok G X env ρ s) (jj : J s.heap) (hZX : ∀ b, Z b → X b ∧ ¬ Own env b) (hit : wpAny (model prog w) A first (fun x s₁ => wpAny (model prog w) A (pyIter x) (fun it s₂ => ∃ I, it = .ref I ∧ Grows s s₂ ∧ Fed prog w A X target ds s.heap I s₂) E s₁) E s)
    (hnm : ∀ p ∈ scope.names, scope.names.lookup p.1 = some p.2) (hfree : ∀ n, (n, NameKind.free) ∈ scope.names → (env.kindOf n = some .cell ∨ env.kindOf n = some .free) ∧ (env.cells.lookup n).isSome = true)
    (hkind : scope.kind = .function) (hlen : outs.length = ds.length) (hsz : outs.flatten.length ≤ sizeLine)
    (hloop : ∀ (h₀ : Heap) (cenv : Env), CEnv scope env h₀ cenv → ∀ I D, ∃ p rest,
      compTurn (.ListComp elt (⟨target, iter, ifs, 0⟩ :: gs) scope pos) 0 (.ref I) (.ref D) cenv = (standAt p >>= fun _ => pyNext (.ref I) >>= fun r => match r with
        | none => pure (.done .next)
        | some v => letOwnedTupleGo target (.ref I) v >>= fun _ => assign target cenv v >>= fun _ => rest >>= fun _ => again (.compLoop (.ListComp elt (⟨target, iter, ifs, 0⟩ :: gs) scope pos) 0 (.ref I) (.ref D) cenv)) ∧
      ∀ (X' : Addr → Prop), X' D → ¬ Own cenv D → (∀ b, Z b → X' b ∧ ¬ Own cenv b ∧ b ≠ D) → ∀ (i : Nat) (d : Den) (out : List Den), ds[i]? = some d → outs[i]? = some out →
        ∃ new, AsgnOk prog w G A cenv (CW cenv h₀) target d new ∧ TurnZ prog w G A cenv (CW cenv h₀) Z J X' (inner scope ρ) D rest new out)
    (hfin : ∀ s' D C, KeepM Z s s' → J s'.heap → (∀ b, Z b → ∃ o, s.heap.get? b = some o) → s.heap.get? C = none → (∃ m, s'.heap.Ns C m) → (dLst outs.flatten).is (vw (fun b => X b ∨ b = C) s'.heap) (.ref D) → D ≠ C → compPost (model prog w) A E use Q (.ref D) C (.ok .next) s')
    (hs : ∀ x, foldedSetIterable iter env x = pure x := by intro _; rfl) :
    wpAny (model prog w) A (comprehension (.ListComp elt (⟨target, iter, ifs, 0⟩ :: gs) scope pos) scope env ppos (newList []) false first use) Q E s := by
  obtain ⟨cl, hcl, hcl1, hcl2⟩ := closure_ok (scope := scope) (env := env) fun n h => (hfree n h).2
  refine wpAny_comprehension_free rfl hs hcl hkind (fun x hx _ => by have := hnm x hx; rw [this, ‹x.2 = _›]) ?_
  refine wpAny_mono hit (fun xv s₁ h₁ => wpAny_mono h₁ (fun it s₂ h₂ => ?_) fun _ _ x => x) fun _ _ x => x
  obtain ⟨I, rfl, g₂, wr, hwn, hwl, hfeed⟩ := h₂
  have ok₂ := ok.keeps g₂
  refine wpAny_newObj_type (newEnv_comp ?_)
  show codeAny _ _ _ _ _
  generalize hH3 : s₂.heap.push { cls := .type "list", dict := none, data := .seq ([] : List Value).toArray } = H3
  have hC : H3.objs.size = s₂.heap.objs.size + 1 := by rw [← hH3, Heap.size_push]
  generalize hH4 : pushCells (H3.push { cls := .type "dict", data := .dict #[] }) scope.names = H4
  have hz3 : (H3.push { cls := .type "dict", data := .dict #[] }).objs.size = H3.objs.size + 1 := Heap.size_push ..
  -- the parts
  have up3 : ∀ b o, s₂.heap.get? b = some o → H3.get? b = some o := fun b o e => hH3 ▸ Heap.get?_push_of_some _ e
  have up4 : ∀ b o, H3.get? b = some o → H4.get? b = some o := fun b o e => hH4 ▸ pushCells_keeps _ _ b o (Heap.get?_push_of_some _ e)
  have up : ∀ b o, s₂.heap.get? b = some o → H4.get? b = some o := fun b o e => up4 b o (up3 b o e)
  have hD4 : H4.get? s₂.heap.objs.size = some (LCg.lst []) := up4 _ _ (hH3 ▸ Heap.get?_push_size _ rfl)
  have hC4 : H4.Ns H3.objs.size (fun _ => none) := by
    have := (Heap.Ns.new H3 (.type "dict")).keeps (pushCells_keeps scope.names _)
    rw [hH4] at this
    exact this
  have new₂ : ∀ b, s₂.heap.objs.size ≤ b → s₂.heap.get? b = none := fun b hb => by
    cases e : s₂.heap.get? b with
    | none => rfl
    | some o => exact absurd (Heap.lt_size e) (Nat.not_lt.mpr hb)
  generalize hcells : cellsFrom (H3.objs.size + 1) scope.names cl = cells
  have hlook : ∀ x c, cells.lookup x = some c → (cl.lookup x = some c ∧ (x, NameKind.cell) ∉ scope.names) ∨ (H3.objs.size + 1 ≤ c ∧ H4.IsCell c none ∧ (x, NameKind.cell) ∈ scope.names) := fun x c e => by
    rw [← hcells, ← hz3] at e
    rcases cells_lookup scope.names _ cl x c e with q | q | q
    · exact .inl q
    · rw [hz3, hH4] at q; exact .inr q
    · exact q.2.elim
  have hinj : ∀ x y c, cells.lookup x = some c → cells.lookup y = some c → x = y := by
    rw [← hcells]
    refine cells_inj scope.names _ cl (fun x y c ex ey => ok.inj x y c (hcl1 x c ex) (hcl1 y c ey)) fun x c e => ?_
    have := ok₂.lt (ok₂.own c (.inr ⟨x, hcl1 x c e⟩))
    rw [hC]; exact Nat.lt_of_lt_of_le this (Nat.le_add_right _ 2)
  have hce : CEnv scope env s.heap (compEnvC scope cells H3.objs.size env) := by
    refine ⟨⟨_, _, rfl⟩, g₂.none (new₂ _ (by rw [hC]; exact Nat.le_succ _)), fun x hx => ?_, fun n hn => ?_⟩
    rotate_left
    · show (cells.lookup n).isSome = true
      rw [← hcells, cells_old scope.names _ cl fun z => (by have h1 := hnm _ hn; have h2 := hnm _ z; rw [h1] at h2; cases h2), hcl2 n hn]
      exact (hfree n hn).2
    have hm : (x, NameKind.cell) ∈ scope.names := mem_of_lookupK hx
    have hsome : (cells.lookup x).isSome = true := by rw [← hcells]; exact cellsFrom_some _ _ _ (.inl hx)
    obtain ⟨c, e⟩ := Option.isSome_iff_exists.mp hsome
    rcases hlook x c e with q | q
    · exact absurd hm q.2
    · exact ⟨c, e, g₂.none (new₂ _ (Nat.le_trans (by rw [hC]; exact Nat.le_add_right _ 2) q.1))⟩
  obtain ⟨p, rest, heq, hstep⟩ := hloop s.heap (compEnvC scope cells H3.objs.size env) hce I s₂.heap.objs.size
  -- the mutable addresses inside
  have ownC : ∀ b, Own (compEnvC scope cells H3.objs.size env) b → X b ∨ (H3.objs.size ≤ b ∧ ∃ o, H4.get? b = some o) := fun b hb => by
    rcases hb with e | ⟨x, e⟩
    · have e' : b = H3.objs.size := e
      obtain ⟨o, _, _, q, _⟩ := hC4
      exact .inr ⟨Nat.le_of_eq e'.symm, o, e' ▸ q⟩
    · rcases hlook x b e with q | q
      · exact .inl (ok.own b (.inr ⟨x, hcl1 x b q.1⟩))
      · obtain ⟨o, ho, _⟩ := q.2.1
        exact .inr ⟨Nat.le_of_succ_le q.1, o, ho⟩
  have hXD : ¬ X s₂.heap.objs.size := fun z => absurd (ok₂.lt z) (Nat.lt_irrefl _)
  let Xc : Addr → Prop := fun b => X b ∨ b = s₂.heap.objs.size ∨ Own (compEnvC scope cells H3.objs.size env) b
  let X' : Addr → Prop := fun b => Xc b ∨ wr b
  have wr_lt : ∀ b, wr b → b < s₂.heap.objs.size := fun b hb => let ⟨_, e⟩ := hwl b hb; Heap.lt_size e
  have wr_X : ∀ b, wr b → ¬ X b := fun b hb hx => by
    obtain ⟨o, e⟩ := ok.live b hx
    have := hwn b hb; rw [e] at this; cases this
  have wr_own : ∀ b, wr b → ¬ Own (compEnvC scope cells H3.objs.size env) b := fun b hb ho => by
    rcases ownC b ho with q | q
    · exact wr_X b hb q
    · exact absurd (Nat.lt_of_lt_of_le (wr_lt b hb) (Nat.le_trans (by rw [hC]; exact Nat.le_succ _) q.1)) (Nat.lt_irrefl _)
  have gS : Grows s { s₂ with heap := H4 } := g₂.tr ⟨H4, s₂.toks, rfl, up⟩
  have newX : ∀ b, X' b → ¬ X b → s.heap.get? b = none := fun b hb hx => by
    rcases hb with (q | rfl | q) | q
    · exact absurd q hx
    · exact g₂.none (new₂ _ (Nat.le_refl _))
    · rcases ownC b q with q | q
      · exact absurd q hx
      · exact g₂.none (new₂ _ (Nat.le_trans (by rw [hC]; exact Nat.le_succ _) q.1))
    · exact hwn b q
  have liveX : ∀ b, X' b → ¬ X b → ∃ o, H4.get? b = some o := fun b hb hx => by
    rcases hb with (q | rfl | q) | q
    · exact absurd q hx
    · exact ⟨_, hD4⟩
    · rcases ownC b q with q | q
      · exact absurd q hx
      · exact q.2
    · obtain ⟨o, e⟩ := hwl b q; exact ⟨o, up _ _ e⟩
  have okE : Ok G X' env ρ { s₂ with heap := H4 } := ok.enter gS (fun b h => .inl (.inl h)) newX liveX
  have okC : Ok G X' (compEnvC scope cells H3.objs.size env) (inner scope ρ) { s₂ with heap := H4 } :=
    { kind := hkind, glob := ok.glob, blt := ok.blt, live := okE.live, own := fun b h => .inl (.inr (.inr h)), ns := ⟨_, hC4⟩
      cell := fun x c e => by
        rcases hlook x c e with q | q
        · obtain ⟨⟨u, o, hu, r⟩, _⟩ := ok.cell x c (hcl1 x c q.1)
          exact ⟨⟨u, o, Grows.at gS hu, r⟩, fun z => by
            have z' : c = H3.objs.size := z
            have := Heap.lt_size (Grows.at g₂ hu)
            rw [z', hC] at this
            exact absurd (Nat.lt_of_succ_lt this) (Nat.lt_irrefl _)⟩
        · refine ⟨⟨_, q.2.1⟩, fun z => ?_⟩
          have z' : c = H3.objs.size := z
          rw [z'] at q
          exact absurd q.1 (Nat.not_succ_le_self _)
      inj := hinj
      base := okE.base
      vars := fun x d e => by
        obtain ⟨hf, e⟩ := lookup_filter (p := isFree scope) e
        have hf' : scope.names.lookup x = some .free := by unfold isFree at hf; split at hf <;> simp_all
        obtain ⟨v, hs, hv⟩ := okE.vars x d e
        refine ⟨v, .inr ⟨?_, ?_⟩, hv⟩
        · have := relabel_lookup (env := env) hf'
          show (relabel scope env).names.lookup x = some .cell ∨ (relabel scope env).names.lookup x = some .free
          have e' : (relabel scope env).names.lookup x = _ := this
          rw [e']
          split
          · exact .inl rfl
          · exact .inr rfl
        · have hcx := hcl2 x (mem_of_lookupK hf')
          rcases hs with ⟨hk, m, hn, hm⟩ | ⟨hk, c, hc, hcell⟩
          · rcases (hfree x (mem_of_lookupK hf')).1 with q | q <;> (rw [hk] at q; cases q)
          · refine ⟨c, ?_, hcell⟩
            show cells.lookup x = some c
            rw [← hcells, cells_old _ _ _ fun z => ?_, hcx, hc]
            have := hnm _ z
            rw [hf'] at this
            cases this }
  have hDC : s₂.heap.objs.size ≠ H3.objs.size := by rw [hC]; exact Nat.ne_of_lt (Nat.lt_succ_self _)
  have hDO : ¬ Own (compEnvC scope cells H3.objs.size env) s₂.heap.objs.size := fun z => by
    rcases ownC _ z with q | q
    · exact hXD q
    · have q1 := q.1
      rw [hC] at q1
      exact absurd q1 (Nat.not_succ_le_self _)
  obtain ⟨St, F, st0⟩ := hfeed X' (fun b h => .inr h) fun b o hb e => by
    rcases hb with (q | rfl | q) | q
    · exact .inl q
    · rw [new₂ _ (Nat.le_refl _)] at e; cases e
    · rcases ownC b q with q | q
      · exact .inl q
      · rw [new₂ b (Nat.le_trans (by rw [hC]; exact Nat.le_succ _) q.1)] at e; cases e
    · exact .inr q
  have loop : codeAny (model prog w) A (.compLoop (.ListComp elt (⟨target, iter, ifs, 0⟩ :: gs) scope pos) 0 (.ref I) (.ref s₂.heap.objs.size) (compEnvC scope cells H3.objs.size env))
      (compPost (model prog w) A E use Q (.ref s₂.heap.objs.size) H3.objs.size) { s₂ with heap := H4 } := by
    have hZ : ∀ b, Z b → X' b ∧ ¬ Own (compEnvC scope cells H3.objs.size env) b ∧ b ≠ s₂.heap.objs.size ∧ ¬ wr b := fun b hb => by
      have hx := (hZX b hb).1
      have hlt := ok₂.lt hx
      refine ⟨.inl (.inl hx), fun z => ?_, Nat.ne_of_lt hlt, fun z => wr_X b z hx⟩
      rcases z with e | ⟨x, e⟩
      · have e' : b = H3.objs.size := e
        rw [e', hC] at hlt
        exact absurd hlt (Nat.not_lt.mpr (Nat.le_succ _))
      · rcases hlook x b e with q | q
        · exact (hZX b hb).2 (.inr ⟨x, hcl1 x b q.1⟩)
        · have q1 := q.1
          rw [hC] at q1
          exact absurd (Nat.lt_of_lt_of_le hlt (Nat.le_add_right _ 2)) (Nat.not_lt.mpr q1)
    refine comp_loopZ hJ (X := X') (X₀ := Xc) (os := []) (W := CW (compEnvC scope cells H3.objs.size env) s.heap) (fun b h => h.1) outs heq F hlen (hstep X' (.inl (.inr (.inl rfl))) hDO fun b hb => ⟨(hZ b hb).1, (hZ b hb).2.1, (hZ b hb).2.2.1⟩) hZ (.inl (.inr (.inl rfl))) (fun z => hDO z.1)
      (fun b hb => ⟨.inr hb, wr_own b hb, Nat.ne_of_lt (wr_lt b hb)⟩) (fun b hb => ⟨.inl hb, fun hw => ?_⟩) (fun b h => .inr (.inr h)) (.inr (.inl rfl)) okC ⟨[], hD4, Nat.zero_le _, trivial⟩ (hJ jj (KeepM.of_keeps (M := fun _ => False) gS) fun _ _ z => z) (st0 _ up)
      (by simpa using hsz) fun s' k ok' acc' j' => ?_
    · rcases hb with q | q | q
      · exact wr_X b hw q
      · exact absurd (q ▸ wr_lt b hw) (Nat.lt_irrefl _)
      · exact wr_own b hw q
    · have g' : KeepM Z s s' := by
        obtain ⟨h', tk, rfl, kk⟩ := k
        obtain ⟨h₂, tk₂, rfl, kk₂⟩ := g₂
        refine ⟨h', tk, rfl, fun b o hb e => kk b o (fun z => ?_) (Grows.at gS e)⟩
        rcases z with (z | z | z) | z
        · have := z.2; rw [e] at this; cases this
        · have := new₂ b (Nat.le_of_eq z.symm)
          rw [kk₂ b o e] at this; cases this
        · have := hwn b z; rw [e] at this; cases this
        · exact hb z
      refine hfin s' _ _ g' j' (fun b hb => ok.live b (hZX b hb).1) hce.loc ok'.ns ?_ hDC
      obtain ⟨vs, e, hz, hv⟩ := acc'
      refine ⟨_, vs.length, vs, rfl, ⟨e, fun z => z.elim hXD hDC⟩, hsz, ?_⟩
      exact hv.mono fun d v q => d.mono (vw_sub fun b o z _ => z.elim .inl fun e => .inr (.inr (.inl e))) q
  exact codeAny_compStart_list loop (wpAny_mono (F.self 0 _ _ (st0 _ up)) (fun v s' q => by obtain ⟨rfl, rfl⟩ := q; exact loop) fun _ _ x => x)
end
end Mine

namespace Mine
open PySem.Calls
open Sem (wp)

/-- a whole number from 0 to 4 -/
def dSz : Den := ⟨fun _ v => ∃ x t, v = .int x t ∧ 0 ≤ x ∧ x ≤ 4, fun _ h => h⟩
theorem sz_ints {g : View} : ∀ {n : Nat} {vs : List Value}, All2 (fun d v => d.is g v) (List.replicate n dSz) vs → ∃ xs : List Int, xs.length = n ∧ (∀ x ∈ xs, 0 ≤ x ∧ x ≤ 4) ∧ All2 (fun d v => d.is g v) (xs.map dInt) vs
  | 0, [], _ => ⟨[], rfl, fun _ h => (by cases h), trivial⟩
  | 0, _ :: _, h => h.elim
  | n + 1, [], h => h.elim
  | n + 1, v :: vs, ⟨⟨x, t, e, h0, h4⟩, hs⟩ => by
    obtain ⟨xs, hl, hb, ha⟩ := sz_ints hs
    refine ⟨x :: xs, by rw [List.length_cons, hl], fun y hy => ?_, ⟨t, e⟩, ha⟩
    rcases List.mem_cons.mp hy with rfl | hy
    · exact ⟨h0, h4⟩
    · exact hb y hy

section
variable {w : World} {G : Heap} {A : Around} {env cenv : Env} {ρ ρ' : Rho} {E : Value → Shared → Prop} {s s' : Shared} {X : Addr → Prop} {mg mb : Str → Option Value} {a : Addr}

theorem supJ : ∀ {M : Addr → Prop} {s s' : Shared}, Sup a s.heap → KeepM M s s' → (∀ b, b = a → ¬ M b) → Sup a s'.heap := fun h k n => h.keepM k (n a rfl)

/-- a call of a name with one argument -/
theorem callArg1 {x : Str} {p pos : Pos} {e : Expr} {fd : Den} {Q : Value → Shared → Prop} (ok : Ok G X env ρ s) (hn : Ev P0 w G A env ρ (.Name x p) fd)
    (h : ∀ s₁ f, Grows s s₁ → Ok G X env ρ s₁ → fd.is (vw X s₁.heap) f → wpAny (model P0 w) A (eval e env) (fun v s₂ => (∃ k, (k = Keeper.frame ∨ k = Keeper.machine ∨ k = Keeper.boundFrame) ∧ Looks (model P0 w) s₂.heap (keeperOf f) k) ∧ wpAny (model P0 w) A (call f [v]) Q E s₂) E s₁)
    (hp : starEach [e] env = [(false, eval e env)] := by rfl) : wpAny (model P0 w) A (eval (.Call (.Name x p) [e] [] pos) env) Q E s := by
  refine wpAny_Call_NameR (hn.use ok fun f s₁ k₁ ok₁ hf => ?_)
  have hplain : ((backTo pos (starEach [e] env)).any (·.1) || ([] : List (Option Str × Sem Value)).any (·.1.isNone)) = false := by
    rw [hp]; rfl
  refine callWith_of (P := fun hh => ∃ k, (k = Keeper.frame ∨ k = Keeper.machine ∨ k = Keeper.boundFrame) ∧ Looks (model P0 w) hh (keeperOf f) k) hplain (fun h hk => hk) ?_
  rw [hp]
  refine Calls.evalArgs_plain (Calls.spliced_cons ?_)
  exact wpAny_mono (h s₁ f k₁ ok₁ hf) (fun v s₂ ⟨hk, hc⟩ => Calls.spliced_nil ⟨hk, hc⟩) fun _ _ x => x

/-- _law_out(supply, e) -/
theorem out_ev {p p2 pos : Pos} {e : Expr} {m : Int} {k : Nat} (T : Tops G mg mb) (hr : Room (k + 1) A) (ok : Ok G X env ρ s) (hk : env.kindOf "_law_out" = some .globalImplicit) (hs : ρ.lookup ("supply" : Str) = some (dVal (.ref a))) (he : Ev P0 w G A env ρ e (dInt m)) (hm0 : 0 < m) (hm1 : m ≤ 1000)
    (hXa : X a) (j : Sup a s.heap) (hp : ∀ env, starEach [.Name "supply" p2, e] env = [.Name "supply" p2, e].map (fun e => (false, eval e env)) := by intro _; rfl) :
    wpAny (model P0 w) A (eval (.Call (.Name "_law_out" p) [.Name "supply" p2, e] [] pos) env) (fun v s' => KeepM (fun b => b = a) s s' ∧ Sup a s'.heap ∧ ∃ r t, v = .int r t ∧ 0 ≤ r ∧ r < m) E s := by
  obtain ⟨f, hf, df⟩ := T.defs 45 "_law_out" (by decide +kernel)
  refine callEv (fd := dDef G f) (ds := [dVal (.ref a), dInt m]) ok (Ev.gdef T.toBase hk hf) ⟨Ev.name hs, he, trivial⟩ (fun g h fv hg ⟨e, hh⟩ => ?_) (fun s₂ fv vs k₂ ok₂ hfv hvs => ?_) hp
  · subst e
    obtain ⟨p, b, sc, _, o, name, qual, kV, doc, pm, an, cdv, ct, ho, hdt, _⟩ := df
    obtain ⟨oc, od, dt, sl⟩ := o
    have hdt' : dt = _ := hdt
    subst hdt'
    exact keeps_F h ⟨oc, od, _, sl, hg _ _ (hh _ ho)⟩
  · obtain ⟨rfl, _⟩ := hfv
    match vs, hvs with
    | [u, v], ⟨hu, hv, _⟩ =>
      have hu' : u = .ref a := hu
      subst hu'
      exact wpAny_mono (out_run T df hr m hm0 hm1 v ok₂.live ok₂.base hXa (j.keeps k₂) hv) (fun r s₃ ⟨k₃, j₃, q⟩ => ⟨(KeepM.of_keeps k₂).trans k₃, j₃, q⟩) fun _ _ x => x
end
end Mine

namespace Mine
open PySem.Calls
open Sem (wp)

theorem comp_first {M : Model} {A : Around} {E : Value → Shared → Prop} {s : Shared} {e : Expr} {scope : Scope} {env : Env} {pos : Pos} {newAcc first : Sem Value} {use : Option (Value → Sem Unit)} {Q : Value → Shared → Prop}
    (h : wpAny M A first (fun x s₁ => wpAny M A (comprehension e scope env pos newAcc false (pure x) use) Q E s₁) E s) : wpAny M A (comprehension e scope env pos newAcc false first use) Q E s := by
  unfold comprehension
  refine wpAny_bind (wpAny_mono h (fun x s₁ h₁ => ?_) fun _ _ x => x)
  unfold comprehension at h₁
  rw [pure_bind] at h₁
  exact h₁

section
variable {w : World} {G : Heap} {A : Around} {env cenv : Env} {ρ ρ' : Rho} {E : Value → Shared → Prop} {s s' : Shared} {X : Addr → Prop} {mg mb : Str → Option Value} {a : Addr}

theorem replicate_map {α : Type} {n : Nat} {ds : List α} (d : Den) (h : ds.length = n) : (ds.map fun _ => [d]).flatten = List.replicate n d := by
  subst h
  induction ds with
  | nil => rfl
  | cons x r ih => rw [List.map_cons, List.flatten_cons, ih]; rfl

/-- tuple([[2, 3, 1, 4, 0, 2][_law_out(supply, 6)] for rank in range(1 + _law_out(supply, 3))]) -/
theorem sizes_ev {p0 p1 p2 p3 p4 p5 p6 p7 p8 p9 p10 p11 p12 p13 p14 p15 p16 p17 p18 p19 p20 p21 p22 p23 : Pos} {k1 k2 k3 k4 k5 k6 k7 k8 k9 : Nat} {scope : Scope} {k : Nat} (T : Tops G mg mb) (hr : Room (k + 1) A) (ok : Ok G X env ρ s)
    (hkt : env.kindOf "tuple" = some .globalImplicit) (hkr : env.kindOf "range" = some .globalImplicit) (hko : env.kindOf "_law_out" = some .globalImplicit) (hs : ρ.lookup ("supply" : Str) = some (dVal (.ref a))) (hXa : X a) (hO : ¬ Own env a) (j : Sup a s.heap)
    (hn : scope.names = ([(".0", .local), ("rank", .local), ("_law_out", .globalImplicit), ("supply", .free)] : List (Str × NameKind))) (hsk : scope.kind = .function) (hsup : Held env "supply") :
    wpAny (model P0 w) A (eval (.Call (.Name "tuple" p0) [.ListComp (.Subscript (.List [.Constant (.int 2) k1 p1, .Constant (.int 3) k2 p2, .Constant (.int 1) k3 p3, .Constant (.int 4) k4 p4, .Constant (.int 0) k5 p5, .Constant (.int 2) k6 p6] p7)
        (.Call (.Name "_law_out" p8) [.Name "supply" p9, .Constant (.int 6) k7 p10] [] p11) p12) [⟨.Name "rank" p13, .Call (.Name "range" p14) [.BinOp (.Constant (.int 1) k8 p15) .Add (.Call (.Name "_law_out" p16) [.Name "supply" p17, .Constant (.int 3) k9 p18] [] p19) p20] [] p21, [], 0⟩] scope p22] [] p23) env)
      (fun v s' => KeepM (fun b => b = a) s s' ∧ Sup a s'.heap ∧ ∃ xs : List Int, 1 ≤ xs.length ∧ xs.length ≤ 3 ∧ (∀ x ∈ xs, 0 ≤ x ∧ x ≤ 4) ∧ (dTup (xs.map dInt)).is (vw X s'.heap) v) E s := by
  have hh : A.handled = none := hr.1
  refine callArg1 ok (Ev.bt T hkt) fun s₁ f k₁ ok₁ hf => ?_
  have hf' : f = .type "tuple" := hf
  subst hf'
  rw [eval_ListComp]
  refine comp_first ?_
  -- range(1 + out)
  have j₁ := j.keeps k₁
  refine callArg1 ok₁ (Ev.bt T hkr) fun s₂ f k₂ ok₂ hf => ?_
  have hf' : f = .type "range" := hf
  subst hf'
  refine wpAny_BinOp (Ev.cint.use ok₂ fun v₃ s₃ k₃ ok₃ hv₃ => ?_)
  refine wpAny_mono (out_ev T hr ok₃ hko hs Ev.cint (by decide) (by decide) hXa ((j₁.keeps k₂).keeps k₃)) (fun v₄ s₄ ⟨k₄, j₄, r, t, e, hr0, hr3⟩ => ?_) fun _ _ x => x
  subst e
  have ok₄ := ok₃.keepM k₄ (fun b e => e ▸ hXa) (fun b hb e => hO (e ▸ hb)) fun b e => e ▸ j₄.live
  obtain ⟨t₃, rfl⟩ := hv₃
  refine wpAny_mono (Bin.add X s₄ _ (.int 1 t₃) (.int r t) ok₄.live ⟨_, rfl⟩ ⟨_, rfl⟩) (fun v₅ s₅ ⟨k₅, hv₅⟩ => ?_) fun _ _ x => x
  refine ⟨keep_val (prog := P0) (w := w) (u := .type "range") (fun a e => by cases e) (vw X s₅.heap) s₅.heap _ (fun a o q => q.1) rfl, ?_⟩
  have ok₅ := ok₄.keeps k₅
  refine wpAny_mono (CallOk.range1 (prog := P0) (w := w) (G := G) (A := A) (b := 1 + r).run X s₅ E (.type "range") [v₅] ok₅.live ok₅.base rfl ⟨hv₅, trivial⟩) (fun v₆ s₆ ⟨k₆, hv₆⟩ => ?_) fun _ _ x => x
  have ok₆ := ok₅.keeps k₆
  have j₆ := (j₄.keeps k₅).keeps k₆
  have hk06 : KeepM (fun b => b = a) s s₆ := (KeepM.of_keeps ((k₁.tr k₂).tr k₃)).trans (k₄.trans (KeepM.of_keeps (k₅.tr k₆)))
  let ds : List Den := (rangeL 0 (1 + r)).map dInt
  have hdl : ds.length = (1 + r).toNat := by show ((rangeL 0 (1 + r)).map dInt).length = _; rw [List.length_map, rangeL, List.length_map, List.length_range]; congr 1; omega
  have hfl : (ds.map fun _ => [dSz]).flatten = List.replicate (1 + r).toNat dSz := replicate_map dSz hdl
  have e1 : scope.names.lookup ("rank" : Str) = some .local := by rw [hn]; rfl
  have e2 : scope.names.lookup ("supply" : Str) = some .free := by rw [hn]; rfl
  have e3 : scope.names.lookup ("_law_out" : Str) = some .globalImplicit := by rw [hn]; rfl
  have hfr : frees scope = (["supply"] : List Str) := by unfold frees; rw [hn]; rfl
  refine comp_coreZ (Z := fun b => b = a) (J := Sup a) supJ (ds := ds) (use := none) (ds.map fun _ => [dSz]) ok₆ j₆ (fun b e => by subst e; exact ⟨hXa, hO⟩) (wpAny_pure (pyIter_rng hh hv₆ (fun _ _ => rfl) (by omega) (by omega))) (by rw [hn]; decide +kernel) (free_of (by rw [hfr]; exact ⟨hsup, trivial⟩)) hsk (by rw [List.length_map])
    (by rw [hfl, List.length_replicate, sizeLine_eq]; omega) (fun h₀ cenv hc I D => ⟨_, _, by rfl, fun X' hXD hWD hZ' i d out hd ho => ?_⟩) ?_ (fun _ => rfl)
  · obtain ⟨y, hy, rfl⟩ := map_get hd
    obtain ⟨_, _, rfl⟩ := map_get ho
    refine ⟨[("rank", dInt y)], AsgnOk.mine hc (.inl e1), fun s E os okc acc jc hz => ?_⟩
    have hXa' : X' a := (hZ' a rfl).1
    have hOa' : ¬ Own cenv a := (hZ' a rfl).2.1
    have haD : a ≠ D := (hZ' a rfl).2.2
    refine wpAny_bind ?_
    refine Subscript_ (Ev.use (Ev.list (ds := [dInt 2, dInt 3, dInt 1, dInt 4, dInt 0, dInt 2]) ⟨Ev.cint, Ev.cint, Ev.cint, Ev.cint, Ev.cint, Ev.cint, trivial⟩ (small2 (by show 6 ≤ 1000; decide))) okc fun v₁ s₁ k₁ ok₁ hv₁ => ?_)
    have hsl : (([("rank", dInt y)] : Rho) ++ inner scope ρ).lookup ("supply" : Str) = some (dVal (.ref a)) := by
      rw [List.cons_append, List.nil_append, lookup_cons_ne (by decide)]
      exact inner_some (by unfold isFree; rw [e2]) hs
    refine wpAny_mono (out_ev T hr ok₁ (hc.kind e3 rfl) hsl Ev.cint (by decide) (by decide) hXa' (jc.keeps k₁)) (fun v₂ s₂ ⟨k₂, j₂, r, t, e, hr0, hr6⟩ => ?_) fun _ _ x => x
    subst e
    have ok₂ := ok₁.keepM k₂ (fun b e => e ▸ hXa') (fun b hb e => hOa' (e ▸ hb)) fun b e => e ▸ j₂.live
    obtain ⟨c, hcx, hc0, hc4⟩ : ∃ c : Int, [dInt 2, dInt 3, dInt 1, dInt 4, dInt 0, dInt 2][r.toNat]? = some (dInt c) ∧ 0 ≤ c ∧ c ≤ 4 := by
      have : r = 0 ∨ r = 1 ∨ r = 2 ∨ r = 3 ∨ r = 4 ∨ r = 5 := by omega
      rcases this with rfl | rfl | rfl | rfl | rfl | rfl
      · exact ⟨2, rfl, by decide, by decide⟩
      · exact ⟨3, rfl, by decide, by decide⟩
      · exact ⟨1, rfl, by decide, by decide⟩
      · exact ⟨4, rfl, by decide, by decide⟩
      · exact ⟨0, rfl, by decide, by decide⟩
      · exact ⟨2, rfl, by decide, by decide⟩
    obtain ⟨⟨Ty, id, hT, hlk⟩, hg⟩ := Itm.lst (prog := P0) (w := w) (A := A) hr0 hcx (small2 (by show 6 ≤ 1000; decide)) X' s₂ E v₁ (.int r t) ok₂.live (Den.keepM _ k₂ (fun b e => e ▸ hXa') hv₁) ⟨t, rfl⟩
    refine tail_any hT hlk (wpAny_mono hg (fun v₃ s₃ ⟨k₃, hv₃⟩ => ?_) fun _ _ x => x) rfl
    have acc₃ := ((acc.keeps k₁).keepM k₂ (fun b e => e ▸ hXa') fun e => haD e.symm).keeps k₃
    have hv₃' : dSz.is (vw X' s₃.heap) v₃ := let ⟨t, e⟩ := hv₃; ⟨c, t, e, hc0, hc4⟩
    refine wpAny_bind (wpAny_mono (acc₃.append hXD hv₃' (by simpa using hz)) (fun u s₄ ⟨_, k₄, acc₄, o, ho⟩ => ?_) fun _ _ x => x)
    have ok₄ := (ok₂.keeps k₃).keepM k₄ (fun b e => e ▸ hXD) (fun b hb e => hWD (e ▸ hb)) fun b e => ⟨o, e ▸ ho⟩
    refine wpAny_pure ⟨(KeepM.of_keeps k₁).trans ((k₂.mono fun b e => .inr (.inr e)).trans ((KeepM.of_keeps k₃).trans (k₄.mono fun b e => .inr (.inl e)))), ok₄.forget (own_names ["rank"] ⟨(by show isFree scope "rank" = false; unfold isFree; rw [e1]), trivial⟩), acc₄, ?_⟩
    exact (j₂.keeps k₃).keepM k₄ haD
  · intro s₇ D C k₇ j₇ hlv hC hns hD hDC
    obtain ⟨m, hnsC⟩ := hns
    refine ⟨m, hnsC, fun h' hs' => ?_⟩
    have hCa : C ≠ a := fun e => by obtain ⟨o, q⟩ := j₆.live; rw [← e, hC] at q; cases q
    have kfin : KeepM (fun b => b = a) s₆ { s₇ with heap := h' } := by
      obtain ⟨h₁, tk, rfl, kk⟩ := k₇
      exact ⟨h', tk, rfl, fun b o hb e => hs'.extBut b o (fun z => by rw [z, hC] at e; cases e) (kk b o hb e)⟩
    have jf : Sup a h' := by
      obtain ⟨i, j', t, t', ⟨o, e, r⟩, q⟩ := j₇
      exact ⟨i, j', t, t', ⟨o, hs'.extBut a o (Ne.symm hCa) e, r⟩, q⟩
    have okf := ok₆.keepM kfin (fun b e => e ▸ hXa) (fun b hb e => hO (e ▸ hb)) fun b e => e ▸ jf.live
    refine ⟨keep_val (prog := P0) (w := w) (u := .type "tuple") (fun a e => by cases e) (vw X h') h' _ (fun a o q => q.1) rfl, ?_⟩
    rw [hfl] at hD
    have hD' : (dLst (List.replicate (1 + r).toNat dSz)).is (vw X h') (.ref D) := (dLst _).mono (fun b o q => ⟨hs'.extBut b o (fun z => q.2 (.inr z)) q.1, fun z => q.2 (.inl z)⟩) hD
    refine wpAny_mono (CallOk.tuple_lst (prog := P0) (w := w) (G := G) (A := A) (ds := List.replicate (1 + r).toNat dSz).run X { s₇ with heap := h' } E (.type "tuple") [.ref D] okf.live okf.base rfl ⟨hD', trivial⟩) (fun v₈ s₈ ⟨k₈, hv₈⟩ => ?_) fun _ _ x => x
    obtain ⟨b, n, vs, e, hb, hz, hvs⟩ := hv₈
    obtain ⟨xs, hxl, hxb, hxs⟩ := sz_ints hvs
    refine ⟨hk06.trans (kfin.trans (KeepM.of_keeps k₈)), (show Sup a ({ s₇ with heap := h' } : Shared).heap from jf).keeps k₈, xs, by rw [hxl]; omega, by rw [hxl]; omega, hxb, b, n, vs, e, hb, ?_, hxs⟩
    rw [List.length_map, hxl, sizeLine_eq]; omega
end
end Mine

namespace Mine
open PySem.Calls
open Sem (wp)

/-- an empty list at an address -/
def dNewAt (tl : Addr) : Den := ⟨fun g v => v = .ref tl ∧ g tl (LCg.lst []), fun k ⟨e, h⟩ => ⟨e, k _ _ h⟩⟩

section
variable {w : World} {G : Heap} {A : Around} {env cenv : Env} {ρ ρ' : Rho} {E : Value → Shared → Prop} {s s' : Shared} {X : Addr → Prop} {mg mb : Str → Option Value} {a : Addr}
  {K : Frag} {CH CT iH iT fput fnew fobj : Addr}

theorem OkD.setS {C fI x dx : Addr} {attrs : List Str} {meths : List (Str × Addr)} {fs : List (Str × Den)} {attr : Str} {p p' pos : Pos} {e : Expr} {d : Den} (c : Cls G K C fI attrs meths) (o : OkD G X env ρ s C x dx fs) (ha : attr ∈ attrs)
    (he : ∀ E, wpAny (model P0 w) A (eval e env) (fun v s' => Grows s s' ∧ d.is (vw X s'.heap) v) E s) (hs : ρ.lookup ("self" : Str) = some (dVal (.ref x))) (hf : fs.lookup attr = none) (hz : fs.length ≤ 100)
    (hsw : swapsWith e (some (.Attribute (.Name "self" p) attr p')) pos.line env = pure false := by rfl) :
    wpAny (model P0 w) A (exec (.Assign [.Attribute (.Name "self" p) attr p'] e pos) env) (fun f s' => f = .next ∧ KeepM (fun b => b = dx) s s' ∧ OkD G X env ρ s' C x dx (fs ++ [(attr, d)])) E s := by
  refine plainObj_wpAny_Assign_Attribute (wpAny_mono (he E) (fun v s₁ ⟨k₁, hv⟩ => (Ev.name (prog := P0) (w := w) (G := G) (A := A) (env := env) (pos := p) hs).use (o.ok.keeps k₁) fun u s₂ k₂ ok₂ hu => ?_) fun _ _ x => x) hsw
  have hu' : u = .ref x := hu
  subst hu'
  have o₂ := (o.keeps k₁).keeps k₂
  obtain ⟨es, n, hdx, hent⟩ := o₂.dct
  have hlen := hent.length
  refine set_raw c ha (fun a ob e => (ok₂.base a ob e).1) ⟨o₂.inst.1, rfl, rfl, hdx⟩ rfl hdx (by rw [hent.getNone hf]; rfl) (by omega) fun h' hsh t hd' hs' => ?_
  have k₃ : KeepM (fun b => b = dx) s₂ { s₂ with heap := h', toks := s₂.toks + 2 } := ⟨h', _, rfl, fun b ob hb e => hs'.extBut b ob hb e⟩
  refine ⟨rfl, (KeepM.of_keeps (k₁.tr k₂)).trans k₃, ok₂.keepM k₃ (fun b e => e ▸ o.xd) (fun b hb e => o.no (e ▸ hb)) (fun b e => ⟨_, e ▸ hd'⟩), o.xd, o.no, ⟨k₃.get (fun e => o₂.inst.2 (e ▸ o.xd)) o₂.inst.1, o₂.inst.2⟩, _, _, hd', ?_⟩
  have up : ∀ a ob, vw X s₂.heap a ob → vw X h' a ob := fun a ob q => ⟨k₃.get (fun e => q.2 (e ▸ o.xd)) q.1, q.2⟩
  exact Ent.put (d.mono up (Den.keeps d k₂ hv)) (hent.mono up) hf

theorem heap_run {k : Nat} (T : Insts G mg mb K CH CT iH iT fput fnew fobj) (hr : Room (k + 2) A) (hX : ∀ b, X b → ∃ o, s.heap.get? b = some o) (hb : ∀ a o, G.get? a = some o → vw X s.heap a o) :
    wpAny (model P0 w) A (call (.ref CH) []) (fun v s' => Grows s s' ∧ ∃ tl, s.heap.get? tl = none ∧ (dObj CH [("things", dNewAt tl)]).is (vw X s'.heap) v) E s := by
  obtain ⟨p, b, sc, e, hd⟩ := T.dH
  cases (show methAt 16 0 = some (_, _, _) from rfl).symm.trans e
  clear e
  refine cls_run (ns := []) (ds := []) (vs := []) T.toBase T.hc hd ⟨fun name qual kV doc pm an cdv ct vs hl => by (match vs, hl with | [_], _ => with_unfolding_all rfl), by decide +kernel, by decide +kernel, by decide +kernel, rfl, rfl, rfl⟩ rfl hr hX hb trivial fun A' env s₁ x dx E' hr' hfe g nx ndx hnone o => ?_
  obtain ⟨L, a, q, c, rfl⟩ := hfe
  have htl : s.heap.get? s₁.heap.objs.size = none := g.none (get_size _)
  refine wpAny_execs_cons (wpAny_mono (o.setS (d := dNewAt s₁.heap.objs.size) T.hc (.head _) (fun E => eval_nil_list ⟨Grows.push, rfl, Heap.get?_push_size _ rfl, fresh_not o.ok.live⟩) rfl rfl (by decide)) (fun f s₂ ⟨e, k₂, o₂⟩ => ?_) fun _ _ x => x)
  subst e
  refine wpAny_execs_nil ⟨rfl, ?_, s₁.heap.objs.size, htl, ?_⟩
  · obtain ⟨h', tk, rfl, kk⟩ := k₂
    obtain ⟨h₁, tk₁, rfl, kk₁⟩ := g
    exact ⟨h', tk, rfl, fun b o e => kk b o (fun z => by rw [z, ndx] at e; cases e) (kk₁ b o e)⟩
  · obtain ⟨es, n, hes, hent⟩ := o₂.dct
    have hsub : ∀ (P : Addr → Prop) a o, vw (fun b => (X b ∨ b = dx) ∨ P b) s₂.heap a o → vw X s₂.heap a o := fun P a o q => ⟨q.1, fun z => q.2 (.inl (.inl z))⟩
    refine ⟨x, dx, es, n, rfl, hsub _ _ _ o₂.inst, ⟨hes, fun z => ?_⟩, hent.mono (hsub _)⟩
    obtain ⟨o', e'⟩ := hX dx z
    rw [ndx] at e'; cases e'

/-- heap = Heap(); array = made(heap, ..) -/
theorem Ret.heap {p1 p2 p3 p4 q1 q2 q3 q4 q5 : Pos} {e₁ e₂ e₃ : Expr} {rest : List Stmt} {d ik : Den} {sizes : List Int} {its : List Den} {k : Nat} (T : Insts G mg mb K CH CT iH iT fput fnew fobj) (hr : Room (k + 4) A)
    (hkH : env.kindOf "Heap" = some .globalImplicit) (hkm : env.kindOf "made" = some .globalImplicit) (hxh : Stores env "heap") (hxa : Stores env "array")
    (he₁ : ∀ tl, Ev P0 w G A env (("heap", dHp CH tl) :: ρ) e₁ ik) (he₂ : ∀ tl, Ev P0 w G A env (("heap", dHp CH tl) :: ρ) e₂ (dTup (sizes.map dInt))) (he₃ : ∀ tl, Ev P0 w G A env (("heap", dHp CH tl) :: ρ) e₃ (dLst its))
    (hs : ∀ x ∈ sizes, 0 ≤ x) (hm : ∀ i x, sizes[i]? = some x → IntMulOk (prodI (sizes.take i)) x) (hp : prodI sizes ≤ 20000) (hl : (its.length : Int) = prodI sizes)
    (h : Ret P0 w G A env (("array", dTup dArr) :: ("heap", dHeap CH (dThg CT (dKind ik sizes.length) its sizes)) :: ρ) [] rest d)
    (hst : ∀ env, starEach [.Name "heap" q3, e₁, e₂, e₃] env = [.Name "heap" q3, e₁, e₂, e₃].map (fun e => (false, eval e env)) := by intro _; rfl) :
    Ret P0 w G A env ρ [] (.Assign [.Name "heap" p1] (.Call (.Name "Heap" p2) [] [] p3) p4 :: .Assign [.Name "array" q1] (.Call (.Name "made" q2) [.Name "heap" q3, e₁, e₂, e₃] [] q4) q5 :: rest) d := fun X ad s E o => by
  have ok := o.plain
  obtain ⟨fm, hfm, dfm⟩ := T.defs 30 "made" (by decide +kernel)
  refine wpAny_execs_cons (wpAny_Assign_Name ?_)
  refine callEv (fd := dBase G (.ref CH)) (ds := []) ok (Ev.gref T.toBase hkH T.gH) trivial (keep_base T.hc.inn T.hc.keep) fun s₁ f vs k₁ ok₁ hf hvs => ?_
  obtain ⟨rfl, _⟩ := hf
  cases vs with
  | cons => exact hvs.elim
  | nil =>
  refine wpAny_mono (heap_run T (hr.mono (j := k + 2 + 2) (by omega)) ok₁.live ok₁.base) (fun v s₂ ⟨k₂, tl, htl, hv⟩ => ?_) fun _ _ x => x
  obtain ⟨x, dx, es, n, rfl, hx, hdx, hent⟩ := hv
  obtain ⟨u, hu, rfl, htl₂⟩ : ∃ u, getL "things" es = some (some u) ∧ u = .ref tl ∧ vw X s₂.heap tl (LCg.lst []) := by
    obtain ⟨u, hu, e, q⟩ := hent.get (x := "things") (d := dNewAt tl) rfl
    exact ⟨u, hu, e, q⟩
  have hxt : x ≠ tl := fun e => by have := hx.1; rw [e, htl₂.1] at this; cases this
  have hdt : dx ≠ tl := fun e => by
    have := hdx.1; rw [e, htl₂.1] at this
    have h := congrArg Obj.cls (Option.some.inj this)
    injection h with h
    exact absurd h (by decide)
  have htl0 : s.heap.get? tl = none := k₁.none htl
  have okX : Ok G (fun b => X b ∨ b = tl) env ρ s₂ := ok.enter (k₁.tr k₂) (fun b h => .inl h) (fun b hb hx => hb.resolve_left hx ▸ htl0) fun b hb hx => ⟨_, hb.resolve_left hx ▸ htl₂.1⟩
  have hOt : ¬ Own env tl := fun z => by obtain ⟨o', e⟩ := ok.live tl (ok.own tl z); rw [htl0] at e; cases e
  have hXt : ¬ X tl := htl₂.2
  have hent' : ∀ {es : List DictEntry}, Ent (vw X s₂.heap) es [("things", dNewAt tl)] → Ent (vw (fun b => X b ∨ b = tl) s₂.heap) es [("things", dVal (.ref tl))] := fun {es} h => by
    match es, h with
    | [e], ⟨a, b, c⟩ => exact ⟨a, b.1, trivial⟩
  have hH : (dHp CH tl).is (vw (fun b => X b ∨ b = tl) s₂.heap) (.ref x) := ⟨x, dx, es, n, rfl, ⟨hx.1, fun z => z.elim hx.2 hxt⟩, ⟨hdx.1, fun z => z.elim hdx.2 hdt⟩, hent' hent⟩
  refine wpAny_mono (okX.store hxh hH) (fun _ s₃ ⟨k₃, ok₃⟩ => ?_) fun _ _ x => x
  have acc₃ : Acc (fun b => X b ∨ b = tl) s₃.heap tl [] := ⟨[], k₃.get (fun z => hOt z.own) htl₂.1, Nat.zero_le _, trivial⟩
  refine wpAny_execs_cons (wpAny_Assign_Name ?_)
  refine callEv (fd := dDef G fm) (ds := [dHp CH tl, ik, dTup (sizes.map dInt), dLst its]) ok₃ (Ev.gdef T.toBase hkm hfm) ⟨Ev.name rfl, he₁ tl, he₂ tl, he₃ tl, trivial⟩ (fun g h fv hg ⟨e, hh⟩ => ?_) (fun s₄ f vs k₄ ok₄ hf hvs => ?_) hst
  · subst e
    obtain ⟨p, b, sc, _, o, name, qual, kV, doc, pm, an, cdv, ct, ho, hdt, _⟩ := dfm
    obtain ⟨oc, od, dt, sl⟩ := o
    have hdt' : dt = _ := hdt
    subst hdt'
    exact keeps_F h ⟨oc, od, _, sl, hg _ _ (hh _ ho)⟩
  obtain ⟨rfl, _⟩ := hf
  refine wpAny_mono ((made_ok T dfm hr ik sizes its hs hm hp hl).run _ s₄ E vs tl ok₄.live ok₄.base (.inr rfl) (acc₃.keeps k₄) hvs) (fun v s₅ ⟨k₅, ⟨o₅, ho₅⟩, hv₅, acc₅⟩ => ?_) fun _ _ x => x
  have ok₅ := ok₄.keepM k₅ (fun b e => .inr e) (fun b hb e => hOt (e ▸ hb)) fun b e => ⟨o₅, e ▸ ho₅⟩
  -- the list is closed
  have ok₆ : Ok G X env (("heap", dHeap CH (dThg CT (dKind ik sizes.length) its sizes)) :: ρ) s₅ := by
    have ok' := ok₅.leave (X₀ := X) (KeepM.refl (M := fun _ => False) s₅) (fun _ h => h.elim) (fun b h => ⟨.inl h, fun z => z⟩) fun b hb => ok.own b hb
    refine { ok' with vars := fun y d hy => ?_ }
    by_cases hyx : y = "heap"
    · subst hyx
      rw [lookup_cons_eq] at hy
      cases hy
      obtain ⟨v, hsit, x', dx', es', n', rfl, hx', hdx', hent₅⟩ := ok₅.vars "heap" (dHp CH tl) rfl
      refine ⟨_, hsit, x', dx', es', n', rfl, ⟨hx'.1, fun z => hx'.2 (.inl z)⟩, ⟨hdx'.1, fun z => hdx'.2 (.inl z)⟩, ?_⟩
      obtain ⟨us, eu, hz, hus⟩ := acc₅
      match es', hent₅ with
      | [e], ⟨a, b, c⟩ =>
        have hb : e.val = .ref tl := b
        refine ⟨a, ⟨tl, us.length, us, hb, ⟨eu, hXt⟩, hz, hus.mono fun d v q => d.mono (fun a o r => ⟨r.1, fun z => r.2 (.inl z)⟩) q⟩, trivial⟩
    · rw [lookup_cons_ne hyx] at hy
      exact ok'.vars y d (by rw [lookup_cons_ne hyx]; exact hy)
  have hv₆ : (dTup dArr).is (vw X s₅.heap) v := (dTup dArr).mono (fun a o r => ⟨r.1, fun z => r.2 (.inl z)⟩) hv₅
  refine wpAny_mono (ok₆.store hxa hv₆) (fun _ s₇ ⟨k₇, ok₇⟩ => ?_) fun _ _ x => x
  refine wpAny_mono (h X ad s₇ E (OkA.of ok₇)) (fun f s₈ ⟨v, e, k₈, hv₈⟩ => ⟨v, e, ?_, hv₈⟩) fun _ _ x => x
  have kk := (KeepM.of_keeps (M := fun b => MA env ad [] b ∨ b = tl) (k₁.tr k₂)).trans ((k₃.mono fun b h => .inl (.inl h.own)).trans ((KeepM.of_keeps k₄).trans ((k₅.mono fun b h => .inr h).trans ((k₇.mono fun b h => .inl (.inl h.own)).trans (k₈.mono fun b h => .inl h)))))
  obtain ⟨h', tk, rfl, kk⟩ := kk
  exact ⟨h', tk, rfl, fun b o hb e => kk b o (fun z => z.elim hb fun z => by rw [z, htl0] at e; cases e) e⟩
end
end Mine

namespace Mine
open PySem.Calls
open Sem (wp)

/-- the words: one letter each -/
def chrW (i : Int) : Str := ⟨#[(97 + i.fmod 26).toNat]⟩
def wordsF (n : Nat) : List Str := (rangeL 0 n).map chrW
theorem fmod26 (i : Int) : 0 ≤ i.fmod 26 ∧ i.fmod 26 < 26 := ⟨Int.fmod_nonneg_of_pos _ (by decide), Int.fmod_lt_of_pos _ (by decide)⟩
theorem words_length (n : Nat) : (wordsF n).length = n := by simp [wordsF, rangeL]
theorem words_ok {n : Nat} {x : Str} (h : x ∈ wordsF n) : x.length ≤ 1 ∧ PyData.strOk x = true := by
  obtain ⟨i, _, rfl⟩ := List.mem_map.mp h
  refine ⟨Nat.le_refl _, ?_⟩
  have := fmod26 i
  unfold PyData.strOk chrW
  simp
  omega
theorem words_get {n i : Nat} {x : Str} (h : (wordsF n)[i]? = some x) : x = chrW i := by
  unfold wordsF rangeL at h
  rw [List.getElem?_map, List.getElem?_map] at h
  have hl : i < ((n : Int) - 0).toNat := by
    rcases Nat.lt_or_ge i ((n : Int) - 0).toNat with q | q
    · exact q
    · rw [List.getElem?_eq_none (by rw [List.length_range]; exact q)] at h; cases h
  rw [List.getElem?_range hl] at h
  simp only [Option.map_some, Option.some.injEq, Int.zero_add] at h
  exact h.symm

/-- all that is finite: the sizes drawn, a rank -/
structure Fine (sizes : List Int) (rank : Nat) : Prop where
  rk : rank < sizes.length
  sz : Sz sizes
  sz' : Sz (lessF sizes rank)
  pz : Pz sizes
  places : ∀ i ≤ sizes.length, (placesF sizes rank i).length ≤ 1000
  along : alongF sizes rank = linesF sizes rank
  inl : ∀ l ∈ linesF sizes rank, l.length ≤ 100 ∧ ∀ p ∈ l, 0 ≤ p ∧ p.toNat < (rowsF sizes).length
  lines : (linesF sizes rank).length ≤ 1000
  rows : (rowsF sizes).length ≤ 100
  prod : ((rowsF sizes).length : Int) = prodI sizes
  chosen : ∀ i ≤ sizes.length, (chosenF sizes rank i).length ≤ 1000
  wide : ∀ i ≤ sizes.length, ∀ ps ∈ chosenF sizes rank i, ps.length = i
  parts : ∀ ps ∈ chosenF sizes rank sizes.length, PartsOk sizes ps
  views : ∀ ps ∈ chosenF sizes rank sizes.length, Vz (vKept ps sizes sizes.length) (vKept ps (stridesI 1 sizes) sizes.length) ∧
    ∀ i ≤ (vKept ps sizes sizes.length).length, (placesV (vPlace ps (stridesI 1 sizes) sizes.length) (vKept ps sizes sizes.length) (vKept ps (stridesI 1 sizes) sizes.length) i).length ≤ 1000
  seen : (chosenF sizes rank sizes.length).map (fun ps => placesV (vPlace ps (stridesI 1 sizes) sizes.length) (vKept ps sizes sizes.length) (vKept ps (stridesI 1 sizes) sizes.length) (vKept ps sizes sizes.length).length) = linesF sizes rank
  less : lessF sizes rank = sizes.take rank ++ [1] ++ sizes.drop (rank + 1)

theorem along32 : alongF [3, 2] 0 = [[0, 1, 2], [3, 4, 5]] := by decide +kernel
theorem pz_of {sizes : List Int} (h1 : sizes.length ≤ 100) (h2 : ∀ x ∈ sizes, 0 ≤ x ∧ x ≤ 1000) (h3 : ∀ x ∈ sizes, Builtin.Int.intBits x ≤ 64) (h4 : ∀ x ∈ stridesI 1 sizes, Builtin.Int.intBits x ≤ 64) : Pz sizes :=
  ⟨h1, h2, fun i x h => IntMulOk.of_right (h3 x (List.mem_of_getElem? h)), fun x hx y => IntMulOk.of_left (h4 x hx)⟩
theorem pz32 : Pz [3, 2] := pz_of (by decide) (by decide) (by decide +kernel) (by decide +kernel)

theorem rd_lines (ls : List (List Int)) : RD (dLst (ls.map fun l => dLst (l.map dInt))) (.list (ls.map fun l => .list (l.map .int))) := RD.lst (rd_map (fun l => RD.lst (rd_map (fun _ => RD.int) l)) ls)
theorem lay_lines (ls : List (List Int)) : Lay 2 (.list (ls.map fun l => .list (l.map .int))) := Lay.list fun p hp => by
  obtain ⟨l, _, rfl⟩ := List.mem_map.mp hp
  exact Lay.list fun q hq => by
    obtain ⟨i, _, rfl⟩ := List.mem_map.mp hq
    exact Lay.int
theorem refl_lines (ls : List (List Int)) : PyData.eqv (.list (ls.map fun l => .list (l.map .int))) (.list (ls.map fun l => .list (l.map .int))) = true := eqv_list fun p hp => by
  obtain ⟨l, _, rfl⟩ := List.mem_map.mp hp
  exact eqv_list fun q hq => by
    obtain ⟨i, _, rfl⟩ := List.mem_map.mp hq
    exact eqv_int i
theorem refl_opt (o : Option Str) : PyData.eqv (pOpt o) (pOpt o) = true := by
  cases o with
  | none => exact eqv_none
  | some x => exact eqv_str x
theorem rd_opts (os : List (Option Str)) : RD (dLst (os.map dOpt)) (.list (os.map pOpt)) := RD.lst (rd_map rd_opt os)
theorem refl_opts (os : List (Option Str)) : PyData.eqv (.list (os.map pOpt)) (.list (os.map pOpt)) = true := eqv_list fun p hp => by
  obtain ⟨l, _, rfl⟩ := List.mem_map.mp hp
  exact refl_opt l
theorem lay_opt {o : Option Str} (h : ∀ x, o = some x → PyData.strOk x = true) : Lay 0 (pOpt o) := by
  cases o with
  | none => exact Lay.none
  | some x => exact Lay.str (h x rfl)
theorem lay_opts {os : List (Option Str)} (h : ∀ x, some x ∈ os → PyData.strOk x = true) : Lay 1 (.list (os.map pOpt)) := Lay.list fun p hp => by
  obtain ⟨l, hl, rfl⟩ := List.mem_map.mp hp
  exact lay_opt fun x e => h x (e ▸ hl)
theorem refl_strs (ws : List Str) : PyData.eqv (.list (ws.map .str)) (.list (ws.map .str)) = true := eqv_list fun p hp => by
  obtain ⟨l, _, rfl⟩ := List.mem_map.mp hp
  exact eqv_str l
theorem rd_texts (ls : List (List Str)) : RD (dLst (ls.map dWs)) (.list (ls.map fun l => .list (l.map .str))) := RD.lst (rd_map (fun l => rd_strs l) ls)
theorem lay_texts {ls : List (List Str)} (h : ∀ l ∈ ls, ∀ x ∈ l, PyData.strOk x = true) : Lay 2 (.list (ls.map fun l => .list (l.map .str))) := Lay.list fun p hp => by
  obtain ⟨l, hl, rfl⟩ := List.mem_map.mp hp
  exact lay_strs (h l hl)
theorem refl_texts (ls : List (List Str)) : PyData.eqv (.list (ls.map fun l => .list (l.map .str))) (.list (ls.map fun l => .list (l.map .str))) = true := eqv_list fun p hp => by
  obtain ⟨l, _, rfl⟩ := List.mem_map.mp hp
  exact refl_strs l

/-- a way that keeps texts plain -/
def Keeps (wf : Str → Str → Str) : Prop := ∀ a b, PyData.strOk a = true → PyData.strOk b = true → PyData.strOk (wf a b) = true
theorem foldl_ok {wf : Str → Str → Str} (hk : Keeps wf) : ∀ (ws : List Str) (a : Str), PyData.strOk a = true → (∀ x ∈ ws, PyData.strOk x = true) → PyData.strOk (ws.foldl wf a) = true
  | [], a, h, _ => h
  | x :: r, a, h, hs => foldl_ok hk r (wf a x) (hk a x h (hs x (.head _))) fun y hy => hs y (.tail _ hy)
theorem foldW_ok {wf : Str → Str → Str} (hk : Keeps wf) {start : Option Str} {ws : List Str} {r : Str} (hs : ∀ x, start = some x → PyData.strOk x = true) (h : ∀ x ∈ ws, PyData.strOk x = true) (e : foldW wf start ws = some r) : PyData.strOk r = true := by
  rw [foldW_list] at e
  cases start with
  | some a =>
    have e' : some (ws.foldl wf a) = some r := e
    cases e'
    exact foldl_ok hk ws a (hs a rfl) h
  | none =>
    cases ws with
    | nil => cases e
    | cons x q =>
      have e' : some (q.foldl wf x) = some r := e
      cases e'
      exact foldl_ok hk q x (h x (.head _)) fun y hy => h y (.tail _ hy)
theorem strOk_app {a b : Str} (ha : PyData.strOk a = true) (hb : PyData.strOk b = true) : PyData.strOk (a ++ b) = true := by
  unfold PyData.strOk at *
  have : (a ++ b).cps = a.cps ++ b.cps := rfl
  rw [this, Array.all_append, ha, hb]; rfl
theorem strOk_slice {a : Str} (ha : PyData.strOk a = true) (l u : Option Int) : PyData.strOk (Txt.slice a l u) = true := by
  show PyData.strOk (StrLaws.sliceText a l u) = true
  unfold StrLaws.sliceText
  split
  · exact ha
  · unfold PyData.strOk at *
    rw [← Array.all_toList] at ha ⊢
    rw [List.all_eq_true] at ha ⊢
    intro x hx
    have hx' : x ∈ List.filterMap (fun x => a.cps[x]?) (Builtin.Str.strSliceIndices l u 1 a.length) := by simpa using hx
    obtain ⟨i, _, hi⟩ := List.mem_filterMap.mp hx'
    exact ha x (by rw [← Array.getElem?_toList] at hi; exact List.mem_of_getElem? hi)
theorem keeps_of : ∀ i, Keeps (wfOf i)
  | 0, a, b, ha, hb => strOk_app ha hb
  | 1, a, b, ha, hb => strOk_app hb ha
  | 2, a, b, ha, hb => strOk_slice (strOk_app ha hb) _ _
  | n + 3, a, b, ha, hb => strOk_app (strOk_app (strOk_app ha (by decide +kernel)) hb) (by decide +kernel)

section
variable {prog : Program} {w : World} {G : Heap} {A : Around} {env : Env} {ρ : Rho}
theorem Ev.and2 {x y : Expr} {pos : Pos} {b c : Bool} (h : Ev prog w G A env ρ x (dBool b)) (h' : b = true → Ev prog w G A env ρ y (dBool c)) : Ev prog w G A env ρ (.BoolOp .And [x, y] pos) (dBool (b && c)) := fun X s E ok => by
  refine BoolOp_and (h.use ok fun v s₁ k₁ ok₁ hv => ?_)
  have hv' : v = .bool b := hv
  subst hv'
  refine wpAny_truthy_bool ?_
  cases b with
  | true => exact BoolOp_one ((h' rfl).use ok₁ fun v s₂ k₂ _ hv => ⟨k₁.tr k₂, hv⟩)
  | false => exact ⟨k₁, rfl⟩
end
end Mine

namespace Mine
open PySem.Calls
open Sem (wp)

def ikD : Den := dTup [dStr "name", dStr "Char", dTup []]
def itsD (n : Nat) : List Den := (rangeL 0 n).map fun i => dTup [dStr "char", dInt (97 + i.fmod 26)]
theorem itsD_length (n : Nat) : (itsD n).length = n := by simp [itsD, rangeL]

section
variable {w : World} {G : Heap} {A : Around} {env : Env} {mg mb : Str → Option Value} {K : Frag} {CH CT iH iT fput fnew fobj : Addr}

set_option maxHeartbeats 2000000 in
theorem law_tail {p : Arguments} {b : List Stmt} {sc : Scope} {k : Nat} (e : defAt 50 = some (p, b, sc)) (hfe : FEnv sc env) (T : Insts G mg mb K CH CT iH iT fput fnew fobj) (hr : Room (k + 20) A) (sizes : List Int) (rank : Nat) (hF : Fine sizes rank) (i : Nat) (hi : i < 4) (start : Option Str) (hst : start = none ∨ start = some ("s" : Str)) :
    Ret P0 w G A env [("start", dOpt start), ("way", dWay i), ("rank", dInt rank), ("sizes", dTup (sizes.map dInt))] [] (b.drop 5) (dBool true) := by
  cases (show defAt 50 = some (_, _, _) from rfl).symm.trans e
  clear e
  obtain ⟨L, a, q, c, rfl⟩ := hfe
  have hh := hr.1
  have hu := hr.units
  have W : WayOk w G (dWay i) (wfOf i) := way_ok T.toBase i hi
  have hstl : ∀ x, start = some x → x.length ≤ 1 ∧ PyData.strOk x = true := fun x hx => by
    rcases hst with h | h
    · rw [h] at hx; cases hx
    · rw [h] at hx; cases hx; exact ⟨Nat.le_refl _, by decide +kernel⟩
  obtain ⟨frw, hfrw, drw⟩ := T.defs 47 "_law_rows" (by decide +kernel)
  obtain ⟨fln, hfln, dln⟩ := T.defs 49 "_law_lines" (by decide +kernel)
  obtain ⟨fal, hfal, dal⟩ := T.defs 33 "along" (by decide +kernel)
  obtain ⟨ffl, hffl, dfl⟩ := T.defs 48 "_law_from_left" (by decide +kernel)
  obtain ⟨frd, hfrd, drd⟩ := T.defs 35 "reduced" (by decide +kernel)
  obtain ⟨ffo, hffo, dfo⟩ := T.defs 32 "folded" (by decide +kernel)
  obtain ⟨fru, hfru, dru⟩ := T.defs 36 "running" (by decide +kernel)
  obtain ⟨flv, hflv, dlv⟩ := T.defs 42 "line_views" (by decide +kernel)
  obtain ⟨fit, hfit, dit⟩ := T.defs 29 "items_of" (by decide +kernel)
  obtain ⟨fwr, hfwr, dwr⟩ := T.defs 34 "without_rank" (by decide +kernel)
  have hsl := hF.sz.len
  have hrow : ∀ {A : Around} {k : Nat}, Room (k + 1) A → CallOk P0 w G A (dDef G frw) [dTup (sizes.map dInt)] (dRows (rowsF sizes)) := fun hr => rows_ok T.toTops drw hr sizes hF.sz.val hF.sz.len hF.sz.rows (fun _ _ => trivial) (fun i hi r hr => by rw [hF.sz.wide i hi r hr]; exact Nat.le_trans hi hF.sz.len)
  generalize hn : (rowsF sizes).length = n at *
  have hn100 : n ≤ 100 := hn ▸ hF.rows
  let ws := wordsF n
  have hwl : ws.length = n := words_length n
  have hw : ∀ x ∈ ws, x.length ≤ 1 ∧ PyData.strOk x = true := fun x hx => words_ok hx
  -- words
  refine Ret.cons (Step.assign (d := dWs ws) (.inr ⟨rfl, rfl⟩) ?_) ?_ (fun _ => Iff.rfl)
  · refine Ev.comp1 ⟨EvIt.rng hh (Ev.call (CallOk.range1 (b := n)) (Ev.bt T.toTops rfl) ⟨Ev.cast (Ev.call (CallOk.len_lst (ds := (rowsF sizes).map dRow)) (Ev.bf T.toTops rfl) ⟨Ev.call (hrow (hr.mono (j := 0 + 1) (by omega))) (Ev.gdef T.toBase rfl hfrw) ⟨Ev.name rfl, trivial⟩, trivial⟩) (by rw [List.length_map, hn]), trivial⟩) (by omega) (by omega), by decide +kernel, free_of trivial, rfl, by simp [ws, wordsF], by rw [List.length_map, hwl]; exact small2 (by omega), fun h₀ cenv hc j d o hd ho => ?_, fun _ => rfl⟩
    obtain ⟨y, hy, rfl⟩ := map_get hd
    obtain ⟨x, hx, rfl⟩ := map_get ho
    have hx' : x = chrW y := by
      have hx2 : ((rangeL 0 n).map chrW)[j]? = some x := hx
      rw [List.getElem?_map, hy] at hx2
      exact (Option.some.inj hx2).symm
    subst hx'
    have hf := fmod26 y
    refine ⟨[("place", dInt y)], AsgnOk.mine hc (.inl rfl), own_names ["place"] ⟨rfl, trivial⟩, ?_⟩
    exact Ev.call (CallOk.chr (i := 97 + y.fmod 26) (by omega) (by omega)) (Ev.bf T.toTops (hc.kind rfl rfl)) ⟨Ev.bin Ev.cint (Ev.bin (Ev.name rfl) Ev.cint (Bin.mod (by decide))) Bin.add, trivial⟩
  -- lines
  let ls := linesF sizes rank
  refine Ret.cons (Step.assign (d := dLst (ls.map fun l => dLst (l.map dInt))) (.inl rfl) (Ev.call (lines_ok T.toTops dln (hr.mono (j := 0 + 2) (by omega)) sizes rank hF.sz hF.sz' hF.rk) (Ev.gdef T.toBase rfl hfln) ⟨Ev.name rfl, Ev.name rfl, trivial⟩)) ?_ (fun _ => Iff.rfl)
  have halong : ∀ {A : Around} {k : Nat}, Room (k + 2) A → CallOk P0 w G A (dDef G fal) [dTup (sizes.map dInt), dInt rank] (dLst (ls.map fun l => dLst (l.map dInt))) := fun hr => by
    have := along_ok (w := w) T.toTops dal hr sizes rank hF.pz hF.rk hF.places
    rw [hF.along] at this
    exact this
  refine Ret.ifT (b := false) (Tr.cast (by rw [refl_lines]; rfl) (Tr.cmp (Ev.call (halong (hr.mono (j := 0 + 2) (by omega))) (Ev.gdef T.toBase rfl hfal) ⟨Ev.name rfl, Ev.name rfl, trivial⟩) (Ev.name rfl) (Cmp.neD (rd_lines ls) (rd_lines ls) (lay_lines ls) (lay_lines ls) hu))) (fun h => nomatch h) fun _ => ?_
  have hin : ∀ l ∈ ls, l.length ≤ 100 ∧ ∀ p ∈ l, 0 ≤ p ∧ p.toNat < ws.length := fun l hl => by rw [hwl, ← hn]; exact hF.inl l hl
  have hlc := hF.lines
  -- due
  let os := redF (wfOf i) ws ls start
  refine Ret.cons (Step.assign_comp1 (outs := os.map dOpt) ⟨EvIt.lst hh (Ev.name (d := dLst (ls.map fun l => dLst (l.map dInt))) rfl), by decide +kernel, free_of ⟨⟨.inl rfl, rfl⟩, ⟨.inl rfl, rfl⟩, ⟨.inl rfl, rfl⟩, trivial⟩, rfl, by simp [os, redF], by rw [List.length_map]; show (redF _ _ _ _).length ≤ _; rw [redF, List.length_map]; exact small2 hlc, fun h₀ cenv hc j d o hd ho => ?_, fun _ => rfl⟩ (.inl rfl)) ?_ (fun _ => Iff.rfl)
  · obtain ⟨l, hl, rfl⟩ := map_get hd
    obtain ⟨o', ho', rfl⟩ := map_get ho
    have ho2 : (ls.map fun l => foldW (wfOf i) start (pickS ws l))[j]? = some o' := ho'
    obtain ⟨l', hl', rfl⟩ := map_get ho2
    rw [hl] at hl'; cases hl'
    obtain ⟨hl1, hl2⟩ := hin l (List.mem_of_getElem? hl)
    refine ⟨[("line", dLst (l.map dInt))], AsgnOk.mine hc (.inl rfl), own_names ["line"] ⟨rfl, trivial⟩, ?_⟩
    exact Ev.call (from_left_ok T.toTops dfl (hr.mono (j := 0 + 2) (by omega)) W (pickS ws l) start hstl (fun x hx => hw x (pick_mem hl2 x hx)) (by unfold pickS; rw [List.length_map]; exact hl1)) (Ev.gdef T.toBase (hc.kind rfl rfl) hffl)
      ⟨pick_ev hh rfl rfl hl2 (Nat.le_trans hl1 (by decide)) (by rw [hwl]; omega) rfl rfl rfl (by decide +kernel) rfl (hc.hold rfl) (by decide) (by decide) (by decide), Ev.name rfl, Ev.name rfl, trivial⟩
  have hos : ∀ x, some x ∈ os → PyData.strOk x = true := fun x hx => by
    obtain ⟨l, hl, e⟩ := List.mem_map.mp hx
    obtain ⟨_, hl2⟩ := hin l hl
    exact foldW_ok (keeps_of i) (fun x h => (hstl x h).2) (fun y hy => (hw y (pick_mem hl2 y hy)).2) e
  have hfw : ∀ x, foldW (wfOf i) start ws = some x → PyData.strOk x = true := fun x e => foldW_ok (keeps_of i) (fun x h => (hstl x h).2) (fun y hy => (hw y hy).2) e
  have hred : CallOk P0 w G A (dDef G frd) [dWs ws, dTup (sizes.map dInt), dInt rank, dOpt start, dWay i] (dLst (os.map dOpt)) := by
    have := reduced_ok (w := w) T.toTops drd (hr.mono (j := 0 + 3) (by omega)) W ws start (fun x h => (hstl x h).1) (fun x h => (hw x h).1) (by rw [hwl]; exact hn100) sizes rank hF.pz hF.rk hF.places (by rw [hF.along]; exact hin)
    rw [hF.along] at this
    exact this
  refine Ret.ifT (b := false) (Tr.cast (b := (!PyData.eqv (.list (os.map pOpt)) (.list (os.map pOpt))) || (!PyData.eqv (pOpt (foldW (wfOf i) start ws)) (pOpt (foldW (wfOf i) start ws)))) (by rw [refl_opts, refl_opt]; rfl)
    (Tr.or2 (Tr.cmp (Ev.call hred (Ev.gdef T.toBase rfl hfrd) ⟨Ev.name rfl, Ev.name rfl, Ev.name rfl, Ev.name rfl, Ev.name rfl, trivial⟩) (Ev.name rfl) (Cmp.neD (rd_opts os) (rd_opts os) (lay_opts hos) (lay_opts hos) hu))
      fun _ => Tr.cmp (Ev.call (folded_ok T.toTops dfo (hr.mono (j := 0 + 2) (by omega)) W ws start (fun x h => (hstl x h).1) (fun x h => (hw x h).1) (by rw [hwl]; exact hn100)) (Ev.gdef T.toBase rfl hffo) ⟨Ev.name rfl, Ev.name rfl, Ev.name rfl, trivial⟩)
        (Ev.call (from_left_ok T.toTops dfl (hr.mono (j := 0 + 2) (by omega)) W ws start hstl hw (by rw [hwl]; exact hn100)) (Ev.gdef T.toBase rfl hffl) ⟨Ev.name rfl, Ev.name rfl, Ev.name rfl, trivial⟩) (Cmp.neD (rd_opt _) (rd_opt _) (lay_opt hfw) (lay_opt hfw) hu))) (fun h => nomatch h) fun _ => ?_
  -- running
  let rs := runF (wfOf i) ws
  have hrl : rs.length = n := by show (runF _ ws).length = n; rw [runF, List.length_map, List.length_range, hwl]
  have hro : ∀ x ∈ rs, PyData.strOk x = true := fun x hx => by
    obtain ⟨m, hm⟩ := List.mem_iff_getElem?.mp hx
    have hml : m < ws.length := by rw [hwl, ← hrl]; exact (List.getElem?_eq_some_iff.mp hm).1
    have hg := runF_get (wf := wfOf i) (List.getElem?_eq_getElem hml)
    have e : x = _ := Option.some.inj (hm.symm.trans hg)
    exact foldW_ok (keeps_of i) (start := none) (ws := ws.take (m + 1)) (fun _ h => nomatch h) (fun y hy => (hw y (List.mem_of_mem_take hy)).2) (by rw [foldW_take (List.getElem?_eq_getElem hml), e])
  refine Ret.ifT (b := false) (Tr.cast (by rw [refl_strs]; rfl) (Tr.cmp (Ev.call (running_ok T.toTops dru (hr.mono (j := 0 + 2) (by omega)) W ws (fun x h => (hw x h).1) (by rw [hwl]; exact hn100) hro) (Ev.gdef T.toBase rfl hfru) ⟨Ev.name rfl, Ev.name rfl, trivial⟩)
    (Ev.comp1 (outs := rs.map dStr) ⟨EvIt.rng (a := 0) (b := n) hh (Ev.call CallOk.range1 (Ev.bt T.toTops rfl) ⟨Ev.cast (Ev.call (CallOk.len_lst (ds := ws.map dStr)) (Ev.bf T.toTops rfl) ⟨Ev.name rfl, trivial⟩) (by rw [List.length_map, hwl]), trivial⟩) (by omega) (by omega), by decide +kernel, free_of ⟨⟨.inl rfl, rfl⟩, ⟨.inl rfl, rfl⟩, trivial⟩, rfl, by rw [List.length_map, List.length_map, hrl]; simp [rangeL], by rw [List.length_map, hrl]; exact small2 (by omega), fun h₀ cenv hc j d o hd ho => ?_, fun _ => rfl⟩)
    (Cmp.neD (rd_strs rs) (rd_strs rs) (lay_strs hro) (lay_strs hro) hu))) (fun h => nomatch h) fun _ => ?_
  · obtain ⟨y, hy, rfl⟩ := map_get hd
    obtain ⟨x, hx, rfl⟩ := map_get ho
    have hjl : j < ws.length := by rw [hwl, ← hrl]; exact (List.getElem?_eq_some_iff.mp hx).1
    have hyj : y = (j : Int) := by
      unfold rangeL at hy
      rw [List.getElem?_map, List.getElem?_range (by omega)] at hy
      simp only [Option.map_some, Option.some.injEq, Int.zero_add] at hy
      exact hy.symm
    subst hyj
    have hg := runF_get (wf := wfOf i) (List.getElem?_eq_getElem hjl)
    have e : x = _ := Option.some.inj (hx.symm.trans hg)
    have hfe : dStr x = dOpt (foldW (wfOf i) none (ws.take (j + 1))) := by rw [foldW_take (List.getElem?_eq_getElem hjl), e]; rfl
    refine ⟨[("many", dInt j)], AsgnOk.mine hc (.inl rfl), own_names ["many"] ⟨rfl, trivial⟩, ?_⟩
    rw [hfe]
    refine Ev.call (from_left_ok T.toTops dfl (hr.mono (j := 0 + 2) (by omega)) W (ws.take (j + 1)) none (fun _ h => nomatch h) (fun y hy => hw y (List.mem_of_mem_take hy)) (by rw [List.length_take]; omega)) (Ev.gdef T.toBase (hc.kind rfl rfl) hffl) ⟨?_, Ev.cnone, Ev.name rfl, trivial⟩
    exact Ev.cast (Ev.sub (Ev.name (d := dWs ws) rfl) (Ev.slice (lo := none) (hi := some ((j + 1 : Nat) : Int)) trivial (Ev.cast (Ev.bin (Ev.name (d := dInt j) rfl) Ev.cint Bin.add) (by rfl))) (Itm.lstUpto (k := j + 1) rfl (small2 (by rw [List.length_map, hwl]; omega)))) (by unfold dWs; rw [List.map_take])
  -- heap, array
  have hits := itsD_length n
  refine Ret.heap (ik := ikD) (sizes := sizes) (its := itsD n) T (hr.mono (j := 0 + 4) (by omega)) rfl rfl (.inr ⟨rfl, rfl⟩) (.inl rfl) (fun tl => Ev.tuple ⟨Ev.cstr, Ev.cstr, Ev.tuple (ds := []) trivial (Nat.zero_le _), trivial⟩ (small2 (by show 3 ≤ 1000; decide))) (fun tl => Ev.name rfl) (fun tl => ?_)
    (fun x hx => (hF.pz.val x hx).1) hF.pz.mul (by rw [← hF.prod, hn]; omega) (by rw [hits, ← hF.prod, hn]) ?_
  · refine Ev.comp1 ⟨EvIt.lst hh (Ev.name (d := dWs ws) rfl), by decide +kernel, free_of trivial, rfl, by rw [hits, List.length_map, hwl], by rw [hits]; exact small2 (by omega), fun h₀ cenv hc j d o hd ho => ?_, fun _ => rfl⟩
    obtain ⟨x, hx, rfl⟩ := map_get hd
    unfold itsD at ho
    obtain ⟨y, hy, rfl⟩ := map_get ho
    have hx' : x = chrW y := by
      have hx2 : ((rangeL 0 n).map chrW)[j]? = some x := hx
      rw [List.getElem?_map, hy] at hx2
      exact (Option.some.inj hx2).symm
    subst hx'
    have hf := fmod26 y
    refine ⟨[("word", dStr (chrW y))], AsgnOk.mine hc (.inl rfl), own_names ["word"] ⟨rfl, trivial⟩, ?_⟩
    exact Ev.tuple ⟨Ev.cstr, Ev.cast (Ev.call (CallOk.ord (c := (97 + y.fmod 26).toNat)) (Ev.bf T.toTops (hc.kind rfl rfl)) ⟨Ev.name rfl, trivial⟩) (by rw [Int.toNat_of_nonneg (by omega)]), trivial⟩ (small2 (by show 2 ≤ 1000; decide))
  -- seen
  let txt := ls.map fun l => pickS ws l
  have htl : txt.length = ls.length := by show (ls.map _).length = _; rw [List.length_map]
  have hcl : (chosenF sizes rank sizes.length).length = ls.length := by have := congrArg List.length hF.seen; rwa [List.length_map] at this
  have hits_get : ∀ q : Int, 0 ≤ q → q.toNat < n → (itsD n).getD q.toNat dNone = dTup [dStr "char", dInt (97 + ((q.toNat : Nat) : Int).fmod 26)] ∧ ws.getD q.toNat ⟨#[]⟩ = chrW ((q.toNat : Nat) : Int) := fun q h0 h1 => by
    have hr0 : (rangeL 0 n)[q.toNat]? = some ((q.toNat : Nat) : Int) := by
      unfold rangeL
      rw [List.getElem?_map, List.getElem?_range (by omega)]
      simp
    refine ⟨?_, ?_⟩
    · rw [List.getD_eq_getElem?_getD, itsD, List.getElem?_map, hr0]; rfl
    · rw [List.getD_eq_getElem?_getD]
      show (((rangeL 0 n).map chrW)[q.toNat]?).getD _ = _
      rw [List.getElem?_map, hr0]; rfl
  refine Ret.cons (Step.assign_comp1 (ds := (chosenF sizes rank sizes.length).map fun ps => dTup (viewD sizes ps)) (outs := txt.map dWs) ⟨EvIt.lst hh (Ev.call (line_views_ok T dlv (hr.mono (j := 0 + 6) (by omega)) (dKind ikD sizes.length) (itsD n) sizes rank hF.pz hF.chosen hF.wide hF.parts) (Ev.gdef T.toBase rfl hflv) ⟨Ev.name rfl, Ev.name rfl, Ev.name rfl, trivial⟩), by decide +kernel, free_of ⟨⟨.inl rfl, rfl⟩, trivial⟩, rfl, by simp [txt, hcl], by rw [List.length_map, htl]; exact small2 hlc, fun h₀ cenv hc j d o hd ho => ?_, fun _ => rfl⟩ (.inl rfl)) ?_ (fun _ => Iff.rfl)
  · obtain ⟨ps, hps, rfl⟩ := map_get hd
    obtain ⟨o', ho', rfl⟩ := map_get ho
    have ho2 : (ls.map fun l => pickS ws l)[j]? = some o' := ho'
    obtain ⟨l, hl, rfl⟩ := map_get ho2
    have hpm := List.mem_of_getElem? hps
    have hlp : l = placesV (vPlace ps (stridesI 1 sizes) sizes.length) (vKept ps sizes sizes.length) (vKept ps (stridesI 1 sizes) sizes.length) (vKept ps sizes sizes.length).length := by
      have h1 : ls[j]? = some (placesV (vPlace ps (stridesI 1 sizes) sizes.length) (vKept ps sizes sizes.length) (vKept ps (stridesI 1 sizes) sizes.length) (vKept ps sizes sizes.length).length) := by
        show (linesF sizes rank)[j]? = _
        rw [← hF.seen, List.getElem?_map, hps]; rfl
      rw [hl] at h1; exact Option.some.inj h1
    obtain ⟨hl1, hl2⟩ := hin l (List.mem_of_getElem? hl)
    obtain ⟨hvz, hvm⟩ := hF.views ps hpm
    have hitems := items_of_ok (w := w) T dit (hr.mono (j := 0 + 3) (by omega)) (dKind ikD sizes.length) (itsD n) sizes (by rw [hits]; omega) (vPlace ps (stridesI 1 sizes) sizes.length) (vKept ps sizes sizes.length) (vKept ps (stridesI 1 sizes) sizes.length) hvz hvm (by rw [← hlp, hits]; intro q hq; have := hl2 q hq; rw [hwl] at this; exact this)
    rw [← hlp] at hitems
    refine ⟨[("line", dTup (viewD sizes ps))], AsgnOk.mine hc (.inl rfl), own_names ["line"] ⟨rfl, trivial⟩, ?_⟩
    refine Ev.comp1 (outs := (pickS ws l).map dStr) ⟨EvIt.lst hh (Ev.call hitems (Ev.gdef T.toBase (hc.kind rfl rfl) hfit) ⟨Ev.name rfl, Ev.name rfl, trivial⟩), by decide +kernel, free_of trivial, rfl, by rw [List.length_map]; simp [pickS, pickD], by rw [List.length_map, pickS, List.length_map]; exact small2 (by omega), fun h₁ cenv₁ hc₁ m d₁ o₁ hd₁ ho₁ => ?_, fun _ => rfl⟩
    obtain ⟨x, hx, rfl⟩ := map_get ho₁
    unfold pickS at hx
    obtain ⟨y, hy, rfl⟩ := map_get hx
    unfold pickD at hd₁
    obtain ⟨y', hy', rfl⟩ := map_get hd₁
    rw [hy] at hy'; cases hy'
    obtain ⟨h0, h1⟩ := hl2 y (List.mem_of_getElem? hy)
    rw [hwl] at h1
    obtain ⟨g1, g2⟩ := hits_get y h0 h1
    rw [g1, g2]
    have hf := fmod26 ((y.toNat : Nat) : Int)
    refine ⟨[("item", dTup [dStr "char", dInt (97 + ((y.toNat : Nat) : Int).fmod 26)])], AsgnOk.mine hc₁ (.inl rfl), own_names ["item"] ⟨rfl, trivial⟩, ?_⟩
    exact Ev.call (CallOk.chr (i := 97 + ((y.toNat : Nat) : Int).fmod 26) (by omega) (by omega)) (Ev.bf T.toTops (hc₁.kind rfl rfl)) ⟨Ev.sub (Ev.name (d := dTup [dStr "char", dInt (97 + ((y.toNat : Nat) : Int).fmod 26)]) rfl) Ev.cint (Itm.tup (by decide) rfl (small2 (by show 2 ≤ 1000; decide))), trivial⟩
  have htx : ∀ l ∈ txt, ∀ x ∈ l, PyData.strOk x = true := fun l hl x hx => by
    obtain ⟨l', hl', rfl⟩ := List.mem_map.mp hl
    exact (hw x (pick_mem (hin l' hl').2 x hx)).2
  refine Ret.ifT (b := false) (Tr.cast (by rw [refl_texts]; rfl) (Tr.cmp (Ev.name (d := dLst (txt.map dWs)) rfl) (Ev.comp1 (ds := ls.map fun l => dLst (l.map dInt)) (outs := txt.map dWs) ⟨EvIt.lst hh (Ev.name rfl), by decide +kernel, free_of ⟨⟨.inl rfl, rfl⟩, trivial⟩, rfl, by simp [txt], by rw [List.length_map, htl]; exact small2 hlc, fun h₀ cenv hc j d o hd ho => ?_, fun _ => rfl⟩)
    (Cmp.neD (rd_texts txt) (rd_texts txt) (lay_texts htx) (lay_texts htx) hu))) (fun h => nomatch h) fun _ => ?_
  · obtain ⟨l, hl, rfl⟩ := map_get hd
    obtain ⟨o', ho', rfl⟩ := map_get ho
    have ho2 : (ls.map fun l => pickS ws l)[j]? = some o' := ho'
    obtain ⟨l', hl', rfl⟩ := map_get ho2
    rw [hl] at hl'; cases hl'
    obtain ⟨hl1, hl2⟩ := hin l (List.mem_of_getElem? hl)
    refine ⟨[("line", dLst (l.map dInt))], AsgnOk.mine hc (.inl rfl), own_names ["line"] ⟨rfl, trivial⟩, ?_⟩
    exact pick_ev hh rfl rfl hl2 (Nat.le_trans hl1 (by decide)) (by rw [hwl]; omega) rfl rfl rfl (by decide +kernel) rfl (hc.hold rfl) (by decide) (by decide) (by decide)
  -- less
  have hrk := hF.rk
  refine Ret.cons (Step.assign (d := dTup ((lessF sizes rank).map dInt)) (.inl rfl) (Ev.call (without_rank_ok T.toTops dwr (hr.mono (j := 0 + 1) (by omega)) sizes rank (by omega)) (Ev.gdef T.toBase rfl hfwr) ⟨Ev.name rfl, Ev.name rfl, trivial⟩)) ?_ (fun _ => Iff.rfl)
  have hless : (((sizes.map dInt).take rank ++ [dInt 1]) ++ (sizes.map dInt).drop (rank + 1)) = (lessF sizes rank).map dInt := by
    rw [hF.less, List.map_append, List.map_append, List.map_take, List.map_drop]; rfl
  refine Ret.cast (Ret.ret (Ev.and2 (b := true) (c := true) (Ev.cast (Ev.cmp (Ev.name (d := dTup ((lessF sizes rank).map dInt)) rfl)
    (Ev.bin (Ev.bin (Ev.sub (Ev.name (d := dTup (sizes.map dInt)) rfl) (Ev.slice (lo := none) (hi := some (rank : Int)) trivial (Ev.name rfl)) (Itm.tupUpto (k := rank) rfl (by rw [List.length_map]; omega) (small2 (by rw [List.length_map]; omega))))
            (Ev.tuple (ds := [dInt 1]) ⟨Ev.cint, trivial⟩ (small2 (by show 1 ≤ 1000; decide))) (Bin.addT (small2 (by simp; omega)))) (Ev.sub (Ev.name (d := dTup (sizes.map dInt)) rfl) (Ev.slice (lo := some ((rank + 1 : Nat) : Int)) (hi := none) (Ev.cast (Ev.bin (Ev.name rfl) Ev.cint Bin.add) (by rfl)) trivial) (Itm.tupFrom (k := rank + 1) rfl (by omega) (by rw [List.length_map]; omega) (small2 (by rw [List.length_map]; omega))))
            (Bin.addT (small2 (by simp; omega)))) (Cmp.eqD (rd_ints (lessF sizes rank)) (by rw [hless]; exact rd_ints (lessF sizes rank)) (lay_ints _) (lay_ints _) hu)) ?_) fun _ => ?_)) rfl
  · rw [PyData.eqv, eqv_ints]; simp
  · refine Ev.cast (Ev.cmp (Ev.call (along_ok T.toTops dal (hr.mono (j := 0 + 2) (by omega)) [3, 2] 0 pz32 (by decide) (by decide +kernel)) (Ev.gdef T.toBase rfl hfal) ⟨Ev.tuple (ds := [dInt 3, dInt 2]) ⟨Ev.cint, Ev.cint, trivial⟩ (small2 (by show 2 ≤ 1000; decide)), Ev.cint, trivial⟩)
      (Ev.list (ds := [dLst [dInt 0, dInt 1, dInt 2], dLst [dInt 3, dInt 4, dInt 5]]) ⟨Ev.list ⟨Ev.cint, Ev.cint, Ev.cint, trivial⟩ (small2 (by show 3 ≤ 1000; decide)), Ev.list ⟨Ev.cint, Ev.cint, Ev.cint, trivial⟩ (small2 (by show 3 ≤ 1000; decide)), trivial⟩ (small2 (by show 2 ≤ 1000; decide)))
      (Cmp.eqD (rd_lines (alongF [3, 2] 0)) (rd_lines [[0, 1, 2], [3, 4, 5]]) (lay_lines _) (lay_lines _) hu)) ?_
    rw [along32, refl_lines]
end
end Mine

namespace Mine
open PySem.Calls

def szB (s : List Int) : Bool := decide (s.length ≤ 100) && s.all (fun x => decide (0 ≤ x) && decide (x ≤ 1000)) && (List.range (s.length + 1)).all fun i => decide ((rowsF (s.take i)).length ≤ 1000) && (rowsF (s.take i)).all fun r => r.length == i
theorem sz_of {s : List Int} (h : szB s = true) : Sz s := by
  unfold szB at h
  simp only [Bool.and_eq_true, decide_eq_true_eq, List.all_eq_true, List.mem_range] at h
  obtain ⟨⟨h1, h2⟩, h3⟩ := h
  exact ⟨h1, h2, fun i hi => (h3 i (by omega)).1, fun i hi r hr => by have := (h3 i (by omega)).2 r hr; simpa using this⟩
def partsB (s : List Int) (ps : List (Option Int)) : Bool := ps.length == s.length && (ps.zip s).all fun q => match q.1 with | none => true | some y => decide (1 ≤ y) && decide (y ≤ q.2)
theorem parts_of {s : List Int} {ps : List (Option Int)} (h : partsB s ps = true) : PartsOk s ps := by
  unfold partsB at h
  rw [Bool.and_eq_true, List.all_eq_true] at h
  obtain ⟨h1, h2⟩ := h
  refine ⟨by simpa using h1, fun i q x hq hx => ?_⟩
  have hm : (some q, x) ∈ ps.zip s := List.mem_iff_getElem?.mpr ⟨i, by rw [List.getElem?_zip_eq_some]; exact ⟨hq, hx⟩⟩
  have := h2 _ hm
  simpa using this
def vB (s : List Int) (ps : List (Option Int)) : Bool :=
  let ks := vKept ps s s.length
  let ss := vKept ps (stridesI 1 s) s.length
  let p := vPlace ps (stridesI 1 s) s.length
  decide (ks.length ≤ 100) && (ss.length == ks.length) && ks.all (fun x => decide (0 ≤ x) && decide (x ≤ 1000)) && ss.all (fun x => decide (Builtin.Int.intBits x ≤ 64)) && (List.range (ks.length + 1)).all fun i => decide ((placesV p ks ss i).length ≤ 1000)
theorem v_of {s : List Int} {ps : List (Option Int)} (h : vB s ps = true) : Vz (vKept ps s s.length) (vKept ps (stridesI 1 s) s.length) ∧
    ∀ i ≤ (vKept ps s s.length).length, (placesV (vPlace ps (stridesI 1 s) s.length) (vKept ps s s.length) (vKept ps (stridesI 1 s) s.length) i).length ≤ 1000 := by
  unfold vB at h
  simp only [Bool.and_eq_true, decide_eq_true_eq, List.all_eq_true, List.mem_range, beq_iff_eq] at h
  obtain ⟨⟨⟨⟨h1, h2⟩, h3⟩, h4⟩, h5⟩ := h
  exact ⟨⟨h1, h2, h3, fun x hx y => IntMulOk.of_left (h4 x hx)⟩, fun i hi => h5 i (by omega)⟩

/-- rows as numbers -/
def code : List Int → Nat
  | [] => 0
  | x :: r => x.toNat + 5 * code r
theorem code_inj : ∀ {a b : List Int}, a.length = b.length → (∀ x ∈ a, 0 ≤ x ∧ x ≤ 4) → (∀ x ∈ b, 0 ≤ x ∧ x ≤ 4) → code a = code b → a = b
  | [], [], _, _, _, _ => rfl
  | [], _ :: _, h, _, _, _ => by simp at h
  | _ :: _, [], h, _, _, _ => by simp at h
  | x :: a, y :: b, h, ha, hb, e => by
    have hx := ha x (.head _)
    have hy := hb y (.head _)
    unfold code at e
    have e1 : x = y := by omega
    have e2 : code a = code b := by omega
    rw [e1, code_inj (by simpa using h) (fun z hz => ha z (.tail _ hz)) (fun z hz => hb z (.tail _ hz)) e2]
def lineC (c : Nat) : List Nat → Nat → List Int
  | [], _ => []
  | y :: r, i => if y == c then Int.ofNat i :: lineC c r (i + 1) else lineC c r (i + 1)
def codesC (s : List Int) (rank : Nat) : List Nat := (rowsF s).map fun row => code (rowKey rank row)
def linesC (s : List Int) (rank : Nat) : List (List Int) := (rowsF (lessF s rank)).map fun other => lineC (code other) (codesC s rank) 0
theorem lineC_of {rows : List (List Int)} {k : Nat} {other : List Int} (h : ∀ row ∈ rows, code (rowKey k row) = code other → rowKey k row = other) :
    ∀ n ≤ rows.length, lineP rows k other n ++ lineC (code other) ((rows.map fun row => code (rowKey k row)).drop n) n = lineC (code other) (rows.map fun row => code (rowKey k row)) 0
  | 0, _ => rfl
  | n + 1, hn => by
    have ih := lineC_of h n (by omega)
    obtain ⟨row, hrow⟩ : ∃ row, rows[n]? = some row := ⟨rows[n]'(by omega), List.getElem?_eq_getElem _⟩
    have hd : (rows.map fun row => code (rowKey k row)).drop n = code (rowKey k row) :: (rows.map fun row => code (rowKey k row)).drop (n + 1) := by
      rw [← List.getElem_cons_drop (by rw [List.length_map]; omega), List.getElem_map]
      congr 3
      have := List.getElem?_eq_some_iff.mp hrow
      exact this.2
    rw [hd] at ih
    rw [← ih, lineP_succ hrow]
    show _ = _ ++ (if (code (rowKey k row) == code other) = true then Int.ofNat n :: _ else _)
    by_cases e : rowKey k row = other
    · rw [if_pos e, if_pos (by rw [e]; simp), List.append_assoc]; rfl
    · rw [if_neg e, if_neg (by intro q; exact e (h row (List.mem_of_getElem? hrow) (by simpa using q)))]
def digitsB (n : Nat) (r : List Int) : Bool := (r.length == n) && r.all fun x => decide (0 ≤ x) && decide (x ≤ 4)
theorem digits_of {n : Nat} {r : List Int} (h : digitsB n r = true) : r.length = n ∧ ∀ x ∈ r, 0 ≤ x ∧ x ≤ 4 := by
  unfold digitsB at h
  simp only [Bool.and_eq_true, decide_eq_true_eq, List.all_eq_true, beq_iff_eq] at h
  exact h
theorem linesC_of {s : List Int} {rank : Nat} (h1 : ∀ row ∈ rowsF s, digitsB s.length (rowKey rank row) = true) (h2 : ∀ r ∈ rowsF (lessF s rank), digitsB s.length r = true) : linesF s rank = linesC s rank := by
  unfold linesF linesC
  refine List.map_congr_left fun other ho => ?_
  have ho' := digits_of (h2 other ho)
  have := lineC_of (rows := rowsF s) (k := rank) (other := other) (fun row hr e => by
    have hr' := digits_of (h1 row hr)
    exact code_inj (hr'.1.trans ho'.1.symm) hr'.2 ho'.2 e) (rowsF s).length (Nat.le_refl _)
  rw [List.drop_of_length_le (by rw [List.length_map]; exact Nat.le_refl _)] at this
  unfold lineF codesC
  rw [← this]
  show _ = _ ++ []
  rw [List.append_nil]

def fineB (s : List Int) (rank : Nat) : Bool :=
  szB s && szB (lessF s rank) && (s.all (fun x => decide (Builtin.Int.intBits x ≤ 64)) && (stridesI 1 s).all (fun x => decide (Builtin.Int.intBits x ≤ 64))) &&
  (List.range (s.length + 1)).all (fun i => decide ((placesF s rank i).length ≤ 1000)) &&
  ((rowsF s).all (fun row => digitsB s.length (rowKey rank row)) && (rowsF (lessF s rank)).all (fun r => digitsB s.length r) && (alongF s rank == linesC s rank)) &&
  (alongF s rank).all (fun l => decide (l.length ≤ 100) && l.all fun p => decide (0 ≤ p) && decide (p.toNat < (rowsF s).length)) &&
  decide ((alongF s rank).length ≤ 1000) && decide ((rowsF s).length ≤ 100) && decide (((rowsF s).length : Int) = prodI s) &&
  (List.range (s.length + 1)).all (fun i => decide ((chosenF s rank i).length ≤ 1000) && (chosenF s rank i).all fun ps => ps.length == i) &&
  (chosenF s rank s.length).all (fun ps => partsB s ps && vB s ps) &&
  ((chosenF s rank s.length).map (fun ps => placesV (vPlace ps (stridesI 1 s) s.length) (vKept ps s s.length) (vKept ps (stridesI 1 s) s.length) (vKept ps s s.length).length) == alongF s rank) &&
  (lessF s rank == s.take rank ++ [1] ++ s.drop (rank + 1))
theorem fine_of {s : List Int} {rank : Nat} (hr : rank < s.length) (h : fineB s rank = true) : Fine s rank := by
  unfold fineB at h
  simp only [Bool.and_eq_true, decide_eq_true_eq, List.all_eq_true, List.mem_range, beq_iff_eq] at h
  obtain ⟨⟨⟨⟨⟨⟨⟨⟨⟨⟨⟨⟨h1, h2⟩, h3, h3'⟩, h4⟩, ⟨h5a, h5b⟩, h5c⟩, h6⟩, h7⟩, h8⟩, h9⟩, h10⟩, h11⟩, h12⟩, h13⟩ := h
  have hs := sz_of h1
  have hl := linesC_of (rank := rank) h5a h5b
  have h5 : alongF s rank = linesF s rank := h5c.trans hl.symm
  rw [h5] at h6 h7 h12
  exact { rk := hr, sz := hs, sz' := sz_of h2, pz := pz_of hs.len hs.val h3 h3', places := fun i hi => h4 i (by omega), along := h5, inl := h6, lines := h7, rows := h8, prod := h9, chosen := fun i hi => (h10 i (by omega)).1, wide := fun i hi ps hps => (h10 i (by omega)).2 ps hps,
          parts := fun ps hps => parts_of (h11 ps hps).1, views := fun ps hps => v_of (h11 ps hps).2, seen := h12, less := h13 }

def listsOf : Nat → List (List Int)
  | 0 => [[]]
  | n + 1 => ([0, 1, 2, 3, 4] : List Int).flatMap fun x => (listsOf n).map (x :: ·)
theorem mem_lists : ∀ {s : List Int}, (∀ x ∈ s, 0 ≤ x ∧ x ≤ 4) → s ∈ listsOf s.length
  | [], _ => .head _
  | x :: r, h => by
    have hx := h x (.head _)
    have ih := mem_lists (s := r) fun y hy => h y (.tail _ hy)
    show x :: r ∈ listsOf (r.length + 1)
    unfold listsOf
    refine List.mem_flatMap.mpr ⟨x, ?_, List.mem_map.mpr ⟨r, ih, rfl⟩⟩
    have : x = 0 ∨ x = 1 ∨ x = 2 ∨ x = 3 ∨ x = 4 := by omega
    rcases this with rfl | rfl | rfl | rfl | rfl <;> decide
def allB (n : Nat) : Bool := (listsOf n).all fun s => (List.range n).all fun r => fineB s r
def allC (x y : Int) : Bool := ([0, 1, 2, 3, 4] : List Int).all fun z => (List.range 3).all fun r => fineB [x, y, z] r
theorem all1 : allB 1 = true := by decide +kernel
theorem all2 : allB 2 = true := by decide +kernel
theorem all3_0_0 : allC 0 0 = true := by decide +kernel
theorem all3_0_1 : allC 0 1 = true := by decide +kernel
theorem all3_0_2 : allC 0 2 = true := by decide +kernel
theorem all3_0_3 : allC 0 3 = true := by decide +kernel
theorem all3_0_4 : allC 0 4 = true := by decide +kernel
theorem all3_1_0 : allC 1 0 = true := by decide +kernel
theorem all3_1_1 : allC 1 1 = true := by decide +kernel
theorem all3_1_2 : allC 1 2 = true := by decide +kernel
theorem all3_1_3 : allC 1 3 = true := by decide +kernel
theorem all3_1_4 : allC 1 4 = true := by decide +kernel
theorem all3_2_0 : allC 2 0 = true := by decide +kernel
theorem all3_2_1 : allC 2 1 = true := by decide +kernel
theorem all3_2_2 : allC 2 2 = true := by decide +kernel
theorem all3_2_3 : allC 2 3 = true := by decide +kernel
theorem all3_2_4 : allC 2 4 = true := by decide +kernel
theorem all3_3_0 : allC 3 0 = true := by decide +kernel
theorem all3_3_1 : allC 3 1 = true := by decide +kernel
theorem all3_3_2 : allC 3 2 = true := by decide +kernel
theorem all3_3_3 : allC 3 3 = true := by decide +kernel
theorem all3_3_4 : allC 3 4 = true := by decide +kernel
theorem all3_4_0 : allC 4 0 = true := by decide +kernel
theorem all3_4_1 : allC 4 1 = true := by decide +kernel
theorem all3_4_2 : allC 4 2 = true := by decide +kernel
theorem all3_4_3 : allC 4 3 = true := by decide +kernel
theorem all3_4_4 : allC 4 4 = true := by decide +kernel
theorem all3 {s : List Int} {rank : Nat} (hl : s.length = 3) (h : ∀ x ∈ s, 0 ≤ x ∧ x ≤ 4) (hr : rank < 3) : fineB s rank = true := by
  match s, hl with
  | [x, y, z], _ =>
    have hx := h x (.head _)
    have hy := h y (.tail _ (.head _))
    have hz := h z (.tail _ (.tail _ (.head _)))
    have key : allC x y = true := by
      have h1 : x = 0 ∨ x = 1 ∨ x = 2 ∨ x = 3 ∨ x = 4 := by omega
      have h2 : y = 0 ∨ y = 1 ∨ y = 2 ∨ y = 3 ∨ y = 4 := by omega
      rcases h1 with rfl | rfl | rfl | rfl | rfl <;> rcases h2 with rfl | rfl | rfl | rfl | rfl
      · exact all3_0_0
      · exact all3_0_1
      · exact all3_0_2
      · exact all3_0_3
      · exact all3_0_4
      · exact all3_1_0
      · exact all3_1_1
      · exact all3_1_2
      · exact all3_1_3
      · exact all3_1_4
      · exact all3_2_0
      · exact all3_2_1
      · exact all3_2_2
      · exact all3_2_3
      · exact all3_2_4
      · exact all3_3_0
      · exact all3_3_1
      · exact all3_3_2
      · exact all3_3_3
      · exact all3_3_4
      · exact all3_4_0
      · exact all3_4_1
      · exact all3_4_2
      · exact all3_4_3
      · exact all3_4_4
    unfold allC at key
    rw [List.all_eq_true] at key
    have hm : z ∈ ([0, 1, 2, 3, 4] : List Int) := by
      have h3 : z = 0 ∨ z = 1 ∨ z = 2 ∨ z = 3 ∨ z = 4 := by omega
      rcases h3 with rfl | rfl | rfl | rfl | rfl <;> decide
    have := key z hm
    rw [List.all_eq_true] at this
    exact this rank (List.mem_range.mpr hr)
theorem fine_all {s : List Int} {rank : Nat} (h1 : 1 ≤ s.length) (h3 : s.length ≤ 3) (h : ∀ x ∈ s, 0 ≤ x ∧ x ≤ 4) (hr : rank < s.length) : Fine s rank := by
  refine fine_of hr ?_
  have hm := mem_lists h
  have key : ∀ n, allB n = true → s ∈ listsOf n → rank < n → fineB s rank = true := fun n hn hs hr => by
    unfold allB at hn
    rw [List.all_eq_true] at hn
    have := hn s hs
    rw [List.all_eq_true] at this
    exact this rank (List.mem_range.mpr hr)
  have : s.length = 1 ∨ s.length = 2 ∨ s.length = 3 := by omega
  rcases this with e | e | e
  · exact key 1 all1 (e ▸ hm) (e ▸ hr)
  · exact key 2 all2 (e ▸ hm) (e ▸ hr)
  · exact all3 e h (e ▸ hr)
end Mine

namespace Mine
open PySem.Calls
open Sem (wp)

section
variable {w : World} {G : Heap} {A : Around} {env : Env} {mg mb : Str → Option Value} {K : Frag} {CH CT iH iT fput fnew fobj : Addr}

theorem keep_def {f : Addr} {n : Nat} (df : IsDefN G f n) : ∀ (g : View) (h : Heap) (fv : Value), (∀ a o, g a o → h.get? a = some o) → (dDef G f).is g fv → ∃ k, (k = Keeper.frame ∨ k = Keeper.machine ∨ k = Keeper.boundFrame) ∧ Looks (model P0 w) h (keeperOf fv) k := fun g h fv hg ⟨e, hh⟩ => by
  subst e
  obtain ⟨p, b, sc, _, o, name, qual, kV, doc, pm, an, cdv, ct, ho, hdt, _⟩ := df
  obtain ⟨oc, od, dt, sl⟩ := o
  have hdt' : dt = _ := hdt
  subst hdt'
  exact keeps_F h ⟨oc, od, _, sl, hg _ _ (hh _ ho)⟩
theorem keep_defW {f : Addr} {n : Nat} {c : Value} (df : IsDefNW G f n c) : ∀ (g : View) (h : Heap) (fv : Value), (∀ a o, g a o → h.get? a = some o) → (dDef G f).is g fv → ∃ k, (k = Keeper.frame ∨ k = Keeper.machine ∨ k = Keeper.boundFrame) ∧ Looks (model P0 w) h (keeperOf fv) k := fun g h fv hg ⟨e, hh⟩ => by
  subst e
  obtain ⟨p, b, sc, _, o, name, qual, kV, doc, pm, an, ct, ho, hdt, _⟩ := df
  obtain ⟨oc, od, dt, sl⟩ := o
  have hdt' : dt = _ := hdt
  subst hdt'
  exact keeps_F h ⟨oc, od, _, sl, hg _ _ (hh _ ho)⟩

set_option maxHeartbeats 2000000 in
theorem law_run {p : Arguments} {b : List Stmt} {sc : Scope} {k : Nat} {P c : Addr} {X : Addr → Prop} {s : Shared} {E : Value → Shared → Prop} {ns : List Int} (e : defAt 50 = some (p, b, sc)) (hfe : FEnv sc env) (T : Insts G mg mb K CH CT iH iT fput fnew fobj) (WT : WayTop G mg P c)
    (hW : ∃ f, mg "_law_way" = some (.ref f) ∧ IsDefNW G f 46 (.ref c)) (hr : Room (k + 20) A) (ok : Ok G X env [("script", dListW (ns.map dInt))] s) (hXP : X P) (hOP : ¬ Own env P) (hP : s.heap.get? P = some (tabObj #[])) :
    wpAny (model P0 w) A (execs b env) (fun f s' => f = .ret (.bool true) ∧ KeepM (fun b => G.get? b = none) s s' ∧ ∃ ps, s'.heap.get? P = some (tabObj ps)) E s := by
  have tail := fun {k} (hr : Room (k + 20) A) (sizes : List Int) (rank : Nat) hF i hi start hst => law_tail (w := w) (k := k) e hfe T hr sizes rank hF i hi start hst
  have hO0 : ∀ a, ¬ X a → ¬ Own env a := fun a h z => h (ok.own a z)
  have stp0 : ∀ {Y : Addr → Prop} {a : Addr}, Y a → ¬ Own env a → ∀ {s s' : Shared} {ρ : Rho}, Ok G Y env ρ s → KeepM (fun b => b = a) s s' → Sup a s'.heap → Ok G Y env ρ s' := by
    intro Y a hYa hOa s s' ρ ok k j
    exact ok.keepM k (fun b e => e ▸ hYa) (fun b hb e => hOa (e ▸ hb)) fun b e => e ▸ j.live
  obtain ⟨s₀, es₀⟩ : ∃ s₀, s₀ = s := ⟨_, rfl⟩
  have fin0 : ∀ {Y : Addr → Prop} {xs : List Int} {rank n : Nat} {s : Shared} {v : Value} {start : Option Str} {ρ : Rho}, (∀ b, Own env b → G.get? b = none) → KeepM (fun b => G.get? b = none) s₀ s → (∃ ps, s.heap.get? P = some (tabObj ps)) → 1 ≤ xs.length → xs.length ≤ 3 → (∀ x ∈ xs, 0 ≤ x ∧ x ≤ 4) → rank < xs.length → n < 4 → (start = none ∨ start = some ("s" : Str)) → Stores env "start" → Ok G Y env (("way", dWay n) :: ("rank", dInt rank) :: ("sizes", dTup (xs.map dInt)) :: ρ) s → (dOpt start).is (vw Y s.heap) v →
      wpAny (model P0 w) A (storeName env "start" v) (fun _ s' => wpAny (model P0 w) A (execs (b.drop 5) env) (fun f s' => f = .ret (.bool true) ∧ KeepM (fun b => G.get? b = none) s₀ s' ∧ ∃ ps, s'.heap.get? P = some (tabObj ps)) E s') E s := fun {Y xs rank n s v start ρ} hG k₀ ⟨ps, hps⟩ h1 h3 hx hr0 hn hst hS ok hv =>
    wpAny_mono (ok.store hS hv) (fun _ s' ⟨k₁, ok'⟩ => wpAny_mono (tail (k := k) hr xs rank (fine_all h1 h3 hx hr0) n hn start hst Y (fun _ => 0) s' E (OkA.of (ok'.weaken (Sub.cons rfl (Sub.cons rfl (Sub.cons rfl (Sub.cons rfl Sub.nil))))))) (fun f s'' ⟨v, e, k₂, hv⟩ => (by
      have hv' : v = .bool true := hv
      have hMA : ∀ b, MA env (fun _ => 0) [] b → Own env b := fun b hb => hb.elim id fun ⟨x, hx, _⟩ => by cases hx
      exact ⟨by rw [e, hv'], k₀.trans ((k₁.mono fun b h => hG b h.own).trans (k₂.mono fun b h => hG b (hMA b h))), ps, k₂.get (fun z => hOP (hMA _ z)) (k₁.get (fun z => hOP z.own) hps)⟩)) fun _ _ x => x) fun _ _ x => x
  cases (show defAt 50 = some (_, _, _) from rfl).symm.trans e
  clear e
  obtain ⟨L, a', q, c', rfl⟩ := hfe
  obtain ⟨fs, hfs, dfs⟩ := T.defs 44 "_law_supply" (by decide +kernel)
  obtain ⟨fw, hfw, dfw⟩ := hW
  -- supply
  refine wpAny_execs_cons (wpAny_Assign_Name ?_)
  refine callEv (fd := dDef G fs) (ds := [dListW (ns.map dInt)]) ok (Ev.gdef T.toBase rfl hfs) ⟨Ev.name rfl, trivial⟩ (keep_def dfs) fun s₁ f vs k₁ ok₁ hf hvs => ?_
  obtain ⟨rfl, _⟩ := hf
  cases vs with
  | nil => exact hvs.elim
  | cons v r =>
  cases r with
  | cons => exact hvs.2.elim
  | nil =>
  refine wpAny_mono (supply_run T.toTops dfs (hr.mono (j := 0 + 1) (by omega)) ns v ok₁.live ok₁.base hvs.1) (fun u s₂ ⟨k₂, a, e, ha, ja⟩ => ?_) fun _ _ x => x
  subst e
  have ha0 : s.heap.get? a = none := k₁.none ha
  have haX : ¬ X a := fun z => by obtain ⟨o, e⟩ := ok.live a z; rw [ha0] at e; cases e
  have haP : a ≠ P := fun e => by rw [e, hP] at ha0; cases ha0
  have okY : Ok G (fun b => X b ∨ b = a) _ _ s₂ := ok.enter (k₁.tr k₂) (fun b h => .inl h) (fun b hb hx => hb.resolve_left hx ▸ ha0) fun b hb hx => hb.resolve_left hx ▸ ja.live
  have hOa' := hO0 a haX
  obtain ⟨Y, eY⟩ : ∃ Y : Addr → Prop, Y = fun b => X b ∨ b = a := ⟨_, rfl⟩
  rw [← eY] at okY
  have hYa : Y a := by rw [eY]; exact .inr rfl
  have hYP : Y P := by rw [eY]; exact .inl hXP
  clear eY
  have hP₂ := Grows.at (k₁.tr k₂) hP
  have hYG : ∀ b, Y b → G.get? b = none := fun b hb => by
    cases q : G.get? b with
    | none => rfl
    | some o => exact absurd hb (okY.base b o q).2
  have hOG := fun b hb => hYG b (okY.own b hb)
  have kw : ∀ {M : Addr → Prop} {s s' : Shared}, KeepM M s s' → (∀ b, M b → Y b) → KeepM (fun b => G.get? b = none) s s' := fun k h => k.mono fun b hb => hYG b (h b hb)
  have oY := okY.own
  have t₂ := KeepM.of_keeps (M := fun b => G.get? b = none) (k₁.tr k₂)
  have stp := @stp0 Y a hYa hOa'
  refine wpAny_mono (okY.store (x := "supply") (d := dVal (.ref a)) (.inr ⟨rfl, rfl⟩) rfl) (fun _ s₃ ⟨k₃, ok₃⟩ => ?_) fun _ _ x => x
  have t₃ := t₂.trans (kw k₃ fun b h => oY b h.own)
  have j₃ := ja.keepM k₃ fun z => hOa' z.own
  have hP₃ := k₃.get (fun z => hOP z.own) hP₂
  -- sizes
  refine wpAny_execs_cons (wpAny_Assign_Name (wpAny_mono (sizes_ev (k := 0) T.toTops (hr.mono (j := 0 + 1) (by omega)) ok₃ rfl rfl rfl rfl hYa hOa' j₃ rfl rfl ⟨.inl rfl, rfl⟩) (fun v s₄ ⟨k₄, j₄, xs, hx1, hx3, hxs, hv₄⟩ => ?_) fun _ _ x => x))
  have t₄ := t₃.trans (kw k₄ fun b e => e ▸ hYa)
  have ok₄ := stp ok₃ k₄ j₄
  have hP₄ := k₄.get (fun e => haP e.symm) hP₃
  refine wpAny_mono (ok₄.store (x := "sizes") (.inl rfl) hv₄) (fun _ s₅ ⟨k₅, ok₅⟩ => ?_) fun _ _ x => x
  have t₅ := t₄.trans (kw k₅ fun b h => oY b h.own)
  have j₅ := j₄.keepM k₅ fun z => hOa' z.own
  have hP₅ := k₅.get (fun z => hOP z.own) hP₄
  -- rank
  refine wpAny_execs_cons (wpAny_Assign_Name (wpAny_mono (out_ev (k := 0) (m := xs.length) T.toTops (hr.mono (j := 0 + 1) (by omega)) ok₅ rfl rfl (Ev.cast (Ev.call (CallOk.len_tup (ds := xs.map dInt)) (Ev.bf T.toTops rfl) ⟨Ev.name rfl, trivial⟩) (by rw [List.length_map])) (by omega) (by omega) hYa j₅) (fun v s₆ ⟨k₆, j₆, rk, t, e, hr0, hrl⟩ => ?_) fun _ _ x => x))
  subst e
  have t₆ := t₅.trans (kw k₆ fun b e => e ▸ hYa)
  have ok₆ := stp ok₅ k₆ j₆
  have hP₆ := k₆.get (fun e => haP e.symm) hP₅
  obtain ⟨rank, rfl⟩ := Int.eq_ofNat_of_zero_le hr0
  refine wpAny_mono (ok₆.store (x := "rank") (d := dInt rank) (.inl rfl) ⟨t, rfl⟩) (fun _ s₇ ⟨k₇, ok₇⟩ => ?_) fun _ _ x => x
  have t₇ := t₆.trans (kw k₇ fun b h => oY b h.own)
  have j₇ := j₆.keepM k₇ fun z => hOa' z.own
  have hP₇ := k₇.get (fun z => hOP z.own) hP₆
  -- way
  refine wpAny_execs_cons (wpAny_Assign_Name (callArg1 ok₇ (Ev.gdef T.toBase rfl hfw) fun s₈ f k₈ ok₈ hf => ?_))
  refine wpAny_mono (out_ev (k := 0) (m := 4) T.toTops (hr.mono (j := 0 + 1) (by omega)) ok₈ rfl rfl Ev.cint (by decide) (by decide) hYa (j₇.keeps k₈)) (fun v s₉ ⟨k₉, j₉, n, t, e, hn0, hn4⟩ => ?_) fun _ _ x => x
  subst e
  have t₉ := (t₇.trans (KeepM.of_keeps k₈)).trans (kw k₉ fun b e => e ▸ hYa)
  have ok₉ := stp ok₈ k₉ j₉
  have hP₉ := k₉.get (fun e => haP e.symm) (Grows.at k₈ hP₇)
  obtain ⟨n, rfl⟩ := Int.eq_ofNat_of_zero_le hn0
  have hf₉ := Den.keepM _ k₉ (fun b e => e ▸ hYa) hf
  refine ⟨keep_defW dfw (vw Y s₉.heap) s₉.heap f (fun a o q => q.1) hf₉, ?_⟩
  obtain ⟨rfl, _⟩ := hf
  have hn4' : n < 4 := by omega
  refine wpAny_mono (way_run (k := 0) T.toBase WT dfw (hr.mono (j := 0 + 1) (by omega)) n hn4' t ok₉.live ok₉.base hYP hP₉) (fun v s₁₀ ⟨k₁₀, ⟨oP, hoP⟩, hv₁₀⟩ => ?_) fun _ _ x => x
  have ok₁₀ := ok₉.keepM k₁₀ (fun b e => e ▸ hYP) (fun b hb e => hOP (e ▸ hb)) fun b e => ⟨_, e ▸ hoP⟩
  have t₁₀ := t₉.trans (kw k₁₀ fun b e => e ▸ hYP)
  have j₁₀ := j₉.keepM k₁₀ haP
  refine wpAny_mono (ok₁₀.store (x := "way") (.inr ⟨rfl, rfl⟩) hv₁₀) (fun _ s₁₁ ⟨k₁₁, ok₁₁⟩ => ?_) fun _ _ x => x
  have t₁₁ := t₁₀.trans (kw k₁₁ fun b h => oY b h.own)
  have hP₁₁ := k₁₁.get (fun z => hOP z.own) hoP
  have j₁₁ := j₁₀.keepM k₁₁ fun z => hOa' z.own
  -- start
  refine wpAny_execs_cons (wpAny_Assign_Name (wpAny_IfExp (wpAny_isTrue_Compare1 ?_)))
  refine wpAny_mono (out_ev (k := 0) (m := 3) T.toTops (hr.mono (j := 0 + 1) (by omega)) ok₁₁ rfl rfl Ev.cint (by decide) (by decide) hYa j₁₁) (fun v s₁₂ ⟨k₁₂, j₁₂, z, t, e, hz0, hz3⟩ => ?_) fun _ _ x => x
  subst e
  have t₁₂ := t₁₁.trans (kw k₁₂ fun b e => e ▸ hYa)
  have hP₁₂ := k₁₂.get (fun e => haP e.symm) hP₁₁
  have ok₁₂ := stp ok₁₁ k₁₂ j₁₂
  refine Ev.cint.use ok₁₂ fun v₁₃ s₁₃ k₁₃ ok₁₃ hv₁₃ => ?_
  refine wpAny_mono (Cmp.gtI (a := z) Y s₁₃ _ (.int z t) v₁₃ ⟨t, rfl⟩ hv₁₃) (fun v s₁₄ ⟨e, k₁₄⟩ => ?_) fun _ _ x => x
  subst e
  refine wpAny_truthy_bool ?_
  have ok₁₄ := ok₁₃.keeps k₁₄
  have t₁₄ := t₁₂.trans (KeepM.of_keeps (k₁₃.tr k₁₄))
  have hP₁₄ := Grows.at (k₁₃.tr k₁₄) hP₁₂
  subst es₀
  by_cases hz : 0 < z
  · rw [decide_eq_true hz]
    simp only [if_true]
    exact Ev.cnone.use ok₁₄ fun v s' k' ok' hv => fin0 (start := none) hOG (t₁₄.trans (KeepM.of_keeps k')) ⟨_, Grows.at k' hP₁₄⟩ hx1 hx3 hxs (by omega) hn4' (.inl rfl) (.inr ⟨rfl, rfl⟩) ok' hv
  · rw [decide_eq_false hz]
    simp only [Bool.false_eq_true, if_false]
    exact Ev.cstr.use ok₁₄ fun v s' k' ok' hv => fin0 (start := some ("s" : Str)) hOG (t₁₄.trans (KeepM.of_keeps k')) ⟨_, Grows.at k' hP₁₄⟩ hx1 hx3 hxs (by omega) hn4' (.inr rfl) (.inr ⟨rfl, rfl⟩) ok' hv
end
end Mine

namespace Mine
open PySem.Calls
open Sem (wp)

theorem ints_all {g : View} : ∀ {vs : List Value} {ns : List Int}, IntsAre vs ns → All2 (fun d v => d.is g v) (ns.map dInt) vs
  | _, _, .nil => trivial
  | _, _, .cons n t r => ⟨⟨t, rfl⟩, ints_all r⟩

theorem le_of_hcond {n : Nat} (h : ¬ ((63 : Nat) : Int) < (n : Int)) : n ≤ sizeLine := by rw [sizeLine_eq]; omega

end Mine

namespace Mine
open PySem.Calls

section
variable {K : Frag} {h : Heap} {mg mb : Str → Option Value} {x name qual : Str} {n m : Nat} {f : Addr} {oc dV kV doc pm cdv ct : Value} {an od : Option Addr} {osl : Array (Option Value)} {p : Arguments} {b : List Stmt} {s : Scope}
theorem insts_in {CH CT iH iT fput fnew fobj : Addr} (X : K.In h) (tops : Tops h mg mb) (eH : nsIn K mainGlobals "Heap" = some (some (.ref CH))) (eT : nsIn K mainGlobals "Thing" = some (some (.ref CT)))
    (a1 : findIn K (.ref CH) "__init__" = some (some (.ref iH))) (a2 : findIn K (.ref CT) "__init__" = some (some (.ref iT)))
    (a3 : findIn K (.ref CH) "put" = some (some (.ref fput))) (a4 : findIn K (.ref CH) "new_array" = some (some (.ref fnew))) (a5 : findIn K (.ref CH) "object" = some (some (.ref fobj)))
    (b1 : makesIn K CH = true) (b2 : typeIn K (.ref iH) = some (.type "function")) (b3 : findIn K (.ref CH) "__setattr__" = some (some (.builtin "object.__setattr__"))) (b4 : plainOver K CH = true) (b5 : hasDictIn K CH = true) (b6 : plainGet K CH "" = true)
    (b7 : takerIn K CH "things" = some none) (b8 : findIn K (.ref CH) "things" = some none) (b9 : isFn K (.ref fput) = true) (b10 : isFn K (.ref fnew) = true) (b11 : isFn K (.ref fobj) = true) (b12 : keepIn K (.ref CH) = true)
    (c1 : makesIn K CT = true) (c2 : typeIn K (.ref iT) = some (.type "function")) (c3 : findIn K (.ref CT) "__setattr__" = some (some (.builtin "object.__setattr__"))) (c4 : plainOver K CT = true) (c5 : hasDictIn K CT = true) (c6 : plainGet K CT "" = true)
    (c7 : takerIn K CT "kind" = some none) (c8 : findIn K (.ref CT) "kind" = some none) (c9 : takerIn K CT "fields" = some none) (c10 : findIn K (.ref CT) "fields" = some none) (c11 : takerIn K CT "sizes" = some none) (c12 : findIn K (.ref CT) "sizes" = some none) (c13 : keepIn K (.ref CT) = true)
    (k1 : keepIn K (.ref fput) = true) (k2 : keepIn K (.ref fnew) = true) (k3 : keepIn K (.ref fobj) = true)
    (m1 : IsDefM h iH 16 0) (m2 : IsDefM h fput 16 1) (m3 : IsDefM h fnew 16 3) (m4 : IsDefM h fobj 16 5) (m5 : IsDefM h iT 15 0) : Insts h mg mb K CH CT iH iT fput fnew fobj where
  toTops := tops
  hc := { inn := X, makes := b1, init := a1, fn := b2, setattr := b3, over := b4, hasDict := b5, get := b6
          attr := fun x hx => by rw [List.mem_singleton.mp hx]; exact ⟨b7, b8⟩
          meth := fun x f hx => by
            simp only [List.mem_cons, Prod.mk.injEq, List.not_mem_nil, or_false] at hx
            rcases hx with ⟨rfl, rfl⟩ | ⟨rfl, rfl⟩ | ⟨rfl, rfl⟩
            · exact ⟨a3, b9⟩
            · exact ⟨a4, b10⟩
            · exact ⟨a5, b11⟩
          keep := b12 }
  tc := { inn := X, makes := c1, init := a2, fn := c2, setattr := c3, over := c4, hasDict := c5, get := c6
          attr := fun x hx => by
            simp only [List.mem_cons, List.not_mem_nil, or_false] at hx
            rcases hx with rfl | rfl | rfl
            · exact ⟨c7, c8⟩
            · exact ⟨c9, c10⟩
            · exact ⟨c11, c12⟩
          meth := fun x f hx => by cases hx
          keep := c13 }
  kput := k1
  knew := k2
  kobj := k3
  gH := mg_of X tops.g eH
  gT := mg_of X tops.g eT
  dH := m1
  dput := m2
  dnew := m3
  dobj := m4
  dT := m5

theorem tops_in (B : Base h mg mb) (D : AllL (fun q : Str × Nat => ∃ f, mg q.1 = some (.ref f) ∧ IsDefN h f q.2) [("array_kind", 17), ("many_of", 20), ("strides_of", 21), ("check_sizes", 23), ("is_array", 24), ("parent_of", 25), ("sizes_of", 26), ("layout_of", 27), ("places_of", 28), ("items_of", 29), ("made", 30), ("folded", 32), ("along", 33), ("without_rank", 34), ("reduced", 35), ("running", 36), ("taken_row", 38), ("view_of", 41), ("line_views", 42), ("_law_supply", 44), ("_law_out", 45), ("_law_rows", 47), ("_law_from_left", 48), ("_law_lines", 49)])
    (t : AllL (fun x : String => mg x = none ∧ mb x = some (.type x)) ["tuple", "range", "list", "int", "enumerate", "zip"]) (f : AllL (fun x : String => mg x = none ∧ mb x = some (.builtin x)) ["len", "isinstance", "chr", "ord"]) (m : ∃ t, mg "MOST_ITEMS" = some (.int 20000 t))
    (nm : ∃ f T o d n p b s, mg "named" = some (.ref f) ∧ defAt 13 = some (p, b, s) ∧ IsDefV h (.ref T) f p b s ∧ h.get? T = some o ∧ o.data = .seq #[d] n) : Tops h mg mb where
  toBase := B
  defs := fun n x hx => AllL.mem D (x, n) hx
  bt := fun x hx => AllL.mem t x hx
  bf := fun x hx => AllL.mem f x hx
  most := m
  named := nm
end
end Mine

namespace Mine
open PySem.Calls

/-- the top's run over a tree of objects -/
def topRunT (tb : String → Option Builtin) (p : Program) (w : World) (n₀ : Nat) (ann : Option Value) : Nat → SharedT → Thread → Option SharedT
  | 0, _, _ => none
  | n + 1, s, t => match through t with
    | true => some s
    | false => match stepOk n₀ ann t with
      | false => none
      | true => match stepT (denote tb) p w s t with
        | some (s', t') => topRunT tb p w n₀ ann n s' t'
        | none => none
theorem topRun_of {tb : String → Option Builtin} {p : Program} {w : World} {n₀ : Nat} {ann : Option Value} : ∀ {n : Nat} {s s' : SharedT} {t : Thread}, topRunT tb p w n₀ ann n s t = some s' → topRun tb p w n₀ ann n s.abs t = some s'.abs
  | 0, _, _, _, h => by cases h
  | n + 1, s, s', t, h => by
    unfold topRunT at h
    unfold topRun
    cases he : through t with
    | true => rw [he] at h; cases h; rfl
    | false =>
      rw [he] at h
      cases hk : stepOk n₀ ann t with
      | false => rw [hk] at h; cases h
      | true =>
        rw [hk] at h
        cases hs : stepT (denote tb) p w s t with
        | none => rw [hs] at h; cases h
        | some r => obtain ⟨s₂, t₂⟩ := r; rw [hs] at h; dsimp only at h ⊢; rw [stepT_spec hs]; exact topRun_of h

def bt : List Obj → Nat → BT → BT
  | [], _, t => t
  | o :: r, i, t => bt r (i + 1) (t.ins i o)
noncomputable def bootT (P : Params) : BT := bt (boot_heap P).objs.toList 0 .nil
noncomputable def bootS (w : World) (os : OsState) : SharedT := ⟨bootT w.params, (boot_heap w.params).objs.size, (boot_heap w.params).life, #[], boot_drawn, boot_toks, os⟩
theorem boot_abs (P : Params) : absHeap (bootT P) (boot_heap P).objs.size (boot_heap P).life = boot_heap P := by kernel_rfl
theorem bootS_abs (w : World) (os : OsState) : (bootS w os).abs = ⟨boot_heap w.params, #[], boot_drawn, boot_toks, os⟩ := by
  exact congrArg (fun h => Shared.mk h #[] boot_drawn boot_toks os) (boot_abs w.params)

/-- all but the way itself: what is seen behind the top -/
noncomputable def look (p q : Program) (loose : List Str) {α : Type} (Yf : Shared → α) (N : Nat) (w : World) (os : OsState) :=
  (topRunT treeTable p w (boot_heap w.params).objs.size (some (.ref 6)) N (bootS w os) (topStub p)).map fun s =>
    ((staticsOk (importedModules p.main.body) (boot_heap w.params) s.abs.heap && namesBound p s.abs.heap && gensDone s.abs && laidKept (boot_heap w.params) s.abs.heap),
      openSeen q loose (importedModules p.main.body) (fun _ => true) true s.abs, Yf s.abs)

theorem left_of_look {p q : Program} {loose : List Str} {α : Type} {Yf : Shared → α} {Ya : World → α} {N : Nat} (e : opening p = plainProg p.main.scope.names) (hN : Nat.ble 600 N = true) (f : ∀ s, fenceModules? p s = some s)
    (size : ∀ P : Params, ((boot_heap P).isNs mainGlobals, (boot_heap P).nsMap mainGlobals "__annotations__") = (true, some (.ref 6)))
    (h : ∀ w os, look p q loose Yf N w os = some (true, openGood q loose, Ya w)) : LeftO p q loose (fun _ => true) Yf Ya N := fun w => by
  obtain ⟨⟨hp, gs, d, k, os⟩, e1, e'⟩ := Option.map_eq_some_iff.mp (boot_open e hN f w)
  obtain ⟨rfl, rfl, rfl, rfl⟩ : hp = boot_heap w.params ∧ gs = #[] ∧ d = boot_drawn ∧ k = boot_toks := by simpa using e'
  obtain ⟨s, r, l⟩ := Option.map_eq_some_iff.mp (h w os)
  have r' := topRun_of r
  rw [bootS_abs] at r'
  obtain ⟨l1, l⟩ := Prod.mk.inj l
  obtain ⟨l2, l3⟩ := Prod.mk.inj l
  obtain ⟨z1, z2⟩ := Prod.mk.inj (size w.params)
  have t : topFrom treeTable p w N ⟨boot_heap w.params, #[], boot_drawn, boot_toks, os⟩ = some s.abs := by
    unfold topFrom
    dsimp only
    rw [z1, z2, r']
    show (match staticsOk (importedModules p.main.body) (boot_heap w.params) s.abs.heap && namesBound p s.abs.heap && gensDone s.abs && laidKept (boot_heap w.params) s.abs.heap with | true => _ | false => _) = _
    rw [l1]
  unfold openEnds
  rw [e1]
  show (topFrom treeTable p w N _).map _ = _
  rw [t]
  exact congrArg some (Prod.ext l2 l3)

/-- the law as a def -/
def lawD : DefRec := match (P0.main.body[50]? : Option Stmt) with
  | some (.FunctionDef n a b _ _ _ sc _ _ pos) => ⟨n, a, b, sc, pos⟩
  | _ => ⟨"law", ⟨[], [], none, [], [], none, []⟩, [], default, default⟩
def lawQ : Program := view P0 [50]
def lawLoose : List Str := P0.boundNames.filter fun n => n != "law"

/-- the objects of a heap, but the tables of codes -/
def num : List Obj → Nat → Frag
  | [], _ => []
  | o :: r, i => match (match o.cls, o.data with
      | .none, .fields _ => false
      | _, _ => true) && !o.isFreed with
    | true => (i, o) :: num r (i + 1)
    | false => num r (i + 1)
theorem num_mem {a : Addr} {o : Obj} : ∀ {l : List Obj} {i : Nat}, (a, o) ∈ num l i → ∃ j, a = i + j ∧ l[j]? = some o ∧ o.isFreed = false
  | [], _, h => by cases h
  | x :: r, i, h => by
    have go : (a, o) ∈ num r (i + 1) → ∃ j, a = i + j ∧ (x :: r)[j]? = some o ∧ o.isFreed = false := fun h => by
      obtain ⟨j, e, q⟩ := num_mem h
      exact ⟨j + 1, e.trans (by show i + 1 + j = i + (j + 1); omega), by rw [List.getElem?_cons_succ]; exact q⟩
    unfold num at h
    split at h
    · rename_i e
      cases h with
      | head => exact ⟨0, rfl, rfl, by simpa using (Bool.and_eq_true_iff.mp e).2⟩
      | tail _ h => exact go h
    · exact go h
theorem num_tabs : ∀ {l : List Obj} {i : Nat}, noTabs (num l i) = true
  | [], _ => rfl
  | x :: r, i => by
    unfold num
    split
    · rename_i e
      exact List.all_eq_true.mpr fun p hp => (by
        cases hp with
        | head => exact (Bool.and_eq_true_iff.mp e).1
        | tail _ h => exact List.all_eq_true.mp (num_tabs (l := r)) p h)
    · exact num_tabs
def fragH (h : Heap) : Frag := num h.objs.toList 0
theorem fragH_in (h : Heap) : (fragH h).In h := fun a o e => by
  obtain ⟨j, q, m, k⟩ := num_mem (PySem.W.mem_of_lookupK (K := fragH h) e)
  rw [Nat.zero_add] at q
  rw [q]
  exact Heap.get?_some_iff.mpr ⟨Array.getElem?_toList.symm.trans m, k⟩
theorem fragH_tabs (h : Heap) : noTabs (fragH h) = true := num_tabs

def isNoneV : Value → Bool
  | .none => true
  | _ => false
/-- the def that a function object is -/
def fnAt (K : Frag) (okV okC : Value → Bool) (f : Addr) : Option (Arguments × List Stmt × Scope) := match K.lookup f with
  | some ⟨_, _, .func ⟨_, qual, p, .stmts b, s, gl, [], dV, _, _, _, _, cd, _, bl⟩, _⟩ => match okV dV && okC cd && Nat.beq gl mainGlobals && Nat.beq bl builtinsNs && codeIn K cd qual with
    | true => some (p, b, s)
    | false => none
  | _ => none
theorem fnAt_spec {K : Frag} {h : Heap} {okV okC : Value → Bool} {f : Addr} {p : Arguments} {b : List Stmt} {s : Scope} (X : K.In h) (e : fnAt K okV okC f = some (p, b, s)) : ∃ dV cd, okV dV = true ∧ okC cd = true ∧ IsDefW h dV cd f p b s := by
  unfold fnAt at e
  split at e
  · rename_i nm qual p' b' s' gl dV kV doc pm an cd ct bl _ hk
    split at e
    · rename_i hc
      simp only [Bool.and_eq_true, Nat.beq_eq] at hc
      obtain ⟨⟨⟨⟨c1, c2⟩, c3⟩, c4⟩, c5⟩ := hc
      subst c3 c4
      cases e
      exact ⟨dV, cd, c1, c2, _, nm, qual, kV, doc, pm, an, ct, X _ _ hk, rfl, codeRec_of X c5⟩
    · cases e
  · cases e
def anyV (_ : Value) : Bool := true
def isRefV (a : Addr) : Value → Bool
  | .ref b => Nat.beq a b
  | _ => false
theorem isNoneV_eq {v : Value} (e : isNoneV v = true) : v = .none := by cases v <;> first | rfl | cases e
theorem isRefV_eq {v : Value} {a : Addr} (e : isRefV a v = true) : v = .ref a := by
  cases v with
  | ref b => rw [Nat.eq_of_beq_eq_true e]
  | _ => cases e
theorem fnAt_def {K : Frag} {h : Heap} {f : Addr} {p : Arguments} {b : List Stmt} {s : Scope} (X : K.In h) (e : fnAt K isNoneV anyV f = some (p, b, s)) : IsDef h f p b s := by
  obtain ⟨dV, cd, e1, _, o, name, qual, kV, doc, pm, an, ct, r⟩ := fnAt_spec X e
  cases isNoneV_eq e1
  exact ⟨o, name, qual, kV, doc, pm, an, cd, ct, r⟩
def refAt (K : Frag) (g : Addr → Option (Arguments × List Stmt × Scope)) (r : Option (Option Value)) : Option (Arguments × List Stmt × Scope) := match r with
  | some (some (.ref f)) => g f
  | _ => none

/-- a tuple or list of one thing -/
def seqOne (K : Frag) : Value → Bool
  | .ref t => match K.lookup t with
    | some ⟨_, _, .seq xs _, _⟩ => Nat.beq xs.size 1
    | _ => false
  | _ => false
theorem seqOne_eq {K : Frag} {h : Heap} {v : Value} (X : K.In h) (e : seqOne K v = true) : ∃ t o d n, v = .ref t ∧ h.get? t = some o ∧ o.data = .seq #[d] n := by
  unfold seqOne at e
  split at e
  · rename_i t
    split at e
    · rename_i xs n _ hk
      have e := Nat.eq_of_beq_eq_true e
      obtain ⟨l⟩ := xs
      cases l with
      | nil => cases e
      | cons d r => cases r with
        | nil => exact ⟨t, _, d, n, rfl, X _ _ hk, rfl⟩
        | cons => cases e
    · cases e
  · cases e

def theDefs : List (Str × Nat) := [("array_kind", 17), ("many_of", 20), ("strides_of", 21), ("check_sizes", 23), ("is_array", 24), ("parent_of", 25), ("sizes_of", 26), ("layout_of", 27), ("places_of", 28), ("items_of", 29), ("made", 30), ("folded", 32), ("along", 33), ("without_rank", 34), ("reduced", 35), ("running", 36), ("taken_row", 38), ("view_of", 41), ("line_views", 42), ("_law_supply", 44), ("_law_out", 45), ("_law_rows", 47), ("_law_from_left", 48), ("_law_lines", 49), ("law", 50)]
def theTypes : List String := ["tuple", "range", "list", "int", "enumerate", "zip"]
def theFns : List String := ["len", "isinstance", "chr", "ord"]

abbrev DF := Option (Arguments × List Stmt × Scope)
/-- what is asked of the heap behind the top: defs -/
def askDefs (K : Frag) : List DF := theDefs.map (fun q => refAt K (fnAt K isNoneV anyV) (nsIn K mainGlobals q.1)) ++
  [refAt K (fnAt K isNoneV (isRefV 358)) (nsIn K mainGlobals "_law_way"), refAt K (fnAt K (seqOne K) anyV) (nsIn K mainGlobals "named"),
   fnAt K isNoneV anyV 160, fnAt K isNoneV anyV 167, fnAt K isNoneV anyV 181, fnAt K isNoneV anyV 195, fnAt K isNoneV anyV 139]
def sayDefs : List DF := theDefs.map (fun q => defAt q.2) ++ [defAt 46, defAt 13, methAt 16 0, methAt 16 1, methAt 16 3, methAt 16 5, methAt 15 0]
def askNames (K : Frag) : List (Option (Option Value)) := (theTypes ++ theFns).map (fun x : String => nsIn K mainGlobals x) ++
  [nsIn K mainGlobals "MOST_ITEMS", nsIn K mainGlobals "Heap", nsIn K mainGlobals "Thing", findIn K (.ref 198) "__init__", findIn K (.ref 142) "__init__", findIn K (.ref 198) "put", findIn K (.ref 198) "new_array", findIn K (.ref 198) "object",
   findIn K (.ref 198) "__setattr__", findIn K (.ref 142) "__setattr__", takerIn K 198 "things", findIn K (.ref 198) "things", takerIn K 142 "kind", findIn K (.ref 142) "kind", takerIn K 142 "fields", findIn K (.ref 142) "fields", takerIn K 142 "sizes", findIn K (.ref 142) "sizes",
   (typeIn K (.ref 160)).map some, (typeIn K (.ref 139)).map some]
def sayNames : List (Option (Option Value)) := (theTypes ++ theFns).map (fun _ => some none) ++
  [some (some (.int 20000 443)), some (some (.ref 198)), some (some (.ref 142)), some (some (.ref 160)), some (some (.ref 139)), some (some (.ref 167)), some (some (.ref 181)), some (some (.ref 195)),
   some (some (.builtin "object.__setattr__")), some (some (.builtin "object.__setattr__")), some none, some none, some none, some none, some none, some none, some none, some none,
   some (some (.type "function")), some (some (.type "function"))]
def askBools (K : Frag) : List Bool := [makesIn K 198, plainOver K 198, hasDictIn K 198, plainGet K 198 "", makesIn K 142, plainOver K 142, hasDictIn K 142, plainGet K 142 "",
  isFn K (.ref 167), isFn K (.ref 181), isFn K (.ref 195), keepIn K (.ref 198), keepIn K (.ref 142), keepIn K (.ref 167), keepIn K (.ref 181), keepIn K (.ref 195), codeHdIn K 358 354]
def askAll (s : Shared) : List DF × List (Option (Option Value)) × List Bool × Option Obj := (askDefs (fragH s.heap), askNames (fragH s.heap), askBools (fragH s.heap), s.heap.get? 354)
def sayAll (_ : World) : List DF × List (Option (Option Value)) × List Bool × Option Obj := (sayDefs, sayNames, List.replicate 17 true, some (tabObj #[]))

theorem refAt_spec {K : Frag} {g : Addr → DF} {r : Option (Option Value)} {x : Arguments × List Stmt × Scope} (e : refAt K g r = some x) : ∃ f, r = some (some (.ref f)) ∧ g f = some x := by
  unfold refAt at e
  split at e
  · exact ⟨_, rfl, e⟩
  · cases e

theorem typ_of {x : Option Value} {t : Value} (e : x.map some = some (some t)) : x = some t := by
  cases x with
  | none => cases e
  | some y => exact Option.some.inj e
theorem AllL.of {α : Type} {P : α → Prop} : ∀ {l : List α}, (∀ x ∈ l, P x) → AllL P l
  | [], _ => trivial
  | _ :: _, h => ⟨h _ (.head _), AllL.of fun x hx => h x (.tail _ hx)⟩

/-- the Insts of a heap that answers so -/
theorem insts_look {K : Frag} {h : Heap} {mg mb : Str → Option Value} (X : K.In h) (B : Base h mg mb) (hb : ∀ x : Str, x ≠ "__name__" → mb x = bootBuiltins x)
    (e1 : askDefs K = sayDefs) (e2 : askNames K = sayNames) (e3 : askBools K = List.replicate 17 true) (s1 : sayDefs.all Option.isSome = true)
    (tb : theTypes.all (fun x => decide (bootBuiltins x = some (.type x)) && decide ((x : Str) ≠ "__name__")) = true) (tf : theFns.all (fun x => decide (bootBuiltins x = some (.builtin x)) && decide ((x : Str) ≠ "__name__")) = true) :
    Insts h mg mb K 198 142 160 139 167 181 195 ∧ (∃ f, mg "_law_way" = some (.ref f) ∧ IsDefNW h f 46 (.ref 358)) ∧ (∃ f, mg "law" = some (.ref f) ∧ IsDefN h f 50) ∧ codeHdIn K 358 354 = true := by
  have s2 : ∀ x ∈ sayDefs, ∃ y, x = some y := fun x hx => Option.isSome_iff_exists.mp (List.all_eq_true.mp s1 x hx)
  obtain ⟨d1, d2⟩ := List.append_inj e1 (by simp)
  obtain ⟨n1, n2⟩ := List.append_inj e2 (by simp)
  have d1 := List.map_inj_left.mp d1
  have n1 := List.map_inj_left.mp n1
  have D : ∀ q ∈ theDefs, ∃ f, mg q.1 = some (.ref f) ∧ IsDefN h f q.2 := fun q hq => by
    obtain ⟨⟨p, b, s⟩, ey⟩ := s2 (defAt q.2) (List.mem_append.mpr (.inl (List.mem_map.mpr ⟨q, hq, rfl⟩)))
    obtain ⟨f, e, e'⟩ := refAt_spec ((d1 q hq).trans ey)
    exact ⟨f, mg_of X B.g e, p, b, s, ey, fnAt_def X e'⟩
  have M : ∀ {a n m : Nat} (i : Nat), fnAt K isNoneV anyV a = methAt n m → methAt n m ∈ sayDefs → IsDefM h a n m := fun i e hm => by
    obtain ⟨⟨p, b, s⟩, ey⟩ := s2 _ hm
    exact ⟨p, b, s, ey, fnAt_def X (e.trans ey)⟩
  have tl : ∀ {y : DF}, y ∈ [defAt 46, defAt 13, methAt 16 0, methAt 16 1, methAt 16 3, methAt 16 5, methAt 15 0] → y ∈ sayDefs := fun h => List.mem_append.mpr (.inr h)
  have T : Tops h mg mb := tops_in B (AllL.of fun q hq => D q (List.mem_append.mpr (.inl hq) : q ∈ (_ ++ [((("law" : String) : Str), 50)] : List (Str × Nat))))
    (AllL.of fun x hx => by
      have q := List.all_eq_true.mp tb x hx
      simp only [Bool.and_eq_true, decide_eq_true_eq] at q
      exact ⟨mg_none_of X B.g (n1 x (List.mem_append.mpr (.inl hx))), (hb x q.2).trans q.1⟩)
    (AllL.of fun x hx => by
      have q := List.all_eq_true.mp tf x hx
      simp only [Bool.and_eq_true, decide_eq_true_eq] at q
      exact ⟨mg_none_of X B.g (n1 x (List.mem_append.mpr (.inr hx))), (hb x q.2).trans q.1⟩)
    ⟨443, mg_of X B.g (congrArg (fun l => l.getD 0 none) n2)⟩
    (by
      obtain ⟨⟨p, b, s⟩, ey⟩ := s2 (defAt 13) (tl (.tail _ (.head _)))
      obtain ⟨f, e, e'⟩ := refAt_spec ((congrArg (fun l => l.getD 1 none) d2 : refAt K _ _ = defAt 13).trans ey)
      obtain ⟨dV, cd, q1, _, o, name, qual, kV, doc, pm, an, ct, r⟩ := fnAt_spec X e'
      obtain ⟨t, ot, d, n, rfl, ht, hd⟩ := seqOne_eq X q1
      exact ⟨f, t, ot, d, n, p, b, s, mg_of X B.g e, ey, ⟨o, name, qual, kV, doc, pm, an, cd, ct, r⟩, ht, hd⟩)
  refine ⟨?_, ?_, D ("law", 50) (by decide), congrArg (fun l => l.getD 16 false) e3⟩
  · exact insts_in X T (congrArg (fun l => l.getD 1 none) n2) (congrArg (fun l => l.getD 2 none) n2)
      (congrArg (fun l => l.getD 3 none) n2) (congrArg (fun l => l.getD 4 none) n2) (congrArg (fun l => l.getD 5 none) n2) (congrArg (fun l => l.getD 6 none) n2) (congrArg (fun l => l.getD 7 none) n2)
      (congrArg (fun l => l.getD 0 false) e3) (typ_of (congrArg (fun l => l.getD 18 none) n2)) (congrArg (fun l => l.getD 8 none) n2) (congrArg (fun l => l.getD 1 false) e3) (congrArg (fun l => l.getD 2 false) e3) (congrArg (fun l => l.getD 3 false) e3)
      (congrArg (fun l => l.getD 10 none) n2) (congrArg (fun l => l.getD 11 none) n2) (congrArg (fun l => l.getD 8 false) e3) (congrArg (fun l => l.getD 9 false) e3) (congrArg (fun l => l.getD 10 false) e3) (congrArg (fun l => l.getD 11 false) e3)
      (congrArg (fun l => l.getD 4 false) e3) (typ_of (congrArg (fun l => l.getD 19 none) n2)) (congrArg (fun l => l.getD 9 none) n2) (congrArg (fun l => l.getD 5 false) e3) (congrArg (fun l => l.getD 6 false) e3) (congrArg (fun l => l.getD 7 false) e3)
      (congrArg (fun l => l.getD 12 none) n2) (congrArg (fun l => l.getD 13 none) n2) (congrArg (fun l => l.getD 14 none) n2) (congrArg (fun l => l.getD 15 none) n2) (congrArg (fun l => l.getD 16 none) n2) (congrArg (fun l => l.getD 17 none) n2) (congrArg (fun l => l.getD 12 false) e3)
      (congrArg (fun l => l.getD 13 false) e3) (congrArg (fun l => l.getD 14 false) e3) (congrArg (fun l => l.getD 15 false) e3)
      (M 2 (congrArg (fun l => l.getD 2 none) d2) (tl (.tail _ (.tail _ (.head _))))) (M 3 (congrArg (fun l => l.getD 3 none) d2) (tl (.tail _ (.tail _ (.tail _ (.head _)))))) (M 4 (congrArg (fun l => l.getD 4 none) d2) (tl (.tail _ (.tail _ (.tail _ (.tail _ (.head _)))))))
      (M 5 (congrArg (fun l => l.getD 5 none) d2) (tl (.tail _ (.tail _ (.tail _ (.tail _ (.tail _ (.head _)))))))) (M 6 (congrArg (fun l => l.getD 6 none) d2) (tl (.tail _ (.tail _ (.tail _ (.tail _ (.tail _ (.tail _ (.head _)))))))))
  · obtain ⟨⟨p, b, s⟩, ey⟩ := s2 (defAt 46) (tl (.head _))
    obtain ⟨f, e, e'⟩ := refAt_spec ((congrArg (fun l => l.getD 0 none) d2 : refAt K _ _ = defAt 46).trans ey)
    obtain ⟨dV, cd, q1, q2, r⟩ := fnAt_spec X e'
    cases isNoneV_eq q1
    cases isRefV_eq q2
    exact ⟨f, mg_of X B.g e, p, b, s, ey, r⟩

theorem use1 : Function.const _ true @look = true := by k_qdec
theorem use2 : Function.const _ true @askAll = true := by k_qdec
end Mine

namespace Mine
open PySem.Calls
theorem look_twin (q : Program) (l : List Str) (N : Nat) (w : World) (os : OsState) : look P0 q l askAll N w os = PySem.W.Fast.tw12817696595986750196 P0 q l PySem.W.Fast.tw17290599501718018513 N w os := by
  rw [← PySem.W.Fast.te12817696595986750196, ← PySem.W.Fast.te17290599501718018513]
theorem b1 : (sayDefs.all Option.isSome) = true := by kernel_rfl
theorem b2 : (theTypes.all (fun x => decide (bootBuiltins x = some (.type x)) && decide ((x : Str) ≠ "__name__"))) = true := by kernel_rfl
theorem b3 : (theFns.all (fun x => decide (bootBuiltins x = some (.builtin x)) && decide ((x : Str) ≠ "__name__"))) = true := by kernel_rfl
theorem b4 : opening P0 = plainProg P0.main.scope.names := by kernel_rfl
theorem b5 (s : Shared) : fenceModules? P0 s = some s := by kernel_rfl
theorem b6 (P : Params) : ((boot_heap P).isNs mainGlobals, (boot_heap P).nsMap mainGlobals "__annotations__") = (true, some (.ref 6)) := by kernel_rfl
theorem b7 : defOf lawQ "law" = some (lawD, []) := by kernel_rfl
theorem b8 : P0.theDef "law" = some (lawD.params, lawD.body, lawD.scope) := by kernel_rfl
end Mine

namespace Mine
open PySem.Calls
theorem look_is (w : World) (os : OsState) : look P0 lawQ lawLoose askAll 4000 w os = some (true, openGood lawQ lawLoose, sayAll w) := (look_twin lawQ lawLoose 4000 w os).trans (by kernel_rfl)
end Mine

namespace Mine
open PySem.Calls
theorem said : OpenLaw.wellSaid PySem.Challenge.rw_pq0697_01 = true := (congrFun PySem.W.Fast.te9446332074065402090 _).trans (by kernel_rfl)
def Said (h : Heap) : Prop := (∃ K : Frag, K.In h ∧ noTabs K = true ∧ askDefs K = sayDefs ∧ askNames K = sayNames ∧ askBools K = List.replicate 17 true) ∧ h.get? 354 = some (tabObj #[])
theorem said_of {w : World} {s : Shared} (e : askAll s = sayAll w) : Said s.heap :=
  ⟨⟨fragH s.heap, fragH_in _, fragH_tabs _, congrArg Prod.fst e, congrArg (fun x => x.2.1) e, congrArg (fun x => x.2.2.1) e⟩, congrArg (fun x => x.2.2.2) e⟩
theorem Said.keeps {h h' : Heap} (x : Said h) (k : ∀ b o, h.get? b = some o → h'.get? b = some o) : Said h' :=
  let ⟨⟨K, X, r⟩, t⟩ := x; ⟨⟨K, X.keeps k, r⟩, k _ _ t⟩
theorem left0 : LeftO P0 lawQ lawLoose (fun _ => true) askAll sayAll 4000 := left_of_look b4 (by decide) b5 b6 look_is

local macro_rules | `(tactic| walk_at "sig") => `(tactic| exact ⟨fun name qual kV doc pm an cdv ct vs hl => by (match vs, hl with | [_], _ => with_unfolding_all rfl), by decide +kernel, by decide +kernel, by decide +kernel, rfl, rfl, rfl⟩)
abbrev theTabs : List (Addr × Addr) := [(358, 354)]
theorem tabs_said {h : Heap} (Y : Said h) : TabsAt theTabs h := by
  obtain ⟨⟨K, X, _, _, _, e3⟩, t⟩ := Y
  exact List.forall_mem_cons.mpr ⟨⟨codeHd_of_K (c := 358) (P := 354) X (congrArg (fun l => l.getD 16 false) e3), t⟩, fun _ h => nomatch h⟩

theorem law_enter {q : Program} {loose : List Str} {mean : ExcName → Option Value} {mg mb : Str → Option Value} {w : World} {s : Shared} {fa l : Addr} {vs : List Value} {ns : List Int}
    (Y : Said s.heap) (T : Top q loose mean mg mb s.heap) (hmg : mg "law" = some (.ref fa)) (hL : s.heap.IsList l vs.toArray) (hI : IntsAre vs ns) (hz : ns.length ≤ sizeLine) :
    codeAny (model P0 w) callerA (.call (.ref fa) ⟨[.ref l], []⟩) (fun r s' => r = .ok (.ret (.bool true)) ∧ KeepM (fun b => (ghostOf s.heap theTabs).get? b = none) s s' ∧ ∃ ps, s'.heap.get? 354 = some (tabObj ps)) s := by
  have hT := tabs_said Y
  obtain ⟨⟨K, X, nt, e1, e2, e3⟩, t⟩ := Y
  have T' := ghost_top hT T
  have X' := ghost_K hT X nt
  have B : Base (ghostOf s.heap theTabs) mg mb := ⟨T'.g, T'.b, T'.nolimit⟩
  obtain ⟨I, hW, ⟨f, ef, p, b, sc, e, hd⟩, hc⟩ := insts_look X' B T'.builtins e1 e2 e3 b1 b2 b3
  cases Value.ref.inj (Option.some.inj (hmg.symm.trans ef))
  have WT : WayTop (ghostOf s.heap theTabs) mg 354 358 := ⟨T'.bmain, codeHd_of_K X' hc⟩
  have hl' := ghost_list hT hL
  have hn : (ghostOf s.heap theTabs).get? 354 = none := hideAll_none _ (.head _)
  have hb : ∀ a o, (ghostOf s.heap theTabs).get? a = some o → vw (fun b => b = 354) s.heap a o := fun a o q => ⟨of_hideAll _ q, fun z => by rw [z, hn] at q; cases q⟩
  have sg : Sig p b sc ["script"] := by
    cases (show defAt 50 = some (_, _, _) from rfl).symm.trans e
    walk_at "sig"
  obtain ⟨o, ho, hcl, n, hdt⟩ := hl'
  refine call_def (k := 20) (ns := ["script"]) (ds := [dListW (ns.map dInt)]) (X := fun b => b = 354) B hd sg ⟨rfl, by decide, by decide⟩ (fun b hb => hb ▸ ⟨_, t⟩) hb
    ⟨⟨l, o, n, vs, rfl, hb _ _ ho, hcl, hdt, by rw [List.length_map]; exact hz, ints_all hI⟩, trivial⟩ rfl fun env s₁ hfe g hnone ok => ?_
  have hP := Grows.at g t
  refine wpAny_mono (law_run (k := 0) e hfe I WT hW ⟨rfl, ?_, ?_⟩ ok (.inl rfl) (fun z => by rw [hnone _ z] at t; cases t) hP) (fun f s' ⟨e, k, ps⟩ => ?_) fun _ _ x => x
  · show callerA.depth + 1 + (0 + 20) ≤ 900; decide
  · show callerA.units + 3 + 10 * (0 + 20) + 100 ≤ 9900; decide
  · subst e
    exact ⟨rfl, (KeepM.of_keeps g).trans k, ps⟩
end Mine

theorem PySem.Challenge.cw_pq0697_01_holds : PySem.Challenge.rw_pq0697_01.Holds := by
  w_on
  refine holds_law Mine.said fun k1 => holds_open (q := Mine.lawQ) (loose := Mine.lawLoose) (Xt := fun _ => true) (XP := fun _ _ => True) (Yf := Mine.askAll) (Ya := Mine.sayAll) (YP := fun _ h => Mine.Said h) (N := 4000) (d := Mine.lawD) (kwd := []) Mine.left0 (fun _ _ => Mine.said_of) (fun _ _ _ => Mine.Said.keeps) (fun _ _ => trivial) (fun _ _ _ _ _ => trivial) Mine.b7 Mine.b8 (by kernel_rfl) (fun _ _ => recFacts_nil rfl) rfl k1 (by kernel_rfl) ⟨rfl, rfl, rfl, rfl, rfl, by decide +kernel⟩ ?hw ?hc
  case hw => w_witness2
  intro w s₀ s₁ mg mb G Y fa o pm cd doc dV kV ho hd hcd hD hmg hg args vals as hpre hlay hrd hwl hlo
  refine Ground.open G ?_
  intro T B D TE TW
  wrow_args hpre hlay hrd hwl hlo
  all_goals (
    refine enter_call (kn_post (Mine.tabs_said Y) (fun _ _ => rfl) (codeAny_mono (Mine.law_enter (w := w) Y T hmg (by assumption) (by assumption) (Mine.le_of_hcond (by assumption))) fun r s' ⟨er, k, ps⟩ => ?_))
    subst er
    obtain ⟨h', tk, rfl, kk⟩ := k
    refine ⟨⟨.inl ⟨_, _, _, rfl, ?_, .bool true, ?_, ?_⟩, ?_, rfl, hg⟩, ps, trivial⟩
    · intro cls; rfl
    · kc_post
    · intro _; exact ⟨List.nodup_nil, fun _ h => nomatch h⟩
    · intro b o q
      exact kk b o (fun z => by rw [z] at q; cases q) (of_hideAll _ q))
