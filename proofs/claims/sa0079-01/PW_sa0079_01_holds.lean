import PyProof.Rows.All
import Wide.All
import OpenK.AllK
import Wide.FinOn
import PySem.Challenge.RW_sa0079_01
open PySem PySem.W PyProof.Rows
set_option Elab.async false
set_option maxRecDepth 100000
set_option linter.unusedVariables false
set_option genInjectivity false
set_option genSizeOf false

namespace Mine

/-! plain data -/
inductive D where
  | none
  | bool (b : Bool)
  | int (i : Int)
  | tup (ds : List D)
  | lst (ds : List D)

mutual
inductive Rep (N : Addr → Prop) (h : Heap) : Value → D → Prop
  | none : Rep N h Value.none D.none
  | bool (b : Bool) : Rep N h (Value.bool b) (D.bool b)
  | int (i : Int) (t : Tok) : Rep N h (Value.int i t) (D.int i)
  | tup {a : Addr} {vs : List Value} {ds : List D} : ¬ N a → IsTup h a vs.toArray → vs.length ≤ sizeLine → Reps N h vs ds → Rep N h (Value.ref a) (D.tup ds)
  | lst {a : Addr} {vs : List Value} {ds : List D} : ¬ N a → h.IsList a vs.toArray → vs.length ≤ sizeLine → Reps N h vs ds → Rep N h (Value.ref a) (D.lst ds)
inductive Reps (N : Addr → Prop) (h : Heap) : List Value → List D → Prop
  | nil : Reps N h [] []
  | cons {v : Value} {vs : List Value} {d : D} {ds : List D} : Rep N h v d → Reps N h vs ds → Reps N h (v :: vs) (d :: ds)
end

/-- what is not in N stands -/
def Kp (N : Addr → Prop) (h h' : Heap) : Prop := ∀ b o, ¬ N b → h.get? b = some o → h'.get? b = some o
theorem Kp.refl {N : Addr → Prop} {h : Heap} : Kp N h h := fun _ _ _ e => e
theorem Kp.of_ext {N : Addr → Prop} {h h' : Heap} (k : ∀ b o, h.get? b = some o → h'.get? b = some o) : Kp N h h' := fun b o _ e => k b o e

theorem IsTup.kp {N : Addr → Prop} {h h' : Heap} {a : Addr} {its : Array Value} (x : IsTup h a its) (n : ¬ N a) (k : Kp N h h') : IsTup h' a its :=
  let ⟨o, ho, r⟩ := x; ⟨o, k a o n ho, r⟩
theorem IsList.kp {N : Addr → Prop} {h h' : Heap} {a : Addr} {its : Array Value} (x : h.IsList a its) (n : ¬ N a) (k : Kp N h h') : h'.IsList a its :=
  let ⟨o, ho, r⟩ := x; ⟨o, k a o n ho, r⟩

mutual
theorem Rep.kp {N N' : Addr → Prop} {h h' : Heap} (k : Kp N h h') (hN : ∀ a, N' a → (∃ o, h.get? a = some o) → N a) : ∀ {v : Value} {d : D}, Rep N h v d → Rep N' h' v d
  | _, _, .none => .none
  | _, _, .bool b => .bool b
  | _, _, .int i t => .int i t
  | _, _, .tup n t l r => .tup (fun x => n (hN _ x (let ⟨o, ho, _⟩ := t; ⟨o, ho⟩))) (IsTup.kp t n k) l (Reps.kp k hN r)
  | _, _, .lst n t l r => .lst (fun x => n (hN _ x (let ⟨o, ho, _⟩ := t; ⟨o, ho⟩))) (IsList.kp t n k) l (Reps.kp k hN r)
theorem Reps.kp {N N' : Addr → Prop} {h h' : Heap} (k : Kp N h h') (hN : ∀ a, N' a → (∃ o, h.get? a = some o) → N a) : ∀ {vs : List Value} {ds : List D}, Reps N h vs ds → Reps N' h' vs ds
  | _, _, .nil => .nil
  | _, _, .cons x r => .cons (Rep.kp k hN x) (Reps.kp k hN r)
end

theorem Rep.keep {N : Addr → Prop} {h h' : Heap} {v : Value} {d : D} (x : Rep N h v d) (k : ∀ b o, h.get? b = some o → h'.get? b = some o) : Rep N h' v d := x.kp (.of_ext k) fun _ a _ => a
theorem Reps.keep {N : Addr → Prop} {h h' : Heap} {vs : List Value} {ds : List D} (x : Reps N h vs ds) (k : ∀ b o, h.get? b = some o → h'.get? b = some o) : Reps N h' vs ds := x.kp (.of_ext k) fun _ a _ => a
theorem Reps.length {N : Addr → Prop} {h : Heap} : ∀ {vs : List Value} {ds : List D}, Reps N h vs ds → vs.length = ds.length
  | _, _, .nil => rfl
  | _, _, .cons _ r => by simp [r.length]
theorem Reps.get {N : Addr → Prop} {h : Heap} : ∀ {vs : List Value} {ds : List D}, Reps N h vs ds → ∀ (i : Nat) (d : D), ds[i]? = some d → ∃ v, vs[i]? = some v ∧ Rep N h v d
  | _, _, .nil, i, d, e => by simp at e
  | _, _, .cons x r, 0, d, e => by simp at e; subst e; exact ⟨_, rfl, x⟩
  | _, _, .cons x r, i + 1, d, e => by simpa using r.get i d (by simpa using e)
theorem Reps.append {N : Addr → Prop} {h : Heap} : ∀ {vs ws : List Value} {ds es : List D}, Reps N h vs ds → Reps N h ws es → Reps N h (vs ++ ws) (ds ++ es)
  | _, _, _, _, .nil, q => q
  | _, _, _, _, .cons x r, q => .cons x (r.append q)
theorem Reps.drop {N : Addr → Prop} {h : Heap} : ∀ {vs : List Value} {ds : List D} (k : Nat), Reps N h vs ds → Reps N h (vs.drop k) (ds.drop k)
  | _, _, 0, q => by simpa using q
  | _, _, _ + 1, .nil => by simpa using Reps.nil
  | _, _, k + 1, .cons _ r => by simpa using r.drop k
theorem Reps.take {N : Addr → Prop} {h : Heap} : ∀ {vs : List Value} {ds : List D} (k : Nat), Reps N h vs ds → Reps N h (vs.take k) (ds.take k)
  | _, _, 0, _ => by simpa using Reps.nil
  | _, _, _ + 1, .nil => by simpa using Reps.nil
  | _, _, k + 1, .cons x r => by simpa using Reps.cons x (r.take k)
theorem Reps.reverse {N : Addr → Prop} {h : Heap} : ∀ {vs : List Value} {ds : List D}, Reps N h vs ds → Reps N h vs.reverse ds.reverse
  | _, _, .nil => .nil
  | _, _, .cons x r => by rw [List.reverse_cons, List.reverse_cons]; exact r.reverse.append (.cons x .nil)

/-! stores -/
inductive Slot where
  | val (d : D)
  | own (ds : List D)
abbrev Sto := List (Str × Slot)

def un (X O : Addr → Prop) (a : Addr) : Prop := X a ∨ O a

inductive SRep (X O : Addr → Prop) (h : Heap) : Value → Slot → Prop
  | val {v : Value} {d : D} : Rep (un X O) h v d → SRep X O h v (.val d)
  | own {a : Addr} {vs : List Value} {ds : List D} : O a → PlainL h a vs.toArray → vs.length ≤ sizeLine → Reps (un X O) h vs ds → SRep X O h (.ref a) (.own ds)

def Rds (env : Env) (m : Str → Option Value) (O : Addr → Prop) (h : Heap) (x : Str) (v : Value) : Prop :=
  (env.kindOf x = some .local ∧ m x = some v) ∨
  ((env.kindOf x = some .cell ∨ env.kindOf x = some .free) ∧ (x == ("__classdict__" : Str)) = false ∧ ∃ c, env.cells.lookup x = some c ∧ ¬ O c ∧ h.IsCell c (some v))

structure Wd where
  prog : Program
  w : World
  mg : Str → Option Value
  mb : Str → Option Value
  hB : Heap

structure Wd.OK (W : Wd) : Prop where
  g : W.hB.Ns mainGlobals W.mg
  b : W.hB.Ns builtinsNs W.mb
  nolimit : W.hB.NoLimit

structure EnvOK (sc : Scope) (env : Env) : Prop where
  scope : env.scope = sc
  kind : sc.kind = .function
  globals : env.globals = mainGlobals
  builtins : env.builtins = builtinsNs

structure Room (n : Nat) (A : Around) : Prop where
  handled : A.handled = none
  depth : A.depth + n < recursionLimit
  units : A.units + 8 * n + 64 < cLine

theorem Room.deeper {n : Nat} {A : Around} {env : Env} (r : Room (n + 1) A) : Room n (A.deeper env) := by
  refine ⟨r.handled, ?_, ?_⟩
  · show A.depth + 1 + n < recursionLimit
    have := r.depth; omega
  · show A.units + 3 + 8 * n + 64 < cLine
    have := r.units; omega
theorem Room.le {n k : Nat} {A : Around} (r : Room n A) (h : k ≤ n) : Room k A := by
  refine ⟨r.handled, ?_, ?_⟩
  · have := r.depth; omega
  · have := r.units; omega

structure St (W : Wd) (env : Env) (m : Str → Option Value) (X O : Addr → Prop) (ρ : Sto) (h : Heap) : Prop where
  ns : h.Ns env.locals m
  loc : O env.locals
  base : ∀ b o, W.hB.get? b = some o → h.get? b = some o
  xs : ∀ a, X a → W.hB.get? a = none ∧ ¬ O a ∧ ∃ o, h.get? a = some o
  os : ∀ a, O a → W.hB.get? a = none ∧ ∃ o, h.get? a = some o
  vars : ∀ x sl, ρ.lookup x = some sl → ∃ v, Rds env m O h x v ∧ SRep X O h v sl

theorem IsCell.kp {N : Addr → Prop} {h h' : Heap} {a : Addr} {v : Option Value} (x : h.IsCell a v) (n : ¬ N a) (k : Kp N h h') : h'.IsCell a v := by
  obtain ⟨o, ho, r⟩ := x; exact ⟨o, k a o n ho, r⟩
theorem PlainList.keep {h h' : Heap} {a : Addr} {its : Array Value} (x : h.PlainList a its) (k : ∀ b o, h.get? b = some o → h'.get? b = some o) : h'.PlainList a its := by
  obtain ⟨n, ho⟩ := x; exact ⟨n, k _ _ ho⟩

theorem Rds.keep {env : Env} {m : Str → Option Value} {O : Addr → Prop} {h h' : Heap} {x : Str} {v : Value} (r : Rds env m O h x v) (k : ∀ b o, h.get? b = some o → h'.get? b = some o) : Rds env m O h' x v :=
  r.imp id fun ⟨a, b, c, d, e, f⟩ => ⟨a, b, c, d, e, f.keeps k⟩
theorem SRep.keep {X O : Addr → Prop} {h h' : Heap} {v : Value} {sl : Slot} (r : SRep X O h v sl) (k : ∀ b o, h.get? b = some o → h'.get? b = some o) : SRep X O h' v sl := by
  cases r with
  | val r => exact .val (r.keep k)
  | own a p l r => exact .own a (p.keeps k) l (r.keep k)

theorem St.keep {W : Wd} {env : Env} {m : Str → Option Value} {X O : Addr → Prop} {ρ : Sto} {h h' : Heap} (S : St W env m X O ρ h) (k : ∀ b o, h.get? b = some o → h'.get? b = some o) : St W env m X O ρ h' where
  ns := S.ns.keeps k
  loc := S.loc
  base := fun b o e => k _ _ (S.base b o e)
  xs := fun a x => let ⟨p, q, o, r⟩ := S.xs a x; ⟨p, q, o, k _ _ r⟩
  os := fun a x => let ⟨p, o, r⟩ := S.os a x; ⟨p, o, k _ _ r⟩
  vars := fun x sl e => let ⟨v, r, s⟩ := S.vars x sl e; ⟨v, r.keep k, s.keep k⟩

theorem St.fresh {W : Wd} {env : Env} {m : Str → Option Value} {X O : Addr → Prop} {ρ : Sto} {h : Heap} (S : St W env m X O ρ h) {a : Addr} (e : h.get? a = none) : ¬ un X O a := by
  rintro (x | x)
  · obtain ⟨_, _, o, r⟩ := S.xs a x; rw [e] at r; cases r
  · obtain ⟨_, o, r⟩ := S.os a x; rw [e] at r; cases r
theorem St.baseN {W : Wd} {env : Env} {m : Str → Option Value} {X O : Addr → Prop} {ρ : Sto} {h : Heap} (S : St W env m X O ρ h) {a : Addr} {o : Obj} (e : W.hB.get? a = some o) : ¬ un X O a := by
  rintro (x | x)
  · have := (S.xs a x).1; rw [e] at this; cases this
  · have := (S.os a x).1; rw [e] at this; cases this
/-- fewer names are told -/
theorem St.forget {W : Wd} {env : Env} {m : Str → Option Value} {X O : Addr → Prop} {ρ ρ' : Sto} {h : Heap} (S : St W env m X O ρ h) (q : ∀ x sl, ρ'.lookup x = some sl → ρ.lookup x = some sl) : St W env m X O ρ' h :=
  { S with vars := fun x sl e => S.vars x sl (q x sl e) }

structure Ks (s s' : Shared) : Prop where
  eq : ∃ h' tk, s' = { s with heap := h', toks := tk }
  get : ∀ b o, s.heap.get? b = some o → s'.heap.get? b = some o
theorem Ks.rfl' {s : Shared} : Ks s s := ⟨⟨s.heap, s.toks, rfl⟩, fun _ _ e => e⟩
theorem Ks.trans' {s s₁ s₂ : Shared} (x : Ks s s₁) (y : Ks s₁ s₂) : Ks s s₂ := by
  obtain ⟨⟨h, t, rfl⟩, k⟩ := x
  obtain ⟨⟨h', t', rfl⟩, k'⟩ := y
  exact ⟨⟨h', t', rfl⟩, fun b o e => k' b o (k b o e)⟩
theorem Ks.of {s s₁ : Shared} (x : Keeps s s₁) : Ks s s₁ := by
  obtain ⟨h, t, rfl, k⟩ := x; exact ⟨⟨h, t, rfl⟩, k⟩
theorem Ks.to {s s₁ : Shared} (x : Ks s s₁) : Keeps s s₁ := by
  obtain ⟨⟨h, t, rfl⟩, k⟩ := x; exact ⟨h, t, rfl, k⟩
theorem Ks.heap {s : Shared} {h : Heap} {t : Nat} (k : ∀ b o, s.heap.get? b = some o → h.get? b = some o) : Ks s { s with heap := h, toks := t } := ⟨⟨h, t, rfl⟩, k⟩
theorem Ks.tok {s : Shared} {t : Nat} : Ks s { s with toks := t } := ⟨⟨s.heap, t, rfl⟩, fun _ _ e => e⟩
theorem Ks.push {s : Shared} {o : Obj} : Ks s { s with heap := s.heap.push o } := ⟨⟨_, s.toks, rfl⟩, fun _ _ e => Heap.get?_push_of_some _ e⟩

abbrev NoE : Value → Shared → Prop := fun _ _ => False
theorem wpNoE {α : Type} {M : Model} {A : Around} {t : Sem α} {Q : α → Shared → Prop} {E : Value → Shared → Prop} {s : Shared} (h : wpAny M A t Q NoE s) : wpAny M A t Q E s :=
  wpAny_mono h (fun _ _ x => x) fun _ _ x => x.elim

/-- the expression comes to d -/
def EvS (W : Wd) (n : Nat) (sc : Scope) (ρ : Sto) (e : Expr) (d : D) : Prop :=
  ∀ (A : Around) (env : Env) (m : Str → Option Value) (X O : Addr → Prop) (s : Shared), Room n A → EnvOK sc env → St W env m X O ρ s.heap →
    wpAny (model W.prog W.w) A (eval e env) (fun v s' => Ks s s' ∧ Rep (un X O) s'.heap v d) NoE s
/-- the test comes to b -/
def TrS (W : Wd) (n : Nat) (sc : Scope) (ρ : Sto) (e : Expr) (b : Bool) : Prop :=
  ∀ (A : Around) (env : Env) (m : Str → Option Value) (X O : Addr → Prop) (s : Shared), Room n A → EnvOK sc env → St W env m X O ρ s.heap →
    wpAny (model W.prog W.w) A (PySem.isTrue e env (eval e env)) (fun c s' => Ks s s' ∧ c = b) NoE s
/-- the arguments -/
def ArS (W : Wd) (n : Nat) (sc : Scope) (ρ : Sto) (es : List Expr) (ds : List D) : Prop :=
  ∀ (A : Around) (env : Env) (m : Str → Option Value) (X O : Addr → Prop) (s : Shared) (pos : Pos), Room n A → EnvOK sc env → St W env m X O ρ s.heap →
    wpAny (model W.prog W.w) A (spliced (backTo pos (starEach es env))) (fun vs s' => Ks s s' ∧ Reps (un X O) s'.heap vs ds) NoE s

/-- a call of a def by its name -/
def CallS (W : Wd) (n : Nat) (f : Str) (ds : List D) (d : D) : Prop :=
  ∃ a o fd, W.mg f = some (.ref a) ∧ W.hB.get? a = some o ∧ o.data = .func fd ∧
  ∀ (A : Around) (N : Addr → Prop) (s : Shared) (vs : List Value), Room n A → (∀ b o, W.hB.get? b = some o → s.heap.get? b = some o) →
    (∀ a, N a → W.hB.get? a = none ∧ ∃ o, s.heap.get? a = some o) → Reps N s.heap vs ds →
    wpAny (model W.prog W.w) A (call (.ref a) vs) (fun v s' => Ks s s' ∧ Rep N s'.heap v d) NoE s

section
variable {W : Wd} {n : Nat} {sc : Scope} {ρ : Sto}

theorem EvS.cast {e : Expr} {d d' : D} (h : EvS W n sc ρ e d) (q : d = d') : EvS W n sc ρ e d' := q ▸ h
theorem TrS.cast {e : Expr} {d d' : Bool} (h : TrS W n sc ρ e d) (q : d = d') : TrS W n sc ρ e d' := q ▸ h

theorem ev_int {i : Int} {k : Nat} {pos : Pos} : EvS W n sc ρ (.Constant (.int i) k pos) (.int i) :=
  fun _ _ _ _ _ _ _ _ _ => wpAny_Constant_int ⟨.tok, .int _ _⟩
theorem ev_none {k : Nat} {pos : Pos} : EvS W n sc ρ (.Constant .none k pos) .none :=
  fun _ _ _ _ _ _ _ _ _ => wpAny_Constant_none ⟨.rfl', .none⟩
theorem ev_bool {b : Bool} {k : Nat} {pos : Pos} : EvS W n sc ρ (.Constant (.bool b) k pos) (.bool b) :=
  fun _ _ _ _ _ _ _ _ _ => wpAny_Constant_bool ⟨.rfl', .bool _⟩

theorem wp_load {A : Around} {env : Env} {m : Str → Option Value} {O : Addr → Prop} {s : Shared} {x : Str} {v : Value} {Q : Value → Shared → Prop} {E : Value → Shared → Prop} (en : EnvOK sc env) (hn : s.heap.Ns env.locals m) (r : Rds env m O s.heap x v) (h : Q v s) :
    wpAny (model W.prog W.w) A (loadName env x) Q E s := by
  have hk : env.scope.kind = .function := en.scope ▸ en.kind
  rcases r with ⟨kl, hm⟩ | ⟨kl | kl, hd, c, hc, _, hv⟩
  · exact wpAny_loadName_local hk kl hn hm h
  · exact wpAny_loadName_cell hk kl hc hv h
  · exact wpAny_loadName_free hk kl hc hv h hd

theorem ev_name {x : Str} {pos : Pos} {d : D} (h : ρ.lookup x = some (.val d)) (hd : (x == ("__debug__" : Str)) = false) : EvS W n sc ρ (.Name x pos) d := by
  intro A env m X O s rm en S
  obtain ⟨v, r, q⟩ := S.vars _ _ h
  cases q with
  | val q => exact wpAny_Name (wp_load en S.ns r ⟨.rfl', q⟩) hd

/-- a global name -/
theorem wp_global {A : Around} {env : Env} {s : Shared} {x : Str} {v : Value} {Q : Value → Shared → Prop} {E : Value → Shared → Prop} (ok : W.OK) (en : EnvOK sc env) (hx : sc.names.lookup x = some .globalImplicit) (hb : ∀ b o, W.hB.get? b = some o → s.heap.get? b = some o)
    (hv : W.mg x = some v ∨ (W.mg x = none ∧ W.mb x = some v)) (h : Q v s) : wpAny (model W.prog W.w) A (loadName env x) Q E s := by
  have hk : env.scope.kind = .function := en.scope ▸ en.kind
  have hkk : env.kindOf x = some .globalImplicit := by unfold Env.kindOf; rw [en.scope]; exact hx
  unfold loadName
  simp only [Env.blockKind, hk, hkk, ScopeKind.isAnnotationScope, Bool.false_and, Bool.false_eq_true, if_false]
  unfold loadGlobal
  rw [en.globals, en.builtins]
  refine wpAny_bind (wpAny_nsGet (ok.g.keeps hb) ?_)
  rcases hv with hv | ⟨h1, h2⟩
  · rw [hv]; exact wpAny_pure h
  · rw [h1]
    refine wpAny_bind (wpAny_nsGet (ok.b.keeps hb) ?_)
    rw [h2]; exact wpAny_pure h
theorem wp_globalName {A : Around} {env : Env} {s : Shared} {x : Str} {pos : Pos} {v : Value} {Q : Value → Shared → Prop} {E : Value → Shared → Prop} (ok : W.OK) (en : EnvOK sc env) (hx : sc.names.lookup x = some .globalImplicit) (hb : ∀ b o, W.hB.get? b = some o → s.heap.get? b = some o)
    (hv : W.mg x = some v ∨ (W.mg x = none ∧ W.mb x = some v)) (h : Q v s) (hd : (x == ("__debug__" : Str)) = false := by decide) : wpAny (model W.prog W.w) A (eval (.Name x pos) env) Q E s :=
  wpAny_Name (wp_global ok en hx hb hv h) hd

/-- a datum that the top holds -/
def GlobAt (W : Wd) (x : Str) (d : D) : Prop := ∃ v, W.mg x = some v ∧ Rep (fun _ => False) W.hB v d
mutual
theorem Rep.ofBase {N : Addr → Prop} {hB h : Heap} (k : ∀ b o, hB.get? b = some o → h.get? b = some o) (hN : ∀ a o, hB.get? a = some o → ¬ N a) : ∀ {v : Value} {d : D}, Rep (fun _ => False) hB v d → Rep N h v d
  | _, _, .none => .none
  | _, _, .bool b => .bool b
  | _, _, .int i t => .int i t
  | _, _, .tup _ t l r => .tup (let ⟨o, ho, _⟩ := t; hN _ o ho) (t.keeps k) l (Reps.ofBase k hN r)
  | _, _, .lst _ t l r => .lst (let ⟨o, ho, _⟩ := t; hN _ o ho) (IsList.kp t (fun x => x) (.of_ext k : Kp (fun _ => False) _ _)) l (Reps.ofBase k hN r)
theorem Reps.ofBase {N : Addr → Prop} {hB h : Heap} (k : ∀ b o, hB.get? b = some o → h.get? b = some o) (hN : ∀ a o, hB.get? a = some o → ¬ N a) : ∀ {vs : List Value} {ds : List D}, Reps (fun _ => False) hB vs ds → Reps N h vs ds
  | _, _, .nil => .nil
  | _, _, .cons x r => .cons (Rep.ofBase k hN x) (Reps.ofBase k hN r)
end
theorem ev_glob {x : Str} {pos : Pos} {d : D} (ok : W.OK) (g : GlobAt W x d) (hx : sc.names.lookup x = some .globalImplicit) (hd : (x == ("__debug__" : Str)) = false) : EvS W n sc ρ (.Name x pos) d := by
  intro A env m X O s rm en S
  obtain ⟨v, hv, r⟩ := g
  exact wp_globalName ok en hx S.base (.inl hv) ⟨.rfl', Rep.ofBase S.base (fun _ _ e => S.baseN e) r⟩ hd

theorem ar_nil : ArS W n sc ρ [] [] := fun _ _ _ _ _ _ _ _ _ _ => wpAny_items_nil ⟨.rfl', .nil⟩
def notStar : Expr → Bool
  | .Starred .. => false
  | _ => true
theorem starEach_of {e : Expr} {rest : List Expr} {env : Env} (h : notStar e = true) : starEach (e :: rest) env = (false, eval e env) :: starEach rest env := by
  cases e <;> first | rfl | cases h
theorem ar_cons {e : Expr} {es : List Expr} {d : D} {ds : List D} (h : EvS W n sc ρ e d) (r : ArS W n sc ρ es ds) (hs : notStar e = true) : ArS W n sc ρ (e :: es) (d :: ds) := by
  intro A env m X O s pos rm en S
  refine wpAny_items_cons (wpAny_mono (h A env m X O s rm en S) (fun v s₁ ⟨k, q⟩ => ?_) fun _ _ x => x) (starEach_of hs)
  exact wpAny_mono (r A env m X O s₁ pos rm en (S.keep k.get)) (fun vs s₂ ⟨k₂, q₂⟩ => ⟨k.trans' k₂, .cons (q.keep k₂.get) q₂⟩) fun _ _ x => x

theorem fresh_size {h : Heap} : h.get? h.objs.size = none := Heap.get?_none_of_le (Nat.le_refl _)

theorem ev_tup {es : List Expr} {ds : List D} {k : Nat} {pos : Pos} (h : ArS W n sc ρ es ds) (hl : ds.length ≤ sizeLine) : EvS W n sc ρ (.Tuple es k pos) (.tup ds) := by
  intro A env m X O s rm en S
  refine wpAny_Tuple (wpAny_mono (h A env m X O s pos rm en S) (fun vs s₁ ⟨k, q⟩ => ?_) fun _ _ x => x)
  have S₁ := S.keep k.get
  refine ⟨by rw [q.length]; exact hl, k.trans' .push, .tup (S₁.fresh fresh_size) (IsTup.new _ _) (by rw [q.length]; exact hl) (q.keep Ks.push.get)⟩
theorem ev_lst {es : List Expr} {ds : List D} {pos : Pos} (h : ArS W n sc ρ es ds) (hl : ds.length ≤ sizeLine) : EvS W n sc ρ (.List es pos) (.lst ds) := by
  intro A env m X O s rm en S
  refine wpAny_List (wpAny_mono (h A env m X O s pos rm en S) (fun vs s₁ ⟨k, q⟩ => ?_) fun _ _ x => x)
  have S₁ := S.keep k.get
  refine ⟨by rw [q.length]; exact hl, k.trans' .push, .lst (S₁.fresh fresh_size) ⟨_, Heap.get?_push_size _ rfl, rfl, _, rfl⟩ (by rw [q.length]; exact hl) (q.keep Ks.push.get)⟩

/-! arithmetic -/
theorem ev_bin {l r : Expr} {op : Operator} {pos : Pos} {a b d : D} (hl : EvS W n sc ρ l a) (hr : EvS W n sc ρ r b)
    (ho : ∀ (A : Around) (N : Addr → Prop) (s : Shared) (x y : Value), Room n A → (∀ a, N a → ∃ o, s.heap.get? a = some o) → (∃ L m, s.heap.Ns L m) → Rep N s.heap x a → Rep N s.heap y b → wpAny (model W.prog W.w) A (binaryOp op x y) (fun v s' => Ks s s' ∧ Rep N s'.heap v d) NoE s) : EvS W n sc ρ (.BinOp l op r pos) d := by
  intro A env m X O s rm en S
  refine wpAny_BinOp (wpAny_mono (hl A env m X O s rm en S) (fun x s₁ ⟨k₁, q₁⟩ => ?_) fun _ _ x => x)
  refine wpAny_mono (hr A env m X O s₁ rm en (S.keep k₁.get)) (fun y s₂ ⟨k₂, q₂⟩ => ?_) fun _ _ x => x
  have S₂ := (S.keep k₁.get).keep k₂.get
  refine wpAny_mono (ho A (un X O) s₂ x y rm (fun a h => ?_) ⟨_, _, S₂.ns⟩ (q₁.keep k₂.get) q₂) (fun v s₃ ⟨k₃, q₃⟩ => ⟨(k₁.trans' k₂).trans' k₃, q₃⟩) fun _ _ x => x
  rcases h with h | h
  · exact (S₂.xs a h).2.2
  · exact (S₂.os a h).2

theorem ev_add {l r : Expr} {pos : Pos} {i j : Int} (hl : EvS W n sc ρ l (.int i)) (hr : EvS W n sc ρ r (.int j)) : EvS W n sc ρ (.BinOp l .Add r pos) (.int (i + j)) :=
  ev_bin hl hr fun A N s x y _ _ _ hx hy => by
    cases hx; cases hy; exact PyProof.Rows.add_int ⟨.tok, .int _ _⟩
theorem ev_sub {l r : Expr} {pos : Pos} {i j : Int} (hl : EvS W n sc ρ l (.int i)) (hr : EvS W n sc ρ r (.int j)) : EvS W n sc ρ (.BinOp l .Sub r pos) (.int (i - j)) :=
  ev_bin hl hr fun A N s x y _ _ _ hx hy => by
    cases hx; cases hy; exact PyProof.Rows.sub_int' ⟨.tok, .int _ _⟩
theorem ev_mul {l r : Expr} {pos : Pos} {i j : Int} (hl : EvS W n sc ρ l (.int i)) (hr : EvS W n sc ρ r (.int j)) (hm : IntMulOk i j) : EvS W n sc ρ (.BinOp l .Mult r pos) (.int (i * j)) :=
  ev_bin hl hr fun A N s x y _ _ _ hx hy => by
    cases hx; cases hy; exact PyProof.Rows.mul_int ⟨.tok, .int _ _⟩ hm
theorem ev_fdiv {l r : Expr} {pos : Pos} {i j : Int} (hl : EvS W n sc ρ l (.int i)) (hr : EvS W n sc ρ r (.int j)) (h0 : j ≠ 0) (hm : j.natAbs.log2 < 9000) : EvS W n sc ρ (.BinOp l .FloorDiv r pos) (.int (i.fdiv j)) :=
  ev_bin hl hr fun A N s x y _ _ _ hx hy => by
    cases hx; cases hy; exact PyProof.Rows.floordiv_int h0 ⟨.tok, .int _ _⟩ (.inl (PyProof.noPylong_of_log2 hm))
theorem ev_fmod {l r : Expr} {pos : Pos} {i j : Int} (hl : EvS W n sc ρ l (.int i)) (hr : EvS W n sc ρ r (.int j)) (h0 : j ≠ 0) : EvS W n sc ρ (.BinOp l .Mod r pos) (.int (i.fmod j)) :=
  ev_bin hl hr fun A N s x y _ _ _ hx hy => by
    cases hx; cases hy; exact PyProof.Rows.mod_int' h0 ⟨.tok, .int _ _⟩
theorem ev_neg {x : Expr} {pos : Pos} {i : Int} (h : EvS W n sc ρ x (.int i)) : EvS W n sc ρ (.UnaryOp .USub x pos) (.int (-i)) := by
  intro A env m X O s rm en S
  refine wpAny_UnaryOp (wpAny_mono (h A env m X O s rm en S) (fun v s₁ ⟨k, q⟩ => ?_) fun _ _ x => x)
  cases q
  exact PyProof.Rows.neg_int ⟨k.trans' .tok, .int _ _⟩
theorem ev_if {t b o : Expr} {pos : Pos} {c : Bool} {d : D} (ht : TrS W n sc ρ t c) (h1 : c = true → EvS W n sc ρ b d) (h2 : c = false → EvS W n sc ρ o d) : EvS W n sc ρ (.IfExp t b o pos) d := by
  intro A env m X O s rm en S
  refine wpAny_IfExp (wpAny_mono (ht A env m X O s rm en S) (fun v s₁ ⟨k, q⟩ => ?_) fun _ _ x => x)
  subst q
  have S₁ := S.keep k.get
  cases v with
  | true => exact wpAny_mono (h1 rfl A env m X O s₁ rm en S₁) (fun v s₂ ⟨k₂, q⟩ => ⟨k.trans' k₂, q⟩) fun _ _ x => x
  | false => exact wpAny_mono (h2 rfl A env m X O s₁ rm en S₁) (fun v s₂ ⟨k₂, q⟩ => ⟨k.trans' k₂, q⟩) fun _ _ x => x
end
end Mine

namespace Mine

/-! comparisons -/
mutual
def toP : D → PyData
  | .none => .none
  | .bool b => .bool b
  | .int i => .int i
  | .tup ds => .tuple (toPs ds)
  | .lst ds => .list (toPs ds)
def toPs : List D → List PyData
  | [] => []
  | d :: r => toP d :: toPs r
end
mutual
theorem Rep.reads {N : Addr → Prop} {h : Heap} : ∀ {v : Value} {d : D}, Rep N h v d → ∃ as, PySem.Reads h v (toP d) as
  | _, _, .none => ⟨_, .none⟩
  | _, _, .bool b => ⟨_, .bool b⟩
  | _, _, .int i t => ⟨_, .int i t⟩
  | _, _, .tup _ t _ r => by
    obtain ⟨as, q⟩ := Reps.reads r
    obtain ⟨o, ho, hc, n, hd⟩ := t
    rw [toP]; exact ⟨_, .tuple ho hc hd (by simpa using q)⟩
  | _, _, .lst _ t _ r => by
    obtain ⟨as, q⟩ := Reps.reads r
    obtain ⟨o, ho, hc, n, hd⟩ := t
    rw [toP]; exact ⟨_, .list ho hc hd (by simpa using q)⟩
theorem Reps.reads {N : Addr → Prop} {h : Heap} : ∀ {vs : List Value} {ds : List D}, Reps N h vs ds → ∃ as, PySem.ReadsAll h vs (toPs ds) as
  | _, _, .nil => ⟨_, .nil⟩
  | _, _, .cons x r => by
    obtain ⟨as, q⟩ := Rep.reads x
    obtain ⟨bs, p⟩ := Reps.reads r
    rw [toPs]; exact ⟨_, .cons q p⟩
end
/-- the comparison of a with b comes to c -/
def CmpS (op : CmpOp) (a b : D) (c : Bool) : Prop :=
  ∀ (W : Wd) (n : Nat) (A : Around) (N : Addr → Prop) (s : Shared) (x y : Value), Room n A → Rep N s.heap x a → Rep N s.heap y b →
    wpAny (model W.prog W.w) A (compareOp op x y) (fun v s' => Ks s s' ∧ v = .bool c) NoE s

section
variable {W : Wd} {n : Nat} {sc : Scope} {ρ : Sto}
theorem ev_cmp {l r : Expr} {op : CmpOp} {pos : Pos} {a b : D} {c : Bool} (hl : EvS W n sc ρ l a) (hr : EvS W n sc ρ r b) (ho : CmpS op a b c) (hm : behindInMarks op r = false) : EvS W n sc ρ (.Compare l [op] [r] pos) (.bool c) := by
  intro A env m X O s rm en S
  refine wpAny_Compare1 (wpAny_mono (hl A env m X O s rm en S) (fun x s₁ ⟨k₁, q₁⟩ => ?_) fun _ _ x => x) hm
  refine wpAny_mono (hr A env m X O s₁ rm en (S.keep k₁.get)) (fun y s₂ ⟨k₂, q₂⟩ => ?_) fun _ _ x => x
  refine wpAny_mono (ho W n A (un X O) s₂ x y rm (q₁.keep k₂.get) q₂) (fun v s₃ ⟨k₃, q₃⟩ => ?_) fun _ _ x => x
  subst q₃
  exact ⟨(k₁.trans' k₂).trans' k₃, .bool _⟩
theorem tr_cmp {l r : Expr} {op : CmpOp} {pos : Pos} {a b : D} {c : Bool} (hl : EvS W n sc ρ l a) (hr : EvS W n sc ρ r b) (ho : CmpS op a b c) (hm : behindInMarks op r = false) : TrS W n sc ρ (.Compare l [op] [r] pos) c := by
  intro A env m X O s rm en S
  refine wpAny_isTrue_Compare1 (wpAny_mono (hl A env m X O s rm en S) (fun x s₁ ⟨k₁, q₁⟩ => ?_) fun _ _ x => x) hm
  refine wpAny_mono (hr A env m X O s₁ rm en (S.keep k₁.get)) (fun y s₂ ⟨k₂, q₂⟩ => ?_) fun _ _ x => x
  refine wpAny_mono (ho W n A (un X O) s₂ x y rm (q₁.keep k₂.get) q₂) (fun v s₃ ⟨k₃, q₃⟩ => ?_) fun _ _ x => x
  subst q₃
  exact wpAny_truthy_bool ⟨(k₁.trans' k₂).trans' k₃, rfl⟩
theorem tr_not {e : Expr} {pos : Pos} {b : Bool} (h : TrS W n sc ρ e b) : TrS W n sc ρ (.UnaryOp .Not e pos) (!b) := by
  intro A env m X O s rm en S
  exact wpAny_isTrue_Not (wpAny_mono (h A env m X O s rm en S) (fun v s₁ ⟨k, q⟩ => ⟨k, by rw [q]⟩) fun _ _ x => x)
theorem tr_call {f : Expr} {args : List Expr} {pos : Pos} {b : Bool} (h : EvS W n sc ρ (.Call f args [] pos) (.bool b)) : TrS W n sc ρ (.Call f args [] pos) b := by
  intro A env m X O s rm en S
  refine wpAny_isTrue_value (wpAny_mono (h A env m X O s rm en S) (fun v s₁ ⟨k, q⟩ => ?_) fun _ _ x => x) (by rfl)
  cases q
  exact wpAny_truthy_bool ⟨k, rfl⟩
theorem tr_and2 {x y : Expr} {pos : Pos} {a b : Bool} (hx : TrS W n sc ρ x a) (hy : a = true → TrS W n sc ρ y b) : TrS W n sc ρ (.BoolOp .And [x, y] pos) (a && b) := by
  intro A env m X O s rm en S
  refine wpAny_isTrue_BoolOp (wpAny_allTrue_And_cons (wpAny_mono (hx A env m X O s rm en S) (fun v s₁ ⟨k, q⟩ => ?_) fun _ _ x => x))
  subst q
  cases v with
  | false => exact ⟨k, rfl⟩
  | true =>
    refine wpAny_allTrue_And_cons (wpAny_mono (hy rfl A env m X O s₁ rm en (S.keep k.get)) (fun v s₂ ⟨k₂, q⟩ => ?_) fun _ _ x => x)
    subst q
    cases v with
    | false => exact ⟨k.trans' k₂, rfl⟩
    | true => exact wpAny_allTrue_And_nil ⟨k.trans' k₂, rfl⟩
/-- a chain of or -/
def OrS (W : Wd) (n : Nat) (sc : Scope) (ρ : Sto) (es : List Expr) (b : Bool) : Prop :=
  ∀ (A : Around) (env : Env) (m : Str → Option Value) (X O : Addr → Prop) (s : Shared), Room n A → EnvOK sc env → St W env m X O ρ s.heap →
    wpAny (model W.prog W.w) A (allTrue .Or es env) (fun c s' => Ks s s' ∧ c = b) NoE s
theorem or_nil : OrS W n sc ρ [] false := fun _ _ _ _ _ _ _ _ _ => wpAny_allTrue_Or_nil ⟨.rfl', rfl⟩
theorem or_cons {x : Expr} {es : List Expr} {a b : Bool} (hx : TrS W n sc ρ x a) (hy : a = false → OrS W n sc ρ es b) : OrS W n sc ρ (x :: es) (a || b) := by
  intro A env m X O s rm en S
  refine wpAny_allTrue_Or_cons (wpAny_mono (hx A env m X O s rm en S) (fun v s₁ ⟨k, q⟩ => ?_) fun _ _ x => x)
  subst q
  cases v with
  | true => exact ⟨k, rfl⟩
  | false => exact wpAny_mono (hy rfl A env m X O s₁ rm en (S.keep k.get)) (fun v s₂ ⟨k₂, q⟩ => ⟨k.trans' k₂, by rw [q]; rfl⟩) fun _ _ x => x
theorem tr_or {es : List Expr} {pos : Pos} {b : Bool} (h : OrS W n sc ρ es b) : TrS W n sc ρ (.BoolOp .Or es pos) b :=
  fun A env m X O s rm en S => wpAny_isTrue_BoolOp (h A env m X O s rm en S)
theorem ev_and2 {x y : Expr} {pos : Pos} {a b : Bool} (hx : EvS W n sc ρ x (.bool a)) (hy : a = true → EvS W n sc ρ y (.bool b)) : EvS W n sc ρ (.BoolOp .And [x, y] pos) (.bool (a && b)) := by
  intro A env m X O s rm en S
  refine wpAny_And2 (wpAny_mono (hx A env m X O s rm en S) (fun v s₁ ⟨k, q⟩ => ?_) fun _ _ x => x)
  cases q
  refine wpAny_truthy_bool ?_
  cases a with
  | false => exact ⟨k, .bool _⟩
  | true => exact wpAny_mono (hy rfl A env m X O s₁ rm en (S.keep k.get)) (fun v s₂ ⟨k₂, q⟩ => ⟨k.trans' k₂, q⟩) fun _ _ x => x
end

theorem cmp_eq {i j : Int} : CmpS .Eq (.int i) (.int j) (i == j) := fun W n A N s x y _ hx hy => by
  cases hx; cases hy; exact PyProof.Rows.eq_int ⟨.rfl', rfl⟩
theorem cmp_ne {i j : Int} : CmpS .NotEq (.int i) (.int j) (i != j) := fun W n A N s x y _ hx hy => by
  cases hx; cases hy; exact PyProof.Rows.ne_int ⟨.rfl', rfl⟩
theorem cmp_lt {i j : Int} : CmpS .Lt (.int i) (.int j) (decide (i < j)) := fun W n A N s x y _ hx hy => by
  cases hx; cases hy; exact PyProof.Rows.lt_int ⟨.rfl', rfl⟩
theorem cmp_gt {i j : Int} : CmpS .Gt (.int i) (.int j) (decide (i > j)) := fun W n A N s x y _ hx hy => by
  cases hx; cases hy; exact PyProof.Rows.gt_int ⟨.rfl', rfl⟩
theorem cmp_isNone {d : D} : CmpS .Is d .none (match d with | .none => true | _ => false) := fun W n A N s x y _ hx hy => by
  cases hy
  refine PySem.is_none ⟨.rfl', ?_⟩
  cases hx <;> rfl
theorem cmp_deq {a b : D} {c : Bool} (ha : SeqAt.shaped (toP a) = true) (hb : SeqAt.shaped (toP b) = true) (h : PyData.eqv (toP a) (toP b) = c) : CmpS .Eq a b c := fun W n A N s x y rm hx hy => by
  obtain ⟨as, ra⟩ := hx.reads
  obtain ⟨bs, rb⟩ := hy.reads
  exact eq_dataH ra rb ha hb (by have := rm.units; omega) ⟨.rfl', by rw [h]⟩
theorem cmp_dne {a b : D} {c : Bool} (ha : SeqAt.shaped (toP a) = true) (hb : SeqAt.shaped (toP b) = true) (h : PyData.eqv (toP a) (toP b) = c) : CmpS .NotEq a b (!c) := fun W n A N s x y rm hx hy => by
  obtain ⟨as, ra⟩ := hx.reads
  obtain ⟨bs, rb⟩ := hy.reads
  exact ne_dataH ra rb ha hb (by have := rm.units; omega) ⟨.rfl', by rw [h]⟩
theorem cmp_notIn {a : D} {ds : List D} {c : Bool} (ha : PyData.canLay0 (toP a) = true) (hb : PyData.canLayAll0 (toPs ds) = true) (hd : min (PyData.depthAll (toPs ds)) (toP a).depth ≤ 50) (h : ((toPs ds).any fun y => PyData.eqv y (toP a)) = c) : CmpS .NotIn a (.tup ds) (!c) := fun W n A N s x y rm hx hy => by
  obtain ⟨as, ra⟩ := hx.reads
  obtain ⟨bs, rb⟩ := hy.reads
  rw [toP] at rb
  exact SeqAt.notIn_tuple_reads rb ra hb ha (by have := rm.units; omega) ⟨.rfl', by rw [h]⟩

section
variable {W : Wd} {n : Nat} {sc : Scope} {ρ : Sto}

/-! calls -/
theorem ev_call {k : Nat} {f : Str} {p pos : Pos} {e : Expr} {es : List Expr} {ds : List D} {d : D} (ok : W.OK) (hc : CallS W k f ds d) (ha : ArS W n sc ρ (e :: es) ds) (hk : k ≤ n) (hx : sc.names.lookup f = some .globalImplicit) (hs : notStar e = true)
    (hd : (f == ("__debug__" : Str)) = false) : EvS W n sc ρ (.Call (.Name f p) (e :: es) [] pos) d := by
  intro A env m X O s rm en S
  obtain ⟨a, o, fd, hg, ho, hf, hcall⟩ := hc
  refine wpAny_Call_NameR (wp_globalName ok en hx S.base (.inl hg) ?_ hd)
  refine callWith_def hf (wpAny_mono (ha A env m X O s pos rm en S) (fun vs s₁ ⟨k₁, q₁⟩ => ?_) fun _ _ x => x) (starEach_of hs)
  have S₁ := S.keep k₁.get
  refine ⟨S₁.base _ _ ho, wpAny_mono (hcall A (un X O) s₁ vs (rm.le hk) S₁.base (fun a h => ?_) q₁) (fun v s₂ ⟨k₂, q₂⟩ => ⟨k₁.trans' k₂, q₂⟩) fun _ _ x => x⟩
  rcases h with h | h
  · exact ⟨(S₁.xs a h).1, (S₁.xs a h).2.2⟩
  · exact S₁.os a h

def BiAt (W : Wd) (x : Str) (id : String) : Prop := W.mg x = none ∧ W.mb x = some (.builtin id)
def TyAt (W : Wd) (x : Str) (T : String) : Prop := W.mg x = none ∧ W.mb x = some (.type T)

theorem ev_bi {x : Str} {id : String} {p pos : Pos} {e : Expr} {es : List Expr} {ds : List D} {d : D} (ok : W.OK) (hb : BiAt W x id) (ha : ArS W n sc ρ (e :: es) ds) (hx : sc.names.lookup x = some .globalImplicit) (hs : notStar e = true)
    (hd : (x == ("__debug__" : Str)) = false) (hp : ∀ env, ((backTo pos (starEach es env)).any (·.1)) = false)
    (hcall : ∀ (A : Around) (N : Addr → Prop) (s : Shared) (vs : List Value) (L : Addr) (m : Str → Option Value), Room n A → (∀ a, N a → ∃ o, s.heap.get? a = some o) → s.heap.Ns L m → Reps N s.heap vs ds → wpAny (model W.prog W.w) A (call (.builtin id) vs) (fun v s' => Ks s s' ∧ Rep N s'.heap v d) NoE s) :
    EvS W n sc ρ (.Call (.Name x p) (e :: es) [] pos) d := by
  intro A env m X O s rm en S
  refine wpAny_Call_NameR (wp_globalName ok en hx S.base (.inr hb) ?_ hd)
  refine PyProof.Rows.callWith_builtin1 (wpAny_mono (ha A env m X O s pos rm en S) (fun vs s₁ ⟨k₁, q₁⟩ => ?_) fun _ _ x => x) (starEach_of hs) (hp env)
  have S₁ := S.keep k₁.get
  refine wpAny_mono (hcall A (un X O) s₁ vs _ _ rm (fun a h => ?_) S₁.ns q₁) (fun v s₂ ⟨k₂, q₂⟩ => ⟨k₁.trans' k₂, q₂⟩) fun _ _ x => x
  rcases h with h | h
  · exact (S₁.xs a h).2.2
  · exact (S₁.os a h).2
theorem ev_ty {x : Str} {T : String} {p pos : Pos} {e : Expr} {es : List Expr} {ds : List D} {d : D} (ok : W.OK) (hb : TyAt W x T) (ha : ArS W n sc ρ (e :: es) ds) (hx : sc.names.lookup x = some .globalImplicit) (hs : notStar e = true)
    (hd : (x == ("__debug__" : Str)) = false) (hp : ∀ env, ((backTo pos (starEach es env)).any (·.1)) = false)
    (hcall : ∀ (A : Around) (N : Addr → Prop) (s : Shared) (vs : List Value) (L : Addr) (m : Str → Option Value), Room n A → (∀ a, N a → ∃ o, s.heap.get? a = some o) → s.heap.Ns L m → Reps N s.heap vs ds → wpAny (model W.prog W.w) A (call (.type T) vs) (fun v s' => Ks s s' ∧ Rep N s'.heap v d) NoE s) :
    EvS W n sc ρ (.Call (.Name x p) (e :: es) [] pos) d := by
  intro A env m X O s rm en S
  refine wpAny_Call_NameR (wp_globalName ok en hx S.base (.inr hb) ?_ hd)
  refine PyProof.Rows.callWith_type1 (wpAny_mono (ha A env m X O s pos rm en S) (fun vs s₁ ⟨k₁, q₁⟩ => ?_) fun _ _ x => x) (starEach_of hs) (hp env)
  have S₁ := S.keep k₁.get
  refine wpAny_mono (hcall A (un X O) s₁ vs _ _ rm (fun a h => ?_) S₁.ns q₁) (fun v s₂ ⟨k₂, q₂⟩ => ⟨k₁.trans' k₂, q₂⟩) fun _ _ x => x
  rcases h with h | h
  · exact (S₁.xs a h).2.2
  · exact (S₁.os a h).2

theorem ev_abs {x : Str} {p pos : Pos} {e : Expr} {i : Int} (ok : W.OK) (hb : BiAt W x "abs") (ha : EvS W n sc ρ e (.int i)) (hx : sc.names.lookup x = some .globalImplicit) (hs : notStar e = true) (hd : (x == ("__debug__" : Str)) = false) :
    EvS W n sc ρ (.Call (.Name x p) [e] [] pos) (.int (if i < 0 then -i else i)) :=
  ev_bi ok hb (ar_cons ha ar_nil hs) hx hs hd (fun _ => rfl) fun A N s vs L m rm _ _ q => by
    cases q with
    | cons q r => cases r; cases q; exact call_abs_int fun u tk => ⟨.tok, .int _ _⟩
theorem ev_len {x : Str} {p pos : Pos} {e : Expr} {ds : List D} (ok : W.OK) (hb : BiAt W x "len") (ha : EvS W n sc ρ e (.lst ds)) (hx : sc.names.lookup x = some .globalImplicit) (hs : notStar e = true) (hd : (x == ("__debug__" : Str)) = false) :
    EvS W n sc ρ (.Call (.Name x p) [e] [] pos) (.int ds.length) :=
  ev_bi ok hb (ar_cons ha ar_nil hs) hx hs hd (fun _ => rfl) fun A N s vs L m rm _ _ q => by
    cases q with
    | cons q r =>
      cases r
      cases q with
      | lst _ t l r =>
        refine PyProof.Rows.len_list t ?_ ⟨.tok, ?_⟩
        · simp only [List.size_toArray]; have : sizeLine = 2 ^ 24 := rfl; omega
        · simp only [List.size_toArray, r.length]; exact .int _ _
theorem ev_max {x : Str} {p pos : Pos} {e e2 : Expr} {i j : Int} (ok : W.OK) (hb : BiAt W x "max") (ha : EvS W n sc ρ e (.int i)) (ha2 : EvS W n sc ρ e2 (.int j)) (hx : sc.names.lookup x = some .globalImplicit) (hs : notStar e = true) (hs2 : notStar e2 = true) (hd : (x == ("__debug__" : Str)) = false) :
    EvS W n sc ρ (.Call (.Name x p) [e, e2] [] pos) (.int (max i j)) :=
  ev_bi ok hb (ar_cons ha (ar_cons ha2 ar_nil hs2) hs) hx hs hd (fun env => by rw [starEach_of hs2]; rfl) fun A N s vs L m rm _ _ q => by
    cases q with
    | cons q r =>
      cases r with
      | cons q2 r =>
        cases r; cases q; cases q2
        refine max_two_ints rm.handled fun h' tk k => ⟨.heap k, ?_⟩
        split
        · rename_i h; rw [Int.max_eq_right (by omega)]; exact .int _ _
        · rename_i h; rw [Int.max_eq_left (by omega)]; exact .int _ _
theorem ev_intOf {x : Str} {p pos : Pos} {e : Expr} {i : Int} (ok : W.OK) (hb : TyAt W x "int") (ha : EvS W n sc ρ e (.int i)) (hx : sc.names.lookup x = some .globalImplicit) (hs : notStar e = true) (hd : (x == ("__debug__" : Str)) = false) :
    EvS W n sc ρ (.Call (.Name x p) [e] [] pos) (.int i) :=
  ev_ty ok hb (ar_cons ha ar_nil hs) hx hs hd (fun _ => rfl) fun A N s vs L m rm _ _ q => by
    cases q with
    | cons q r => cases r; cases q; exact call_int_int ⟨.rfl', .int _ _⟩
theorem fr0 {h : Heap} {L : Addr} {m : Str → Option Value} (hn : h.Ns L m) : Fr {} L h m := ⟨hn, fun b o e => (nomatch e), Nat.zero_le _⟩
theorem ev_listOf {x : Str} {p pos : Pos} {e : Expr} {ds : List D} (ok : W.OK) (hb : TyAt W x "list") (ha : EvS W n sc ρ e (.lst ds)) (hx : sc.names.lookup x = some .globalImplicit) (hs : notStar e = true) (hd : (x == ("__debug__" : Str)) = false) :
    EvS W n sc ρ (.Call (.Name x p) [e] [] pos) (.lst ds) :=
  ev_ty ok hb (ar_cons ha ar_nil hs) hx hs hd (fun _ => rfl) fun A N s vs L m rm hN hn q => by
    cases q with
    | cons q r =>
      cases r
      cases q with
      | lst _ t l r =>
        refine list_copyL (fr0 hn) t (fun h' F' k _ hl => ⟨⟨⟨_, _, rfl⟩, k⟩, .lst (fun h => ?_) hl l (r.keep k)⟩) (by simpa using l)
        obtain ⟨o, e⟩ := hN _ h
        exact absurd (Heap.lt_size e) (Nat.lt_irrefl _)

theorem ev_cat {l r : Expr} {pos : Pos} {ds es : List D} (hl : EvS W n sc ρ l (.lst ds)) (hr : EvS W n sc ρ r (.lst es)) (hz : ds.length + es.length ≤ sizeLine) : EvS W n sc ρ (.BinOp l .Add r pos) (.lst (ds ++ es)) :=
  ev_bin hl hr fun A N s x y _ hN _ hx hy => by
    cases hx with
    | lst n1 t1 l1 r1 =>
    cases hy with
    | lst n2 t2 l2 r2 =>
    have hz' := hz
    rw [← r1.length, ← r2.length] at hz'
    obtain ⟨⟨c1, d1, dt1, s1⟩, ho, hc, k1, hd⟩ := t1
    obtain ⟨⟨c2, d2, dt2, s2⟩, ho2, hc2, k2, hd2⟩ := t2
    simp only at hc hd hc2 hd2
    subst hc hd hc2 hd2
    refine concat_meets ⟨_, ho, rfl⟩ ⟨_, ho2, rfl⟩ noFill_list_add seq_list_add PySem.F.slot_list_add PySem.F.entry_list_add (PySem.F.args_list_add_2 _ _) (list_addW _ _ _ _ k1 k2 d1 d2 s1 s2 (by simpa using hz')) ⟨ho, ho2, ?_⟩
    rw [List.append_toArray]
    refine ⟨.push, .lst (fun h => ?_) ⟨_, Heap.get?_push_size _ rfl, rfl, _, rfl⟩ (by simpa using hz') ((r1.append r2).keep Ks.push.get)⟩
    obtain ⟨o, e⟩ := hN _ h
    exact absurd (Heap.lt_size e) (Nat.lt_irrefl _)
end
end Mine

namespace Mine

theorem subscripted_ops (slice : Expr) (o i : Value) : ∃ ops, subscripted slice false o i = operate ops (getItem o i) := by
  unfold subscripted
  split
  · exact ⟨_, rfl⟩
  · contradiction
  · exact ⟨_, rfl⟩

section
variable {W : Wd} {n : Nat} {sc : Scope} {ρ : Sto}

theorem ev_sub_list {value e : Expr} {pos : Pos} {ds : List D} {i : Int} {d : D} (hv : EvS W n sc ρ value (.lst ds)) (hi : EvS W n sc ρ e (.int i)) (h0 : 0 ≤ i) (hx : ds[i.toNat]? = some d) : EvS W n sc ρ (.Subscript value e pos) d := by
  intro A env m X O s rm en S
  refine Subscript_ (wpAny_mono (hv A env m X O s rm en S) (fun o s₁ ⟨k₁, q₁⟩ => ?_) fun _ _ x => x)
  refine wpAny_mono (hi A env m X O s₁ rm en (S.keep k₁.get)) (fun x s₂ ⟨k₂, q₂⟩ => ?_) fun _ _ x => x
  cases q₂
  have q₁' := q₁.keep k₂.get
  cases q₁' with
  | lst nn t l r =>
    obtain ⟨v, hv', rv⟩ := r.get _ _ hx
    obtain ⟨ops, hs⟩ := subscripted_ops e (.ref _) (.int i _)
    have hlt : i.toNat < ds.length := (List.getElem?_eq_some_iff.mp hx).1
    have hl := r.length
    have : sizeLine = 2 ^ 24 := rfl
    exact tail_any t.typeIs slot_list_getitem.lookup (wpAny_getItem_list t h0 (by omega) (by simpa using hv') ⟨k₁.trans' k₂, rv⟩) hs
theorem ev_sub_last {value e : Expr} {pos : Pos} {ds : List D} {d : D} (hv : EvS W n sc ρ value (.lst ds)) (hi : EvS W n sc ρ e (.int (-1))) (hx : ds[ds.length - 1]? = some d) : EvS W n sc ρ (.Subscript value e pos) d := by
  intro A env m X O s rm en S
  refine Subscript_ (wpAny_mono (hv A env m X O s rm en S) (fun o s₁ ⟨k₁, q₁⟩ => ?_) fun _ _ x => x)
  refine wpAny_mono (hi A env m X O s₁ rm en (S.keep k₁.get)) (fun x s₂ ⟨k₂, q₂⟩ => ?_) fun _ _ x => x
  cases q₂
  have q₁' := q₁.keep k₂.get
  cases q₁' with
  | lst nn t l r =>
    obtain ⟨v, hv', rv⟩ := r.get _ _ hx
    obtain ⟨ops, hs⟩ := subscripted_ops e (.ref _) (.int (-1) _)
    have hlt : ds.length - 1 < ds.length := (List.getElem?_eq_some_iff.mp hx).1
    have hl := r.length
    refine tail_any t.typeIs slot_list_getitem.lookup (wpAny_getItem_list_neg t (by omega) ?_ (by omega) ?_ ⟨k₁.trans' k₂, rv⟩) hs
    · simp only [List.size_toArray]; omega
    · simp only [List.size_toArray, List.getElem?_toArray]
      rw [show ((-1 : Int) + (_ : Nat)).toNat = ds.length - 1 from by omega]; exact hv'
theorem ev_sub_tup {value e : Expr} {pos : Pos} {ds : List D} {i : Int} {d : D} (hv : EvS W n sc ρ value (.tup ds)) (hi : EvS W n sc ρ e (.int i)) (h0 : 0 ≤ i) (hx : ds[i.toNat]? = some d) : EvS W n sc ρ (.Subscript value e pos) d := by
  intro A env m X O s rm en S
  refine Subscript_ (wpAny_mono (hv A env m X O s rm en S) (fun o s₁ ⟨k₁, q₁⟩ => ?_) fun _ _ x => x)
  refine wpAny_mono (hi A env m X O s₁ rm en (S.keep k₁.get)) (fun x s₂ ⟨k₂, q₂⟩ => ?_) fun _ _ x => x
  cases q₂
  have q₁' := q₁.keep k₂.get
  cases q₁' with
  | tup nn t l r =>
    obtain ⟨v, hv', rv⟩ := r.get _ _ hx
    obtain ⟨ops, hs⟩ := subscripted_ops e (.ref _) (.int i _)
    have hlt : i.toNat < ds.length := (List.getElem?_eq_some_iff.mp hx).1
    have hl := r.length
    have : sizeLine = 2 ^ 24 := rfl
    exact tail_any t.typeIs slot_tuple_getitem.lookup (PyProof.Rows.getItem_tuple t (by omega) (by omega) (PySem.seqIndex_of h0 (by simp only [List.size_toArray]; omega)) (by simpa using hv') ⟨k₁.trans' k₂, rv⟩) hs
/-- an item of a list that the frame fills -/
theorem ev_sub_own {x : Str} {p pos : Pos} {e : Expr} {ds : List D} {i : Int} {d : D} (hv : ρ.lookup x = some (.own ds)) (hi : EvS W n sc ρ e (.int i)) (h0 : 0 ≤ i) (hx : ds[i.toNat]? = some d) (hd : (x == ("__debug__" : Str)) = false) : EvS W n sc ρ (.Subscript (.Name x p) e pos) d := by
  intro A env m X O s rm en S
  obtain ⟨v, r, q⟩ := S.vars _ _ hv
  refine Subscript_ (wpAny_Name (wp_load en S.ns r ?_) hd)
  refine wpAny_mono (hi A env m X O s rm en S) (fun x s₂ ⟨k₂, q₂⟩ => ?_) fun _ _ x => x
  cases q₂
  have q₁' := q.keep k₂.get
  cases q₁' with
  | own nn t l r =>
    obtain ⟨v, hv', rv⟩ := r.get _ _ hx
    obtain ⟨ops, hs⟩ := subscripted_ops e (.ref _) (.int i _)
    have hlt : i.toNat < ds.length := (List.getElem?_eq_some_iff.mp hx).1
    have hl := r.length
    have : sizeLine = 2 ^ 24 := rfl
    have t' := t.isList
    exact tail_any t'.typeIs slot_list_getitem.lookup (wpAny_getItem_list t' h0 (by omega) (by simpa using hv') ⟨k₂, rv⟩) hs

/-- a part of a slice -/
def PtS (W : Wd) (n : Nat) (sc : Scope) (ρ : Sto) (e : Option Expr) (k : Option Int) : Prop :=
  ∀ (A : Around) (env : Env) (m : Str → Option Value) (X O : Addr → Prop) (s : Shared), Room n A → EnvOK sc env → St W env m X O ρ s.heap →
    wpAny (model W.prog W.w) A (evalPart e env) (fun v s' => Ks s s' ∧ IsPart v k) NoE s
theorem pt_none : PtS W n sc ρ none none := fun _ _ _ _ _ _ _ _ _ => by rw [evalPart_none]; exact wpAny_pure ⟨.rfl', .none⟩
theorem pt_some {e : Expr} {i : Int} (h : EvS W n sc ρ e (.int i)) : PtS W n sc ρ (some e) (some i) := fun A env m X O s rm en S => by
  rw [evalPart_some]
  refine wpAny_mono (h A env m X O s rm en S) (fun v s₁ ⟨k, q⟩ => ?_) fun _ _ x => x
  cases q; exact ⟨k, .int _ _⟩
def PickS (lo hi st : Option Int) (ds es : List D) : Prop :=
  ∀ (N : Addr → Prop) (h : Heap) (vs : List Value), Reps N h vs ds → ∃ ws : List Value, slicePick vs.toArray lo hi st = ws.toArray ∧ Reps N h ws es
theorem ev_slice {value : Expr} {lo hi st : Option Expr} {p pos : Pos} {a b c : Option Int} {ds es : List D} (hv : EvS W n sc ρ value (.lst ds)) (hl : PtS W n sc ρ lo a) (hu : PtS W n sc ρ hi b) (hs : PtS W n sc ρ st c) (h0 : c ≠ some 0)
    (hp : PickS a b c ds es) : EvS W n sc ρ (.Subscript value (.Slice lo hi st p) pos) (.lst es) := by
  intro A env m X O s rm en S
  refine Subscript_ (wpAny_mono (hv A env m X O s rm en S) (fun o s₁ ⟨k₁, q₁⟩ => ?_) fun _ _ x => x)
  have S₁ := S.keep k₁.get
  refine wpAny_Slice (wpAny_mono (hl A env m X O s₁ rm en S₁) (fun vl s₂ ⟨k₂, p₂⟩ => ?_) fun _ _ x => x)
  have S₂ := S₁.keep k₂.get
  refine wpAny_mono (hu A env m X O s₂ rm en S₂) (fun vu s₃ ⟨k₃, p₃⟩ => ?_) fun _ _ x => x
  have S₃ := S₂.keep k₃.get
  refine wpAny_mono (hs A env m X O s₃ rm en S₃) (fun vs s₄ ⟨k₄, p₄⟩ => ?_) fun _ _ x => x
  have S₄ := S₃.keep k₄.get
  have q := (((q₁.keep k₂.get).keep k₃.get).keep k₄.get).keep (Ks.push (s := s₄) (o := { cls := .type "slice", data := .fields #[vl, vu, vs] })).get
  have S₅ := S₄.keep (Ks.push (s := s₄) (o := { cls := .type "slice", data := .fields #[vl, vu, vs] })).get
  have kk := (((k₁.trans' k₂).trans' k₃).trans' k₄).trans' (Ks.push (o := { cls := .type "slice", data := .fields #[vl, vu, vs] }))
  cases q with
  | @lst a0 vs0 _ nn t l r =>
    obtain ⟨ops, hops⟩ := subscripted_ops (.Slice lo hi st p) (.ref a0) (.ref s₄.heap.objs.size)
    obtain ⟨ws, e, rw'⟩ := hp _ _ _ r
    have hz := slicePick_size_le vs0.toArray a b c
    rw [e] at hz
    refine tail_any (Heap.IsList.typeIs (s := { s₄ with heap := _ }) t) slot_list_getitem.lookup (wpAny_getItem_list_slice (s := { s₄ with heap := _ }) t (Heap.IsSliceOf.new ..) p₂ p₃ p₄ h0 ?_ (by simpa using l)) hops
    rw [e]
    exact ⟨kk.trans' .push, .lst (S₅.fresh fresh_size) ⟨_, Heap.get?_push_size _ rfl, rfl, _, rfl⟩ (by simp only [List.size_toArray] at hz; omega) (rw'.keep (Ks.push (s := { s₄ with heap := _ })).get)⟩
theorem pick_upto {ds : List D} {b : Nat} : PickS none (some (b : Int)) none ds (ds.take b) := fun N h vs r => ⟨_, slicePick_upto' _ _, by simpa using r.take b⟩
theorem pick_from {ds : List D} {b : Nat} : PickS (some (b : Int)) none none ds (ds.drop b) := fun N h vs r => ⟨_, slicePick_from' _ _, by simpa using r.drop b⟩
theorem pick_butLast {ds : List D} : PickS none (some (-1)) none ds (ds.take (ds.length - 1)) := fun N h vs r => ⟨_, slicePick_butLast _ 1 (Nat.le_refl _), by
  simp only [List.size_toArray, r.length]; exact r.take _⟩
theorem pick_rev {ds : List D} : PickS none none (some (-1)) ds ds.reverse := fun N h vs r => ⟨_, krv_pick _, by simpa using r.reverse⟩
end
end Mine

namespace Mine

inductive Fl where
  | next
  | ret (d : D)

inductive FlowR (X : Addr → Prop) (h : Heap) : Flow → Fl → Prop
  | next : FlowR X h .next .next
  | ret {v : Value} {d : D} : Rep X h v d → FlowR X h (.ret v) (.ret d)

/-- a step of the frame: what is not its own stands -/
structure Stp (O : Addr → Prop) (s : Shared) (O' : Addr → Prop) (s' : Shared) : Prop where
  eq : ∃ h' tk, s' = { s with heap := h', toks := tk }
  keep : ∀ b o, ¬ O b → s.heap.get? b = some o → s'.heap.get? b = some o
  grow : ∀ a, O a → O' a
  new : ∀ a, O' a → O a ∨ s.heap.get? a = none

theorem Stp.of {O : Addr → Prop} {s s' : Shared} (k : Ks s s') : Stp O s O s' := ⟨k.eq, fun b o _ e => k.get b o e, fun _ x => x, fun _ x => .inl x⟩
theorem Stp.trans {O O₁ O₂ : Addr → Prop} {s s₁ s₂ : Shared} (x : Stp O s O₁ s₁) (y : Stp O₁ s₁ O₂ s₂) (ho : ∀ a, O a → ∃ o, s.heap.get? a = some o) : Stp O s O₂ s₂ := by
  obtain ⟨⟨h, t, rfl⟩, k, g, nw⟩ := x
  obtain ⟨⟨h', t', rfl⟩, k', g', nw'⟩ := y
  refine ⟨⟨h', t', rfl⟩, fun b o n e => k' b o (fun q => ?_) (k b o n e), fun a q => g' a (g a q), fun a q => ?_⟩
  · rcases nw b q with q | q
    · exact n q
    · rw [e] at q; cases q
  · rcases nw' a q with q | q
    · exact nw a q
    · by_cases p : O a
      · exact .inl p
      · right
        cases e : s.heap.get? a with
        | none => rfl
        | some o => have := k a o p e; rw [q] at this; cases this

/-- the block's runs -/
def HT (W : Wd) (n : Nat) (sc : Scope) (ρ : Sto) (ss : List Stmt) (Φ : Fl → Sto → Prop) : Prop :=
  ∀ (A : Around) (env : Env) (m : Str → Option Value) (X O : Addr → Prop) (s : Shared), Room n A → EnvOK sc env → St W env m X O ρ s.heap →
    wpAny (model W.prog W.w) A (execs ss env) (fun f s' => ∃ fl ρ' m' O', Stp O s O' s' ∧ St W env m' X O' ρ' s'.heap ∧ FlowR X s'.heap f fl ∧ Φ fl ρ') NoE s
def HS (W : Wd) (n : Nat) (sc : Scope) (ρ : Sto) (st : Stmt) (Φ : Fl → Sto → Prop) : Prop :=
  ∀ (A : Around) (env : Env) (m : Str → Option Value) (X O : Addr → Prop) (s : Shared), Room n A → EnvOK sc env → St W env m X O ρ s.heap →
    wpAny (model W.prog W.w) A (exec st env) (fun f s' => ∃ fl ρ' m' O', Stp O s O' s' ∧ St W env m' X O' ρ' s'.heap ∧ FlowR X s'.heap f fl ∧ Φ fl ρ') NoE s

/-- the frame's own name is stored -/
theorem St.store {W : Wd} {env : Env} {m : Str → Option Value} {X O : Addr → Prop} {ρ : Sto} {h h' : Heap} {x : Str} {v : Value} {sl : Slot} (S : St W env m X O ρ h) (hk : env.kindOf x = some .local)
    (hn : h'.Ns env.locals (fun y => if y = x then some v else m y)) (hs : Heap.SameBut env.locals h h') (r : SRep X O h v sl) : St W env (fun y => if y = x then some v else m y) X O ((x, sl) :: ρ) h' := by
  have ne : ∀ b o, ¬ O b → h.get? b = some o → h'.get? b = some o := fun b o nb e => (hs.2 b (fun q => nb (q ▸ S.loc))).trans e
  have kp : Kp (un X O) h h' := fun b o nb e => ne b o (fun q => nb (.inr q)) e
  have hL : ∀ a its, PlainL h a its → a ≠ env.locals := by
    rintro a its ⟨o, c, e, _, _, hd⟩ rfl
    obtain ⟨o', es, ep, e', hd', _⟩ := S.ns
    rw [e] at e'; cases e'; rw [hd] at hd'; cases hd'
  have kr : ∀ {v : Value} {sl : Slot}, SRep X O h v sl → SRep X O h' v sl := fun {v sl} r => by
    cases r with
    | val r => exact .val (r.kp kp fun _ a _ => a)
    | own a p l r => exact .own a (p.extBut hs.extBut (hL _ _ p)) l (r.kp kp fun _ a _ => a)
  refine ⟨hn, S.loc, fun b o e => ?_, fun a q => ?_, fun a q => ?_, fun y sl' e => ?_⟩
  · exact (hs.2 b (fun q => by have := (S.os _ S.loc).1; rw [← q, e] at this; cases this)).trans (S.base b o e)
  · obtain ⟨p, q, o, r⟩ := S.xs a q
    exact ⟨p, q, o, ne a o q r⟩
  · obtain ⟨p, o, r⟩ := S.os a q
    by_cases hq : a = env.locals
    · obtain ⟨o', _, _, e', _⟩ := hn
      exact ⟨p, o', hq ▸ e'⟩
    · exact ⟨p, o, (hs.2 a hq).trans r⟩
  · rw [List.lookup_cons] at e
    by_cases hy : y = x
    · subst hy
      simp only [beq_self_eq_true] at e
      cases e
      exact ⟨v, .inl ⟨hk, by simp⟩, kr r⟩
    · have : (y == x) = false := by simpa using hy
      rw [this] at e
      obtain ⟨v', r', q⟩ := S.vars y sl' e
      refine ⟨v', ?_, kr q⟩
      rcases r' with ⟨a, b⟩ | ⟨a, b, c, d, e, f⟩
      · exact .inl ⟨a, by simp [hy, b]⟩
      · exact .inr ⟨a, b, c, d, e, IsCell.kp (N := O) f e ne⟩

theorem Ks.stp {O : Addr → Prop} {s s₁ : Shared} {h' : Heap} {t : Nat} {L : Addr} (k : Ks s s₁) (hs : Heap.SameBut L s₁.heap h') (hL : O L) : Stp O s O { s₁ with heap := h', toks := t } := by
  obtain ⟨⟨h, tk, rfl⟩, g⟩ := k
  exact ⟨⟨h', t, rfl⟩, fun b o nb e => (hs.2 b (fun q => nb (q ▸ hL))).trans (g b o e), fun _ x => x, fun _ x => .inl x⟩

section
variable {W : Wd} {n : Nat} {sc : Scope} {ρ : Sto}

theorem EnvOK.fn {env : Env} (en : EnvOK sc env) : (env.scope.kind == .class || (env.scope.kind == .module && env.locals != env.globals)) = false := by
  rw [en.scope, en.kind]; rfl
theorem EnvOK.kindOf {env : Env} (en : EnvOK sc env) (x : Str) : env.kindOf x = sc.names.lookup x := by unfold Env.kindOf; rw [en.scope]

theorem ht_nil {Φ : Fl → Sto → Prop} (h : Φ .next ρ) : HT W n sc ρ [] Φ := fun A env m X O s rm en S =>
  wpAny_execs_nil ⟨.next, ρ, m, O, .of .rfl', S, .next, h⟩
theorem ht_cons {st : Stmt} {ss : List Stmt} {Φ : Fl → Sto → Prop} (h : HS W n sc ρ st (fun fl ρ' => match fl with
    | .next => HT W n sc ρ' ss Φ
    | .ret d => Φ (.ret d) ρ')) : HT W n sc ρ (st :: ss) Φ := by
  intro A env m X O s rm en S
  refine wpAny_execs_cons (wpAny_mono (h A env m X O s rm en S) (fun f s₁ ⟨fl, ρ', m', O', st₁, S', fr, q⟩ => ?_) fun _ _ x => x)
  cases fr with
  | next =>
    refine wpAny_mono (q A env m' X O' s₁ rm en S') (fun f s₂ ⟨fl, ρ'', m'', O'', st₂, S'', fr, q⟩ => ?_) fun _ _ x => x
    exact ⟨fl, ρ'', m'', O'', st₁.trans st₂ fun a p => (S.os a p).2, S'', fr, q⟩
  | ret r => exact ⟨_, ρ', m', O', st₁, S', .ret r, q⟩
theorem HT.mono {ss : List Stmt} {Φ Ψ : Fl → Sto → Prop} (h : HT W n sc ρ ss Φ) (q : ∀ fl ρ', Φ fl ρ' → Ψ fl ρ') : HT W n sc ρ ss Ψ := fun A env m X O s rm en S =>
  wpAny_mono (h A env m X O s rm en S) (fun f s₁ ⟨fl, ρ', m', O', a, b, c, d⟩ => ⟨fl, ρ', m', O', a, b, c, q _ _ d⟩) fun _ _ x => x
theorem HT.forget {ρ' : Sto} {ss : List Stmt} {Φ : Fl → Sto → Prop} (h : HT W n sc ρ' ss Φ) (q : ∀ x sl, ρ'.lookup x = some sl → ρ.lookup x = some sl) : HT W n sc ρ ss Φ := fun A env m X O s rm en S =>
  h A env m X O s rm en (S.forget q)

def notComp : Expr → Bool
  | .ListComp .. | .SetComp .. | .DictComp .. => false
  | _ => true
theorem swapsWith_of {e : Expr} (h : notComp e = true) (t : Option Expr) (l : Nat) (env : Env) : swapsWith e t l env = pure false := by
  cases e <;> first | rfl | cases h

theorem hs_assign {x : Str} {px pos : Pos} {e : Expr} {d : D} {Φ : Fl → Sto → Prop} (h : EvS W n sc ρ e d) (hc : notComp e = true) (hx : sc.names.lookup x = some .local) (q : Φ .next ((x, .val d) :: ρ)) : HS W n sc ρ (.Assign [.Name x px] e pos) Φ := by
  intro A env m X O s rm en S
  refine wpAny_Assign_Name (wpAny_mono (h A env m X O s rm en S) (fun v s₁ ⟨k, r⟩ => ?_) fun _ _ x => x) (swapsWith_of hc _ _ _)
  have S₁ := S.keep k.get
  have hk : env.kindOf x = some .local := by rw [en.kindOf]; exact hx
  exact wpAny_storeName_local hk S₁.ns (fun h' hn hs => ⟨.next, _, _, O, k.stp hs S.loc, S₁.store hk hn hs (.val r), .next, q⟩) en.fn
theorem hs_own {x : Str} {px pos p : Pos} {es : List Expr} {ds : List D} {Φ : Fl → Sto → Prop} (h : ArS W n sc ρ es ds) (hl : ds.length ≤ sizeLine) (hx : sc.names.lookup x = some .local) (q : Φ .next ((x, .own ds) :: ρ)) : HS W n sc ρ (.Assign [.Name x px] (.List es p) pos) Φ := by
  intro A env m X O s rm en S
  refine wpAny_Assign_Name (wpAny_List (wpAny_mono (h A env m X O s p rm en S) (fun vs s₁ ⟨k, r⟩ => ?_) fun _ _ x => x)) rfl
  have S₁ := S.keep k.get
  have hk : env.kindOf x = some .local := by rw [en.kindOf]; exact hx
  have hf := S₁.fresh (fresh_size (h := s₁.heap))
  refine ⟨by rw [r.length]; exact hl, ?_⟩
  have pn : ∀ a, (∃ o, s₁.heap.get? a = some o) → a ≠ s₁.heap.objs.size := fun a ⟨o, e⟩ q => Nat.lt_irrefl _ (q ▸ Heap.lt_size e)
  -- the new list is the frame's own
  have S₂ : St W env m X (fun a => O a ∨ a = s₁.heap.objs.size) ρ (s₁.heap.push { cls := .type "list", data := .seq vs.toArray }) := by
    have kg := (Ks.push (s := s₁) (o := { cls := .type "list", data := .seq vs.toArray })).get
    have S₂ := S₁.keep kg
    refine ⟨S₂.ns, .inl S₂.loc, S₂.base, fun a q => ?_, fun a q => ?_, fun y sl e => ?_⟩
    · obtain ⟨p, q', o, r⟩ := S₁.xs a q
      refine ⟨p, fun z => ?_, o, kg _ _ r⟩
      rcases z with z | z
      · exact q' z
      · exact pn a ⟨o, r⟩ z
    · rcases q with q | rfl
      · exact S₂.os a q
      · refine ⟨?_, _, Heap.get?_push_size _ rfl⟩
        cases e : W.hB.get? s₁.heap.objs.size with
        | none => rfl
        | some o => exact absurd rfl (pn _ ⟨o, S₁.base _ _ e⟩)
    · obtain ⟨v, r', q⟩ := S₁.vars y sl e
      refine ⟨v, ?_, ?_⟩
      · rcases r' with r' | ⟨a, b, c, d, e, f⟩
        · exact .inl r'
        · refine .inr ⟨a, b, c, d, ?_, f.keeps kg⟩
          rintro (z | z)
          · exact e z
          · obtain ⟨o, ho, _⟩ := f
            exact pn c ⟨o, ho⟩ z
      · have hun : ∀ a, un X (fun a => O a ∨ a = s₁.heap.objs.size) a → (∃ o, s₁.heap.get? a = some o) → un X O a := by
          rintro a (z | z | z) e
          · exact .inl z
          · exact .inr z
          · exact absurd z (pn a e)
        cases q with
        | val q => exact .val (q.kp (.of_ext kg) hun)
        | own a p l q => exact .own (.inl a) (p.keeps kg) l (q.kp (.of_ext kg) hun)
  have hun : ∀ a, un X (fun a => O a ∨ a = s₁.heap.objs.size) a → (∃ o, s₁.heap.get? a = some o) → un X O a := by
    rintro a (z | z | z) e
    · exact .inl z
    · exact .inr z
    · exact absurd z (pn a e)
  have hr : SRep X (fun a => O a ∨ a = s₁.heap.objs.size) (s₁.heap.push { cls := .type "list", data := .seq vs.toArray }) (.ref s₁.heap.objs.size) (.own ds) :=
    .own (.inr rfl) ⟨_, _, Heap.get?_push_size _ rfl, rfl, rfl, rfl⟩ (by rw [r.length]; exact hl) (r.kp (.of_ext (Ks.push (s := s₁)).get) hun)
  refine wpAny_storeName_local hk S₂.ns (fun h' hn hs => ⟨.next, _, _, _, ?_, S₂.store hk hn hs hr, .next, q⟩) en.fn
  have st₁ : Stp O s (fun a => O a ∨ a = s₁.heap.objs.size) { s₁ with heap := s₁.heap.push { cls := .type "list", data := .seq vs.toArray } } := by
    obtain ⟨⟨hh, tk, rfl⟩, g⟩ := k
    refine ⟨⟨_, tk, rfl⟩, fun b o nb e => Heap.get?_push_of_some _ (g b o e), fun a q => .inl q, fun a q => ?_⟩
    rcases q with q | rfl
    · exact .inl q
    · right
      cases e : s.heap.get? hh.objs.size with
      | none => rfl
      | some o => exact absurd rfl (pn _ ⟨o, g _ _ e⟩)
  exact st₁.trans (Ks.stp (O := fun a => O a ∨ a = s₁.heap.objs.size) .rfl' hs (.inl S.loc)) fun a p => (S.os a p).2
theorem hs_if {t : Expr} {body orelse : List Stmt} {pos : Pos} {c : Bool} {Φ : Fl → Sto → Prop} (ht : TrS W n sc ρ t c) (h1 : c = true → HT W n sc ρ body Φ) (h2 : c = false → HT W n sc ρ orelse Φ) : HS W n sc ρ (.If t body orelse pos) Φ := by
  intro A env m X O s rm en S
  refine wpAny_If (wpAny_mono (ht A env m X O s rm en S) (fun v s₁ ⟨k, q⟩ => ?_) fun _ _ x => x)
  subst q
  have S₁ := S.keep k.get
  have fin : ∀ ss, HT W n sc ρ ss Φ → wpAny (model W.prog W.w) A (execs ss env) (fun f s' => ∃ fl ρ' m' O', Stp O s O' s' ∧ St W env m' X O' ρ' s'.heap ∧ FlowR X s'.heap f fl ∧ Φ fl ρ') NoE s₁ := fun ss h =>
    wpAny_mono (h A env m X O s₁ rm en S₁) (fun f s₂ ⟨fl, ρ', m', O', a, b, c, d⟩ => ⟨fl, ρ', m', O', (Stp.of k).trans a fun a p => (S.os a p).2, b, c, d⟩) fun _ _ x => x
  cases v with
  | true => exact fin _ (h1 rfl)
  | false => exact fin _ (h2 rfl)
theorem hs_ret {e : Expr} {pos : Pos} {d : D} {Φ : Fl → Sto → Prop} (h : EvS W n sc ρ e d) (q : Φ (.ret d) ρ) : HS W n sc ρ (.Return (some e) pos) Φ := by
  intro A env m X O s rm en S
  exact wpAny_Return_some (wpAny_mono (h A env m X O s rm en S) (fun v s₁ ⟨k, r⟩ => ⟨_, ρ, m, O, .of k, S.keep k.get, .ret (r.kp .refl fun _ a _ => .inl a), q⟩) fun _ _ x => x)
theorem hs_retOwn {x : Str} {p pos : Pos} {ds : List D} {Φ : Fl → Sto → Prop} (h : ρ.lookup x = some (.own ds)) (hd : (x == ("__debug__" : Str)) = false) (q : Φ (.ret (.lst ds)) ρ) : HS W n sc ρ (.Return (some (.Name x p)) pos) Φ := by
  intro A env m X O s rm en S
  obtain ⟨v, r, z⟩ := S.vars _ _ h
  cases z with
  | own a pl l r' =>
    refine wpAny_Return_some (wpAny_Name (wp_load en S.ns r ⟨_, ρ, m, O, .of .rfl', S, .ret (.lst (fun x => (S.xs _ x).2.1 a) pl.isList l (r'.kp .refl fun _ a _ => .inl a)), q⟩) hd)
theorem hs_aug {x : Str} {px pos : Pos} {e : Expr} {i j : Int} {Φ : Fl → Sto → Prop} (h0 : ρ.lookup x = some (.val (.int i))) (h : EvS W n sc ρ e (.int j)) (hx : sc.names.lookup x = some .local) (q : Φ .next ((x, .val (.int (i - j))) :: ρ)) : HS W n sc ρ (.AugAssign (.Name x px) .Sub e pos) Φ := by
  intro A env m X O s rm en S
  obtain ⟨v, r, z⟩ := S.vars _ _ h0
  cases z with
  | val z =>
    cases z
    refine wpAny_AugAssign_Name (wp_load en S.ns r ?_)
    refine wpAny_mono (h A env m X O s rm en S) (fun v s₁ ⟨k, r⟩ => ?_) fun _ _ x => x
    cases r
    have S₁ := S.keep k.get
    have hk : env.kindOf x = some .local := by rw [en.kindOf]; exact hx
    refine PyProof.Rows.isub_int ?_
    exact wpAny_storeName_local hk S₁.ns (fun h' hn hs => ⟨.next, _, _, O, k.stp hs S.loc, S₁.store hk hn hs (.val (.int _ _)), .next, q⟩) en.fn
end
end Mine

namespace Mine

theorem name_pos (x : Str) (p : Pos) : (Expr.Name x p).pos = p := rfl
theorem swapped2 {env : Env} {a b : Str} {pa pb pt pv : Pos} {k1 k2 : Nat} {e1 e2 : Expr} (ha : env.kindOf a = some .local) (hb : env.kindOf b = some .local) (hk : env.scope.kind = .function) (hl : (pb.line == pa.line) = true) (hab : (a == b) = false)
    (hn1 : notStar e1 = true) (hn2 : notStar e2 = true) (hf : (foldedForSure 8 e1 && foldedForSure 8 e2) = false) (hc : (constantsAlone 8 e1 && constantsAlone 8 e2) = false) :
    swappedStores [.Tuple [.Name a pa, .Name b pb] k1 pt] (.Tuple [e1, e2] k2 pv) env = pure (some [a, b]) := by
  have hbk : env.blockKind = .function := by unfold Env.blockKind; rw [hk]; rfl
  have hst : ∀ f : Expr → Bool, (∀ e, notStar e = true → f e = false) → ([e1, e2] : List Expr).any f = false := fun f h => by simp [h e1 hn1, h e2 hn2]
  have hne : ¬ a = b := by simpa using hab
  have hf' : (([e1, e2] : List Expr).all (foldedForSure 8)) = false := by simpa using hf
  have hc' : (([e1, e2] : List Expr).all (constantsAlone 8)) = false := by simpa using hc
  unfold swappedStores
  have hl' : pb.line = pa.line := by simpa using hl
  have hed : ([a, b] : List Str).eraseDups = [a, b] := by
    rw [List.eraseDups_cons]
    have : (fun x => !x == a) b = true := by
      have : (b == a) = false := by simpa using fun h => hne h.symm
      simp [this]
    simp [List.filter, this, List.eraseDups_cons]
  dsimp only
  rw [hst]
  rotate_left
  · intro e he
    cases e <;> first | rfl | (cases he)
  simp only [hf', hc', name_pos, List.head?_cons, Option.map_some, Option.getD_some, List.filterMap_cons, List.filterMap_nil, ha, hb, hbk, hl', beq_self_eq_true, Bool.and_true, if_true, List.length_cons, List.length_nil, hed, bne_self_eq_false, Bool.or_false, Bool.not_false]
  rfl

section
variable {W : Wd} {n : Nat} {sc : Scope} {ρ : Sto}

theorem hs_assign2 {a b : Str} {pa pb pt pv pos : Pos} {k1 k2 : Nat} {e1 e2 : Expr} {d1 d2 : D} {Φ : Fl → Sto → Prop} (h1 : EvS W n sc ρ e1 d1) (h2 : EvS W n sc ρ e2 d2) (ha : sc.names.lookup a = some .local) (hb : sc.names.lookup b = some .local)
    (hl : (pb.line == pa.line) = true) (hab : (a == b) = false) (hn1 : notStar e1 = true) (hn2 : notStar e2 = true) (hf : (foldedForSure 8 e1 && foldedForSure 8 e2) = false) (hc : (constantsAlone 8 e1 && constantsAlone 8 e2) = false)
    (q : Φ .next ((a, .val d1) :: (b, .val d2) :: ρ)) : HS W n sc ρ (.Assign [.Tuple [.Name a pa, .Name b pb] k1 pt] (.Tuple [e1, e2] k2 pv) pos) Φ := by
  intro A env m X O s rm en S
  have hka : env.kindOf a = some .local := by rw [en.kindOf]; exact ha
  have hkb : env.kindOf b = some .local := by rw [en.kindOf]; exact hb
  rw [arm_exec_Assign]
  refine wpAny_bind (wpAny_standAt ?_)
  have hsw : swapsWithSole [.Tuple [.Name a pa, .Name b pb] k1 pt] (.Tuple [e1, e2] k2 pv) pos.line env = pure false := by
    show swapsWith (.Tuple [e1, e2] k2 pv) (some (.Tuple [.Name a pa, .Name b pb] k1 pt)) pos.line env = pure false
    rfl
  refine wpAny_bind (wpAny_of_eq hsw ?_)
  rw [if_neg (by decide)]
  refine wpAny_bind (wpAny_mono (ev_tup (k := k2) (pos := pv) (ar_cons h1 (ar_cons h2 ar_nil hn2) hn1) (show 2 ≤ sizeLine from by decide) A env m X O s rm en S) (fun v s₁ ⟨k, r⟩ => ?_) fun _ _ x => x)
  rw [swapped2 hka hkb (en.scope ▸ en.kind) hl hab hn1 hn2 hf hc]
  refine wpAny_bind (wpAny_pure ?_)
  cases r with
  | @tup t vs _ nn ht l r =>
    cases r with
    | @cons v1 _ _ _ r1 r =>
    cases r with
    | @cons v2 _ _ _ r2 r =>
    cases r
    have S₁ := S.keep k.get
    show wpAny _ _ (do rule "assign.swapped-stores"; let items ← unpackItems (.ref t) 2 none; assignInOrder ([a, b].reverse.map fun n => bindName env n) items.reverse; (pure Flow.next : Sem Flow)) _ _ _
    refine wpAny_bind (wpAny_rule (wpAny_bind ?_))
    have ht' : s₁.heap.IsTuple t #[v1, v2] := ht
    have hu := wpAny_unpackItems_tuple (prog := W.prog) (w := W.w) (A := A) (E := NoE) (s := s₁) (t := t) (items := #[v1, v2]) (Q := fun its s' => ∃ h₂, Heap.ExtBut s₁.heap.objs.size s₁.heap h₂ ∧ its = [v1, v2] ∧ s' = { s₁ with heap := h₂ }) rm.handled ht' fun h₂ hx => ⟨h₂, hx, rfl, rfl⟩
    have e2 : (#[v1, v2] : Array Value).size = 2 := rfl
    rw [e2] at hu
    refine wpAny_mono hu (fun its s₂ q₂ => ?_) fun _ _ x => x
    obtain ⟨h₂, hx, rfl, rfl⟩ := q₂
    have kg : ∀ b o, s₁.heap.get? b = some o → h₂.get? b = some o := fun b o e => hx b o (Nat.ne_of_lt (Heap.lt_size e)) e
    have S₂ := S₁.keep kg
    show wpAny _ _ (do assignInOrder [bindName env b, bindName env a] [v2, v1]; (pure Flow.next : Sem Flow)) _ _ _
    refine wpAny_bind ?_
    show wpAny _ _ (do holding [v1] (bindName env b v2); assignInOrder [bindName env a] [v1]) _ _ _
    refine wpAny_bind (wpAny_holding (wpAny_bindName (wpAny_storeName_local hkb S₂.ns (fun h₃ hn₃ hs₃ => ?_) en.fn)))
    have S₃ := S₂.store hkb hn₃ hs₃ (.val (r2.keep kg))
    show wpAny _ _ (do holding [] (bindName env a v1); assignInOrder [] []) _ _ _
    refine wpAny_bind (wpAny_holding (wpAny_bindName (wpAny_storeName_local hka S₃.ns (fun h₄ hn₄ hs₄ => ?_) en.fn)))
    have k13 : ∀ b o, ¬ O b → s₁.heap.get? b = some o → h₃.get? b = some o := fun b o nb e => (hs₃.2 b (fun q => nb (q ▸ S.loc))).trans (kg b o e)
    have S₄ := S₃.store hka hn₄ hs₄ (.val (r1.kp (fun b o nb e => k13 b o (fun q => nb (.inr q)) e) fun _ a _ => a))
    refine wpAny_pure (wpAny_pure ⟨.next, _, _, O, ?_, S₄, .next, q⟩)
    have c1 : Stp O s O { s₁ with heap := h₂ } := Stp.of (k.trans' ⟨⟨h₂, s₁.toks, rfl⟩, kg⟩)
    have c2 := Ks.stp (s := { s₁ with heap := h₂ }) (t := s₁.toks + 1) .rfl' hs₃ S.loc
    have c3 := Ks.stp (s := { s₁ with heap := h₃, toks := s₁.toks + 1 }) (t := s₁.toks + 1 + 1) .rfl' hs₄ S.loc
    exact (c1.trans c2 fun a p => (S.os a p).2).trans c3 fun a p => (S.os a p).2

def ownOnly (ρ : Sto) (x : Str) : Bool := ρ.all fun p => match p.2 with
  | .own _ => p.1 == x
  | .val _ => true
theorem ownOnly.spec {x : Str} (h : ownOnly ρ x = true) : ∀ y ds, ρ.lookup y = some (.own ds) → y = x := fun y ds e => by
  have hm := mem_of_lookup e
  have := List.all_eq_true.mp h _ hm
  simpa using this

theorem St.append {env : Env} {m : Str → Option Value} {X O : Addr → Prop} {h h' : Heap} {x : Str} {a : Addr} {vs : List Value} {v : Value} {ds : List D} {d : D} (S : St W env m X O ρ h) (ho : ownOnly ρ x = true)
    (hr : Rds env m O h x (.ref a)) (ha : O a) (hp : PlainL h a vs.toArray) (hvs : Reps (un X O) h vs ds) (hv : Rep (un X O) h v d) (hl : vs.length + 1 ≤ sizeLine) (hp' : PlainL h' a (vs.toArray.push v)) (hs : Heap.SameBut a h h') :
    St W env m X O ((x, .own (ds ++ [d])) :: ρ) h' := by
  have ne : ∀ b o, ¬ O b → h.get? b = some o → h'.get? b = some o := fun b o nb e => (hs.2 b (fun q => nb (q ▸ ha))).trans e
  have kp : Kp (un X O) h h' := fun b o nb e => ne b o (fun q => nb (.inr q)) e
  have hL : a ≠ env.locals := by
    rintro rfl
    obtain ⟨o, c, e, _, _, hd⟩ := hp
    obtain ⟨o', es, ep, e', hd', _⟩ := S.ns
    rw [e] at e'; cases e'; rw [hd] at hd'; cases hd'
  have rd : ∀ {y : Str} {w : Value}, Rds env m O h y w → Rds env m O h' y w := fun {y w} r => by
    rcases r with r | ⟨a, b, c, d, e, f⟩
    · exact .inl r
    · exact .inr ⟨a, b, c, d, e, IsCell.kp (N := O) f e ne⟩
  refine ⟨S.ns.sameBut hs (Ne.symm hL), S.loc, fun b o e => ?_, fun b q => ?_, fun b q => ?_, fun y sl e => ?_⟩
  · exact (hs.2 b (fun q => by have := (S.os _ ha).1; rw [← q, e] at this; cases this)).trans (S.base b o e)
  · obtain ⟨p, q, o, r⟩ := S.xs b q
    exact ⟨p, q, o, ne b o q r⟩
  · obtain ⟨p, o, r⟩ := S.os b q
    by_cases hq : b = a
    · obtain ⟨o', c, e', _⟩ := hp'
      exact ⟨p, o', hq ▸ e'⟩
    · exact ⟨p, o, (hs.2 b hq).trans r⟩
  · rw [List.lookup_cons] at e
    by_cases hy : y = x
    · subst hy
      simp only [beq_self_eq_true] at e
      cases e
      refine ⟨.ref a, rd hr, .own ha (vs := vs ++ [v]) (by simpa using hp') (by simpa using hl) ?_⟩
      exact (hvs.append (.cons hv .nil)).kp kp fun _ a _ => a
    · have : (y == x) = false := by simpa using hy
      rw [this] at e
      obtain ⟨w, r', q⟩ := S.vars y sl e
      refine ⟨w, rd r', ?_⟩
      cases q with
      | val q => exact .val (q.kp kp fun _ a _ => a)
      | own => exact absurd (ownOnly.spec ho _ _ e) hy

theorem hs_append {x : Str} {p apos cpos pos : Pos} {elt : Expr} {ds : List D} {d : D} {Φ : Fl → Sto → Prop} (hx : ρ.lookup x = some (.own ds)) (ho : ownOnly ρ x = true) (h : EvS W n sc ρ elt d) (hl : ds.length + 1 ≤ sizeLine) (hs : notStar elt = true)
    (hd : (x == ("__debug__" : Str)) = false) (hline : (apos.endLine == cpos.line) = true) (q : Φ .next ((x, .own (ds ++ [d])) :: ρ)) :
    HS W n sc ρ (.Expr (.Call (.Attribute (.Name x p) "append" apos) [elt] [] cpos) pos) Φ := by
  intro A env m X O s rm en S
  obtain ⟨v, r, z⟩ := S.vars _ _ hx
  cases z with
  | @own a vs _ ha pl l r' =>
    refine wpAny_Expr ?_ (by unfold interactive; rw [en.scope, en.kind]; rfl) rfl
    refine wpAny_Call_append rfl (by rw [starEach_of hs]; rfl) hline (by rw [starEach_of hs]; rfl) (wpAny_Name (wp_load en S.ns r ⟨a, vs.toArray, rfl, pl, ?_⟩) hd)
    refine wpAny_mono (h A env m X O s rm en S) (fun y s₁ ⟨k, q₁⟩ => ?_) fun _ _ x => x
    have S₁ := S.keep k.get
    have hl' : vs.length + 1 ≤ sizeLine := by rw [r'.length]; exact hl
    refine list_append_plainL (pl.keeps k.get) (fun h' hp' hs' => ?_) (by simpa using l)
    have S₂ := S₁.append ho (r.keep k.get) ha (pl.keeps k.get) (r'.keep k.get) q₁ hl' hp' hs'
    refine ⟨.next, _, m, O, ?_, S₂, .next, q⟩
    exact k.stp hs' ha

theorem hs_while {test : Expr} {body : List Stmt} {pos : Pos} {Φ : Fl → Sto → Prop} (J : Nat → Sto → Prop) (k : Nat) (h0 : J k ρ)
    (turn : ∀ k ρ, J k ρ → ∃ b, TrS W n sc ρ test b ∧ (b = true → HT W n sc ρ body (fun fl ρ' => match fl with
      | .next => ∃ k', k' < k ∧ J k' ρ'
      | .ret d => Φ (.ret d) ρ')) ∧ (b = false → Φ .next ρ)) : HS W n sc ρ (.While test body [] pos) Φ := by
  intro A env m X O s rm en S
  refine wpAny_While (codeAny_whileLoop (fun k s' => ∃ ρ m O', Stp O s O' s' ∧ St W env m X O' ρ s'.heap ∧ J k ρ) ?_ k ⟨ρ, m, O, .of .rfl', S, h0⟩)
  rintro k s' ⟨ρ, m, O', st, S', hj⟩
  obtain ⟨b, ht, h1, h2⟩ := turn k ρ hj
  refine wpAny_mono (ht A env m X O' s' rm en S') (fun c s₁ ⟨kk, q⟩ => ?_) fun _ _ x => x.elim
  subst q
  have S₁ := S'.keep kk.get
  have so : ∀ a, O a → ∃ o, s.heap.get? a = some o := fun a p => (S.os a p).2
  have st₁ := st.trans (.of kk) so
  cases c with
  | true =>
    refine wpAny_mono (h1 rfl A env m X O' s₁ rm en S₁) (fun f s₂ ⟨fl, ρ', m', O'', st₂, S₂, fr, q⟩ => ?_) fun _ _ x => x.elim
    have st₃ := st₁.trans st₂ so
    cases fr with
    | next => obtain ⟨k', hk', hj'⟩ := q; exact ⟨k', hk', ρ', m', O'', st₃, S₂, hj'⟩
    | ret r => exact ⟨_, ρ', m', O'', st₃, S₂, .ret r, q⟩
  | false => exact wpAny_execs_nil ⟨.next, ρ, m, O', st₁, S₁, .next, h2 rfl⟩
end
end Mine

namespace Mine

/-! a def's call -/
def DefAt (W : Wd) (f : Str) (params : Arguments) (body : List Stmt) (scope : Scope) : Prop :=
  ∃ a o pm code doc, W.mg f = some (.ref a) ∧ W.hB.get? a = some o ∧ o.data = .func (Calls.docDef f params body scope pm code doc) ∧ W.hB.CodeRec code f

theorem bindL_other {kindOf : Str → Option NameKind} {x : Str} : ∀ {r : List (Str × Value)} {m : Str → Option Value}, (∀ p ∈ r, p.1 ≠ x) → bindL kindOf r m x = m x
  | [], _, _ => rfl
  | (y, v) :: r, m, h => by
    unfold bindL
    rw [bindL_other fun p hp => h p (.tail _ hp)]
    split
    · simp [Ne.symm (h _ (.head _))]
    · rfl
theorem bindL_mem {kindOf : Str → Option NameKind} {x : Str} {v : Value} : ∀ {r : List (Str × Value)} {m : Str → Option Value}, (r.map (·.1)).Nodup → (x, v) ∈ r → kindOf x = some .local → bindL kindOf r m x = some v
  | (y, w) :: r, m, hn, hm, hk => by
    rw [List.map_cons, List.nodup_cons] at hn
    unfold bindL
    rcases List.mem_cons.mp hm with e | hm
    · cases e
      rw [if_pos hk, bindL_other]
      · simp
      · intro p hp e
        exact hn.1 (List.mem_map.mpr ⟨p, hp, e⟩)
    · exact bindL_mem hn.2 hm hk
theorem bindC_other {kindOf : Str → Option NameKind} {x : Str} : ∀ {r : List (Str × Value)} {m : Str → Option Value}, (∀ p ∈ r, p.1 ≠ x) → bindC kindOf r m x = m x
  | [], _, _ => rfl
  | (y, v) :: r, m, h => by
    unfold bindC
    rw [bindC_other fun p hp => h p (.tail _ hp)]
    split
    · rfl
    · simp [Ne.symm (h _ (.head _))]
theorem bindC_mem {kindOf : Str → Option NameKind} {x : Str} {v : Value} : ∀ {r : List (Str × Value)} {m : Str → Option Value}, (r.map (·.1)).Nodup → (x, v) ∈ r → kindOf x ≠ some .local → bindC kindOf r m x = some v
  | (y, w) :: r, m, hn, hm, hk => by
    rw [List.map_cons, List.nodup_cons] at hn
    unfold bindC
    rcases List.mem_cons.mp hm with e | hm
    · cases e
      rw [if_neg hk, bindC_other]
      · simp
      · intro p hp e
        exact hn.1 (List.mem_map.mpr ⟨p, hp, e⟩)
    · exact bindC_mem hn.2 hm hk
theorem zip_lookup {N : Addr → Prop} {h : Heap} {x : Str} {sl : Slot} : ∀ {ps : List Str} {vs : List Value} {ds : List D}, Reps N h vs ds → (ps.zip (ds.map Slot.val)).lookup x = some sl → ∃ v d, sl = .val d ∧ (x, v) ∈ ps.zip vs ∧ Rep N h v d
  | [], _, _, _, e => by simp at e
  | p :: ps, _, _, .nil, e => by simp at e
  | p :: ps, _, _, .cons (v := v) (d := d) r q, e => by
    simp only [List.map_cons, List.zip_cons_cons, List.lookup_cons] at e
    cases hx : x == p with
    | true =>
      rw [hx] at e; cases e
      exact ⟨v, d, rfl, by rw [beq_iff_eq.mp hx]; exact .head _, r⟩
    | false =>
      rw [hx] at e
      obtain ⟨v', d', a, b, c⟩ := zip_lookup q e
      exact ⟨v', d', a, .tail _ b, c⟩

theorem callS_intro {W : Wd} {n : Nat} {f : Str} {params : Arguments} {body : List Stmt} {scope : Scope} {ps : List Str} {ds : List D} {d : D} (ok : W.OK) (hd : DefAt W f params body scope)
    (hk : scope.kind = .function) (hco : scope.isCoroutine = false) (hgen : scope.isGenerator = false) (hps : ps.Nodup) (hkind : ∀ x ∈ ps, (scope.names.lookup x = some .local ∨ scope.names.lookup x = some .cell) ∧ (x == ("__classdict__" : Str)) = false) (hlen : ps.length = ds.length)
    (hbind : ∀ (pm code doc : Value) (vs : List Value), vs.length = ps.length → bindArgs (Calls.docDef f params body scope pm code doc) ⟨vs, []⟩ = pure (ps.zip vs))
    (hb : HT W n scope (ps.zip (ds.map .val)) body (fun fl _ => fl = .ret d)) : CallS W (n + 1) f ds d := by
  obtain ⟨a, o, pm, code, doc, hg, ho, hdata, hcd⟩ := hd
  refine ⟨a, o, _, hg, ho, hdata, fun A N s vs rm hB hN hr => ?_⟩
  have hvs : vs.length = ps.length := by rw [hr.length, hlen]
  have hroom : A.depth < recursionLimit := by have := rm.depth; omega
  refine wpAny_call (codeAny_call_cells (fd := Calls.docDef f params body scope pm code doc) (body := body) (binds := ps.zip vs) hroom (hB _ _ ho) hdata (ok.nolimit.keeps hB) (hcd.keeps hB) rfl (hbind pm code doc vs hvs) rfl ?_ (fun s₁ x => ?_) hco hgen hk)
  · intro x hx
    have hm : x.1 ∈ ps := List.of_mem_zip hx |>.1
    rcases (hkind _ hm).1 with q | q
    · exact .inl q
    · exact .inr ⟨q, cellsFrom_some _ _ _ (.inl q)⟩
  · generalize henv : callEnvC (Calls.docDef f params body scope pm code doc) s.heap.objs.size a = env at x ⊢
    have hL : env.locals = s.heap.objs.size := by rw [← henv]; rfl
    have en : EnvOK scope env := ⟨by rw [← henv]; rfl, hk, by rw [← henv]; rfl, by rw [← henv]; rfl⟩
    have kp := x.toInCall.keep
    have lt : ∀ b o, s.heap.get? b = some o → b ≠ env.locals := fun b o e q => Nat.lt_irrefl _ (by rw [hL] at q; exact q ▸ Heap.lt_size e)
    have hcells : ∀ y, scope.names.lookup y = some .cell → ∃ c, env.cells.lookup y = some c := fun y hy => by
      have : (env.cells.lookup y).isSome = true := by rw [← henv]; exact cellsFrom_some _ _ _ (.inl hy)
      exact Option.isSome_iff_exists.mp this
    have hnd : ((ps.zip vs).map (·.1)).Nodup := by rw [List.map_fst_zip (by omega)]; exact hps
    have S : St W env (bindL env.kindOf (ps.zip vs) fun _ => none) N (fun b => b = env.locals) (ps.zip (ds.map .val)) s₁.heap := by
      refine ⟨x.toInCall.ns, rfl, fun b o e => kp b o (hB b o e), fun b q => ?_, fun b q => ?_, fun y sl e => ?_⟩
      · obtain ⟨p, o, e⟩ := hN b q
        exact ⟨p, lt b o e, o, kp b o e⟩
      · subst q
        refine ⟨?_, ?_⟩
        · cases e : W.hB.get? env.locals with
          | none => rfl
          | some o => exact absurd rfl (lt _ o (hB _ _ e))
        · obtain ⟨o, _, _, e, _⟩ := x.toInCall.ns
          exact ⟨o, e⟩
      · obtain ⟨v, d', rfl, hm, r⟩ := zip_lookup hr e
        refine ⟨v, ?_, .val (r.kp (.of_ext kp) fun b q e' => ?_)⟩
        · have hy := hkind y (List.of_mem_zip hm).1
          rcases hy.1 with q | q
          · exact .inl ⟨by rw [en.kindOf]; exact q, bindL_mem hnd hm (by rw [en.kindOf]; exact q)⟩
          · obtain ⟨c, hc⟩ := hcells y q
            refine .inr ⟨.inl (by rw [en.kindOf]; exact q), hy.2, c, hc, fun z => ?_, ?_⟩
            · exact Nat.lt_irrefl _ (z ▸ x.above y c (mem_of_lookup hc))
            · have := x.cell y c hc
              rwa [bindC_mem hnd hm (by rw [en.kindOf, q]; decide)] at this
        · rcases q with q | q
          · exact q
          · obtain ⟨o, e'⟩ := e'
            exact absurd q (lt b o e')
    have hb' := hb (A.deeper env) env _ N _ s₁ rm.deeper en S
    refine wpAny_mono hb' (fun fl s₂ ⟨fl', ρ', m', O', st, S', fr, q⟩ => ?_) fun _ _ x => x.elim
    subst q
    cases fr with
    | ret r =>
      obtain ⟨h₁, t₁, e₁⟩ := x.toInCall.same
      obtain ⟨h₂, t₂, e₂⟩ := st.eq
      refine ⟨⟨⟨h₂, t₂, by rw [e₂, e₁]⟩, fun b o e => st.keep b o (lt b o e) (kp b o e)⟩, r⟩

/-- fields that change (an iterator's) leave what is told standing -/
theorem St.keepF {W : Wd} {env : Env} {m : Str → Option Value} {X O Z : Addr → Prop} {ρ : Sto} {h h' : Heap} (S : St W env m X O ρ h) (k : ∀ b o, ¬ Z b → h.get? b = some o → h'.get? b = some o)
    (hz : ∀ b, Z b → W.hB.get? b = none ∧ ¬ X b ∧ ¬ O b ∧ ∀ o, h.get? b = some o → ∃ vs, o.data = .fields vs) : St W env m X O ρ h' := by
  have nseq : ∀ b o its c, h.get? b = some o → o.data = .seq its c → ¬ Z b := fun b o its c e hd z => by
    obtain ⟨vs, q⟩ := (hz b z).2.2.2 o e
    rw [hd] at q; cases q
  have tup : ∀ {a its}, IsTup h a its → IsTup h' a its := fun {a its} ⟨o, e, c, n, hd⟩ => ⟨o, k a o (nseq a o _ _ e hd) e, c, n, hd⟩
  have lst : ∀ {a its}, h.IsList a its → h'.IsList a its := fun {a its} ⟨o, e, c, n, hd⟩ => ⟨o, k a o (nseq a o _ _ e hd) e, c, n, hd⟩
  have pl : ∀ {a its}, PlainL h a its → PlainL h' a its := fun {a its} ⟨o, c, e, r1, r2, hd⟩ => ⟨o, c, k a o (nseq a o _ _ e hd) e, r1, r2, hd⟩
  have rep : ∀ (N : Addr → Prop), (∀ {v d}, Rep N h v d → Rep N h' v d) ∧ (∀ {vs ds}, Reps N h vs ds → Reps N h' vs ds) := by
    intro N
    have kk : ∀ v d, Rep N h v d → Rep N h' v d := fun v d r => Rep.rec (motive_1 := fun v d _ => Rep N h' v d) (motive_2 := fun vs ds _ => Reps N h' vs ds)
      .none .bool .int (fun n t l _ q => .tup n (tup t) l q) (fun n t l _ q => .lst n (lst t) l q) .nil (fun _ _ q r => .cons q r) r
    have kks : ∀ vs ds, Reps N h vs ds → Reps N h' vs ds := fun vs ds r => Reps.rec (motive_1 := fun v d _ => Rep N h' v d) (motive_2 := fun vs ds _ => Reps N h' vs ds)
      .none .bool .int (fun n t l _ q => .tup n (tup t) l q) (fun n t l _ q => .lst n (lst t) l q) .nil (fun _ _ q r => .cons q r) r
    exact ⟨fun r => kk _ _ r, fun r => kks _ _ r⟩
  have nx : ∀ b, Z b → W.hB.get? b = none := fun b z => (hz b z).1
  refine ⟨?_, S.loc, fun b o e => k b o (fun z => by rw [nx b z] at e; cases e) (S.base b o e), fun b q => ?_, fun b q => ?_, fun y sl e => ?_⟩
  · obtain ⟨o, es, ep, e, hd, r⟩ := S.ns
    exact ⟨o, es, ep, k _ o (fun z => (hz _ z).2.2.1 S.loc) e, hd, r⟩
  · obtain ⟨p, q', o, r⟩ := S.xs b q
    exact ⟨p, q', o, k b o (fun z => (hz b z).2.1 q) r⟩
  · obtain ⟨p, o, r⟩ := S.os b q
    exact ⟨p, o, k b o (fun z => (hz b z).2.2.1 q) r⟩
  · obtain ⟨v, r, q⟩ := S.vars y sl e
    refine ⟨v, ?_, ?_⟩
    · rcases r with r | ⟨a, b, c, d, e', o, ho, hd⟩
      · exact .inl r
      · refine .inr ⟨a, b, c, d, e', o, k c o (fun z => ?_) ho, hd⟩
        obtain ⟨vs, q⟩ := (hz c z).2.2.2 o ho
        rw [hd] at q; cases q
    · cases q with
      | val q => exact .val ((rep _).1 q)
      | own a p l q => exact .own a (pl p) l ((rep _).2 q)

/-! iteration -/
def tnames : Expr → List Str
  | .Name x _ => [x]
  | .Tuple [.Name x _, .Name y _] _ _ => [x, y]
  | _ => []

structure Itr (W : Wd) (A : Around) (target : Expr) (it : Value) (N₀ : Addr → Prop) (s₀ : Shared) (its : List Sto) (F Z : Addr → Prop) (T : Nat → Heap → Prop) : Prop where
  sub : ∀ b, Z b → F b
  zf : ∀ b, Z b → s₀.heap.get? b = none
  ex : ∀ i h, T i h → ∀ b, F b → ∃ o, h.get? b = some o
  fl : ∀ i h, T i h → ∀ b, Z b → ∀ o, h.get? b = some o → ∃ vs, o.data = .fields vs
  frame : ∀ i h h', T i h → (∀ b o, F b → h.get? b = some o → h'.get? b = some o) → T i h'
  step : ∀ (i : Nat) (bs : Sto) (s : Shared) (env : Env) (m : Str → Option Value) (X O : Addr → Prop) (ρ : Sto) (Ψ : Unit → Shared → Prop), its[i]? = some bs → T i s.heap →
    Kp N₀ s₀.heap s.heap → (∀ a, un X O a → (∃ o, s₀.heap.get? a = some o) → N₀ a) → (∀ b, F b → ¬ O b) → (∀ b, Z b → W.hB.get? b = none ∧ ¬ X b) →
    (∀ x ∈ tnames target, env.kindOf x = some .local) → (env.scope.kind == .class || (env.scope.kind == .module && env.locals != env.globals)) = false → St W env m X O ρ s.heap →
    (∀ h' tk m', (∀ b o, b ≠ env.locals → ¬ Z b → s.heap.get? b = some o → h'.get? b = some o) → T (i + 1) h' → St W env m' X O (bs ++ ρ) h' → Ψ () { s with heap := h', toks := tk }) →
    wpAny (model W.prog W.w) A (pyNext it) (fun r s₁ => match r with
      | none => False
      | some v => wpAny (model W.prog W.w) A (letOwnedTupleGo target it v) (fun _ s₂ => wpAny (model W.prog W.w) A (assign target env v) Ψ NoE s₂) NoE s₁) NoE s
  stop : ∀ (s : Shared) (Ψ : Shared → Prop), T its.length s.heap → (∀ h' tk, (∀ b o, ¬ Z b → s.heap.get? b = some o → h'.get? b = some o) → Ψ { s with heap := h', toks := tk }) →
    wpAny (model W.prog W.w) A (pyNext it) (fun r s₁ => match r with
      | none => Ψ s₁
      | some _ => False) NoE s
  self : ∀ (s : Shared) (Q : Value → Shared → Prop), T 0 s.heap → Q it s → wpAny (model W.prog W.w) A (pyIter it) Q NoE s

/-- what a for or a comprehension runs over -/
structure ItS (W : Wd) (n : Nat) (sc : Scope) (ρ : Sto) (target iter : Expr) (its : List Sto) : Prop where
  plain : ∀ (x : Value) (env : Env), foldedSetIterable iter env x = pure x
  run : ∀ (A : Around) (env : Env) (m : Str → Option Value) (X O : Addr → Prop) (s : Shared), Room n A → EnvOK sc env → St W env m X O ρ s.heap →
    wpAny (model W.prog W.w) A (eval iter env) (fun xv s₁ => wpAny (model W.prog W.w) A (pyIter xv) (fun it s₂ => ∃ I s₀ F Z T, it = Value.ref I ∧ Ks s s₀ ∧ Ks s₀ s₂ ∧ Itr W A target it (un X O) s₀ its F Z T ∧ T 0 s₂.heap ∧ (∀ b, F b → ¬ O b) ∧ its.length ≤ sizeLine) NoE s₁) NoE s

section
variable {W : Wd} {n : Nat} {sc : Scope} {ρ : Sto}

theorem hs_for {target iter : Expr} {body : List Stmt} {pos : Pos} {its : List Sto} {Φ : Fl → Sto → Prop} (J : Nat → Sto → Prop) (hi : ItS W n sc ρ target iter its) (ht : ∀ x ∈ tnames target, sc.names.lookup x = some .local) (h0 : J 0 ρ)
    (turn : ∀ i bs ρ', its[i]? = some bs → J i ρ' → HT W n sc (bs ++ ρ') body (fun fl ρ'' => match fl with
      | .next => J (i + 1) ρ''
      | .ret d => Φ (.ret d) ρ''))
    (done : ∀ ρ', J its.length ρ' → Φ .next ρ') : HS W n sc ρ (.For target iter body [] pos) Φ := by
  intro A env m X O s rm en S
  refine wpAny_For (wpAny_mono (hi.run A env m X O s rm en S) (fun xv s₁ q => wpAny_mono q (fun it s₂ ⟨I, s₀, F, Z, T, hI, k₀, k₂, R, t0, hF, _⟩ => ?_) fun _ _ x => x) fun _ _ x => x) fun x => hi.plain x env
  have so : ∀ a, O a → ∃ o, s.heap.get? a = some o := fun a p => (S.os a p).2
  have S₀ := S.keep k₀.get
  have hZ : ∀ b, Z b → W.hB.get? b = none ∧ ¬ X b := fun b z => by
    have zf := R.zf b z
    refine ⟨?_, fun x => ?_⟩
    · cases e : W.hB.get? b with
      | none => rfl
      | some o => have := S₀.base b o e; rw [zf] at this; cases this
    · obtain ⟨_, _, o, e⟩ := S₀.xs b x
      rw [zf] at e; cases e
  have k02 := k₀.trans' k₂
  refine codeAny_forLoop_any (fun r s' => ∃ i ρ' m' O', r = its.length - i ∧ i ≤ its.length ∧ Stp O s₀ O' s' ∧ St W env m' X O' ρ' s'.heap ∧ T i s'.heap ∧ (∀ b, F b → ¬ O' b) ∧ J i ρ') ?_ its.length ⟨0, ρ, m, O, by simp, Nat.zero_le _, .of k₂, S.keep k02.get, t0, hF, h0⟩
  rintro r s' ⟨i, ρ', m', O', rfl, hle, st, S', ti, hF', hj⟩
  have so₀ : ∀ a, O a → ∃ o, s₀.heap.get? a = some o := fun a p => (S₀.os a p).2
  by_cases hi' : i < its.length
  · obtain ⟨bs, hbs⟩ : ∃ bs, its[i]? = some bs := ⟨its[i], by simp [hi']⟩
    have kp : Kp (un X O) s₀.heap s'.heap := fun b o nb e => st.keep b o (fun q => nb (.inr q)) e
    have hun : ∀ a, un X O' a → (∃ o, s₀.heap.get? a = some o) → un X O a := by
      rintro a (q | q) ⟨o, e⟩
      · exact .inl q
      · rcases st.new a q with q | q
        · exact .inr q
        · rw [e] at q; cases q
    have hstep := R.step i bs s' env m' X O' ρ' (fun _ s₁ => ∃ h' tk m₁, s₁ = { s' with heap := h', toks := tk } ∧ (∀ b o, b ≠ env.locals → ¬ Z b → s'.heap.get? b = some o → h'.get? b = some o) ∧ T (i + 1) h' ∧ St W env m₁ X O' (bs ++ ρ') h')
      hbs ti kp hun hF' hZ (fun x hx => by rw [en.kindOf]; exact ht x hx) en.fn S' fun h' tk m₁ kk t₁ S₁ => ⟨h', tk, m₁, rfl, kk, t₁, S₁⟩
    refine wpNoE (wpAny_mono hstep (fun r s₁ q => ?_) fun _ _ x => x)
    · cases r with
      | none => exact q.elim
      | some v =>
        refine wpNoE (wpAny_mono q (fun _ s₂ q => wpNoE (wpAny_mono q (fun _ s₃ ⟨h', tk, m₁, e, kk, t₁, S₁⟩ => ?_) fun _ _ x => x)) fun _ _ x => x)
        subst e
        refine wpNoE (wpAny_mono (turn i bs ρ' hbs hj A env m₁ X O' _ rm en S₁) (fun f s₄ ⟨fl, ρ'', m₂, O'', st₂, S₂, fr, q⟩ => ?_) fun _ _ x => x)
        -- the whole turn as one step
        have st₁ : Stp O s₀ O' { s' with heap := h', toks := tk } := by
          obtain ⟨⟨hh, t, rfl⟩, k, g, nw⟩ := st
          refine ⟨⟨h', tk, rfl⟩, fun b o nb e => kk b o (fun q => nb (q ▸ S.loc)) (fun z => ?_) (k b o nb e), g, nw⟩
          have := R.zf b z; rw [e] at this; cases this
        have st₃ := st₁.trans st₂ so₀
        cases fr with
        | next =>
          refine ⟨its.length - (i + 1), by omega, i + 1, ρ'', m₂, O'', rfl, hi', st₃, S₂, ?_, ?_, q⟩
          · exact R.frame _ _ _ t₁ fun b o hb e => st₂.keep b o (hF' b hb) e
          · intro b hb o
            rcases st₂.new b o with q | q
            · exact hF' b hb q
            · obtain ⟨o, e⟩ := R.ex _ _ t₁ b hb
              rw [e] at q; cases q
        | ret r => exact ⟨_, ρ'', m₂, O'', (Stp.of k₀).trans st₃ so, S₂, .ret r, q⟩
  · have : i = its.length := by omega
    subst this
    refine wpNoE (wpAny_mono (R.stop s' (fun s₁ => ∃ h' tk, s₁ = { s' with heap := h', toks := tk } ∧ ∀ b o, ¬ Z b → s'.heap.get? b = some o → h'.get? b = some o) ti fun h' tk k => ⟨h', tk, rfl, k⟩) (fun r s₁ q => ?_) fun _ _ x => x)
    cases r with
    | some v => exact q.elim
    | none =>
      obtain ⟨h', tk, rfl, kk⟩ := q
      refine wpAny_execs_nil ⟨.next, ρ', m', O', ?_, ?_, .next, done ρ' hj⟩
      · refine (Stp.of k₀).trans ?_ so
        obtain ⟨⟨hh, t, rfl⟩, k, g, nw⟩ := st
        refine ⟨⟨h', tk, rfl⟩, fun b o nb e => kk b o (fun z => ?_) (k b o nb e), g, nw⟩
        have := R.zf b z; rw [e] at this; cases this
      · exact S'.keepF kk fun b z => ⟨(hZ b z).1, (hZ b z).2, hF' b (R.sub b z), R.fl _ _ ti b z⟩
end
end Mine

namespace Mine

def notSet : Expr → Bool
  | .Set .. => false
  | _ => true
theorem folded_of {e : Expr} (h : notSet e = true) (x : Value) (env : Env) : foldedSetIterable e env x = pure x := by
  cases e <;> first | rfl | cases h

theorem rep_at {N₀ : Addr → Prop} {X O Z : Addr → Prop} {h₀ h h' : Heap} {v : Value} {d : D} (r : Rep N₀ h₀ v d) (kp : Kp N₀ h₀ h) (hun : ∀ a, un X O a → (∃ o, h₀.get? a = some o) → N₀ a) (zf : ∀ b, Z b → h₀.get? b = none)
    (k : ∀ b o, ¬ Z b → h.get? b = some o → h'.get? b = some o) : Rep (un X O) h' v d :=
  r.kp (fun b o nb e => k b o (fun z => by rw [zf b z] at e; cases e) (kp b o nb e)) hun

theorem ne_size {h : Heap} {b : Addr} {o : Obj} (e : h.get? b = some o) : b ≠ h.objs.size := Nat.ne_of_lt (Heap.lt_size e)

section
variable {W : Wd} {n : Nat} {sc : Scope} {ρ : Sto}

/-- the names of a pair are stored -/
theorem assign_pair {A : Around} {env : Env} {m : Str → Option Value} {X O : Addr → Prop} {ρ : Sto} {s : Shared} {x y : Str} {px py pt : Pos} {kk : Nat} {t : Addr} {v1 v2 : Value} {d1 d2 : D} {Ψ : Unit → Shared → Prop} (hh : A.handled = none) (S : St W env m X O ρ s.heap)
    (hx : env.kindOf x = some .local) (hy : env.kindOf y = some .local) (hfn : (env.scope.kind == .class || (env.scope.kind == .module && env.locals != env.globals)) = false) (ht : s.heap.IsTuple t #[v1, v2]) (r1 : Rep (un X O) s.heap v1 d1) (r2 : Rep (un X O) s.heap v2 d2)
    (h : ∀ h' tk m', (∀ b o, b ≠ env.locals → s.heap.get? b = some o → h'.get? b = some o) → St W env m' X O ((y, .val d2) :: (x, .val d1) :: ρ) h' → Ψ () { s with heap := h', toks := tk }) :
    wpAny (model W.prog W.w) A (assign (.Tuple [.Name x px, .Name y py] kk pt) env (.ref t)) Ψ NoE s := by
  refine wpAny_assign_Tuple hh ht rfl rfl fun h₃ hx₃ => ?_
  have kg : ∀ b o, s.heap.get? b = some o → h₃.get? b = some o := fun b o e => hx₃ b o (ne_size e) e
  have S₃ := S.keep kg
  show wpAny _ A (do holding [v2] (assign (.Name x px) env v1); do holding [] (assign (.Name y py) env v2); pure ()) _ _ _
  refine wpAny_bind (wpAny_holding (wpAny_assign_Name (wpAny_storeName_local hx S₃.ns (fun h₄ hn₄ hs₄ => ?_) hfn)))
  have S₄ := S₃.store hx hn₄ hs₄ (.val (r1.keep kg))
  refine wpAny_bind (wpAny_holding (wpAny_assign_Name (wpAny_storeName_local hy S₄.ns (fun h₅ hn₅ hs₅ => wpAny_pure ?_) hfn)))
  have r2' : Rep (un X O) h₄ v2 d2 := (r2.keep kg).kp (fun b o nb e => (hs₄.2 b (fun q => nb (.inr (q ▸ S.loc)))).trans e) fun _ a _ => a
  exact h h₅ _ _ (fun b o nb e => (hs₅.2 b nb).trans ((hs₄.2 b nb).trans (kg b o e))) (S₄.store hy hn₅ hs₅ (.val r2'))

theorem it_list {x : Str} {px : Pos} {iter : Expr} {ds : List D} (hv : EvS W n sc ρ iter (.lst ds)) (hs : notSet iter = true) : ItS W n sc ρ (.Name x px) iter (ds.map fun d => [(x, Slot.val d)]) := by
  refine ⟨folded_of hs, fun A env m X O s rm en S => ?_⟩
  refine wpAny_mono (hv A env m X O s rm en S) (fun xv s₁ ⟨k, q⟩ => ?_) fun _ _ x => x
  cases q with
  | @lst ax vs _ nn t l r =>
  have S₁ := S.keep k.get
  refine wpAny_pyIter_list t ?_
  have hax : ax ≠ s₁.heap.objs.size := by obtain ⟨o, e, _⟩ := t; exact ne_size e
  refine ⟨_, s₁, fun b => b = s₁.heap.objs.size ∨ b = ax, fun b => b = s₁.heap.objs.size, fun i h => h.IsListIter s₁.heap.objs.size ax i ∧ h.IsList ax vs.toArray, rfl, k, .push, ?_, ⟨⟨_, Heap.get?_push_size _ rfl, rfl, rfl⟩, t.push _⟩, ?_, by simpa [← r.length] using l⟩
  · refine ⟨fun b q => .inl q, fun b q => q ▸ fresh_size, ?_, ?_, ?_, ?_, ?_, ?_⟩
    · rintro i h ⟨⟨o, e, _⟩, ⟨o', e', _⟩⟩ b (rfl | rfl)
      · exact ⟨o, e⟩
      · exact ⟨o', e'⟩
    · rintro i h ⟨⟨o, e, _, hd⟩, _⟩ b rfl o' e'
      rw [e] at e'; cases e'; exact ⟨_, hd⟩
    · rintro i h h' ⟨a, b⟩ kk
      exact ⟨a.at fun o e => kk _ o (.inl rfl) e, b.at fun o e => kk _ o (.inr rfl) e⟩
    · intro i bs s env m X' O' ρ Ψ hb ⟨ti, tl⟩ kp hun hF hZ ht hfn S' cont
      obtain ⟨d, hd, rfl⟩ : ∃ d, ds[i]? = some d ∧ [(x, Slot.val d)] = bs := by simpa [List.getElem?_map] using hb
      obtain ⟨v, hv, rv⟩ := r.get i d hd
      have hx : env.kindOf x = some .local := ht x (.head _)
      refine wpAny_pyNext_list_item ti tl (by simpa using hv) fun h' hit' hs' => ?_
      have kz : ∀ b o, ¬ b = s₁.heap.objs.size → s.heap.get? b = some o → h'.get? b = some o := fun b o nb e => (hs'.2 b nb).trans e
      have S₂ : St W env m X' O' ρ h' := S'.keepF (Z := fun b => b = s₁.heap.objs.size) kz fun b z => ⟨(hZ b z).1, (hZ b z).2, hF b (.inl z), fun o e => by
        obtain ⟨o', e', _, hd'⟩ := ti
        rw [z, e'] at e; cases e; exact ⟨_, hd'⟩⟩
      have rv' := rep_at (Z := fun b => b = s₁.heap.objs.size) rv kp hun (fun b z => z ▸ fresh_size) kz
      show wpAny _ _ (pure ()) _ _ _
      refine wpAny_pure (wpAny_assign_Name (wpAny_storeName_local hx S₂.ns (fun h'' hn hs => ?_) hfn))
      refine cont h'' _ _ (fun b o n1 n2 e => (hs.2 b n1).trans (kz b o n2 e)) ⟨?_, ?_⟩ (S₂.store hx hn hs (.val rv'))
      · exact hit'.extBut hs.extBut fun q => hF _ (.inl rfl) (q ▸ S'.loc)
      · exact (tl.extBut hs'.extBut hax).extBut hs.extBut fun q => hF _ (.inr rfl) (q ▸ S'.loc)
    · rintro s Ψ ⟨ti, tl⟩ cont
      refine wpAny_pyNext_list_end rm.handled ti tl (by simp [r.length]) fun h' he' => cont h' _ fun b o nb e => he' b o nb e
    · rintro s Q ⟨ti, tl⟩ q
      exact wpAny_pyIter_listiter ti q
  · rintro b (rfl | rfl) q
    · exact S₁.fresh fresh_size (.inr q)
    · exact nn (.inr q)

theorem it_pairs {x y : Str} {px py pt : Pos} {kk : Nat} {iter : Expr} {ps : List (D × D)} (hv : EvS W n sc ρ iter (.lst (ps.map fun p => .tup [p.1, p.2]))) (hs : notSet iter = true) : ItS W n sc ρ (.Tuple [.Name x px, .Name y py] kk pt) iter (ps.map fun p => [(y, Slot.val p.2), (x, Slot.val p.1)]) := by
  refine ⟨folded_of hs, fun A env m X O s rm en S => ?_⟩
  refine wpAny_mono (hv A env m X O s rm en S) (fun xv s₁ ⟨k, q⟩ => ?_) fun _ _ x => x
  cases q with
  | @lst ax vs _ nn t l r =>
  have S₁ := S.keep k.get
  refine wpAny_pyIter_list t ?_
  have hax : ax ≠ s₁.heap.objs.size := by obtain ⟨o, e, _⟩ := t; exact ne_size e
  refine ⟨_, s₁, fun b => b = s₁.heap.objs.size ∨ b = ax, fun b => b = s₁.heap.objs.size, fun i h => h.IsListIter s₁.heap.objs.size ax i ∧ h.IsList ax vs.toArray, rfl, k, .push, ?_, ⟨⟨_, Heap.get?_push_size _ rfl, rfl, rfl⟩, t.push _⟩, ?_, by have := r.length; simp only [List.length_map] at this ⊢; omega⟩
  · refine ⟨fun b q => .inl q, fun b q => q ▸ fresh_size, ?_, ?_, ?_, ?_, ?_, ?_⟩
    · rintro i h ⟨⟨o, e, _⟩, ⟨o', e', _⟩⟩ b (rfl | rfl)
      · exact ⟨o, e⟩
      · exact ⟨o', e'⟩
    · rintro i h ⟨⟨o, e, _, hd⟩, _⟩ b rfl o' e'
      rw [e] at e'; cases e'; exact ⟨_, hd⟩
    · rintro i h h' ⟨a, b⟩ kk
      exact ⟨a.at fun o e => kk _ o (.inl rfl) e, b.at fun o e => kk _ o (.inr rfl) e⟩
    · intro i bs s env m X' O' ρ Ψ hb ⟨ti, tl⟩ kp hun hF hZ ht hfn S' cont
      obtain ⟨p, hp, rfl⟩ : ∃ p, ps[i]? = some p ∧ [(y, Slot.val p.2), (x, Slot.val p.1)] = bs := by simpa only [List.getElem?_map, Option.map_eq_some_iff] using hb
      obtain ⟨v, hv, rv⟩ := r.get i (.tup [p.1, p.2]) (by rw [List.getElem?_map, hp]; rfl)
      have hx : env.kindOf x = some .local := ht x (.head _)
      have hy : env.kindOf y = some .local := ht y (.tail _ (.head _))
      refine wpAny_pyNext_list_item ti tl (by simpa using hv) fun h' hit' hs' => ?_
      have kz : ∀ b o, ¬ b = s₁.heap.objs.size → s.heap.get? b = some o → h'.get? b = some o := fun b o nb e => (hs'.2 b nb).trans e
      have S₂ : St W env m X' O' ρ h' := S'.keepF (Z := fun b => b = s₁.heap.objs.size) kz fun b z => ⟨(hZ b z).1, (hZ b z).2, hF b (.inl z), fun o e => by
        obtain ⟨o', e', _, hd'⟩ := ti
        rw [z, e'] at e; cases e; exact ⟨_, hd'⟩⟩
      have rv' := rep_at (Z := fun b => b = s₁.heap.objs.size) rv kp hun (fun b z => z ▸ fresh_size) kz
      cases rv' with
      | @tup t vs' _ nt ht' lt' rr =>
        cases rr with
        | @cons v1 _ _ _ r1 rr =>
        cases rr with
        | @cons v2 _ _ _ r2 rr =>
        cases rr
        dsimp only
        obtain ⟨oi, ei, ci, di⟩ := id hit'
        unfold letOwnedTupleGo
        refine wpAny_bind (wpAny_load (s := { s with heap := h' }) ei ?_)
        obtain ⟨c, dct, dt, sl⟩ := oi
        simp only at ci di
        subst ci di
        dsimp only
        rw [if_neg (by simp)]
        refine wpAny_pure ?_
        refine assign_pair rm.handled S₂ hx hy hfn ht' r1 r2 fun h'' tk m' kk S₃ => ?_
        refine cont h'' _ _ (fun b o n1 n2 e => kk b o n1 (kz b o n2 e)) ⟨?_, ?_⟩ S₃
        · exact hit'.at fun o e => kk _ o (fun q => hF _ (.inl rfl) (q ▸ S'.loc)) e
        · exact (tl.extBut hs'.extBut hax).at fun o e => kk _ o (fun q => hF _ (.inr rfl) (q ▸ S'.loc)) e
    · rintro s Ψ ⟨ti, tl⟩ cont
      refine wpAny_pyNext_list_end rm.handled ti tl (by have := r.length; simp only [List.length_map] at this ⊢; simp [this]) fun h' he' => cont h' _ fun b o nb e => he' b o nb e
    · rintro s Q ⟨ti, tl⟩ q
      exact wpAny_pyIter_listiter ti q
  · rintro b (rfl | rfl) q
    · exact S₁.fresh fresh_size (.inr q)
    · exact nn (.inr q)

theorem it_enum {f x y : Str} {pf pos px py pt : Pos} {kk : Nat} {e : Expr} {ds : List D} (ok : W.OK) (hb : TyAt W f "enumerate") (hv : EvS W n sc ρ e (.lst ds)) (hx0 : sc.names.lookup f = some .globalImplicit) (hs : notStar e = true) (hd : (f == ("__debug__" : Str)) = false) :
    ItS W n sc ρ (.Tuple [.Name x px, .Name y py] kk pt) (.Call (.Name f pf) [e] [] pos) (ds.zipIdx.map fun p => [(y, Slot.val p.1), (x, Slot.val (.int (p.2 : Int)))]) := by
  refine ⟨fun _ _ => rfl, fun A env m X O s rm en S => ?_⟩
  refine wpAny_Call_NameR (wp_globalName ok en hx0 S.base (.inr hb) ?_ hd)
  refine PyProof.Rows.callWith_type1 (wpAny_mono (ar_cons hv ar_nil hs A env m X O s pos rm en S) (fun xvs s₁ ⟨k, q⟩ => ?_) fun _ _ x => x) (starEach_of hs) rfl
  cases q with
  | cons q q' =>
  cases q'
  cases q with
  | @lst l vs _ nn t lz r =>
  have S₁ := S.keep k.get
  have hl : l ≠ s₁.heap.objs.size := by obtain ⟨o, e, _⟩ := t; exact ne_size e
  have hl1 : l ≠ s₁.heap.objs.size + 1 := by obtain ⟨o, e, _⟩ := t; have := Heap.lt_size e; exact Nat.ne_of_lt (Nat.lt_succ_of_lt this)
  refine call_enumerate_list t fun h₁ he hit hz kg => ?_
  refine wpAny_pyIter_enum he ?_
  have S₂ := S₁.keep kg
  generalize hI : s₁.heap.objs.size = it at *
  have fr : ∀ b, (b = it + 1 ∨ b = it) → s₁.heap.get? b = none := by
    rintro b (rfl | rfl)
    · exact Heap.get?_none_of_le (by omega)
    · exact Heap.get?_none_of_le (by omega)
  refine ⟨_, s₁, fun b => (b = it + 1 ∨ b = it) ∨ b = l, fun b => b = it + 1 ∨ b = it, fun i h => ∃ old, IsEnum h (it + 1) it (i : Int) old ∧ h.IsListIter it l i ∧ h.IsList l vs.toArray, rfl, k, ⟨⟨h₁, s₁.toks, rfl⟩, kg⟩, ?_, ⟨_, he, hit, t.at fun o e => kg _ o e⟩, ?_, by have := r.length; simp only [List.length_map, List.length_zipIdx] at this ⊢; omega⟩
  · refine ⟨fun b q => .inl q, fr, ?_, ?_, ?_, ?_, ?_, ?_⟩
    · rintro i h ⟨old, e1, ⟨o, e2, _⟩, ⟨o', e', _⟩⟩ b ((rfl | rfl) | rfl)
      · exact ⟨_, e1⟩
      · exact ⟨o, e2⟩
      · exact ⟨o', e'⟩
    · rintro i h ⟨old, e1, ⟨o, e2, _, hd⟩, _⟩ b (rfl | rfl) o' e'
      · rw [e1] at e'; cases e'; exact ⟨_, rfl⟩
      · rw [e2] at e'; cases e'; exact ⟨_, hd⟩
    · rintro i h h' ⟨old, e1, a, b⟩ kk
      exact ⟨old, kk _ _ (.inl (.inl rfl)) e1, a.at fun o e => kk _ o (.inl (.inr rfl)) e, b.at fun o e => kk _ o (.inr rfl) e⟩
    · rintro i bs s env m X' O' ρ Ψ hb ⟨old, te, ti, tl⟩ kp hun hF hZ ht hfn S' cont
      obtain ⟨d, hdd, rfl⟩ : ∃ d, ds[i]? = some d ∧ [(y, Slot.val d), (x, Slot.val (.int (i : Int)))] = bs := by
        simp only [List.getElem?_map, List.getElem?_zipIdx, Option.map_map, Option.map_eq_some_iff, Nat.zero_add] at hb
        obtain ⟨d, a, b⟩ := hb
        exact ⟨d, a, b⟩
      obtain ⟨v, hv, rv⟩ := r.get i d hdd
      have hx : env.kindOf x = some .local := ht x (.head _)
      have hy : env.kindOf y = some .local := ht y (.tail _ (.head _))
      refine wpAny_pyNext_enum_item te ti tl (by simpa using hv) (Nat.succ_ne_self _) fun h₂ heo hit₂ ht₂ hz₂ hk₂ => ?_
      have hne : it + 1 ≠ s.heap.objs.size := ne_size te
      refine wpAny_letOwnedTupleGo_enum heo fun h₃ he₃ hs₃ => ?_
      have hs₃ : Heap.SameBut (it + 1) h₂ h₃ := hs₃
      have kz : ∀ b o, ¬ (b = it + 1 ∨ b = it) → s.heap.get? b = some o → h₃.get? b = some o := fun b o nb e => (hs₃.2 b (fun q => nb (.inl q))).trans (hk₂ b o (fun q => nb (.inl q)) (fun q => nb (.inr q)) e)
      have S₂ : St W env m X' O' ρ h₃ := S'.keepF (Z := fun b => b = it + 1 ∨ b = it) kz fun b z => ⟨(hZ b z).1, (hZ b z).2, hF b (.inl z), fun o e => by
        obtain ⟨o', e', _, hd'⟩ := ti
        rcases z with rfl | rfl
        · rw [te] at e; cases e; exact ⟨_, rfl⟩
        · rw [e'] at e; cases e; exact ⟨_, hd'⟩⟩
      have rv' := rep_at (Z := fun b => b = it + 1 ∨ b = it) rv kp hun fr kz
      have ht₃ : h₃.IsTuple s.heap.objs.size #[.int i s.toks, v] := ⟨_, (hs₃.2 _ hne.symm).trans ht₂, rfl, _, rfl⟩
      refine assign_pair (s := { s with heap := h₃, toks := s.toks + 1 }) rm.handled S₂ hx hy hfn ht₃ (.int _ _) rv' fun h₄ tk m' kk S₃ => ?_
      have nL : ∀ b, ((b = it + 1 ∨ b = it) ∨ b = l) → b ≠ env.locals := fun b z q => hF b z (q ▸ S'.loc)
      refine cont h₄ _ _ (fun b o n1 n2 e => kk b o n1 (kz b o n2 e)) ⟨v, ?_, ?_, ?_⟩ S₃
      · have := kk _ _ (nL _ (.inl (.inl rfl))) he₃
        simpa using this
      · exact (hit₂.extBut hs₃.extBut (Nat.ne_of_lt (Nat.lt_succ_self _))).at fun o e => kk _ o (nL _ (.inl (.inr rfl))) e
      · exact (tl.at fun o e => kz _ o (fun z => z.elim hl1 hl) e).at fun o e => kk _ o (nL _ (.inr rfl)) e
    · rintro s Ψ ⟨old, te, ti, tl⟩ cont
      refine wpAny_pyNext_enum_end rm.handled te ti tl (by have := r.length; simp [this]) fun h' he' => cont h' _ fun b o nb e => he' b o (fun q => nb (.inr q)) e
    · rintro s Q ⟨old, te, ti, tl⟩ q
      exact wpAny_pyIter_enum te q
  · rintro b (z | rfl) q
    · exact S₁.fresh (fr b z) (.inr q)
    · exact nn (.inr q)

/-- an iteration over a range object that stands -/
theorem it_rangeAt {A : Around} {x : Str} {px : Pos} {s₁ : Shared} {rr : Addr} {a b : Int} {t u v : Tok} {N₀ : Addr → Prop} {O : Addr → Prop} {s : Shared} (hh : A.handled = none) (k : Ks s s₁) (hr : IsRange s₁.heap rr a b 1 t u v) (ha : -(2 ^ 62) ≤ a ∧ a < 2 ^ 62) (hb : -(2 ^ 62) ≤ b ∧ b < 2 ^ 62) (hz : (b - a).toNat ≤ sizeLine) (hO : ∀ b, O b → ∃ o, s₁.heap.get? b = some o) :
    wpAny (model W.prog W.w) A (pyIter (.ref rr)) (fun it s₂ => ∃ I s₀ F Z T, it = Value.ref I ∧ Ks s s₀ ∧ Ks s₀ s₂ ∧ Itr W A (.Name x px) it N₀ s₀ ((List.range (b - a).toNat).map fun (i : Nat) => [(x, Slot.val (.int (a + i)))]) F Z T ∧ T 0 s₂.heap ∧ (∀ b, F b → ¬ O b) ∧ ((List.range (b - a).toNat).map fun (i : Nat) => [(x, Slot.val (.int (a + i)))]).length ≤ sizeLine) NoE s₁ := by
  refine wpAny_pyIter_range hr (small_one ha.1 ha.2 hb.1 hb.2) ?_
  have hsz : Builtin.Range.rangeSize a b 1 = ((b - a).toNat : Int) := by rw [rangeSize_one]; split <;> omega
  refine ⟨_, s₁, fun b => b = s₁.heap.objs.size, fun b => b = s₁.heap.objs.size, fun i h => IsRangeIter h s₁.heap.objs.size (a + (i : Nat) * 1) (((b - a).toNat : Int) - (i : Nat)) 1, rfl, k, .push, ?_, ?_, ?_, by simpa using hz⟩
  · have Wk := Walks.range (prog := W.prog) (w := W.w) hh s₁.heap.objs.size a 1 (b - a).toNat
    refine ⟨fun b q => q, fun b q => q ▸ fresh_size, ?_, ?_, ?_, ?_, ?_, ?_⟩
    · rintro i h e b rfl; exact ⟨_, e⟩
    · rintro i h e b rfl o e'
      have e : h.get? s₁.heap.objs.size = _ := e
      rw [e] at e'; cases e'; exact ⟨_, rfl⟩
    · intro i h h' e kk; exact kk _ _ rfl e
    · intro i bs s env m X' O' ρ Ψ hb ti kp hun hF hZ ht hfn S' cont
      obtain ⟨hi, rfl⟩ : i < (b - a).toNat ∧ [(x, Slot.val (D.int (a + (i : Int))))] = bs := by
        simp only [List.getElem?_map, Option.map_eq_some_iff] at hb
        obtain ⟨j, hj, e⟩ := hb
        obtain ⟨hlt, hj⟩ := List.getElem?_eq_some_iff.mp hj
        simp only [List.length_range] at hlt
        simp only [List.getElem_range] at hj
        subst hj
        exact ⟨hlt, e⟩
      have hx : env.kindOf x = some .local := ht x (.head _)
      refine Wk.item i s _ _ hi ti fun v h' tk ⟨tv, ev⟩ ti' kk => ?_
      subst ev
      have kz : ∀ b o, ¬ b = s₁.heap.objs.size → s.heap.get? b = some o → h'.get? b = some o := fun b o nb e => kk b o (by simpa using nb) e
      have S₂ : St W env m X' O' ρ h' := S'.keepF (Z := fun b => b = s₁.heap.objs.size) kz fun b z => ⟨(hZ b z).1, (hZ b z).2, hF b z, fun o e => by
        have ti : s.heap.get? s₁.heap.objs.size = _ := ti
        rw [z, ti] at e; cases e; exact ⟨_, rfl⟩⟩
      show wpAny _ _ (pure ()) _ _ _
      refine wpAny_pure (wpAny_assign_Name (wpAny_storeName_local hx S₂.ns (fun h'' hn hs => ?_) hfn))
      have S₃ := S₂.store hx hn hs (.val (.int (a + (i : Int) * 1) tv))
      rw [Int.mul_one] at S₃
      exact cont h'' _ _ (fun b o n1 n2 e => (hs.2 b n1).trans (kz b o n2 e)) ((hs.2 s₁.heap.objs.size (fun q => hF _ rfl (by rw [q]; exact S'.loc))).trans ti') S₃
    · intro s Ψ ti cont
      have ti : IsRangeIter s.heap s₁.heap.objs.size (a + ((List.map (fun (i : Nat) => [(x, Slot.val (D.int (a + i)))]) (List.range (b - a).toNat)).length : Nat) * 1) (((b - a).toNat : Int) - ((List.map (fun (i : Nat) => [(x, Slot.val (D.int (a + i)))]) (List.range (b - a).toNat)).length : Nat)) 1 := ti
      simp only [List.length_map, List.length_range] at ti
      exact Wk.done s _ _ ti fun h' tk kk => cont h' tk fun b o nb e => kk b o (by simpa using nb) e
    · intro s Q ti q
      exact wpAny_pyIter_rangeiter ti q
  · show IsRangeIter _ _ _ _ _
    rw [hsz]
    simpa using Heap.get?_push_size s₁.heap (o := { cls := .type "range_iterator", data := .fields #[rawInt a, rawInt ((b - a).toNat : Int), rawInt 1] }) rfl
  · rintro b rfl q
    obtain ⟨o, e⟩ := hO _ q
    exact ne_size e rfl

theorem it_range1 {f x : Str} {pf pos px : Pos} {e : Expr} {k : Int} (ok : W.OK) (hb : TyAt W f "range") (hv : EvS W n sc ρ e (.int k)) (hx0 : sc.names.lookup f = some .globalImplicit) (hs : notStar e = true) (hd : (f == ("__debug__" : Str)) = false) (hk : -(2 ^ 24) ≤ k ∧ k ≤ 2 ^ 24) :
    ItS W n sc ρ (.Name x px) (.Call (.Name f pf) [e] [] pos) ((List.range k.toNat).map fun (i : Nat) => [(x, Slot.val (.int (i : Int)))]) := by
  refine ⟨fun _ _ => rfl, fun A env m X O s rm en S => ?_⟩
  refine wpAny_Call_NameR (wp_globalName ok en hx0 S.base (.inr hb) ?_ hd)
  refine PyProof.Rows.callWith_type1 (wpAny_mono (ar_cons hv ar_nil hs A env m X O s pos rm en S) (fun xvs s₁ ⟨k₁, q⟩ => ?_) fun _ _ x => x) (starEach_of hs) rfl
  cases q with
  | cons q q' =>
  cases q'
  cases q
  have S₁ := S.keep k₁.get
  refine call_range_1 ?_
  rename_i t1 _
  have hO : ∀ b, O b → ∃ o, (s₁.heap.push { cls := .type "range", data := .fields #[.int 0 s₁.toks, .int k t1, .int 1 (s₁.toks + 1)] }).get? b = some o := fun b q => by
    obtain ⟨_, o, e⟩ := S₁.os b q
    exact ⟨o, Heap.get?_push_of_some _ e⟩
  have := it_rangeAt (W := W) (x := x) (px := px) (N₀ := un X O) (O := O) (s₁ := { s₁ with heap := s₁.heap.push { cls := .type "range", data := .fields #[.int 0 s₁.toks, .int k t1, .int 1 (s₁.toks + 1)] }, toks := s₁.toks + 1 + 1 }) rm.handled
    (k₁.trans' ⟨⟨_, _, rfl⟩, fun _ _ e => Heap.get?_push_of_some _ e⟩) (IsRange.new _ _ _ _ _ _ _) (by omega) (by omega) (by have : sizeLine = 2 ^ 24 := rfl; omega) hO
  simpa using this
theorem it_range2 {f x : Str} {pf pos px : Pos} {e e2 : Expr} {j k : Int} (ok : W.OK) (hb : TyAt W f "range") (hv : EvS W n sc ρ e (.int j)) (hv2 : EvS W n sc ρ e2 (.int k)) (hx0 : sc.names.lookup f = some .globalImplicit) (hs : notStar e = true) (hs2 : notStar e2 = true) (hd : (f == ("__debug__" : Str)) = false)
    (hj : 0 ≤ j ∧ j ≤ 2 ^ 24) (hk : -(2 ^ 24) ≤ k ∧ k ≤ 2 ^ 24) :
    ItS W n sc ρ (.Name x px) (.Call (.Name f pf) [e, e2] [] pos) ((List.range (k - j).toNat).map fun (i : Nat) => [(x, Slot.val (.int (j + (i : Int))))]) := by
  refine ⟨fun _ _ => rfl, fun A env m X O s rm en S => ?_⟩
  refine wpAny_Call_NameR (wp_globalName ok en hx0 S.base (.inr hb) ?_ hd)
  refine PyProof.Rows.callWith_type1 (wpAny_mono (ar_cons hv (ar_cons hv2 ar_nil hs2) hs A env m X O s pos rm en S) (fun xvs s₁ ⟨k₁, q⟩ => ?_) fun _ _ x => x) (starEach_of hs) (by rw [starEach_of hs2]; rfl)
  cases q with
  | cons q q' =>
  cases q' with
  | cons q2 q' =>
  cases q'
  cases q
  cases q2
  have S₁ := S.keep k₁.get
  refine call_range_2 ?_
  rename_i t1 t2 _
  have hO : ∀ b, O b → ∃ o, (s₁.heap.push { cls := .type "range", data := .fields #[.int j t1, .int k t2, .int 1 s₁.toks] }).get? b = some o := fun b q => by
    obtain ⟨_, o, e⟩ := S₁.os b q
    exact ⟨o, Heap.get?_push_of_some _ e⟩
  exact it_rangeAt (W := W) (x := x) (px := px) (N₀ := un X O) (O := O) (s₁ := { s₁ with heap := s₁.heap.push { cls := .type "range", data := .fields #[.int j t1, .int k t2, .int 1 s₁.toks] }, toks := s₁.toks + 1 }) rm.handled
    (k₁.trans' ⟨⟨_, _, rfl⟩, fun _ _ e => Heap.get?_push_of_some _ e⟩) (IsRange.new _ _ _ _ _ _ _) (by omega) (by omega) (by have : sizeLine = 2 ^ 24 := rfl; omega) hO
end
end Mine

namespace Mine

/-! comprehensions -/
def clOf : List (Str × NameKind) → List (Str × Addr) → List (Str × Addr) → List (Str × Addr)
  | [], _, acc => acc
  | (n, k) :: r, cells, acc => if k == .free then (match cells.lookup n with
      | some a => clOf r cells ((n, a) :: acc)
      | none => clOf r cells acc) else clOf r cells acc
theorem closure_loop {env : Env} (f : Str × NameKind → List (Str × Addr) → Sem (ForInStep (List (Str × Addr))))
    (hf : ∀ name kind cs, f (name, kind) cs = if kind == .free then (do let a ← cellOf env name; pure (.yield ((name, a) :: cs))) else pure (.yield cs)) :
    ∀ (names : List (Str × NameKind)) (acc : List (Str × Addr)), (∀ x ∈ names, x.2 = .free → (env.cells.lookup x.1).isSome = true) → forIn names acc f = pure (clOf names env.cells acc)
  | [], acc, _ => by rw [List.forIn_nil]; rfl
  | (n, k) :: r, acc, h => by
    rw [List.forIn_cons, hf]
    unfold clOf
    by_cases hk : (k == NameKind.free) = true
    · rw [if_pos hk, if_pos hk]
      obtain ⟨a, ha⟩ := Option.isSome_iff_exists.mp (h _ (.head _) (by simpa using hk))
      simp only at ha
      unfold cellOf
      rw [ha]
      exact closure_loop f hf r _ fun x hx => h x (.tail _ hx)
    · rw [if_neg hk, if_neg hk]
      exact closure_loop f hf r _ fun x hx => h x (.tail _ hx)
theorem closureFor_eq {scope : Scope} {env : Env} (h : ∀ x ∈ scope.names, x.2 = .free → (env.cells.lookup x.1).isSome = true) : closureFor scope env = pure (clOf scope.names env.cells []) := by
  unfold closureFor
  have := closure_loop (env := env) (fun x cs => do
    let (name, kind) := x
    if kind == .free then do
      let a ← cellOf env name
      pure (.yield ((name, a) :: cs))
    else pure (.yield cs)) (fun _ _ _ => rfl) scope.names [] h
  simp only at this
  exact congrArg (fun t => t >>= fun cs => pure cs) this
theorem clOf_lookup {cells : List (Str × Addr)} {y : Str} {c : Addr} (hc : cells.lookup y = some c) : ∀ (names : List (Str × NameKind)) (acc : List (Str × Addr)), (∀ c', acc.lookup y = some c' → c' = c) →
    ((y, NameKind.free) ∈ names ∨ acc.lookup y = some c) → (clOf names cells acc).lookup y = some c
  | [], acc, _, h => h.elim (fun x => nomatch x) id
  | (n, k) :: r, acc, ha, h => by
    unfold clOf
    by_cases hk : (k == NameKind.free) = true
    · rw [if_pos hk]
      by_cases hn : y = n
      · subst hn
        rw [hc]
        exact clOf_lookup hc r _ (fun c' e => by rw [List.lookup_cons, beq_self_eq_true] at e; exact (Option.some.inj e).symm) (.inr (by rw [List.lookup_cons, beq_self_eq_true]))
      · have hb : (y == n) = false := by simpa using hn
        have h' : (y, NameKind.free) ∈ r ∨ acc.lookup y = some c := h.imp (fun q => (List.mem_cons.mp q).elim (fun e => absurd (Prod.mk.inj e).1 hn) id) id
        split
        · exact clOf_lookup hc r _ (fun c' e => ha c' (by rw [List.lookup_cons, hb] at e; exact e)) (h'.imp id fun e => by rw [List.lookup_cons, hb]; exact e)
        · exact clOf_lookup hc r _ ha h'
    · rw [if_neg hk]
      refine clOf_lookup hc r _ ha (h.imp (fun q => (List.mem_cons.mp q).elim (fun e => ?_) id) id)
      exact absurd (by rw [← (Prod.mk.inj e).2]; rfl) hk

def relS (scope sc : Scope) : Scope := { scope with names := scope.names.map fun (n, k) => if (k == .free && sc.kind == .function && sc.names.lookup n == some .cell) then (n, .cell) else (n, k) }
theorem relabel_eq {scope sc : Scope} {env : Env} (en : EnvOK sc env) : relabel scope env = relS scope sc := by
  unfold relabel relS Env.kindOf; rw [en.scope]
theorem relS_free {scope sc : Scope} {y : Str} (hk : sc.kind = .function) (hc : sc.names.lookup y = some .cell) (h : scope.names.lookup y = some .free) : (relS scope sc).names.lookup y = some .cell := by
  unfold relS
  generalize scope.names = l at h
  show List.lookup y (l.map _) = _
  induction l with
  | nil => cases h
  | cons p r ih =>
    obtain ⟨n, k⟩ := p
    rw [List.lookup_cons] at h
    by_cases hn : y = n
    · subst hn
      simp only [beq_self_eq_true] at h
      cases h
      simp [hk, hc]
    · have hb : (y == n) = false := by simpa using hn
      rw [hb] at h
      rw [List.map_cons]
      dsimp only
      split <;> (rw [List.lookup_cons, hb]; exact ih h)
theorem relS_local {scope sc : Scope} {y : Str} (h : scope.names.lookup y = some .local) : (relS scope sc).names.lookup y = some .local := by
  unfold relS
  generalize scope.names = l at h
  show List.lookup y (l.map _) = _
  induction l with
  | nil => cases h
  | cons p r ih =>
    obtain ⟨n, k⟩ := p
    rw [List.lookup_cons] at h
    by_cases hn : y = n
    · subst hn
      simp only [beq_self_eq_true] at h
      cases h
      simp
    · have hb : (y == n) = false := by simpa using hn
      rw [hb] at h
      rw [List.map_cons]
      dsimp only
      split <;> (rw [List.lookup_cons, hb]; exact ih h)

def NoSeq (h : Heap) (b : Addr) : Prop := ∀ o its c, h.get? b = some o → o.data ≠ .seq its c
theorem rep_keepZ {N P : Addr → Prop} {h h' : Heap} (k : ∀ b o, ¬ P b → h.get? b = some o → h'.get? b = some o) (hp : ∀ b, P b → N b ∨ NoSeq h b) : (∀ {v d}, Rep N h v d → Rep N h' v d) ∧ (∀ {vs ds}, Reps N h vs ds → Reps N h' vs ds) := by
  have np : ∀ b o its c, ¬ N b → h.get? b = some o → o.data = .seq its c → ¬ P b := fun b o its c nb e hd z => (hp b z).elim nb fun q => q o its c e hd
  have tup : ∀ {a its}, ¬ N a → IsTup h a its → IsTup h' a its := fun {a its} nb ⟨o, e, c, n, hd⟩ => ⟨o, k a o (np a o _ _ nb e hd) e, c, n, hd⟩
  have lst : ∀ {a its}, ¬ N a → h.IsList a its → h'.IsList a its := fun {a its} nb ⟨o, e, c, n, hd⟩ => ⟨o, k a o (np a o _ _ nb e hd) e, c, n, hd⟩
  have kk : ∀ v d, Rep N h v d → Rep N h' v d := fun v d r => Rep.rec (motive_1 := fun v d _ => Rep N h' v d) (motive_2 := fun vs ds _ => Reps N h' vs ds)
    .none .bool .int (fun n t l _ q => .tup n (tup n t) l q) (fun n t l _ q => .lst n (lst n t) l q) .nil (fun _ _ q r => .cons q r) r
  have kks : ∀ vs ds, Reps N h vs ds → Reps N h' vs ds := fun vs ds r => Reps.rec (motive_1 := fun v d _ => Rep N h' v d) (motive_2 := fun vs ds _ => Reps N h' vs ds)
    .none .bool .int (fun n t l _ q => .tup n (tup n t) l q) (fun n t l _ q => .lst n (lst n t) l q) .nil (fun _ _ q r => .cons q r) r
  exact ⟨fun r => kk _ _ r, fun r => kks _ _ r⟩

/-- an own list that no name tells is changed -/
theorem St.touch {W : Wd} {env : Env} {m : Str → Option Value} {X O : Addr → Prop} {ρ : Sto} {h h' : Heap} {a : Addr} {its its' : Array Value} (S : St W env m X O ρ h) (ho : ∀ y ds, ρ.lookup y ≠ some (.own ds)) (ha : O a) (hp : PlainL h a its) (hp' : PlainL h' a its') (hs : Heap.SameBut a h h') : St W env m X O ρ h' := by
  have ne : ∀ b o, ¬ O b → h.get? b = some o → h'.get? b = some o := fun b o nb e => (hs.2 b (fun q => nb (q ▸ ha))).trans e
  have kp : Kp (un X O) h h' := fun b o nb e => ne b o (fun q => nb (.inr q)) e
  have hL : a ≠ env.locals := by
    rintro rfl
    obtain ⟨o, c, e, _, _, hd⟩ := hp
    obtain ⟨o', es, ep, e', hd', _⟩ := S.ns
    rw [e] at e'; cases e'; rw [hd] at hd'; cases hd'
  refine ⟨S.ns.sameBut hs (Ne.symm hL), S.loc, fun b o e => ?_, fun b q => ?_, fun b q => ?_, fun y sl e => ?_⟩
  · exact (hs.2 b (fun q => by have := (S.os _ ha).1; rw [← q, e] at this; cases this)).trans (S.base b o e)
  · obtain ⟨p, q, o, r⟩ := S.xs b q
    exact ⟨p, q, o, ne b o q r⟩
  · obtain ⟨p, o, r⟩ := S.os b q
    by_cases hq : b = a
    · obtain ⟨o', c, e', _⟩ := hp'
      exact ⟨p, o', hq ▸ e'⟩
    · exact ⟨p, o, (hs.2 b hq).trans r⟩
  · obtain ⟨w, r', q⟩ := S.vars y sl e
    refine ⟨w, ?_, ?_⟩
    · rcases r' with r | ⟨a, b, c, d, e, f⟩
      · exact .inl r
      · exact .inr ⟨a, b, c, d, e, IsCell.kp (N := O) f e ne⟩
    · cases q with
      | val q => exact .val (q.kp kp fun _ a _ => a)
      | own => exact absurd e (ho _ _)

structure FreeOK (scope sc : Scope) (ρ ρf : Sto) : Prop where
  free : ∀ y sl, ρf.lookup y = some sl → ∃ d, sl = .val d ∧ ρ.lookup y = some (.val d) ∧ scope.names.lookup y = some .free ∧ sc.names.lookup y = some .cell ∧ (y == ("__classdict__" : Str)) = false
  all : ∀ x ∈ scope.names, x.2 = .free → ∃ sl, ρf.lookup x.1 = some sl

section
variable {W : Wd} {n : Nat} {sc : Scope} {ρ : Sto}

theorem comp_core {elt target iter : Expr} {scope : Scope} {pos : Pos} {its : List Sto} {outs : List D} {ρf : Sto} (hi : ItS W n sc ρ target iter its) (hf : FreeOK scope sc ρ ρf) (hcell : ∀ y ∈ scope.names, y.2 ≠ .cell) (hkind : scope.kind = .function)
    (ht : ∀ x ∈ tnames target, scope.names.lookup x = some .local) (hlen : outs.length = its.length) (hdis : ∀ bs ∈ its, ∀ p ∈ ρf, bs.lookup p.1 = none)
    (helt : ∀ (i : Nat) (bs : Sto) (d : D), its[i]? = some bs → outs[i]? = some d → EvS W n (relS scope sc) (bs ++ ρf) elt d)
    {A : Around} {env : Env} {m : Str → Option Value} {X O : Addr → Prop} {s : Shared} (rm : Room n A) (en : EnvOK sc env) (S : St W env m X O ρ s.heap) {RR : Value → Addr → Result → Shared → Prop}
    (hRR : ∀ D C s' m' ws, Ks s s' → s'.heap.Ns C m' → s'.heap.IsList D (List.toArray ws) → ws.length ≤ sizeLine → Reps (un X O) s'.heap ws outs → s.heap.get? D = none → s.heap.get? C = none → D ≠ C → RR (.ref D) C (.ok .next) s') :
    wpAny (model W.prog W.w) A (eval iter env) (fun xv s₁ => wpAny (model W.prog W.w) A (pyIter xv) (fun it s₂ => wpAny (model W.prog W.w) A (newList []) (fun acc s₃ =>
      wpAny (model W.prog W.w) A (newFunctionEnv scope env.globals (clOf scope.names env.cells []) [] env.qual none .none (some env)) (fun cenv s₄ =>
        codeAny (model W.prog W.w) A (.compStart (.ListComp elt [⟨target, iter, [], 0⟩] scope pos) 0 it acc { cenv with scope := relabel scope env }) (RR acc cenv.locals) s₄) NoE s₃) NoE s₂) NoE s₁) NoE s := by
  refine wpAny_mono (hi.run A env m X O s rm en S) (fun xv s₁ q => wpAny_mono q (fun it s₂ ⟨I, s₀, F, Z, T, hI, k₀, k₂, R, t0, hF, hsz⟩ => ?_) fun _ _ x => x) fun _ _ x => x
  have k02 := k₀.trans' k₂
  have S₀ := S.keep k₀.get
  have S₂ := S.keep k02.get
  refine wpAny_newObj_type (wpAny_newFunctionEnv hcell (by intro y hy; simp at hy) (fun h₁ hns₁ hsb₁ => ?_) hkind)
  dsimp only at hns₁ hsb₁ ⊢
  generalize hH2 : s₂.heap.push { cls := .type "list", dict := none, data := .seq ([] : List Value).toArray } = H2 at hns₁ hsb₁ ⊢
  have hC : H2.objs.size = s₂.heap.objs.size + 1 := by rw [← hH2, Heap.size_push]
  generalize hDD : s₂.heap.objs.size = D at hC
  generalize hCC : H2.objs.size = C at hC hns₁ hsb₁
  have hDC : D ≠ C := by rw [hC]; exact Nat.ne_of_lt (Nat.lt_succ_self _)
  have low : ∀ b o, s₂.heap.get? b = some o → b ≠ C ∧ b ≠ D := fun b o e => by
    have := Heap.lt_size e
    rw [hDD] at this
    exact ⟨by rw [hC]; exact Nat.ne_of_lt (Nat.lt_succ_of_lt this), Nat.ne_of_lt this⟩
  have old : ∀ b o, s₂.heap.get? b = some o → h₁.get? b = some o := fun b o e => hsb₁.extBut b o (low b o e).1 (Heap.get?_push_of_some _ (hH2 ▸ Heap.get?_push_of_some _ e))
  have hacc : PlainL h₁ D #[] := ⟨_, _, hsb₁.extBut _ _ hDC (Heap.get?_push_of_some _ (by rw [← hH2, ← hDD]; exact Heap.get?_push_size _ rfl)), rfl, rfl, rfl⟩
  have noneOf : ∀ {h : Heap}, (∀ b o, h.get? b = some o → s₂.heap.get? b = some o) → h.get? C = none ∧ h.get? D = none := fun {h} k => by
    constructor
    · cases e : h.get? C with
      | none => rfl
      | some o => exact absurd rfl (low _ _ (k _ _ e)).1
    · cases e : h.get? D with
      | none => rfl
      | some o => exact absurd rfl (low _ _ (k _ _ e)).2
  have hCell : ∀ y, scope.names.lookup y = some .free → (y, NameKind.free) ∈ scope.names := fun y h => mem_of_lookup h
  -- the comprehension's own frame
  have en' : EnvOK (relS scope sc) (compEnvC scope (clOf scope.names env.cells []) C env) := ⟨relabel_eq en, hkind, en.globals, en.builtins⟩
  have S₃ : St W (compEnvC scope (clOf scope.names env.cells []) C env) (fun x => ([] : List (Str × Value)).reverse.lookup x) (un X O) (fun b => b = C ∨ b = D) ρf h₁ := by
    refine ⟨hns₁, .inl rfl, fun b o e => old b o (S₂.base b o e), fun b q => ?_, fun b q => ?_, fun y sl e => ?_⟩
    · have : W.hB.get? b = none ∧ ∃ o, s₂.heap.get? b = some o := by
        rcases q with q | q
        · exact ⟨(S₂.xs b q).1, (S₂.xs b q).2.2⟩
        · exact S₂.os b q
      obtain ⟨p, o, e⟩ := this
      exact ⟨p, fun z => z.elim (low b o e).1 (low b o e).2, o, old b o e⟩
    · have hn := noneOf (h := W.hB) S₂.base
      rcases q with rfl | rfl
      · obtain ⟨o, _, _, e, _⟩ := hns₁
        exact ⟨hn.1, o, e⟩
      · obtain ⟨o, _, e, _⟩ := hacc
        exact ⟨hn.2, o, e⟩
    · obtain ⟨d, rfl, h1, h2, h3, h4⟩ := hf.free y sl e
      obtain ⟨v, r, q⟩ := S₂.vars y _ h1
      have hky : env.kindOf y = some .cell := by rw [en.kindOf]; exact h3
      rcases r with ⟨r, _⟩ | ⟨_, _, c, hc, hno, hce⟩
      · rw [hky] at r; cases r
      · obtain ⟨oc, eoc, hdc⟩ := hce
        refine ⟨v, .inr ⟨.inl ?_, h4, c, clOf_lookup hc _ _ (fun c' e => nomatch e) (.inl (hCell y h2)), fun z => z.elim (low c oc eoc).1 (low c oc eoc).2, ⟨oc, old c oc eoc, hdc⟩⟩, ?_⟩
        · rw [en'.kindOf]; exact relS_free en.kind h3 h2
        · cases q with
          | val q => exact .val (q.kp (.of_ext old) fun a z ⟨o, e⟩ => z.elim id fun z => absurd z (by rintro (z | z); exact (low a o e).1 z; exact (low a o e).2 z))
  have hZ : ∀ b, Z b → W.hB.get? b = none ∧ ¬ un X O b := fun b z => by
    have zf := R.zf b z
    refine ⟨?_, fun x => ?_⟩
    · cases e : W.hB.get? b with
      | none => rfl
      | some o => have := S₀.base b o e; rw [zf] at this; cases this
    · exact S₀.fresh zf x
  have hFe : ∀ b, F b → ¬ (b = C ∨ b = D) := fun b hb => by
    obtain ⟨o, e⟩ := R.ex _ _ t0 b hb
    exact fun z => z.elim (low b o e).1 (low b o e).2
  have hnoown : ∀ y ds, ρf.lookup y ≠ some (.own ds) := fun y ds e => by
    obtain ⟨d, q, _⟩ := hf.free y _ e; cases q
  have hlocal : ∀ x ∈ tnames target, (compEnvC scope (clOf scope.names env.cells []) C env).kindOf x = some .local := fun x hx => by rw [en'.kindOf]; exact relS_local (ht x hx)
  have loop : ∀ sx : Shared, (∃ tk, sx = { s₂ with heap := h₁, toks := tk }) → codeAny (model W.prog W.w) A (.compLoop (.ListComp elt [⟨target, iter, [], 0⟩] scope pos) 0 it (.ref D) (compEnvC scope (clOf scope.names env.cells []) C env)) (RR (.ref D) C) sx := by
    rintro sx ⟨tk, rfl⟩
    refine codeAny_loop rfl (fun r s' => ∃ i m' ws h' t', s' = { s₂ with heap := h', toks := t' } ∧ r = its.length - i ∧ i ≤ its.length ∧ (∀ b o, b ≠ C → b ≠ D → ¬ Z b → s₂.heap.get? b = some o → h'.get? b = some o) ∧
      St W (compEnvC scope (clOf scope.names env.cells []) C env) m' (un X O) (fun b => b = C ∨ b = D) ρf h' ∧ T i h' ∧ PlainL h' D (List.toArray ws) ∧ Reps (un (un X O) (fun b => b = C ∨ b = D)) h' ws (outs.take i)) ?_ its.length
      ⟨0, _, [], h₁, tk, rfl, by simp, Nat.zero_le _, fun b o _ _ _ e => old b o e, S₃, R.frame _ _ _ t0 fun b o hb e => old b o e, hacc, by simpa using Reps.nil⟩
    rintro r s' ⟨i, m', ws, h', t', rfl, rfl, hle, kk, S', ti, hpl, hws⟩
    show wpAny _ _ ((compTurn (.ListComp elt [⟨target, iter, [], 0⟩] scope pos) 0 it (.ref D) (compEnvC scope (clOf scope.names env.cells []) C env)).onRaise (fun x => do noteFrame x (compEnvC scope (clOf scope.names env.cells []) C env); theTreesLotGoes x)) _ _ _
    refine wpNoE (wpAny_onRaise ?_)
    have wpK : ∀ {α : Type} {t : Sem α} {Q : α → Shared → Prop} {E : Value → Shared → Prop} {sy : Shared}, wpAny (model W.prog W.w) A t Q NoE sy → wpAny (model W.prog W.w) A t Q E sy := fun h => wpNoE h
    rw [compTurn_list1]
    refine wpAny_bind (wpAny_standAt (wpAny_bind ?_))
    have kp : Kp (un X O) s₀.heap h' := fun b o nb e => kk b o (low b o (k₂.get b o e)).1 (low b o (k₂.get b o e)).2 (fun z => by have := R.zf b z; rw [e] at this; cases this) (k₂.get b o e)
    have hun : ∀ a, un (un X O) (fun b => b = C ∨ b = D) a → (∃ o, s₀.heap.get? a = some o) → un X O a := by
      rintro a (q | q) ⟨o, e⟩
      · exact q
      · exact absurd q (by rintro (z | z); exact (low a o (k₂.get a o e)).1 z; exact (low a o (k₂.get a o e)).2 z)
    by_cases hi' : i < its.length
    · obtain ⟨bs, hbs⟩ : ∃ bs, its[i]? = some bs := ⟨its[i], by simp [hi']⟩
      obtain ⟨d, hd⟩ : ∃ d, outs[i]? = some d := ⟨outs[i]'(by omega), by simp [show i < outs.length by omega]⟩
      have hstep := R.step i bs { s₂ with heap := h', toks := t' } _ m' _ _ ρf (fun _ sy => ∃ h'' tk m₁, sy = { s₂ with heap := h'', toks := tk } ∧ (∀ b o, b ≠ C → ¬ Z b → h'.get? b = some o → h''.get? b = some o) ∧ T (i + 1) h'' ∧ St W (compEnvC scope (clOf scope.names env.cells []) C env) m₁ (un X O) (fun b => b = C ∨ b = D) (bs ++ ρf) h'')
        hbs ti kp hun hFe hZ hlocal en'.fn S' fun h'' tk m₁ k1 t₁ S₁ => ⟨h'', tk, m₁, rfl, k1, t₁, S₁⟩
      refine wpK (wpAny_mono hstep (fun r sy q => ?_) fun _ _ x => x)
      cases r with
      | none => exact q.elim
      | some v =>
        refine wpAny_bind (wpK (wpAny_mono q (fun _ sy q => wpAny_bind (wpK (wpAny_mono q (fun _ sy ⟨h'', tk, m₁, e, k1, t₁, S₁⟩ => ?_) fun _ _ x => x))) fun _ _ x => x))
        subst e
        refine wpAny_bind (wpAny_bind (wpK (wpAny_mono (helt i bs d hbs hd A _ m₁ _ _ _ rm en' S₁) (fun y s₅ ⟨k5, r5⟩ => ?_) fun _ _ x => x)))
        obtain ⟨⟨h₅, t₅, rfl⟩, g5⟩ := k5
        have hp5 : PlainL h₅ D (List.toArray ws) := by
          obtain ⟨o, c, e, r⟩ := hpl
          exact ⟨o, c, g5 _ _ (k1 D o hDC (fun z => hFe D (R.sub D z) (.inr rfl)) e), r⟩
        have hwl : ws.length = i := by rw [hws.length, List.length_take]; omega
        have S₅ : St W _ m₁ (un X O) (fun b => b = C ∨ b = D) ρf h₅ := (S₁.keep g5).forget fun x sl e => by
          have := hdis bs (List.mem_of_getElem? hbs) _ (mem_of_lookup e)
          rw [List.lookup_append, this, Option.none_or]; exact e
        refine wpAny_bind (wpK (list_append_plainL (s := { s₂ with heap := h₅, toks := t₅ }) hp5 (fun h₆ hp6 hs6 => wpAny_pure (wpAny_pure ?_)) (by simp only [List.size_toArray]; omega)))
        have hs6 : Heap.SameBut D h₅ h₆ := hs6
        refine ⟨rfl, its.length - (i + 1), by omega, i + 1, m₁, ws ++ [y], h₆, t₅, rfl, rfl, hi', ?_, S₅.touch hnoown (.inr rfl) hp5 hp6 hs6, ?_, by simpa using hp6, ?_⟩
        · intro b o n1 n2 n3 e
          exact (hs6.2 b n2).trans (g5 _ _ (k1 b o n1 n3 (kk b o n1 n2 n3 e)))
        · refine R.frame _ _ _ t₁ fun b o hb e => (hs6.2 b (fun q => hFe b hb (.inr q))).trans (g5 _ _ e)
        · have hz : ∀ b, (b = C ∨ Z b) → un (un X O) (fun b => b = C ∨ b = D) b ∨ NoSeq h' b := by
            rintro b (rfl | z)
            · exact .inl (.inr (.inl rfl))
            · refine .inr fun o its c e hd => ?_
              obtain ⟨vs, q⟩ := R.fl _ _ ti b z o e
              rw [hd] at q; cases q
          have w1 := (rep_keepZ (P := fun b => b = C ∨ Z b) (h' := h'') (fun b o nb e => k1 b o (fun q => nb (.inl q)) (fun q => nb (.inr q)) e) hz).2 hws
          have w2 := w1.keep g5
          have kp6 : Kp (un (un X O) (fun b => b = C ∨ b = D)) h₅ h₆ := fun b o nb e => (hs6.2 b (fun q => nb (.inr (.inr q)))).trans e
          have hout : outs.take (i + 1) = outs.take i ++ [d] := by rw [List.take_add_one, hd]; rfl
          rw [hout]
          exact (w2.kp kp6 fun _ a _ => a).append (.cons (r5.kp kp6 fun _ a _ => a) .nil)
    · have hie : i = its.length := by omega
      subst hie
      refine wpK (wpAny_mono (R.stop { s₂ with heap := h', toks := t' } (fun sy => ∃ h'' tk, sy = { s₂ with heap := h'', toks := tk } ∧ ∀ b o, ¬ Z b → h'.get? b = some o → h''.get? b = some o) ti fun h'' tk k => ⟨h'', tk, rfl, k⟩) (fun r sy q => ?_) fun _ _ x => x)
      cases r with
      | some v => exact q.elim
      | none =>
        obtain ⟨h'', tk, rfl, k1⟩ := q
        refine wpAny_pure ?_
        have S₄ := S'.keepF (Z := Z) k1 fun b z => ⟨(hZ b z).1, (hZ b z).2, hFe b (R.sub b z), R.fl _ _ ti b z⟩
        have nz : ∀ b o, s.heap.get? b = some o → ¬ Z b := fun b o e z => by
          have := R.zf b z; rw [k₀.get b o e] at this; cases this
        refine hRR D C _ m' ws ?_ S₄.ns ?_ ?_ ?_ (noneOf k02.get).2 (noneOf k02.get).1 hDC
        · obtain ⟨⟨hh, tt, e⟩, g⟩ := k02
          subst e
          exact ⟨⟨h'', tk, rfl⟩, fun b o e => k1 b o (nz b o e) (kk b o (low b o (g b o e)).1 (low b o (g b o e)).2 (nz b o e) (g b o e))⟩
        · obtain ⟨o, c, e, r1, r2, r3⟩ := hpl
          exact ⟨o, k1 D o (fun z => hFe D (R.sub D z) (.inr rfl)) e, r1, c, r3⟩
        · rw [hws.length, List.length_take]; omega
        · have hout : outs.take its.length = outs := List.take_of_length_le (by omega)
          rw [hout] at hws
          have w1 := (rep_keepZ (P := Z) (h' := h'') (N := un (un X O) (fun b => b = C ∨ b = D)) k1 fun b z => .inr fun o its c e hd => by
            obtain ⟨vs, q⟩ := R.fl _ _ ti b z o e
            rw [hd] at q; cases q).2 hws
          exact w1.kp .refl fun a z _ => .inl z
  exact codeAny_compStart_list (loop _ ⟨_, rfl⟩) (wpNoE (R.self _ _ (R.frame _ _ _ t0 fun b o hb e => old b o e) (loop _ ⟨_, rfl⟩)))
end
end Mine

namespace Mine

theorem St.keepZ {W : Wd} {env : Env} {m : Str → Option Value} {X O Z : Addr → Prop} {ρ : Sto} {h h' : Heap} (S : St W env m X O ρ h) (k : ∀ b o, ¬ Z b → h.get? b = some o → h'.get? b = some o)
    (hz : ∀ b, Z b → W.hB.get? b = none ∧ ¬ X b ∧ ¬ O b ∧ ∀ o, h.get? b = some o → (∀ its c, o.data ≠ .seq its c) ∧ ∀ v, o.data ≠ .cell v) : St W env m X O ρ h' := by
  have nseq : ∀ b o its c, h.get? b = some o → o.data = .seq its c → ¬ Z b := fun b o its c e hd z => ((hz b z).2.2.2 o e).1 _ _ hd
  have pl : ∀ {a its}, PlainL h a its → PlainL h' a its := fun {a its} ⟨o, c, e, r1, r2, hd⟩ => ⟨o, c, k a o (nseq a o _ _ e hd) e, r1, r2, hd⟩
  have rep : ∀ (N : Addr → Prop), (∀ {v d}, Rep N h v d → Rep N h' v d) ∧ (∀ {vs ds}, Reps N h vs ds → Reps N h' vs ds) := fun N =>
    rep_keepZ (P := Z) k fun b z => .inr fun o its c e => ((hz b z).2.2.2 o e).1 its c
  refine ⟨?_, S.loc, fun b o e => k b o (fun z => by rw [(hz b z).1] at e; cases e) (S.base b o e), fun b q => ?_, fun b q => ?_, fun y sl e => ?_⟩
  · obtain ⟨o, es, ep, e, hd, r⟩ := S.ns
    exact ⟨o, es, ep, k _ o (fun z => (hz _ z).2.2.1 S.loc) e, hd, r⟩
  · obtain ⟨p, q', o, r⟩ := S.xs b q
    exact ⟨p, q', o, k b o (fun z => (hz b z).2.1 q) r⟩
  · obtain ⟨p, o, r⟩ := S.os b q
    exact ⟨p, o, k b o (fun z => (hz b z).2.2.1 q) r⟩
  · obtain ⟨v, r, q⟩ := S.vars y sl e
    refine ⟨v, ?_, ?_⟩
    · rcases r with r | ⟨a, b, c, d, e', o, ho, hd⟩
      · exact .inl r
      · exact .inr ⟨a, b, c, d, e', o, k c o (fun z => ((hz c z).2.2.2 o ho).2 _ hd) ho, hd⟩
    · cases q with
      | val q => exact .val ((rep _).1 q)
      | own a p l q => exact .own a (pl p) l ((rep _).2 q)

theorem ns_odd {h : Heap} {C : Addr} {m : Str → Option Value} (hn : h.Ns C m) : ∀ o, h.get? C = some o → (∀ its c, o.data ≠ .seq its c) ∧ ∀ v, o.data ≠ .cell v := by
  obtain ⟨o, es, ep, e, hd, _⟩ := hn
  intro o' e'
  rw [e] at e'; cases e'
  rw [hd]
  exact ⟨fun _ _ q => (nomatch q), fun _ q => (nomatch q)⟩

section
variable {W : Wd} {n : Nat} {sc : Scope} {ρ : Sto}

theorem closure_of {scope : Scope} {env : Env} {m : Str → Option Value} {X O : Addr → Prop} {s : Shared} {ρf : Sto} (en : EnvOK sc env) (S : St W env m X O ρ s.heap) (hf : FreeOK scope sc ρ ρf) : closureFor scope env = pure (clOf scope.names env.cells []) := by
  refine closureFor_eq fun x hx hk => ?_
  obtain ⟨sl, e⟩ := hf.all x hx hk
  obtain ⟨d, rfl, h1, h2, h3, _⟩ := hf.free _ _ e
  obtain ⟨v, r, _⟩ := S.vars _ _ h1
  have hky : env.kindOf x.1 = some .cell := by rw [en.kindOf]; exact h3
  rcases r with ⟨r, _⟩ | ⟨_, _, c, hc, _⟩
  · rw [hky] at r; cases r
  · rw [hc]; rfl

theorem ev_comp {elt target iter : Expr} {scope : Scope} {pos : Pos} {its : List Sto} {outs : List D} {ρf : Sto} (hi : ItS W n sc ρ target iter its) (hf : FreeOK scope sc ρ ρf) (hcell : ∀ y ∈ scope.names, y.2 ≠ .cell) (hkind : scope.kind = .function)
    (hnames : ∀ x ∈ scope.names, x.2 = .local → scope.names.lookup x.1 = some .local)
    (ht : ∀ x ∈ tnames target, scope.names.lookup x = some .local) (hlen : outs.length = its.length) (hdis : ∀ bs ∈ its, ∀ p ∈ ρf, bs.lookup p.1 = none)
    (helt : ∀ (i : Nat) (bs : Sto) (d : D), its[i]? = some bs → outs[i]? = some d → EvS W n (relS scope sc) (bs ++ ρf) elt d) : EvS W n sc ρ (.ListComp elt [⟨target, iter, [], 0⟩] scope pos) (.lst outs) := by
  intro A env m X O s rm en S
  rw [eval_ListComp]
  refine wpAny_comprehension_free (use := none) rfl (fun x => hi.plain x env) (closure_of en S hf) hkind hnames
    (comp_core (RR := fun acc C => compPost (model W.prog W.w) A NoE none (fun v s' => Ks s s' ∧ Rep (un X O) s'.heap v (.lst outs)) acc C) hi hf hcell hkind ht hlen hdis helt rm en S ?_)
  intro D C s' m' ws k hn hl hz hr hD hC hDC
  refine ⟨m', hn, fun h' hs => ⟨?_, ?_⟩⟩
  · obtain ⟨⟨hh, t, rfl⟩, g⟩ := k
    exact ⟨⟨h', t, rfl⟩, fun b o e => (hs.2 b (fun q => by rw [q, hC] at e; cases e)).trans (g b o e)⟩
  · refine .lst (S.fresh hD) (hl.extBut hs.extBut hDC) hz ?_
    exact (rep_keepZ (P := fun b => b = C) (h := s'.heap) (h' := h') (fun b o nb e => (hs.2 b nb).trans e) fun b z => .inr fun o its c e => by subst z; exact (ns_odd hn o e).1 its c).2 hr

theorem hs_comp {y : Str} {py spos : Pos} {elt target iter : Expr} {scope : Scope} {pos : Pos} {its : List Sto} {outs : List D} {ρf : Sto} {Φ : Fl → Sto → Prop} (hi : ItS W n sc ρ target iter its) (hf : FreeOK scope sc ρ ρf) (hcell : ∀ y ∈ scope.names, y.2 ≠ .cell) (hkind : scope.kind = .function)
    (hnames : ∀ x ∈ scope.names, x.2 = .local → scope.names.lookup x.1 = some .local)
    (ht : ∀ x ∈ tnames target, scope.names.lookup x = some .local) (hlen : outs.length = its.length) (hdis : ∀ bs ∈ its, ∀ p ∈ ρf, bs.lookup p.1 = none)
    (helt : ∀ (i : Nat) (bs : Sto) (d : D), its[i]? = some bs → outs[i]? = some d → EvS W n (relS scope sc) (bs ++ ρf) elt d)
    (hy : sc.names.lookup y = some .local) (hline : (py.line == pos.line) = true) (hno : (scope.names.any fun (n, k) => n == y && (k == .local || k == .cell)) = false)
    (q : Φ .next ((y, .val (.lst outs)) :: ρ)) : HS W n sc ρ (.Assign [.Name y py] (.ListComp elt [⟨target, iter, [], 0⟩] scope pos) spos) Φ := by
  intro A env m X O s rm en S
  have hky : env.kindOf y = some .local := by rw [en.kindOf]; exact hy
  have hsw : swapsWith (.ListComp elt [⟨target, iter, [], 0⟩] scope pos) (some (.Name y py)) spos.line env = pure true := by
    show (pure (env.blockKind == .function && env.kindOf y == some .local && py.line == pos.line && !(scope.names.any fun (n, k) => n == y && (k == .local || k == .cell))) : Sem Bool) = pure true
    rw [hno, hline, hky]
    have : env.blockKind = .function := by unfold Env.blockKind; rw [en.scope, en.kind]; rfl
    rw [this]; rfl
  rw [exec_Assign_Name_used _ _ _ _ hsw]
  refine wpAny_bind (wpAny_standAt (wpAny_bind ?_))
  show wpAny _ A (do let _ ← comprehension (.ListComp elt [⟨target, iter, [], 0⟩] scope pos) scope env _ (newList []) false (eval iter env) (some (assign (.Name y py) env))) _ _ s
  have hcore := wpAny_comprehension_free (M := model W.prog W.w) (A := A) (E := NoE) (s := s) (env := env) (e := .ListComp elt [⟨target, iter, [], 0⟩] scope pos) (pos := iter.pos) (newAcc := newList []) (first := eval iter env) (use := some (assign (.Name y py) env))
    (Q := fun _ s' => ∃ ρ' m' O', Stp O s O' s' ∧ St W env m' X O' ρ' s'.heap ∧ Φ .next ρ') rfl (fun x => hi.plain x env) (closure_of en S hf) hkind hnames
    (comp_core (RR := fun acc C => compPost (model W.prog W.w) A NoE (some (assign (.Name y py) env)) (fun _ s' => ∃ ρ' m' O', Stp O s O' s' ∧ St W env m' X O' ρ' s'.heap ∧ Φ .next ρ') acc C) hi hf hcell hkind ht hlen hdis helt rm en S ?_)
  · exact wpAny_bind (wpAny_mono hcore (fun _ s' ⟨ρ', m', O', a, b, c⟩ => wpAny_pure (wpAny_pure ⟨.next, ρ', m', O', a, b, .next, c⟩)) fun _ _ x => x)
  · intro D C s' m' ws k hn hl hz hr hD hC hDC
    have S' := S.keep k.get
    have hCL : env.locals ≠ C := by
      rintro rfl
      obtain ⟨o, _, _, e, _⟩ := S.ns
      rw [hC] at e; cases e
    show wpAny _ A (assign (.Name y py) env (.ref D)) _ _ _
    refine wpAny_assign_Name (wpAny_storeName_local hky S'.ns (fun h₂ hn₂ hs₂ => ?_) en.fn)
    have S₂ := S'.store hky hn₂ hs₂ (.val (.lst (S.fresh hD) hl hz hr))
    have hnC : h₂.Ns C m' := hn.sameBut hs₂ (Ne.symm hCL)
    refine ⟨m', hnC, fun h₃ hs₃ => ⟨_, _, O, ?_, S₂.keepZ (Z := fun b => b = C) (fun b o nb e => (hs₃.2 b nb).trans e) fun b z => ?_, q⟩⟩
    · obtain ⟨⟨hh, t, rfl⟩, g⟩ := k
      refine ⟨⟨h₃, _, rfl⟩, fun b o nb e => (hs₃.2 b (fun q => by rw [q, hC] at e; cases e)).trans ((hs₂.2 b (fun q => nb (q ▸ S.loc))).trans (g b o e)), fun _ x => x, fun _ x => .inl x⟩
    · subst z
      have hnx := S.fresh hC
      refine ⟨?_, fun x => hnx (.inl x), fun x => hnx (.inr x), ns_odd hnC⟩
      cases e : W.hB.get? b with
      | none => rfl
      | some o => have := S.base b o e; rw [hC] at this; cases this
end

/-! shapes that the laws use: ints, lists of ints -/
abbrev I (i : Int) : D := .int i
def LI (xs : List Int) : D := .lst (xs.map .int)

theorem EvS.le {W : Wd} {n k : Nat} {sc : Scope} {ρ : Sto} {e : Expr} {d : D} (h : EvS W n sc ρ e d) (hk : n ≤ k) : EvS W k sc ρ e d := fun A env m X O s rm en S => h A env m X O s (rm.le hk) en S
theorem CallS.le {W : Wd} {n k : Nat} {f : Str} {ds : List D} {d : D} (h : CallS W n f ds d) (hk : n ≤ k) : CallS W k f ds d := by
  obtain ⟨a, o, fd, h1, h2, h3, h4⟩ := h
  exact ⟨a, o, fd, h1, h2, h3, fun A N s vs rm => h4 A N s vs (rm.le hk)⟩

section
variable {W : Wd} {n : Nat} {sc : Scope} {ρ : Sto}
/-- [i] * k -/
theorem ev_rep {e r : Expr} {p pos : Pos} {i k : Int} (he : EvS W n sc ρ e (.int i)) (hs : notStar e = true) (hr : EvS W n sc ρ r (.int k)) (h0 : 0 ≤ k) (hk : k ≤ 2 ^ 24) : EvS W n sc ρ (.BinOp (.List [e] p) .Mult r pos) (LI (List.replicate k.toNat i)) := by
  intro A env m X O s rm en S
  refine wpAny_BinOp (wpAny_List (wpAny_mono (ar_cons he ar_nil hs A env m X O s p rm en S) (fun vs s₁ ⟨k₁, q₁⟩ => ?_) fun _ _ x => x))
  cases q₁ with
  | @cons v _ _ _ q₁ q₂ =>
  cases q₂
  cases q₁ with
  | int _ t =>
  refine ⟨show 1 ≤ sizeLine from by decide, ?_⟩
  have S₁ := S.keep k₁.get
  have k₂ := k₁.trans' (Ks.push (o := { cls := .type "list", data := .seq [Value.int i t].toArray }))
  refine wpAny_mono (hr A env m X O _ rm en (S.keep k₂.get)) (fun y s₂ ⟨k₃, q₃⟩ => ?_) fun _ _ x => x
  cases q₃ with
  | int _ u =>
  have S₂ := (S.keep k₂.get).keep k₃.get
  have hl : s₂.heap.get? s₁.heap.objs.size = some { cls := .type "list", dict := none, data := .seq #[Value.int i t] 0, slots := #[] } := k₃.get _ _ (Heap.get?_push_size _ rfl)
  have hlo : -(2 ^ 63 : Int) ≤ k := by omega
  have hhi : k < 2 ^ 63 := by omega
  have hs1 : (#[Value.int i t] : Array Value).size = 1 := rfl
  refine wpAny_binaryOp_repeat_ref (T := "list") (U := "int") (by decide) ⟨_, hl, rfl⟩ (fun s' => typeIs_int s' k u) noFill_list_mul F.fills_int_mul F.slot_int_rmul repeat_list F.slot_int_index.lookup
    (call_meets F.slot_int_rmul (typeIs_int s₂ k u) F.entry_int_rmul (F.args_int_rmul_2 _ _) (int___rmul___int_list k u s₁.heap.objs.size #[Value.int i t] 0)
      ⟨hl, rfl, ⟨_, hl, rfl⟩, call_meets F.slot_list_mul ⟨_, hl, rfl⟩ F.entry_list_mul (F.args_list_mul_2 _ _)
        (AutoListH.list___mul___list_int_3 s₁.heap.objs.size #[Value.int i t] 0 k u (by simp [Builtin.List.listFitsIndex]; omega) (by simp only [hs1]; omega) (by simp [Builtin.List.listTooLong, sizeLine, hs1]; omega))
        ⟨hl, ?_⟩⟩)
  refine ⟨(k₂.trans' k₃).trans' .push, ?_⟩
  have e1 : ∀ (c : Nat) (acc : Array Value), List.foldl (fun x1 x2 => x1 ++ x2) acc (List.replicate c #[Value.int i t]) = acc ++ (List.replicate c (Value.int i t)).toArray := by
    intro c
    induction c with
    | zero => intro acc; simp
    | succ c ih => intro acc; rw [List.replicate_succ, List.foldl_cons, ih, List.replicate_succ, Array.append_assoc]; congr 1; apply Array.ext'; simp
  have e2 : (List.foldl (fun x1 x2 => x1 ++ x2) #[] (List.replicate (if (#[Value.int i t] : Array Value).isEmpty = true then 0 else k.toNat) #[Value.int i t])) = (List.replicate k.toNat (Value.int i t)).toArray := by
    rw [e1, show (#[Value.int i t] : Array Value).isEmpty = false from rfl]; simp
  rw [e2]
  refine .lst (S₂.fresh fresh_size) ⟨_, Heap.get?_push_size _ rfl, rfl, _, rfl⟩ ?_ ?_
  · rw [List.length_replicate]; have : sizeLine = 2 ^ 24 := rfl; omega
  · rw [List.map_replicate]
    generalize ({ s₂ with heap := s₂.heap.push { cls := .type "list", data := .seq (List.replicate k.toNat (Value.int i t)).toArray } } : Shared).heap = hh
    generalize k.toNat = c
    induction c with
    | zero => exact .nil
    | succ c ih => rw [List.replicate_succ, List.replicate_succ]; exact .cons (.int _ _) ih
end
end Mine

namespace Mine
abbrev theProg : Program := PySem.Challenge.pw_sa0079_01

def stName : Stmt → Str
  | .FunctionDef n .. => n
  | _ => ""
def stParams : Stmt → Arguments
  | .FunctionDef _ a .. => a
  | _ => ⟨[], [], none, [], [], none, []⟩
def stBody : Stmt → List Stmt
  | .FunctionDef _ _ b .. => b
  | _ => []
def stScope : Stmt → Scope
  | .FunctionDef (scope := s) .. => s
  | _ => { kind := .module, names := [], isGenerator := false, isCoroutine := false }
def stAt (i : Nat) : Stmt := theProg.main.body.getD i (.Pass default)
/-- the def at place i of the top stands under its name -/
def DefI (W : Wd) (i : Nat) (f : Str) : Prop := DefAt W f (stParams (stAt i)) (stBody (stAt i)) (stScope (stAt i))

structure Lib (W : Wd) : Prop where
  ok : W.OK
  abs : BiAt W "abs" "abs"
  len : BiAt W "len" "len"
  max : BiAt W "max" "max"
  list : TyAt W "list" "list"
  range : TyAt W "range" "range"
  enumerate : TyAt W "enumerate" "enumerate"
  R0 : GlobAt W "R0" (.tup [I 0, I 1])
  R1 : GlobAt W "R1" (.tup [I 1, I 1])
  gcd : DefI W 3 "gcd"
  rat : DefI W 7 "rat"
  radd : DefI W 8 "radd"
  rmul : DefI W 9 "rmul"
  rdiv : DefI W 10 "rdiv"
  rneg : DefI W 11 "rneg"
  qtrim : DefI W 13 "qtrim"
  qadd : DefI W 14 "qadd"
  qscale : DefI W 15 "qscale"
  binomial_row : DefI W 17 "binomial_row"
  bernoulli_row : DefI W 18 "bernoulli_row"
  power_sum : DefI W 19 "power_sum"
  polynomial_sum : DefI W 20 "polynomial_sum"

abbrev Hv (ρ : Sto) (x : Str) (d : D) : Prop := ρ.lookup x = some (Slot.val d)
abbrev Ho (ρ : Sto) (x : Str) (ds : List D) : Prop := ρ.lookup x = some (Slot.own ds)

theorem iabs_eq (i : Int) : (if i < 0 then -i else i) = (i.natAbs : Int) := by split <;> omega

variable {W : Wd}
theorem gcd_S (L : Lib W) (a b : Int) : CallS W 1 "gcd" [I a, I b] (I (Int.gcd a b)) := by
  refine callS_intro (ps := ["a", "b"]) L.ok L.gcd rfl rfl rfl (by decide) (by decide) rfl (fun pm code doc vs h => ?_) ?_
  · match vs, h with
    | [x, y], _ => rfl
  · refine ht_cons (hs_assign2 (ev_abs L.ok L.abs (ev_name (d := I a) rfl rfl) rfl rfl rfl) (ev_abs L.ok L.abs (ev_name (d := I b) rfl rfl) rfl rfl rfl) rfl rfl rfl rfl rfl rfl rfl rfl ?_)
    rw [iabs_eq, iabs_eq]
    refine ht_cons (hs_while (fun k ρ => ∃ x y : Nat, y = k ∧ Nat.gcd x y = Int.gcd a b ∧ Hv ρ "a" (I x) ∧ Hv ρ "b" (I y)) b.natAbs ⟨_, _, rfl, rfl, rfl, rfl⟩ ?_)
    rintro k ρ ⟨x, y, rfl, hg, ha, hb⟩
    refine ⟨((y : Int) != 0), tr_cmp (ev_name hb rfl) ev_int cmp_ne rfl, fun hy => ?_, fun hy => ?_⟩
    · have hy0 : y ≠ 0 := by intro h; subst h; simp at hy
      refine ht_cons (hs_assign2 (ev_name hb rfl) (ev_fmod (ev_name ha rfl) (ev_name hb rfl) (by omega)) rfl rfl rfl rfl rfl rfl rfl rfl (ht_nil ?_))
      have e : Int.fmod x y = ((x % y : Nat) : Int) := by rw [Int.fmod_eq_emod_of_nonneg _ (by omega)]; rfl
      rw [e]
      refine ⟨x % y, Nat.mod_lt _ (by omega), y, x % y, rfl, ?_, rfl, rfl⟩
      rw [← hg, Nat.gcd_comm x y, Nat.gcd_rec y x, Nat.gcd_comm]
    · have hy0 : y = 0 := by simpa using hy
      subst hy0
      refine ht_cons (hs_ret (ev_name ha rfl) ?_)
      rw [← hg, Nat.gcd_zero_right]
end Mine

namespace Mine
def Q (q : Rat) : D := .tup [I q.num, I (q.den : Int)]
def LQ (qs : List Rat) : D := .lst (qs.map Q)

abbrev Gl (sc : Scope) (x : Str) : Prop := sc.names.lookup x = some NameKind.globalImplicit

theorem rat_num {t b : Int} (hb : b ≠ 0) : t.fdiv (if b > 0 then (Int.gcd t b : Int) else 0 - (Int.gcd t b : Int)) = (Rat.divInt t b).num ∧ b.fdiv (if b > 0 then (Int.gcd t b : Int) else 0 - (Int.gcd t b : Int)) = ((Rat.divInt t b).den : Int) := by
  rw [Rat.num_divInt, Rat.den_divInt, if_neg hb, Int.gcd_comm b t]
  have hg : (0 : Int) ≤ Int.gcd t b := by omega
  have hd : (Int.gcd t b : Int) ∣ t := Int.gcd_dvd_left ..
  have hd2 : (Int.gcd t b : Int) ∣ b := Int.gcd_dvd_right ..
  split
  · rename_i h
    rw [Int.fdiv_eq_ediv_of_nonneg _ hg, Int.fdiv_eq_ediv_of_nonneg _ hg, Int.sign_eq_one_of_pos h, Int.one_mul]
    refine ⟨rfl, ?_⟩
    rw [Int.natCast_ediv, Int.natAbs_of_nonneg (by omega)]
  · rename_i h
    have hn : b < 0 := by omega
    rw [Int.sign_eq_neg_one_of_neg hn, Int.zero_sub]
    have e : ∀ x : Int, (Int.gcd t b : Int) ∣ x → x.fdiv (-(Int.gcd t b : Int)) = (-x) / (Int.gcd t b : Int) := fun x hx => by
      rw [Int.fdiv_eq_ediv_of_dvd (Int.neg_dvd.mpr hx), Int.ediv_neg, Int.neg_ediv_of_dvd hx]
    rw [e t hd, e b hd2]
    refine ⟨by rw [Int.neg_one_mul], ?_⟩
    rw [Int.natCast_ediv, show ((b.natAbs : Nat) : Int) = -b from by omega]

theorem log2_lt {x : Int} {k : Nat} (h : x.natAbs < 2 ^ k) (hk : k ≤ 9000) (h0 : 0 < k) : x.natAbs.log2 < 9000 := by
  by_cases hx : x.natAbs = 0
  · rw [hx]; decide
  · exact Nat.lt_of_lt_of_le ((Nat.log2_lt hx).mpr h) hk
theorem mulOk_r {a b : Int} (h : b.natAbs < 2 ^ 64) : IntMulOk a b := by
  unfold IntMulOk
  have : Builtin.Int.intBits b ≤ 64 := by
    unfold Builtin.Int.intBits
    split
    · omega
    · rename_i h0
      have h0 : b.natAbs ≠ 0 := by intro e; exact h0 (by simp; omega)
      have := (Nat.log2_lt h0).mpr h
      omega
  simp [shortFactorBits]
  intro _ h'
  omega
theorem mulOk_l {a b : Int} (h : a.natAbs < 2 ^ 64) : IntMulOk a b := by
  unfold IntMulOk
  have : Builtin.Int.intBits a ≤ 64 := by
    unfold Builtin.Int.intBits
    split
    · omega
    · rename_i h0
      have h0 : a.natAbs ≠ 0 := by intro e; exact h0 (by simp; omega)
      have := (Nat.log2_lt h0).mpr h
      omega
  simp [shortFactorBits]
  intro h'
  omega

variable {W : Wd}
theorem rat_S (L : Lib W) (t b : Int) (hb : b ≠ 0) (hs : b.natAbs < 2 ^ 200) : CallS W 2 "rat" [I t, I b] (Q (Rat.divInt t b)) := by
  refine callS_intro (ps := ["top", "bottom"]) L.ok L.rat rfl rfl rfl (by decide) (by decide) rfl (fun pm code doc vs h => ?_) ?_
  · match vs, h with
    | [x, y], _ => rfl
  · refine ht_cons (hs_if (tr_cmp (ev_name (d := I b) rfl rfl) ev_int cmp_eq rfl) (fun h => absurd (by simpa using h) hb) fun _ => ht_nil ?_)
    have hcall : ∀ sc ρ (hr : Gl sc "gcd") (h1 : Hv ρ "top" (I t)) (h2 : Hv ρ "bottom" (I b)) p1 p2 p3 p4, EvS W 1 sc ρ (.Call (.Name "gcd" p1) [.Name "top" p2, .Name "bottom" p3] [] p4) (I (Int.gcd t b)) := fun sc ρ hr h1 h2 p1 p2 p3 p4 =>
      ev_call L.ok (gcd_S L t b) (ar_cons (ev_name h1 rfl) (ar_cons (ev_name h2 rfl) ar_nil rfl) rfl) (Nat.le_refl _) hr rfl rfl
    refine ht_cons (hs_assign (d := I (if b > 0 then (Int.gcd t b : Int) else 0 - (Int.gcd t b : Int))) (ev_if (tr_cmp (ev_name (d := I b) rfl rfl) ev_int cmp_gt rfl) (fun h => ?_) fun h => ?_) rfl rfl ?_)
    · rw [if_pos (by simpa using h)]; exact hcall _ _ rfl rfl rfl _ _ _ _
    · rw [if_neg (by simpa using h)]; exact ev_sub ev_int (hcall _ _ rfl rfl rfl _ _ _ _)
    · have hg0 : Int.gcd t b ≠ 0 := by rw [Ne, Int.gcd_eq_zero_iff]; exact fun h => hb h.2
      have hgl : Int.gcd t b < 2 ^ 200 := Nat.lt_of_le_of_lt (Nat.le_of_dvd (by omega) (Int.gcd_dvd_natAbs_right t b)) hs
      have hn : (if b > 0 then (Int.gcd t b : Int) else 0 - (Int.gcd t b : Int)) ≠ 0 := by split <;> omega
      have hl : (if b > 0 then (Int.gcd t b : Int) else 0 - (Int.gcd t b : Int)).natAbs.log2 < 9000 := log2_lt (k := 200) (by split <;> omega) (by decide) (by decide)
      refine ht_cons (hs_ret ((ev_tup (ar_cons (ev_fdiv (ev_name (d := I t) rfl rfl) (ev_name (d := I _) rfl rfl) hn hl) (ar_cons (ev_fdiv (ev_name (d := I b) rfl rfl) (ev_name (d := I _) rfl rfl) hn hl) ar_nil rfl) rfl) (show 2 ≤ sizeLine from by decide)).cast ?_) rfl)
      rw [(rat_num hb).1, (rat_num hb).2]; rfl
end Mine

namespace Mine

/-! trailing zeros go -/
def trimR {α : Type} [DecidableEq α] (z : α) (xs : List α) : List α := (xs.reverse.dropWhile (fun x => decide (x = z))).reverse
theorem trimR_nil {α : Type} [DecidableEq α] (z : α) : trimR z [] = [] := rfl
theorem trimR_zero {α : Type} [DecidableEq α] (z : α) (xs : List α) : trimR z (xs ++ [z]) = trimR z xs := by simp [trimR]
theorem trimR_ne {α : Type} [DecidableEq α] {z x : α} (xs : List α) (h : x ≠ z) : trimR z (xs ++ [x]) = xs ++ [x] := by simp [trimR, h]
theorem trimR_sub {α : Type} [DecidableEq α] (z : α) (xs : List α) : ∀ x ∈ trimR z xs, x ∈ xs := fun x hx => by
  simp only [trimR, List.mem_reverse] at hx
  simpa using List.dropWhile_sublist _ |>.subset hx
theorem trimR_length {α : Type} [DecidableEq α] (z : α) (xs : List α) : (trimR z xs).length ≤ xs.length := by
  simp only [trimR, List.length_reverse]
  have := (List.dropWhile_sublist (fun x => decide (x = z)) (l := xs.reverse)).length_le
  simpa using this

def Sd (q : Rat) : Prop := q.den < 2 ^ 60

section
variable {W : Wd} {n : Nat} {sc : Scope} {ρ : Sto}
theorem ev_q0 {x : Str} {p pos p2 : Pos} {k : Nat} {q : Rat} (h : Hv ρ x (Q q)) (hd : (x == ("__debug__" : Str)) = false) : EvS W n sc ρ (.Subscript (.Name x p) (.Constant (.int 0) k p2) pos) (I q.num) :=
  ev_sub_tup (ds := [I q.num, I (q.den : Int)]) (ev_name h hd) ev_int (by decide) rfl
theorem ev_q1 {x : Str} {p pos p2 : Pos} {k : Nat} {q : Rat} (h : Hv ρ x (Q q)) (hd : (x == ("__debug__" : Str)) = false) : EvS W n sc ρ (.Subscript (.Name x p) (.Constant (.int 1) k p2) pos) (I (q.den : Int)) :=
  ev_sub_tup (ds := [I q.num, I (q.den : Int)]) (ev_name h hd) ev_int (by decide) rfl
end

theorem den_prod {a b : Nat} (ha : a < 2 ^ 60) (hb : b < 2 ^ 60) : a * b < 2 ^ 120 := by
  have := Nat.mul_lt_mul'' ha hb
  rwa [← Nat.pow_add] at this

variable {W : Wd}
theorem radd_S (L : Lib W) (x y : Rat) (hx : Sd x) (hy : Sd y) : CallS W 3 "radd" [Q x, Q y] (Q (x + y)) := by
  unfold Sd at hx hy
  refine callS_intro (ps := ["a", "b"]) L.ok L.radd rfl rfl rfl (by decide) (by decide) rfl (fun pm code doc vs h => ?_) ?_
  · match vs, h with
    | [x, y], _ => rfl
  · have hm : IntMulOk x.num (y.den : Int) := mulOk_r (by omega)
    have hm2 : IntMulOk y.num (x.den : Int) := mulOk_r (by omega)
    have hm3 : IntMulOk (x.den : Int) (y.den : Int) := mulOk_r (by omega)
    have hb : (x.den : Int) * (y.den : Int) ≠ 0 := by have h1 := x.den_pos; have h2 := y.den_pos; exact Int.mul_ne_zero (by omega) (by omega)
    have hs : ((x.den : Int) * (y.den : Int)).natAbs < 2 ^ 200 := by
      have := den_prod hx hy
      rw [Int.natAbs_mul, Int.natAbs_natCast, Int.natAbs_natCast]
      exact Nat.lt_trans this (Nat.pow_lt_pow_right (by decide) (by decide))
    refine ht_cons (hs_ret ((ev_call L.ok (rat_S L _ _ hb hs) (ar_cons (ev_add (ev_mul (ev_q0 (q := x) rfl rfl) (ev_q1 (q := y) rfl rfl) hm) (ev_mul (ev_q0 (q := y) rfl rfl) (ev_q1 (q := x) rfl rfl) hm2)) (ar_cons (ev_mul (ev_q1 (q := x) rfl rfl) (ev_q1 (q := y) rfl rfl) hm3) ar_nil rfl) rfl) (Nat.le_refl _) rfl rfl rfl).cast ?_) rfl)
    rw [← Int.natCast_mul, Rat.divInt_ofNat, ← Rat.add_def']
theorem rmul_S (L : Lib W) (x y : Rat) (hx : Sd x) (hy : Sd y) (hn : x.num.natAbs < 2 ^ 60) : CallS W 3 "rmul" [Q x, Q y] (Q (x * y)) := by
  unfold Sd at hx hy
  refine callS_intro (ps := ["a", "b"]) L.ok L.rmul rfl rfl rfl (by decide) (by decide) rfl (fun pm code doc vs h => ?_) ?_
  · match vs, h with
    | [x, y], _ => rfl
  · have hm : IntMulOk x.num y.num := mulOk_l (by omega)
    have hm3 : IntMulOk (x.den : Int) (y.den : Int) := mulOk_r (by omega)
    have hb : (x.den : Int) * (y.den : Int) ≠ 0 := by have h1 := x.den_pos; have h2 := y.den_pos; exact Int.mul_ne_zero (by omega) (by omega)
    have hs : ((x.den : Int) * (y.den : Int)).natAbs < 2 ^ 200 := by
      have := den_prod hx hy
      rw [Int.natAbs_mul, Int.natAbs_natCast, Int.natAbs_natCast]
      exact Nat.lt_trans this (Nat.pow_lt_pow_right (by decide) (by decide))
    refine ht_cons (hs_ret ((ev_call L.ok (rat_S L _ _ hb hs) (ar_cons (ev_mul (ev_q0 (q := x) rfl rfl) (ev_q0 (q := y) rfl rfl) hm) (ar_cons (ev_mul (ev_q1 (q := x) rfl rfl) (ev_q1 (q := y) rfl rfl) hm3) ar_nil rfl) rfl) (Nat.le_refl _) rfl rfl rfl).cast ?_) rfl)
    rw [← Int.natCast_mul, Rat.divInt_ofNat, ← Rat.mul_def']
theorem rdiv_S (L : Lib W) (x y : Rat) (hx : Sd x) (hy : Sd y) (h0 : y ≠ 0) (hn : y.num.natAbs < 2 ^ 60) : CallS W 3 "rdiv" [Q x, Q y] (Q (x / y)) := by
  unfold Sd at hx hy
  refine callS_intro (ps := ["a", "b"]) L.ok L.rdiv rfl rfl rfl (by decide) (by decide) rfl (fun pm code doc vs h => ?_) ?_
  · match vs, h with
    | [x, y], _ => rfl
  · have hm : IntMulOk x.num (y.den : Int) := mulOk_r (by omega)
    have hm3 : IntMulOk (x.den : Int) y.num := mulOk_l (by omega)
    have hb : (x.den : Int) * y.num ≠ 0 := by have h1 := x.den_pos; exact Int.mul_ne_zero (by omega) (fun h => h0 (Rat.num_eq_zero.mp h))
    have hs : ((x.den : Int) * y.num).natAbs < 2 ^ 200 := by
      have := den_prod hx hn
      rw [Int.natAbs_mul, Int.natAbs_natCast]
      exact Nat.lt_trans this (Nat.pow_lt_pow_right (by decide) (by decide))
    refine ht_cons (hs_ret ((ev_call L.ok (rat_S L _ _ hb hs) (ar_cons (ev_mul (ev_q0 (q := x) rfl rfl) (ev_q1 (q := y) rfl rfl) hm) (ar_cons (ev_mul (ev_q1 (q := x) rfl rfl) (ev_q0 (q := y) rfl rfl) hm3) ar_nil rfl) rfl) (Nat.le_refl _) rfl rfl rfl).cast ?_) rfl)
    rw [Rat.div_def, Rat.inv_def]
    conv => rhs; rw [← Rat.num_divInt_den x]
    rw [Rat.divInt_mul_divInt]
theorem rneg_S (L : Lib W) (x : Rat) : CallS W 1 "rneg" [Q x] (Q (-x)) := by
  refine callS_intro (ps := ["a"]) L.ok L.rneg rfl rfl rfl (by decide) (by decide) rfl (fun pm code doc vs h => ?_) ?_
  · match vs, h with
    | [x], _ => rfl
  · refine ht_cons (hs_ret ((ev_tup (ar_cons (ev_sub ev_int (ev_q0 (q := x) rfl rfl)) (ar_cons (ev_q1 (q := x) rfl rfl) ar_nil rfl) rfl) (show 2 ≤ sizeLine from by decide)).cast ?_) rfl)
    rw [Int.zero_sub]; rfl

theorem qtrim_S (L : Lib W) (qs : List Rat) : CallS W 1 "qtrim" [LQ qs] (LQ (trimR 0 qs)) := by
  refine callS_intro (ps := ["row"]) L.ok L.qtrim rfl rfl rfl (by decide) (by decide) rfl (fun pm code doc vs h => ?_) ?_
  · match vs, h with
    | [x], _ => rfl
  · refine ht_cons (hs_assign (ev_len (ds := qs.map Q) L.ok L.len (ev_name rfl rfl) rfl rfl rfl) rfl rfl ?_)
    refine ht_cons (hs_while (fun k ρ => k ≤ qs.length ∧ trimR 0 (qs.take k) = trimR 0 qs ∧ Hv ρ "row" (LQ qs) ∧ Hv ρ "size" (I (k : Int))) qs.length ⟨Nat.le_refl _, by rw [List.take_length], rfl, by rw [List.length_map]; rfl⟩ ?_)
    rintro k ρ ⟨hk, ht, h1, h2⟩
    refine ⟨decide ((k : Int) > 0) && ((qs.getD (k - 1) 0).num == 0), tr_and2 (tr_cmp (ev_name h2 rfl) ev_int cmp_gt rfl) (fun h => tr_cmp (ev_sub_tup (ds := [I (qs.getD (k - 1) 0).num, I ((qs.getD (k - 1) 0).den : Int)]) (ev_sub_list (ds := qs.map Q) (i := (k : Int) - 1) (d := Q (qs.getD (k - 1) 0)) (ev_name h1 rfl) (ev_sub (ev_name h2 rfl) ev_int) (by have := of_decide_eq_true h; omega) ?_) ev_int (by decide) rfl) ev_int cmp_eq rfl), fun h => ?_, fun h => ?_⟩
    · have hk0 : (k : Int) > 0 := of_decide_eq_true h
      have hlt : k - 1 < qs.length := by omega
      rw [show ((k : Int) - 1).toNat = k - 1 from by omega, List.getElem?_map, List.getD_eq_getElem?_getD]
      simp [hlt]
    · obtain ⟨ha, hb⟩ := Bool.and_eq_true_iff.mp h
      have hk0 : (k : Int) > 0 := of_decide_eq_true ha
      have hlt : k - 1 < qs.length := by omega
      refine ht_cons (hs_aug h2 ev_int rfl (ht_nil ⟨k - 1, by omega, by omega, ?_, h1, ?_⟩))
      · rw [← ht]
        have e : qs.take k = qs.take (k - 1) ++ [qs.getD (k - 1) 0] := by
          rw [List.getD_eq_getElem?_getD, List.getElem?_eq_getElem hlt]
          conv => lhs; rw [show k = (k - 1) + 1 from by omega]
          rw [List.take_add_one, List.getElem?_eq_getElem hlt]; rfl
        have hz : qs.getD (k - 1) 0 = 0 := Rat.num_eq_zero.mp (by simpa using hb)
        rw [e, hz, trimR_zero]
      · show some (Slot.val (I ((k : Int) - 1))) = _
        rw [show ((k - 1 : Nat) : Int) = (k : Int) - 1 from by omega]
    · have hres : trimR 0 qs = qs.take k := by
        rw [← ht]
        by_cases hk0 : k = 0
        · subst hk0; rfl
        · have hlt : k - 1 < qs.length := by omega
          have e : qs.take k = qs.take (k - 1) ++ [qs.getD (k - 1) 0] := by
            rw [List.getD_eq_getElem?_getD, List.getElem?_eq_getElem hlt]
            conv => lhs; rw [show k = (k - 1) + 1 from by omega]
            rw [List.take_add_one, List.getElem?_eq_getElem hlt]; rfl
          have hz : qs.getD (k - 1) 0 ≠ 0 := fun hz => by
            rw [hz] at h
            have : decide ((k : Int) > 0) = true := by simp; omega
            rw [this] at h; simp at h
          rw [e, trimR_ne _ hz]
      refine ht_cons (hs_ret ((ev_listOf L.ok L.list (ev_slice (ds := qs.map Q) (a := none) (b := some (k : Int)) (c := none) (ev_name h1 rfl) pt_none (pt_some (ev_name h2 rfl)) pt_none (by simp) pick_upto) rfl rfl rfl).cast ?_) rfl)
      rw [hres, LQ, List.map_take]
end Mine

namespace Mine

theorem FreeOK.mk' {scope sc : Scope} {ρ ρf : Sto} (h1 : ∀ p ∈ ρf, ∃ d, p.2 = .val d ∧ ρ.lookup p.1 = some (.val d) ∧ scope.names.lookup p.1 = some .free ∧ sc.names.lookup p.1 = some .cell ∧ (p.1 == ("__classdict__" : Str)) = false)
    (h2 : (scope.names.all fun x => x.2 != .free || (ρf.map (·.1)).contains x.1) = true) : FreeOK scope sc ρ ρf := by
  refine ⟨fun y sl e => ?_, fun x hx hk => ?_⟩
  · obtain ⟨d, a, b⟩ := h1 _ (mem_of_lookup e)
    exact ⟨d, a, b⟩
  · have := List.all_eq_true.mp h2 x hx
    rw [hk] at this
    have hc : (ρf.map (·.1)).contains x.1 = true := by simpa using this
    obtain ⟨p, hp, e⟩ := List.mem_map.mp (List.contains_iff_mem.mp hc)
    cases q : ρf.lookup x.1 with
    | some sl => exact ⟨sl, rfl⟩
    | none =>
      have := List.lookup_eq_none_iff.mp q p hp
      rw [← e] at this; simp at this

section
variable {W : Wd} {n : Nat} {sc : Scope} {ρ : Sto}
theorem ev_compM {α : Type} {ks : List α} {B : α → Sto} {G : α → D} {elt target iter : Expr} {scope : Scope} {pos : Pos} {ρf : Sto} (hi : ItS W n sc ρ target iter (ks.map B)) (hf : FreeOK scope sc ρ ρf) (hcell : ∀ y ∈ scope.names, y.2 ≠ .cell) (hkind : scope.kind = .function)
    (hnames : ∀ x ∈ scope.names, x.2 = .local → scope.names.lookup x.1 = some .local) (ht : ∀ x ∈ tnames target, scope.names.lookup x = some .local) (hdis : ∀ k, ∀ p ∈ ρf, (B k).lookup p.1 = none)
    (helt : ∀ k ∈ ks, EvS W n (relS scope sc) (B k ++ ρf) elt (G k)) : EvS W n sc ρ (.ListComp elt [⟨target, iter, [], 0⟩] scope pos) (.lst (ks.map G)) := by
  refine ev_comp hi hf hcell hkind hnames ht (by simp) (fun bs hb => ?_) fun i bs d h1 h2 => ?_
  · obtain ⟨k, _, rfl⟩ := List.mem_map.mp hb
    exact hdis k
  · rw [List.getElem?_map, Option.map_eq_some_iff] at h1 h2
    obtain ⟨k, hk, rfl⟩ := h1
    obtain ⟨k', hk', rfl⟩ := h2
    rw [hk] at hk'; cases hk'
    exact helt k (List.mem_of_getElem? hk)
theorem hs_compM {α : Type} {ks : List α} {B : α → Sto} {G : α → D} {y : Str} {py spos : Pos} {elt target iter : Expr} {scope : Scope} {pos : Pos} {ρf : Sto} {Φ : Fl → Sto → Prop} (hi : ItS W n sc ρ target iter (ks.map B)) (hf : FreeOK scope sc ρ ρf) (hcell : ∀ y ∈ scope.names, y.2 ≠ .cell) (hkind : scope.kind = .function)
    (hnames : ∀ x ∈ scope.names, x.2 = .local → scope.names.lookup x.1 = some .local) (ht : ∀ x ∈ tnames target, scope.names.lookup x = some .local) (hdis : ∀ k, ∀ p ∈ ρf, (B k).lookup p.1 = none)
    (helt : ∀ k ∈ ks, EvS W n (relS scope sc) (B k ++ ρf) elt (G k))
    (hy : sc.names.lookup y = some .local) (hline : (py.line == pos.line) = true) (hno : (scope.names.any fun (n, k) => n == y && (k == .local || k == .cell)) = false)
    (q : Φ .next ((y, .val (.lst (ks.map G))) :: ρ)) : HS W n sc ρ (.Assign [.Name y py] (.ListComp elt [⟨target, iter, [], 0⟩] scope pos) spos) Φ := by
  refine hs_comp hi hf hcell hkind hnames ht (by simp) (fun bs hb => ?_) (fun i bs d h1 h2 => ?_) hy hline hno q
  · obtain ⟨k, _, rfl⟩ := List.mem_map.mp hb
    exact hdis k
  · rw [List.getElem?_map, Option.map_eq_some_iff] at h1 h2
    obtain ⟨k, hk, rfl⟩ := h1
    obtain ⟨k', hk', rfl⟩ := h2
    rw [hk] at hk'; cases hk'
    exact helt k (List.mem_of_getElem? hk)
theorem it_listM {α : Type} {ks : List α} {F : α → D} {x : Str} {px : Pos} {iter : Expr} (hv : EvS W n sc ρ iter (.lst (ks.map F))) (hs : notSet iter = true) : ItS W n sc ρ (.Name x px) iter (ks.map fun k => [(x, Slot.val (F k))]) := by
  have := it_list (x := x) (px := px) hv hs
  rwa [List.map_map] at this
theorem it_enumM {α : Type} {ks : List α} {F : α → D} {f x y : Str} {pf pos px py pt : Pos} {kk : Nat} {e : Expr} (ok : W.OK) (hb : TyAt W f "enumerate") (hv : EvS W n sc ρ e (.lst (ks.map F))) (hx0 : sc.names.lookup f = some .globalImplicit) (hs : notStar e = true) (hd : (f == ("__debug__" : Str)) = false) :
    ItS W n sc ρ (.Tuple [.Name x px, .Name y py] kk pt) (.Call (.Name f pf) [e] [] pos) (ks.zipIdx.map fun p => [(y, Slot.val (F p.1)), (x, Slot.val (.int (p.2 : Int)))]) := by
  have := it_enum (x := x) (y := y) (px := px) (py := py) (pt := pt) (kk := kk) (pos := pos) (pf := pf) ok hb hv hx0 hs hd
  rwa [List.zipIdx_map, List.map_map] at this
end

def qaddL (a b : List Rat) : List Rat := trimR 0 ((List.range (max a.length b.length)).map fun i => a.getD i 0 + b.getD i 0)
def qscaleL (p : List Rat) (r : Rat) : List Rat := if r = 0 then [] else p.map (· * r)

variable {W : Wd}
theorem ev_cell {n : Nat} {sc : Scope} {ρ : Sto} (L : Lib W) {x t : Str} {p1 p2 p3 p4 p5 p6 p7 p8 p9 p10 : Pos} {qs : List Rat} {i : Nat} (hx : Hv ρ x (LQ qs)) (ht : Hv ρ t (I (i : Int))) (hd : (x == ("__debug__" : Str)) = false) (hd2 : (t == ("__debug__" : Str)) = false) (hg : Gl sc "R0") (hl : Gl sc "len") :
    EvS W n sc ρ (.IfExp (.Compare (.Name t p1) [.Lt] [.Call (.Name "len" p2) [.Name x p3] [] p4] p5) (.Subscript (.Name x p6) (.Name t p7) p8) (.Name "R0" p9) p10) (Q (qs.getD i 0)) := by
  refine ev_if (tr_cmp (ev_name ht hd2) (ev_len (ds := qs.map Q) L.ok L.len (ev_name hx hd) hl rfl rfl) cmp_lt rfl) (fun h => ?_) fun h => ?_
  · rw [List.length_map] at h
    have hi : i < qs.length := by have := of_decide_eq_true h; omega
    refine ev_sub_list (ds := qs.map Q) (ev_name hx hd) (ev_name ht hd2) (by omega) ?_
    simp [hi, List.getD_eq_getElem?_getD]
  · rw [List.length_map] at h
    have hi : ¬ i < qs.length := by have := of_decide_eq_false h; omega
    have e : qs.getD i 0 = 0 := by rw [List.getD_eq_getElem?_getD, List.getElem?_eq_none (by omega)]; rfl
    rw [e]
    exact ev_glob L.ok L.R0 hg rfl
theorem qadd_S (L : Lib W) (a b : List Rat) (ha : ∀ q ∈ a, Sd q) (hb : ∀ q ∈ b, Sd q) (hla : a.length ≤ 1000) (hlb : b.length ≤ 1000) : CallS W 4 "qadd" [LQ a, LQ b] (LQ (qaddL a b)) := by
  have sd0 : Sd 0 := by unfold Sd; decide
  have sdg : ∀ (l : List Rat) (i : Nat), (∀ q ∈ l, Sd q) → Sd (l.getD i 0) := fun l i h => by
    rw [List.getD_eq_getElem?_getD]
    cases e : l[i]? with
    | none => exact sd0
    | some q => exact h q (List.mem_of_getElem? e)
  refine callS_intro (ps := ["a", "b"]) L.ok L.qadd rfl rfl rfl (by decide) (by decide) rfl (fun pm code doc vs h => ?_) ?_
  · match vs, h with
    | [x, y], _ => rfl
  · refine ht_cons (hs_assign (ev_max L.ok L.max (ev_len (ds := a.map Q) L.ok L.len (ev_name rfl rfl) rfl rfl rfl) (ev_len (ds := b.map Q) L.ok L.len (ev_name rfl rfl) rfl rfl rfl) rfl rfl rfl rfl) rfl rfl ?_)
    rw [List.length_map, List.length_map]
    have hk : max (a.length : Int) (b.length : Int) = ((max a.length b.length : Nat) : Int) := by omega
    rw [hk]
    have hit := fun (sc : Scope) (ρ : Sto) (h1 : Hv ρ "size" (I ((max a.length b.length : Nat) : Int))) (h2 : Gl sc "range") (p1 p2 p3 p4 : Pos) => it_range1 (W := W) (n := 3) (sc := sc) (ρ := ρ) (x := "at") (px := p1) (pf := p2) (pos := p3) L.ok L.range (ev_name (pos := p4) h1 rfl) h2 rfl rfl ⟨by omega, by omega⟩
    simp only [Int.toNat_natCast] at hit
    refine ht_cons (hs_ret (ev_call L.ok (qtrim_S L ((List.range (max a.length b.length)).map fun i => a.getD i 0 + b.getD i 0)) (ar_cons ((ev_compM (ρf := [("a", .val (LQ a)), ("b", .val (LQ b))]) (G := fun i => Q (a.getD i 0 + b.getD i 0)) (hit _ _ rfl rfl _ _ _ _)
      (FreeOK.mk' (List.forall_mem_cons.mpr ⟨⟨_, rfl, rfl, rfl, rfl, rfl⟩, List.forall_mem_cons.mpr ⟨⟨_, rfl, rfl, rfl, rfl, rfl⟩, List.forall_mem_nil _⟩⟩) rfl) (by decide) rfl (by decide) (by decide)
      (fun k => List.forall_mem_cons.mpr ⟨rfl, List.forall_mem_cons.mpr ⟨rfl, List.forall_mem_nil _⟩⟩) fun i hi => ?_).cast ?_) ar_nil rfl) (by decide) rfl rfl rfl) rfl)
    · exact ev_call L.ok (radd_S L _ _ (sdg a i ha) (sdg b i hb)) (ar_cons (ev_cell L rfl rfl rfl rfl rfl rfl) (ar_cons (ev_cell L rfl rfl rfl rfl rfl rfl) ar_nil rfl) rfl) (by decide) rfl rfl rfl
    · rw [LQ, List.map_map]; rfl
theorem qscale_S (L : Lib W) (p : List Rat) (r : Rat) (hp : ∀ q ∈ p, Sd q ∧ q.num.natAbs < 2 ^ 60) (hr : Sd r) : CallS W 4 "qscale" [LQ p, Q r] (LQ (qscaleL p r)) := by
  refine callS_intro (ps := ["p", "r"]) L.ok L.qscale rfl rfl rfl (by decide) (by decide) rfl (fun pm code doc vs h => ?_) ?_
  · match vs, h with
    | [x, y], _ => rfl
  · refine ht_cons (hs_ret (ev_if (c := r.num != 0) (tr_cmp (ev_q0 (q := r) rfl rfl) ev_int cmp_ne rfl) (fun h => ?_) fun h => ?_) rfl)
    · have h0 : r ≠ 0 := fun e => by rw [e] at h; simp at h
      unfold qscaleL
      rw [if_neg h0]
      refine (ev_compM (ks := p) (ρf := [("r", .val (Q r))]) (G := fun q => Q (q * r)) (it_listM (F := Q) (ev_name rfl rfl) rfl) (FreeOK.mk' (List.forall_mem_cons.mpr ⟨⟨_, rfl, rfl, rfl, rfl, rfl⟩, List.forall_mem_nil _⟩) rfl) (by decide) rfl (by decide) (by decide)
        (fun k => List.forall_mem_cons.mpr ⟨rfl, List.forall_mem_nil _⟩) fun q hq => ?_).cast ?_
      · exact ev_call L.ok (rmul_S L q r (hp q hq).1 hr (hp q hq).2) (ar_cons (ev_name rfl rfl) (ar_cons (ev_name rfl rfl) ar_nil rfl) rfl) (by decide) rfl rfl rfl
      · rw [LQ, List.map_map]; rfl
    · have h0 : r = 0 := by
        have : r.num = 0 := by simpa using h
        exact Rat.num_eq_zero.mp this
      unfold qscaleL
      rw [if_pos h0]
      exact ev_lst ar_nil (by decide)
end Mine

namespace Mine

/-- the first i + 1 numbers of row n, as the program reckons them -/
def bin (n : Nat) : Nat → List Int
  | 0 => [1]
  | k + 1 => bin n k ++ [((bin n k).getD k 0 * ((n : Int) - k)).fdiv ((k : Int) + 1)]
theorem bin_length (n k : Nat) : (bin n k).length = k + 1 := by
  induction k with
  | zero => rfl
  | succ k ih => rw [bin, List.length_append, ih]; rfl

theorem ownOnly_cons {ρ : Sto} {x y : Str} {d : D} (h : ownOnly ρ x = true) : ownOnly ((y, .val d) :: ρ) x = true := by
  unfold ownOnly at h ⊢
  rw [List.all_cons, h]; rfl
theorem ownOnly_own {ρ : Sto} {x : Str} {ds : List D} (h : ownOnly ρ x = true) : ownOnly ((x, .own ds) :: ρ) x = true := by
  unfold ownOnly at h ⊢
  rw [List.all_cons, h]; simp
theorem lk_ne {ρ : Sto} {x y : Str} {sl : Slot} (h : (x == y) = false) : List.lookup x ((y, sl) :: ρ) = ρ.lookup x := by rw [List.lookup_cons, h]
theorem lk_eq {ρ : Sto} {x : Str} {sl : Slot} : List.lookup x ((x, sl) :: ρ) = some sl := by rw [List.lookup_cons]; simp

theorem its_range {k : Nat} {x : Str} {i : Nat} {bs : Sto} (h : ((List.range k).map fun (i : Nat) => [(x, Slot.val (.int (i : Int)))])[i]? = some bs) : i < k ∧ bs = [(x, .val (I (i : Int)))] := by
  rw [List.getElem?_map, Option.map_eq_some_iff] at h
  obtain ⟨j, hj, rfl⟩ := h
  obtain ⟨hlt, hj⟩ := List.getElem?_eq_some_iff.mp hj
  simp only [List.length_range] at hlt
  simp only [List.getElem_range] at hj
  subst hj
  exact ⟨hlt, rfl⟩
theorem its_range2 {k : Nat} {a : Int} {x : Str} {i : Nat} {bs : Sto} (h : ((List.range k).map fun (i : Nat) => [(x, Slot.val (.int (a + (i : Int))))])[i]? = some bs) : i < k ∧ bs = [(x, .val (I (a + (i : Int))))] := by
  rw [List.getElem?_map, Option.map_eq_some_iff] at h
  obtain ⟨j, hj, rfl⟩ := h
  obtain ⟨hlt, hj⟩ := List.getElem?_eq_some_iff.mp hj
  simp only [List.length_range] at hlt
  simp only [List.getElem_range] at hj
  subst hj
  exact ⟨hlt, rfl⟩

variable {W : Wd}
theorem binomial_S (L : Lib W) (n : Nat) (hn : n ≤ 100) : CallS W 1 "binomial_row" [I (n : Int)] (LI (bin n n)) := by
  refine callS_intro (ps := ["n"]) L.ok L.binomial_row rfl rfl rfl (by decide) (by decide) rfl (fun pm code doc vs h => ?_) ?_
  · match vs, h with
    | [x], _ => rfl
  · refine ht_cons (hs_own (ar_cons ev_int ar_nil rfl) (show 1 ≤ sizeLine from by decide) rfl ?_)
    have hit := fun (sc : Scope) (ρ : Sto) (h1 : Hv ρ "n" (I (n : Int))) (h2 : Gl sc "range") (p1 p2 p3 p4 : Pos) => it_range1 (W := W) (n := 0) (sc := sc) (ρ := ρ) (x := "k") (px := p1) (pf := p2) (pos := p3) L.ok L.range (ev_name (pos := p4) h1 rfl) h2 rfl rfl ⟨by omega, by omega⟩
    simp only [Int.toNat_natCast] at hit
    refine ht_cons (hs_for (fun i ρ => ownOnly ρ "found" = true ∧ Ho ρ "found" ((bin n i).map .int) ∧ Hv ρ "n" (I (n : Int))) (hit _ _ rfl rfl _ _ _ _) (by decide) ⟨rfl, rfl, rfl⟩ (fun i bs ρ hb ⟨h1, h2, h3⟩ => ?_) fun ρ ⟨h1, h2, h3⟩ => ?_)
    · obtain ⟨hi, rfl⟩ := its_range hb
      refine ht_cons (hs_append (ds := (bin n i).map .int) (d := I (((bin n i).getD i 0 * ((n : Int) - i)).fdiv ((i : Int) + 1))) ?_ (ownOnly_cons h1) ?_ (by rw [List.length_map, bin_length]; have : sizeLine = 2 ^ 24 := rfl; omega) rfl rfl rfl (ht_nil ⟨ownOnly_own (ownOnly_cons h1), ?_, ?_⟩))
      · exact (lk_ne rfl).trans h2
      · refine ev_fdiv (ev_mul (ev_sub_own (ds := (bin n i).map .int) (i := (i : Int)) ((lk_ne rfl).trans h2) (ev_name rfl rfl) (by omega) ?_ rfl) (ev_sub (ev_name ((lk_ne rfl).trans h3) rfl) (ev_name rfl rfl)) (mulOk_r (by omega))) (ev_add (ev_name rfl rfl) ev_int) (by omega) (log2_lt (k := 64) (by omega) (by decide) (by decide))
        have := bin_length n i
        simp [this, List.getD_eq_getElem?_getD]
      · show some _ = _
        rw [bin, List.map_append]; rfl
      · exact (lk_ne rfl).trans ((lk_ne rfl).trans h3)
    · rw [List.length_map, List.length_range] at h2
      exact ht_cons (hs_retOwn h2 rfl rfl)

/-- the Bernoulli numbers, as the program reckons them -/
def tot (row : List Int) (found : List Rat) : Nat → Rat
  | 0 => 0
  | k + 1 => tot row found k + (row.getD k 0 : Int) * found.getD k 0
def bern : Nat → List Rat
  | 0 => [1]
  | m + 1 => bern m ++ [-(tot (bin (m + 2) (m + 2)) (bern m) (m + 1) / ((m + 2 : Nat) : Rat))]
theorem bern_length (m : Nat) : (bern m).length = m + 1 := by
  induction m with
  | zero => rfl
  | succ m ih => rw [bern, List.length_append, ih]; rfl
def powL (k : Nat) : List Rat := 0 :: (List.range (k + 1)).map fun i => ((bin (k + 1) (k + 1)).getD (i + 1) 0 : Int) * (bern k).getD (k - i) 0 / ((k + 1 : Nat) : Rat)

abbrev SmQ (q : Rat) : Prop := q.den < 2 ^ 30 ∧ q.num.natAbs < 2 ^ 30
theorem bern_small : ∀ m < 4, (∀ q ∈ bern m, SmQ q) ∧ ∀ k < m + 2, SmQ (tot (bin (m + 2) (m + 2)) (bern m) k) ∧ SmQ (((bin (m + 2) (m + 2)).getD k 0 : Int) * (bern m).getD k 0) := by decide +kernel
theorem bin_small : ∀ m < 6, ∀ i ∈ bin m m, i.natAbs < 2 ^ 30 := by decide +kernel
theorem pow_small : ∀ k < 4, (∀ q ∈ powL k, q.den ≤ 6 ∧ q.num.natAbs ≤ 6) ∧ ∀ i < k + 1, SmQ (((bin (k + 1) (k + 1)).getD (i + 1) 0 : Int) * (bern k).getD (k - i) 0) := by decide +kernel
end Mine

namespace Mine

theorem SmQ.sd {q : Rat} (h : SmQ q) : Sd q := Nat.lt_trans h.1 (by decide)
theorem Q_int (i : Int) : Q (i : Rat) = .tup [I i, I 1] := rfl
theorem Q_nat (k : Nat) : Q ((k : Nat) : Rat) = .tup [I (k : Int), I 1] := rfl
theorem divInt_one (i : Int) : Rat.divInt i 1 = (i : Rat) := by apply Rat.ext <;> simp [Rat.num_divInt, Rat.den_divInt]
theorem sd_int (i : Int) : Sd (i : Rat) := by show 1 < 2 ^ 60; decide
theorem ne_nat (k : Nat) : ((k + 1 : Nat) : Rat) ≠ 0 := fun h => by
  have : ((k + 1 : Nat) : Int) = 0 := congrArg Rat.num h
  omega

section
variable {W : Wd} {n : Nat} {sc : Scope} {ρ : Sto}
/-- rat(x, 1) -/
theorem ev_ratInt (L : Lib W) {e : Expr} {p pos p2 : Pos} {k : Nat} {i : Int} (he : EvS W n sc ρ e (I i)) (hs : notStar e = true) (hg : Gl sc "rat") (hn : 2 ≤ n) : EvS W n sc ρ (.Call (.Name "rat" p) [e, .Constant (.int 1) k p2] [] pos) (Q (i : Rat)) := by
  have := rat_S L i 1 (by decide) (by decide)
  rw [divInt_one] at this
  exact ev_call L.ok this (ar_cons he (ar_cons ev_int ar_nil rfl) hs) hn hg hs rfl
/-- (k + 1, 1) -/
theorem ev_natPair {x : Str} {p p1 p2 p3 p4 : Pos} {a b c : Nat} {k : Nat} (hx : Hv ρ x (I (k : Int))) (hd : (x == ("__debug__" : Str)) = false) : EvS W n sc ρ (.Tuple [.BinOp (.Name x p) .Add (.Constant (.int 1) a p1) p2, .Constant (.int 1) b p3] c p4) (Q ((k + 1 : Nat) : Rat)) :=
  (ev_tup (ar_cons (ev_add (ev_name hx hd) ev_int) (ar_cons ev_int ar_nil rfl) rfl) (show 2 ≤ sizeLine from by decide)).cast (by rw [Q_nat]; rfl)
end

variable {W : Wd}
theorem bernoulli_S (L : Lib W) (n : Nat) (hn : n < 4) : CallS W 4 "bernoulli_row" [I (n : Int)] (LQ (bern n)) := by
  refine callS_intro (ps := ["n"]) L.ok L.bernoulli_row rfl rfl rfl (by decide) (by decide) rfl (fun pm code doc vs h => ?_) ?_
  · match vs, h with
    | [x], _ => rfl
  · refine ht_cons (hs_own (ar_cons (ev_glob L.ok L.R1 rfl rfl) ar_nil rfl) (show 1 ≤ sizeLine from by decide) rfl ?_)
    have hit := fun (sc : Scope) (ρ : Sto) (h1 : Hv ρ "n" (I (n : Int))) (h2 : Gl sc "range") (p1 p2 p3 p4 p5 p6 p7 : Pos) (c d : Nat) => it_range2 (W := W) (n := 3) (sc := sc) (ρ := ρ) (x := "m") (px := p1) (pf := p2) (pos := p3) L.ok L.range (ev_int (i := 1) (k := c) (pos := p7)) (ev_add (pos := p6) (ev_name (pos := p4) h1 rfl) (ev_int (i := 1) (k := d) (pos := p5))) h2 rfl rfl rfl ⟨by omega, by omega⟩ ⟨by omega, by omega⟩
    rw [show ((n : Int) + 1 - 1).toNat = n from by omega] at hit
    refine ht_cons (hs_for (fun i ρ => ownOnly ρ "found" = true ∧ Ho ρ "found" ((bern i).map Q)) (hit _ _ rfl rfl _ _ _ _ _ _ _ _ _) (by decide) ⟨rfl, rfl⟩ (fun i bs ρ hb ⟨h1, h2⟩ => ?_) fun ρ ⟨h1, h2⟩ => ?_)
    · obtain ⟨hi, rfl⟩ := its_range2 hb
      have hm : (1 : Int) + (i : Int) = ((i + 1 : Nat) : Int) := by omega
      rw [hm]
      have hbs := bern_small i (by omega)
      have hbin := binomial_S L (i + 2) (by omega)
      have gd : ∀ k, k < i + 1 → ∃ q, (bern i)[k]? = some q ∧ (bern i).getD k 0 = q ∧ SmQ q := fun k hk => by
        have hlt : k < (bern i).length := by rw [bern_length]; exact hk
        exact ⟨(bern i)[k], by simp [hlt], by simp [List.getD_eq_getElem?_getD, hlt], hbs.1 _ (List.getElem_mem hlt)⟩
      have gb : ∀ k, k < i + 1 → ∃ j, (bin (i + 2) (i + 2))[k]? = some j ∧ (bin (i + 2) (i + 2)).getD k 0 = j ∧ j.natAbs < 2 ^ 30 := fun k hk => by
        have hlt : k < (bin (i + 2) (i + 2)).length := by rw [bin_length]; omega
        exact ⟨(bin (i + 2) (i + 2))[k], by simp [hlt], by simp [List.getD_eq_getElem?_getD, hlt], bin_small (i + 2) (by omega) _ (List.getElem_mem hlt)⟩
      refine ht_cons (hs_assign2 ((ev_call L.ok (hbin.le (show 1 ≤ 3 by decide)) (ar_cons ((ev_add (ev_name rfl rfl) ev_int).cast ?_) ar_nil rfl) (Nat.le_refl _) rfl rfl rfl)) (ev_glob L.ok L.R0 rfl rfl) rfl rfl rfl rfl rfl rfl rfl rfl ?_)
      · show D.int _ = D.int _
        congr 1
      have hit2 := fun (sc : Scope) (ρ : Sto) (h1 : Hv ρ "m" (I ((i + 1 : Nat) : Int))) (h2 : Gl sc "range") (p1 p2 p3 p4 : Pos) => it_range1 (W := W) (n := 3) (sc := sc) (ρ := ρ) (x := "k") (px := p1) (pf := p2) (pos := p3) L.ok L.range (ev_name (pos := p4) h1 rfl) h2 rfl rfl ⟨by omega, by omega⟩
      simp only [Int.toNat_natCast] at hit2
      refine ht_cons (hs_for (fun k ρ => ownOnly ρ "found" = true ∧ Ho ρ "found" ((bern i).map Q) ∧ Hv ρ "m" (I ((i + 1 : Nat) : Int)) ∧ Hv ρ "row" (LI (bin (i + 2) (i + 2))) ∧ Hv ρ "total" (Q (tot (bin (i + 2) (i + 2)) (bern i) k))) (hit2 _ _ rfl rfl _ _ _ _) (by decide)
        ⟨ownOnly_cons (ownOnly_cons (ownOnly_cons h1)), h2, rfl, rfl, rfl⟩ (fun k bs ρ hb ⟨g1, g2, g3, g4, g5⟩ => ?_) fun ρ ⟨g1, g2, g3, g4, g5⟩ => ?_)
      · obtain ⟨hk, rfl⟩ := its_range hb
        obtain ⟨q, q1, q2, q3⟩ := gd k hk
        obtain ⟨j, j1, j2, j3⟩ := gb k hk
        have hsm := hbs.2 k (by omega)
        rw [j2, q2] at hsm
        refine ht_cons (hs_assign (ev_call L.ok (radd_S L _ _ hsm.1.sd hsm.2.sd) (ar_cons (ev_name ((lk_ne rfl).trans g5) rfl) (ar_cons (ev_call L.ok (rmul_S L _ q (sd_int j) q3.sd (by show j.natAbs < 2 ^ 60; omega)) (ar_cons (ev_ratInt L (ev_sub_list (ds := (bin (i + 2) (i + 2)).map .int) (i := (k : Int)) (d := I j) (ev_name ((lk_ne rfl).trans g4) rfl) (ev_name rfl rfl) (by omega) (by simp [j1])) rfl rfl (by decide)) (ar_cons (ev_sub_own (ds := (bern i).map Q) (i := (k : Int)) (d := Q q) ((lk_ne rfl).trans g2) (ev_name rfl rfl) (by omega) (by simp [q1]) rfl) ar_nil rfl) rfl) (Nat.le_refl _) rfl rfl rfl) ar_nil rfl) rfl) (Nat.le_refl _) rfl rfl rfl) rfl rfl (ht_nil ⟨?_, ?_, ?_, ?_, ?_⟩))
        · exact ownOnly_cons (ownOnly_cons g1)
        · exact (lk_ne rfl).trans ((lk_ne rfl).trans g2)
        · exact (lk_ne rfl).trans ((lk_ne rfl).trans g3)
        · exact (lk_ne rfl).trans ((lk_ne rfl).trans g4)
        · show some _ = _
          rw [tot, j2, q2]
      · rw [List.length_map, List.length_range] at g5
        have hsm := (hbs.2 (i + 1) (by omega)).1
        have hdn : (((i + 1) + 1 : Nat) : Rat).num.natAbs < 2 ^ 60 := by show (((i + 1) + 1 : Nat) : Int).natAbs < 2 ^ 60; omega
        have hds : Sd (((i + 1) + 1 : Nat) : Rat) := by show 1 < 2 ^ 60; decide
        refine ht_cons (hs_append (ds := (bern i).map Q) g2 g1 (ev_call L.ok ((rneg_S L _).le (show 1 ≤ 3 by decide)) (ar_cons (ev_call L.ok (rdiv_S L _ _ hsm.sd hds (ne_nat _) hdn) (ar_cons (ev_name g5 rfl) (ar_cons (ev_natPair g3 rfl) ar_nil rfl) rfl) (Nat.le_refl _) rfl rfl rfl) ar_nil rfl) (Nat.le_refl _) rfl rfl rfl)
          (by rw [List.length_map, bern_length]; have : sizeLine = 2 ^ 24 := rfl; omega) rfl rfl rfl (ht_nil ⟨ownOnly_own g1, ?_⟩))
        show some _ = _
        rw [bern, List.map_append]; rfl
    · rw [List.length_map, List.length_range] at h2
      exact ht_cons (hs_retOwn h2 rfl rfl)
end Mine

namespace Mine
variable {W : Wd}

def powT (k i : Nat) : Rat := ((bin (k + 1) (k + 1)).getD (i + 1) 0 : Int) * (bern k).getD (k - i) 0 / ((k + 1 : Nat) : Rat)
theorem powL_eq (k : Nat) : powL k = 0 :: (List.range (k + 1)).map (powT k) := rfl
theorem power_S (L : Lib W) (k : Nat) (hk : k < 4) : CallS W 5 "power_sum" [I (k : Int)] (LQ (powL k)) := by
  refine callS_intro (ps := ["k"]) L.ok L.power_sum rfl rfl rfl (by decide) (by decide) rfl (fun pm code doc vs h => ?_) ?_
  · match vs, h with
    | [x], _ => rfl
  · have hbin := (binomial_S L (k + 1) (by omega)).le (show 1 ≤ 4 by decide)
    have hbern := bernoulli_S L k hk
    refine ht_cons (hs_assign2 (ev_call L.ok hbin (ar_cons ((ev_add (ev_name (d := I (k : Int)) rfl rfl) ev_int).cast rfl) ar_nil rfl) (Nat.le_refl _) rfl rfl rfl) (ev_call L.ok hbern (ar_cons (ev_name (d := I (k : Int)) rfl rfl) ar_nil rfl) (Nat.le_refl _) rfl rfl rfl) rfl rfl rfl rfl rfl rfl rfl rfl ?_)
    refine ht_cons (hs_own (ar_cons (ev_glob L.ok L.R0 rfl rfl) ar_nil rfl) (show 1 ≤ sizeLine from by decide) rfl ?_)
    have hit := fun (sc : Scope) (ρ : Sto) (h1 : Hv ρ "k" (I (k : Int))) (h2 : Gl sc "range") (p1 p2 p3 p4 p5 p6 p7 : Pos) (c d : Nat) => it_range2 (W := W) (n := 4) (sc := sc) (ρ := ρ) (x := "power") (px := p1) (pf := p2) (pos := p3) L.ok L.range (ev_int (i := 1) (k := c) (pos := p7)) (ev_add (pos := p6) (ev_name (pos := p4) h1 rfl) (ev_int (i := 2) (k := d) (pos := p5))) h2 rfl rfl rfl ⟨by omega, by omega⟩ ⟨by omega, by omega⟩
    rw [show ((k : Int) + 2 - 1).toNat = k + 1 from by omega] at hit
    refine ht_cons (hs_for (fun i ρ => ownOnly ρ "found" = true ∧ Ho ρ "found" ((0 :: (List.range i).map (powT k)).map Q) ∧ Hv ρ "k" (I (k : Int)) ∧ Hv ρ "row" (LI (bin (k + 1) (k + 1))) ∧ Hv ρ "known" (LQ (bern k))) (hit _ _ rfl rfl _ _ _ _ _ _ _ _ _) (by decide) ⟨rfl, rfl, rfl, rfl, rfl⟩ (fun i bs ρ hb ⟨g1, g2, g3, g4, g5⟩ => ?_) fun ρ ⟨g1, g2, g3, g4, g5⟩ => ?_)
    · obtain ⟨hi, rfl⟩ := its_range2 hb
      have hlt : i + 1 < (bin (k + 1) (k + 1)).length := by rw [bin_length]; omega
      have hlt2 : k - i < (bern k).length := by rw [bern_length]; omega
      have hsm := (pow_small k hk).2 i hi
      have hj := bin_small (k + 1) (by omega) _ (List.getElem_mem hlt)
      have hq := (bern_small k hk).1 _ (List.getElem_mem hlt2)
      have e1 : (bin (k + 1) (k + 1)).getD (i + 1) 0 = (bin (k + 1) (k + 1))[i + 1] := by simp [List.getD_eq_getElem?_getD, hlt]
      have e2 : (bern k).getD (k - i) 0 = (bern k)[k - i] := by simp [List.getD_eq_getElem?_getD, hlt2]
      rw [e1, e2] at hsm
      have hdn : ((k + 1 : Nat) : Rat).num.natAbs < 2 ^ 60 := by show ((k + 1 : Nat) : Int).natAbs < 2 ^ 60; omega
      have hds : Sd ((k + 1 : Nat) : Rat) := by show 1 < 2 ^ 60; decide
      refine ht_cons (hs_append (ds := (0 :: (List.range i).map (powT k)).map Q) (d := Q (powT k i)) ((lk_ne rfl).trans g2) (ownOnly_cons g1) ((ev_call L.ok ((rdiv_S L _ _ hsm.sd hds (ne_nat _) hdn).le (show 3 ≤ 4 by decide)) (ar_cons (ev_call L.ok ((rmul_S L _ _ (sd_int _) hq.sd (Nat.lt_trans hj (by decide))).le (show 3 ≤ 4 by decide)) (ar_cons (ev_ratInt L (ev_sub_list (ds := (bin (k + 1) (k + 1)).map .int) (i := 1 + (i : Int)) (d := I (bin (k + 1) (k + 1))[i + 1]) (ev_name ((lk_ne rfl).trans g4) rfl) (ev_name rfl rfl) (by omega) ?_) rfl rfl (by decide))
        (ar_cons (ev_sub_list (ds := (bern k).map Q) (i := (k : Int) + 1 - (1 + (i : Int))) (d := Q (bern k)[k - i]) (ev_name ((lk_ne rfl).trans g5) rfl) (ev_sub (ev_add (ev_name ((lk_ne rfl).trans g3) rfl) ev_int) (ev_name rfl rfl)) (by omega) ?_) ar_nil rfl) rfl) (Nat.le_refl _) rfl rfl rfl) (ar_cons (ev_natPair ((lk_ne rfl).trans g3) rfl) ar_nil rfl) rfl) (Nat.le_refl _) rfl rfl rfl).cast ?_) ?_ rfl rfl rfl (ht_nil ⟨ownOnly_own (ownOnly_cons g1), ?_, ?_, ?_, ?_⟩))
      · rw [show ((1 : Int) + (i : Int)).toNat = i + 1 from by omega]; simp [hlt]
      · rw [show ((k : Int) + 1 - (1 + (i : Int))).toNat = k - i from by omega]; simp [hlt2]
      · unfold powT; rw [e1, e2]
      · rw [List.length_map, List.length_cons, List.length_map, List.length_range]; have : sizeLine = 2 ^ 24 := rfl; omega
      · show some _ = _
        rw [show (0 :: (List.range (i + 1)).map (powT k)) = (0 :: (List.range i).map (powT k)) ++ [powT k i] from by rw [List.range_succ, List.map_append]; rfl, List.map_append]; rfl
      · exact (lk_ne rfl).trans ((lk_ne rfl).trans g3)
      · exact (lk_ne rfl).trans ((lk_ne rfl).trans g4)
      · exact (lk_ne rfl).trans ((lk_ne rfl).trans g5)
    · rw [List.length_map, List.length_range] at g2
      exact ht_cons (hs_retOwn g2 rfl (by rw [powL_eq]; rfl))

/-- polynomial_sum, as the program reckons it -/
def psumFrom : Nat → List Rat → List Rat → List Rat
  | _, [], found => found
  | i, c :: r, found => psumFrom (i + 1) r (if c = 0 then found else qaddL found (qscaleL (powL i) c))
def psum (p : List Rat) : List Rat := psumFrom 0 p []

theorem den_mul_le (x y : Rat) : (x * y).den ≤ x.den * y.den := by
  rw [Rat.mul_def', Rat.den_mkRat]
  split
  · rename_i h; exact absurd h (Nat.mul_ne_zero x.den_nz y.den_nz)
  · exact Nat.div_le_self _ _
theorem den_add_le (x y : Rat) : (x + y).den ≤ x.den * y.den := by
  rw [Rat.add_def', Rat.den_mkRat]
  split
  · rename_i h; exact absurd h (Nat.mul_ne_zero x.den_nz y.den_nz)
  · exact Nat.div_le_self _ _
theorem getD_den {l : List Rat} {B : Nat} (hB : 1 ≤ B) (h : ∀ q ∈ l, q.den ≤ B) (i : Nat) : (l.getD i 0).den ≤ B := by
  rw [List.getD_eq_getElem?_getD]
  cases e : l[i]? with
  | none => exact hB
  | some q => exact h q (List.mem_of_getElem? e)
theorem qaddL_den {a b : List Rat} {A B : Nat} (hA : 1 ≤ A) (hB : 1 ≤ B) (ha : ∀ q ∈ a, q.den ≤ A) (hb : ∀ q ∈ b, q.den ≤ B) : ∀ q ∈ qaddL a b, q.den ≤ A * B := fun q hq => by
  obtain ⟨i, _, rfl⟩ := List.mem_map.mp (trimR_sub _ _ _ hq)
  exact Nat.le_trans (den_add_le _ _) (Nat.mul_le_mul (getD_den hA ha i) (getD_den hB hb i))
theorem qaddL_length (a b : List Rat) : (qaddL a b).length ≤ max a.length b.length := by
  have := trimR_length (0 : Rat) ((List.range (max a.length b.length)).map fun i => a.getD i 0 + b.getD i 0)
  rwa [List.length_map, List.length_range] at this
theorem qscaleL_den {p : List Rat} {r : Rat} {A B : Nat} (hp : ∀ q ∈ p, q.den ≤ A) (hr : r.den ≤ B) : ∀ q ∈ qscaleL p r, q.den ≤ A * B := fun q hq => by
  unfold qscaleL at hq
  split at hq
  · cases hq
  · obtain ⟨x, hx, rfl⟩ := List.mem_map.mp hq
    exact Nat.le_trans (den_mul_le _ _) (Nat.mul_le_mul (hp x hx) hr)
theorem qscaleL_length (p : List Rat) (r : Rat) : (qscaleL p r).length ≤ p.length := by
  unfold qscaleL; split <;> simp
theorem powL_length (k : Nat) : (powL k).length = k + 2 := by rw [powL_eq]; simp

theorem eqv_ints2 (a b c d : Int) : PyData.eqv (toP (.tup [I a, I b])) (toP (.tup [I c, I d])) = (decide (a = c) && decide (b = d)) := by
  rw [Bool.eq_iff_iff]
  simp [toP, toPs, PyData.eqv, PyData.eqvAll]
theorem q_zero_iff (q : Rat) : (decide (q.num = 0) && decide ((q.den : Int) = 1)) = decide (q = 0) := by
  by_cases h : q = 0
  · subst h; rfl
  · have : q.num ≠ 0 := fun e => h (Rat.num_eq_zero.mp e)
    simp [h, this]

theorem polysum_S (L : Lib W) (p : List Rat) (hl : p.length ≤ 4) (hd : ∀ c ∈ p, c.den ≤ 72) : CallS W 6 "polynomial_sum" [LQ p] (LQ (psum p)) := by
  refine callS_intro (ps := ["p"]) L.ok L.polynomial_sum rfl rfl rfl (by decide) (by decide) rfl (fun pm code doc vs h => ?_) ?_
  · match vs, h with
    | [x], _ => rfl
  · refine ht_cons (hs_assign (ev_lst ar_nil (by decide)) rfl rfl ?_)
    refine ht_cons (hs_for (fun i ρ => ∃ found, psumFrom i (p.drop i) found = psum p ∧ found.length ≤ 6 ∧ (∀ q ∈ found, q.den ≤ 432 ^ i) ∧ Hv ρ "found" (LQ found)) (it_enumM (ks := p) (F := Q) L.ok L.enumerate (ev_name rfl rfl) rfl rfl rfl) (by decide) ⟨[], rfl, by simp, (fun q h => (nomatch h)), rfl⟩ (fun i bs ρ hb ⟨found, f1, f2, f3, f4⟩ => ?_) fun ρ ⟨found, f1, f2, f3, f4⟩ => ?_)
    · obtain ⟨hi, c, hc, rfl⟩ : i < 4 ∧ ∃ c, p[i]? = some c ∧ bs = [(("coefficient" : Str), .val (Q c)), (("power" : Str), .val (I (i : Int)))] := by
        rw [List.getElem?_map, Option.map_eq_some_iff] at hb
        obtain ⟨⟨c, j⟩, hj, rfl⟩ := hb
        rw [List.getElem?_zipIdx, Option.map_eq_some_iff] at hj
        obtain ⟨c', h1, h2⟩ := hj
        cases h2
        have := (List.getElem?_eq_some_iff.mp h1).1
        exact ⟨by omega, _, h1, by simp⟩
      have hdrop : p.drop i = c :: p.drop (i + 1) := by
        obtain ⟨hlt, e⟩ := List.getElem?_eq_some_iff.mp hc
        rw [List.drop_eq_getElem_cons hlt, e]
      have hcd := hd c (List.mem_of_getElem? hc)
      rw [hdrop, psumFrom] at f1
      refine ht_cons (hs_if (c := !(decide (c.num = 0) && decide ((c.den : Int) = 1))) (tr_cmp (ev_name (d := Q c) rfl rfl) (ev_glob L.ok L.R0 rfl rfl) (cmp_dne rfl rfl (eqv_ints2 _ _ _ _)) rfl) (fun h => ?_) fun h => ?_)
      · rw [q_zero_iff] at h
        have h0 : c ≠ 0 := by simpa using h
        rw [if_neg h0] at f1
        have hpow := (pow_small i hi).1
        have hpd : (432 : Nat) ^ i < 2 ^ 60 := Nat.lt_of_le_of_lt (Nat.pow_le_pow_right (by decide) (show i ≤ 3 by omega)) (by decide)
        have hsc : ∀ q ∈ qscaleL (powL i) c, q.den ≤ 6 * 72 := qscaleL_den (fun q hq => (hpow q hq).1) hcd
        have hlen := qscaleL_length (powL i) c
        rw [powL_length] at hlen
        refine ht_cons (hs_assign (ev_call L.ok ((qadd_S L found (qscaleL (powL i) c) (fun q hq => Nat.lt_of_le_of_lt (f3 q hq) hpd) (fun q hq => Nat.lt_of_le_of_lt (hsc q hq) (by decide)) (by omega) (by omega)).le (show 4 ≤ 5 by decide)) (ar_cons (ev_name ((lk_ne rfl).trans ((lk_ne rfl).trans f4)) rfl) (ar_cons (ev_call L.ok ((qscale_S L (powL i) c (fun q hq => ⟨Nat.lt_of_le_of_lt (hpow q hq).1 (by decide), Nat.lt_of_le_of_lt (hpow q hq).2 (by decide)⟩) (Nat.lt_of_le_of_lt hcd (by decide))).le (show 4 ≤ 5 by decide)) (ar_cons (ev_call L.ok (power_S L i hi) (ar_cons (ev_name rfl rfl) ar_nil rfl) (Nat.le_refl _) rfl rfl rfl) (ar_cons (ev_name rfl rfl) ar_nil rfl) rfl) (Nat.le_refl _) rfl rfl rfl) ar_nil rfl) rfl) (Nat.le_refl _) rfl rfl rfl) rfl rfl (ht_nil (ht_nil ⟨_, f1, ?_, ?_, rfl⟩)))
        · have := qaddL_length found (qscaleL (powL i) c); omega
        · intro q hq
          rw [Nat.pow_succ]
          exact qaddL_den (Nat.one_le_pow _ _ (by decide)) (by decide) f3 hsc q hq
      · rw [q_zero_iff] at h
        have h0 : c = 0 := by simpa using h
        rw [if_pos h0] at f1
        exact ht_nil (ht_nil ⟨found, f1, f2, fun q hq => Nat.le_trans (f3 q hq) (Nat.pow_le_pow_right (by decide) (by omega)), (lk_ne rfl).trans ((lk_ne rfl).trans f4)⟩)
    · rw [List.length_map, List.length_zipIdx] at f1
      rw [List.drop_length] at f1
      rw [← f1]
      exact ht_cons (hs_ret (ev_name f4 rfl) rfl)
end Mine

namespace Mine

theorem toPs_int (xs : List Int) : toPs (xs.map D.int) = xs.map PyData.int := by
  induction xs with
  | nil => rfl
  | cons x r ih => rw [List.map_cons, toPs, ih]; rfl
theorem ints_lay (xs : List Int) : PyData.canLayAll0 (xs.map PyData.int) = true ∧ PyData.depthAll (xs.map PyData.int) ≤ 1 := by
  induction xs with
  | nil => simp [PyData.canLayAll0, PyData.depthAll]
  | cons x r ih => simp [PyData.canLayAll0, PyData.depthAll, PyData.canLay0, PyData.depth, ih.1, ih.2]
theorem shaped_LI (xs : List Int) : SeqAt.shaped (toP (LI xs)) = true := by
  have h := ints_lay xs
  unfold SeqAt.shaped
  rw [LI, toP, toPs_int, PyData.canLay0, PyData.depth, h.1]
  have h2 := h.2
  simp; omega
theorem toPs_Q (qs : List Rat) : toPs (qs.map Q) = qs.map fun q => .tuple [.int q.num, .int (q.den : Int)] := by
  induction qs with
  | nil => rfl
  | cons x r ih => rw [List.map_cons, toPs, ih]; rfl
theorem rats_lay (qs : List Rat) : PyData.canLayAll0 (qs.map fun q => PyData.tuple [.int q.num, .int (q.den : Int)]) = true ∧ PyData.depthAll (qs.map fun q => PyData.tuple [.int q.num, .int (q.den : Int)]) ≤ 3 := by
  induction qs with
  | nil => simp [PyData.canLayAll0, PyData.depthAll]
  | cons x r ih =>
    have h := ih.2
    simp [PyData.canLayAll0, PyData.depthAll, PyData.canLay0, PyData.depth, ih.1]
    omega
theorem shaped_LQ (qs : List Rat) : SeqAt.shaped (toP (LQ qs)) = true := by
  have h := rats_lay qs
  unfold SeqAt.shaped
  rw [LQ, toP, toPs_Q, PyData.canLay0, PyData.depth, h.1]
  have h2 := h.2
  simp; omega
theorem eqv_same {d : D} (h : SeqAt.shaped (toP d) = true) : PyData.eqv (toP d) (toP d) = true := by
  unfold SeqAt.shaped at h
  exact SeqAt.eqv_refl _ (Bool.and_eq_true_iff.mp h).1
theorem cmp_LI_eq (xs : List Int) : CmpS .Eq (LI xs) (LI xs) true := cmp_deq (shaped_LI _) (shaped_LI _) (eqv_same (shaped_LI _))
theorem cmp_LI_ne (xs : List Int) : CmpS .NotEq (LI xs) (LI xs) false := cmp_dne (shaped_LI _) (shaped_LI _) (eqv_same (shaped_LI _))
theorem cmp_LQ_eq (xs : List Rat) : CmpS .Eq (LQ xs) (LQ xs) true := cmp_deq (shaped_LQ _) (shaped_LQ _) (eqv_same (shaped_LQ _))
theorem cmp_LQ_ne (xs : List Rat) : CmpS .NotEq (LQ xs) (LQ xs) false := cmp_dne (shaped_LQ _) (shaped_LQ _) (eqv_same (shaped_LQ _))
theorem cmp_nil_ne (xs : List Int) : CmpS .NotEq (LI xs) (.lst []) (!xs.isEmpty) := by
  refine cmp_dne (shaped_LI _) (shaped_LI []) ?_
  cases xs with
  | nil => rfl
  | cons x r => simp [LI, toP, toPs, PyData.eqv, PyData.eqvAll]

structure LawLib (W : Wd) : Prop where
  lib : Lib W
  trim : DefI W 23 "_law_trim"
  plus : DefI W 24 "_law_plus"
  atLine : DefI W 25 "_law_at_line"
  ratios : DefI W 26 "_law_ratios"

def plusL (a b : List Int) (t : Int) : List Int := trimR 0 ((List.range (max a.length b.length)).map fun i => a.getD i 0 + t * b.getD i 0)
def atStep (slope start : Int) (x : Int) (f : List Int) : List Int := plusL (plusL (0 :: f.map (slope * ·)) f start) [x] 1
def atL (row : List Int) (slope start : Int) : List Int := row.foldr (atStep slope start) []
theorem plusL_length (a b : List Int) (t : Int) : (plusL a b t).length ≤ max a.length b.length := by
  have := trimR_length (0 : Int) ((List.range (max a.length b.length)).map fun i => a.getD i 0 + t * b.getD i 0)
  rwa [List.length_map, List.length_range] at this
theorem atL_length (row : List Int) (slope start : Int) : (atL row slope start).length ≤ row.length := by
  induction row with
  | nil => simp [atL]
  | cons x r ih =>
    have h1 := plusL_length (plusL (0 :: (atL r slope start).map (slope * ·)) (atL r slope start) start) [x] 1
    have h2 := plusL_length (0 :: (atL r slope start).map (slope * ·)) (atL r slope start) start
    show (atStep slope start x (atL r slope start)).length ≤ _
    unfold atStep
    simp only [List.length_cons, List.length_map, List.length_nil] at h1 h2 ⊢
    omega

variable {W : Wd}
theorem lawTrim_S (L : LawLib W) (xs : List Int) : CallS W 1 "_law_trim" [LI xs] (LI (trimR 0 xs)) := by
  refine callS_intro (ps := ["row"]) L.lib.ok L.trim rfl rfl rfl (by decide) (by decide) rfl (fun pm code doc vs h => ?_) ?_
  · match vs, h with
    | [x], _ => rfl
  · refine ht_cons (hs_while (fun k ρ => ∃ ys : List Int, ys.length = k ∧ trimR 0 ys = trimR 0 xs ∧ Hv ρ "row" (LI ys)) xs.length ⟨xs, rfl, rfl, rfl⟩ ?_)
    rintro k ρ ⟨ys, rfl, ht, h1⟩
    have hlast : ys ≠ [] → ys.take (ys.length - 1) ++ [ys.getD (ys.length - 1) 0] = ys := fun hne => by
      have hlt : ys.length - 1 < ys.length := by have := List.length_pos_iff.mpr hne; omega
      rw [List.getD_eq_getElem?_getD, List.getElem?_eq_getElem hlt, ← List.dropLast_eq_take]
      simp only [Option.getD_some]
      rw [← List.getLast_eq_getElem hne]
      exact List.dropLast_concat_getLast hne
    refine ⟨!ys.isEmpty && (ys.getD (ys.length - 1) 0 == 0), tr_and2 (tr_cmp (ev_name h1 rfl) (ev_lst ar_nil (by decide)) (cmp_nil_ne ys) rfl) (fun h => tr_cmp (ev_sub_last (ds := ys.map .int) (d := I (ys.getD (ys.length - 1) 0)) (ev_name h1 rfl) (ev_neg ev_int) ?_) ev_int cmp_eq rfl), fun h => ?_, fun h => ?_⟩
    · have hne : ys ≠ [] := by simpa using h
      have hlt : ys.length - 1 < ys.length := by have := List.length_pos_iff.mpr hne; omega
      rw [List.length_map]
      simp [hlt, List.getD_eq_getElem?_getD]
    · obtain ⟨ha, hb⟩ := Bool.and_eq_true_iff.mp h
      have hne : ys ≠ [] := by simpa using ha
      have hz : ys.getD (ys.length - 1) 0 = 0 := by simpa using hb
      refine ht_cons (hs_assign (ev_slice (ds := ys.map .int) (a := none) (b := some (-1)) (c := none) (ev_name h1 rfl) pt_none (pt_some (ev_neg ev_int)) pt_none (by simp) pick_butLast) rfl rfl (ht_nil ⟨(ys.take (ys.length - 1)).length, ?_, ys.take (ys.length - 1), rfl, ?_, ?_⟩))
      · have := List.length_pos_iff.mpr hne
        rw [List.length_take]; omega
      · have e := hlast hne
        rw [hz] at e
        rw [← ht]
        conv => rhs; rw [← e]
        rw [trimR_zero]
      · show some (Slot.val (D.lst _)) = some (Slot.val (D.lst _))
        rw [List.length_map, List.map_take]
    · have hres : trimR 0 xs = ys := by
        rw [← ht]
        by_cases hne : ys = []
        · rw [hne]; rfl
        · have hz : ys.getD (ys.length - 1) 0 ≠ 0 := fun hz => by
            rw [hz] at h
            simp [hne] at h
          have e := hlast hne
          conv => lhs; rw [← e]
          rw [trimR_ne _ hz, e]
      rw [hres]
      exact ht_cons (hs_ret (ev_name h1 rfl) rfl)

/-- a[at] if at < len(a) else 0 -/
theorem ev_icell {n : Nat} {sc : Scope} {ρ : Sto} (L : Lib W) {x t : Str} {p1 p2 p3 p4 p5 p6 p7 p8 p9 p10 : Pos} {z : Nat} {xs : List Int} {i : Nat} (hx : Hv ρ x (LI xs)) (ht : Hv ρ t (I (i : Int))) (hd : (x == ("__debug__" : Str)) = false) (hd2 : (t == ("__debug__" : Str)) = false) (hl : Gl sc "len") :
    EvS W n sc ρ (.IfExp (.Compare (.Name t p1) [.Lt] [.Call (.Name "len" p2) [.Name x p3] [] p4] p5) (.Subscript (.Name x p6) (.Name t p7) p8) (.Constant (.int 0) z p9) p10) (I (xs.getD i 0)) := by
  refine ev_if (tr_cmp (ev_name ht hd2) (ev_len (ds := xs.map .int) L.ok L.len (ev_name hx hd) hl rfl rfl) cmp_lt rfl) (fun h => ?_) fun h => ?_
  · rw [List.length_map] at h
    have hi : i < xs.length := by have := of_decide_eq_true h; omega
    refine ev_sub_list (ds := xs.map .int) (ev_name hx hd) (ev_name ht hd2) (by omega) ?_
    simp [hi, List.getD_eq_getElem?_getD]
  · rw [List.length_map] at h
    have hi : ¬ i < xs.length := by have := of_decide_eq_false h; omega
    have e : xs.getD i 0 = 0 := by rw [List.getD_eq_getElem?_getD, List.getElem?_eq_none (by omega)]; rfl
    rw [e]
    exact ev_int
theorem lawPlus_S (L : LawLib W) (a b : List Int) (t : Int) (ht : t.natAbs < 2 ^ 64) (hla : a.length ≤ 1000) (hlb : b.length ≤ 1000) : CallS W 2 "_law_plus" [LI a, LI b, I t] (LI (plusL a b t)) := by
  refine callS_intro (ps := ["a", "b", "times"]) L.lib.ok L.plus rfl rfl rfl (by decide) (by decide) rfl (fun pm code doc vs h => ?_) ?_
  · match vs, h with
    | [x, y, z], _ => rfl
  · refine ht_cons (hs_assign (ev_max L.lib.ok L.lib.max (ev_len (ds := a.map .int) L.lib.ok L.lib.len (ev_name rfl rfl) rfl rfl rfl) (ev_len (ds := b.map .int) L.lib.ok L.lib.len (ev_name rfl rfl) rfl rfl rfl) rfl rfl rfl rfl) rfl rfl ?_)
    rw [List.length_map, List.length_map]
    have hk : max (a.length : Int) (b.length : Int) = ((max a.length b.length : Nat) : Int) := by omega
    rw [hk]
    have hit := fun (sc : Scope) (ρ : Sto) (h1 : Hv ρ "wide" (I ((max a.length b.length : Nat) : Int))) (h2 : Gl sc "range") (p1 p2 p3 p4 : Pos) => it_range1 (W := W) (n := 1) (sc := sc) (ρ := ρ) (x := "at") (px := p1) (pf := p2) (pos := p3) L.lib.ok L.lib.range (ev_name (pos := p4) h1 rfl) h2 rfl rfl ⟨by omega, by omega⟩
    simp only [Int.toNat_natCast] at hit
    refine ht_cons (hs_compM (ρf := [("a", .val (LI a)), ("b", .val (LI b)), ("times", .val (I t))]) (G := fun i => I (a.getD i 0 + t * b.getD i 0)) (hit _ _ rfl rfl _ _ _ _)
      (FreeOK.mk' (List.forall_mem_cons.mpr ⟨⟨_, rfl, rfl, rfl, rfl, rfl⟩, List.forall_mem_cons.mpr ⟨⟨_, rfl, rfl, rfl, rfl, rfl⟩, List.forall_mem_cons.mpr ⟨⟨_, rfl, rfl, rfl, rfl, rfl⟩, List.forall_mem_nil _⟩⟩⟩) rfl) (by decide) rfl (by decide) (by decide)
      (fun k => List.forall_mem_cons.mpr ⟨rfl, List.forall_mem_cons.mpr ⟨rfl, List.forall_mem_cons.mpr ⟨rfl, List.forall_mem_nil _⟩⟩⟩) (fun i hi => ?_) rfl rfl rfl ?_)
    · exact ev_add (ev_icell L.lib rfl rfl rfl rfl rfl) (ev_mul (ev_name rfl rfl) (ev_icell L.lib rfl rfl rfl rfl rfl) (mulOk_l ht))
    · refine ht_cons (hs_ret (ev_call L.lib.ok (lawTrim_S L ((List.range (max a.length b.length)).map fun i => a.getD i 0 + t * b.getD i 0)) (ar_cons ((ev_name rfl rfl).cast ?_) ar_nil rfl) (Nat.le_refl _) rfl rfl rfl) rfl)
      rw [LI, List.map_map]; rfl

theorem lawAtLine_S (L : LawLib W) (row : List Int) (slope start : Int) (hs : slope.natAbs < 2 ^ 64) (ht : start.natAbs < 2 ^ 64) (hl : row.length ≤ 100) : CallS W 3 "_law_at_line" [LI row, I slope, I start] (LI (atL row slope start)) := by
  refine callS_intro (ps := ["row", "slope", "start"]) L.lib.ok L.atLine rfl rfl rfl (by decide) (by decide) rfl (fun pm code doc vs h => ?_) ?_
  · match vs, h with
    | [x, y, z], _ => rfl
  · refine ht_cons (hs_assign (ev_lst ar_nil (by decide)) rfl rfl ?_)
    have hit := fun (sc : Scope) (ρ : Sto) (h1 : Hv ρ "row" (LI row)) (p1 p2 p3 p4 p5 p6 : Pos) (z : Nat) => it_list (W := W) (n := 2) (sc := sc) (ρ := ρ) (x := "number") (px := p1) (ev_slice (ds := row.map .int) (a := none) (b := none) (c := some (-1)) (p := p2) (pos := p3) (ev_name (pos := p4) h1 rfl) pt_none pt_none (pt_some (ev_neg (pos := p5) (ev_int (i := 1) (k := z) (pos := p6)))) (by simp) pick_rev) rfl
    simp only [← List.map_reverse, List.map_map] at hit
    refine ht_cons (hs_for (fun i ρ => Hv ρ "found" (LI ((row.reverse.take i).foldl (fun f x => atStep slope start x f) [])) ∧ Hv ρ "slope" (I slope) ∧ Hv ρ "start" (I start)) (hit _ _ rfl _ _ _ _ _ _ _) (by decide) ⟨rfl, rfl, rfl⟩ (fun i bs ρ hb ⟨g1, g2, g3⟩ => ?_) fun ρ ⟨g1, g2, g3⟩ => ?_)
    · obtain ⟨x, hx, rfl⟩ : ∃ x, row.reverse[i]? = some x ∧ bs = [(("number" : Str), .val (I x))] := by
        rw [List.getElem?_map, Option.map_eq_some_iff] at hb
        obtain ⟨x, hx, rfl⟩ := hb
        exact ⟨x, hx, rfl⟩
      have htake : (row.reverse.take (i + 1)).foldl (fun f x => atStep slope start x f) [] = atStep slope start x ((row.reverse.take i).foldl (fun f x => atStep slope start x f) []) := by
        rw [List.take_add_one, hx]; simp
      generalize hf : (row.reverse.take i).foldl (fun f x => atStep slope start x f) [] = f at g1 htake
      have hfl : f.length ≤ 100 := by
        have e : f = atL (row.reverse.take i).reverse slope start := by rw [← hf, atL, List.foldr_reverse]
        have := atL_length (row.reverse.take i).reverse slope start
        rw [← e, List.length_reverse, List.length_take] at this
        simp only [List.length_reverse] at this
        omega
      refine ht_cons (hs_assign (ev_cat (ds := [I 0]) (ev_lst (ar_cons ev_int ar_nil rfl) (show 1 ≤ sizeLine from by decide)) (ev_compM (ks := f) (ρf := [("slope", .val (I slope))]) (G := fun x => I (slope * x)) (it_listM (F := .int) (ev_name ((lk_ne rfl).trans g1) rfl) rfl)
        (FreeOK.mk' (List.forall_mem_cons.mpr ⟨⟨_, rfl, (lk_ne rfl).trans g2, rfl, rfl, rfl⟩, List.forall_mem_nil _⟩) rfl) (by decide) rfl (by decide) (by decide) (fun k => List.forall_mem_cons.mpr ⟨rfl, List.forall_mem_nil _⟩) fun x _ => ev_mul (ev_name rfl rfl) (ev_name rfl rfl) (mulOk_l hs)) ?_) rfl rfl ?_)
      · rw [List.length_map]; have : sizeLine = 2 ^ 24 := rfl; simp only [List.length_cons, List.length_nil]; omega
      · have hr : ([I 0] ++ f.map fun x => I (slope * x)) = (0 :: f.map (slope * ·)).map D.int := by rw [List.map_cons, List.map_map]; rfl
        rw [hr]
        have hp := plusL_length (0 :: f.map (slope * ·)) f start
        simp only [List.length_cons, List.length_map] at hp
        refine ht_cons (hs_assign (ev_call L.lib.ok (lawPlus_S L (plusL (0 :: f.map (slope * ·)) f start) [x] 1 (by decide) (by omega) (by simp)) (ar_cons (ev_call L.lib.ok (lawPlus_S L (0 :: f.map (slope * ·)) f start ht (by simp; omega) (by omega)) (ar_cons (ev_name rfl rfl) (ar_cons (ev_name ((lk_ne rfl).trans ((lk_ne rfl).trans g1)) rfl) (ar_cons (ev_name ((lk_ne rfl).trans ((lk_ne rfl).trans g3)) rfl) ar_nil rfl) rfl) rfl) (Nat.le_refl _) rfl rfl rfl) (ar_cons (ev_lst (ar_cons (ev_name rfl rfl) ar_nil rfl) (show 1 ≤ sizeLine from by decide)) (ar_cons ev_int ar_nil rfl) rfl) rfl) (Nat.le_refl _) rfl rfl rfl) rfl rfl (ht_nil ⟨?_, ?_, ?_⟩))
        · rw [htake]; rfl
        · exact (lk_ne rfl).trans ((lk_ne rfl).trans ((lk_ne rfl).trans g2))
        · exact (lk_ne rfl).trans ((lk_ne rfl).trans ((lk_ne rfl).trans g3))
    · rw [List.length_map, List.take_length, List.foldl_reverse] at g1
      exact ht_cons (hs_ret (ev_name g1 rfl) rfl)
end Mine

namespace Mine

/-- the ratios n / K in lowest terms -/
def RK (K : Nat) (ws : List Int) : List Rat := ws.map fun n => mkRat n K
def toQ (ws : List Int) : List Rat := ws.map fun (n : Int) => (n : Rat)

theorem mkRat_parts {n : Int} {K : Nat} (hK : K ≠ 0) : n.fdiv (Nat.gcd n.natAbs K : Int) = (mkRat n K).num ∧ (K : Int).fdiv (Nat.gcd n.natAbs K : Int) = ((mkRat n K).den : Int) := by
  rw [Rat.num_mkRat, Rat.den_mkRat, if_neg hK, if_neg hK, Nat.gcd_comm K]
  rw [Int.fdiv_eq_ediv_of_nonneg _ (by omega), Int.fdiv_eq_ediv_of_nonneg _ (by omega), Int.natCast_ediv]
  exact ⟨rfl, rfl⟩
theorem mkRat_back {n : Int} {K : Nat} (hK : K ≠ 0) : ((mkRat n K).num * (K : Int)).fdiv ((mkRat n K).den : Int) = n := by
  rw [Rat.num_mkRat, Rat.den_mkRat, if_neg hK, if_neg hK]
  have hg : 0 < Nat.gcd K n.natAbs := Nat.gcd_pos_of_pos_left _ (by omega)
  obtain ⟨a, ha⟩ := Nat.gcd_dvd_left K n.natAbs
  obtain ⟨b, hb⟩ : (Nat.gcd K n.natAbs : Int) ∣ n := Int.ofNat_dvd_left.mpr (Nat.gcd_dvd_right K n.natAbs)
  generalize hG : Nat.gcd K n.natAbs = g at *
  have e1 : K / g = a := by rw [ha]; exact Nat.mul_div_cancel_left _ hg
  have e2 : n / (g : Int) = b := by rw [hb]; exact Int.mul_ediv_cancel_left _ (by omega)
  rw [e1, e2, Int.fdiv_eq_ediv_of_nonneg _ (by omega)]
  have ha0 : (a : Int) ≠ 0 := by
    intro h
    have : a = 0 := by omega
    rw [this] at ha; omega
  have e3 : b * (K : Int) = n * (a : Int) := by rw [hb, ha, Int.natCast_mul]; grind
  rw [e3]
  exact Int.mul_ediv_cancel _ ha0
theorem mkRat_den_le {n : Int} {K : Nat} (hK : K ≠ 0) : (mkRat n K).den ≤ K := by
  rw [Rat.den_mkRat, if_neg hK]; exact Nat.div_le_self _ _

variable {W : Wd}
theorem lawRatios_S (L : LawLib W) (row : List Int) (hl : row.length ≤ 1000) : CallS W 1 "_law_ratios" [LI row] (LQ (RK 6 row)) := by
  refine callS_intro (ps := ["row"]) L.lib.ok L.ratios rfl rfl rfl (by decide) (by decide) rfl (fun pm code doc vs h => ?_) ?_
  · match vs, h with
    | [x], _ => rfl
  · refine ht_cons (hs_own ar_nil (by decide) rfl ?_)
    refine ht_cons (hs_for (fun i ρ => ownOnly ρ "found" = true ∧ Ho ρ "found" ((RK 6 (row.take i)).map Q)) (it_listM (ks := row) (F := .int) (ev_name rfl rfl) rfl) (by decide) ⟨rfl, rfl⟩ (fun i bs ρ hb ⟨g1, g2⟩ => ?_) fun ρ ⟨g1, g2⟩ => ?_)
    · obtain ⟨x, hx, rfl⟩ : ∃ x, row[i]? = some x ∧ bs = [(("number" : Str), .val (I x))] := by
        rw [List.getElem?_map, Option.map_eq_some_iff] at hb
        obtain ⟨x, hx, rfl⟩ := hb
        exact ⟨x, hx, rfl⟩
      have hil : i < row.length := (List.getElem?_eq_some_iff.mp hx).1
      refine ht_cons (hs_assign2 (ev_abs L.lib.ok L.lib.abs (ev_name (d := I x) rfl rfl) rfl rfl rfl) (ev_int (i := 6)) rfl rfl rfl rfl rfl rfl rfl rfl ?_)
      rw [iabs_eq]
      refine ht_cons (hs_while (fun k ρ => ∃ a b : Nat, b = k ∧ Nat.gcd a b = Nat.gcd x.natAbs 6 ∧ Hv ρ "one" (I a) ∧ Hv ρ "other" (I b) ∧ ownOnly ρ "found" = true ∧ Ho ρ "found" ((RK 6 (row.take i)).map Q) ∧ Hv ρ "number" (I x)) 6 ⟨_, _, rfl, rfl, rfl, rfl, ownOnly_cons (ownOnly_cons (ownOnly_cons g1)), (lk_ne rfl).trans ((lk_ne rfl).trans ((lk_ne rfl).trans g2)), rfl⟩ ?_)
      rintro k ρ ⟨a, b, rfl, hg, ha, hb, h1, h2, h3⟩
      refine ⟨((b : Int) != 0), tr_cmp (ev_name hb rfl) ev_int cmp_ne rfl, fun hy => ?_, fun hy => ?_⟩
      · have hy0 : b ≠ 0 := by intro h; subst h; simp at hy
        refine ht_cons (hs_assign2 (ev_name hb rfl) (ev_fmod (ev_name ha rfl) (ev_name hb rfl) (by omega)) rfl rfl rfl rfl rfl rfl rfl rfl (ht_nil ?_))
        have e : Int.fmod a b = ((a % b : Nat) : Int) := by rw [Int.fmod_eq_emod_of_nonneg _ (by omega)]; rfl
        rw [e]
        refine ⟨a % b, Nat.mod_lt _ (by omega), b, a % b, rfl, ?_, rfl, rfl, ownOnly_cons (ownOnly_cons h1), (lk_ne rfl).trans ((lk_ne rfl).trans h2), (lk_ne rfl).trans ((lk_ne rfl).trans h3)⟩
        rw [← hg, Nat.gcd_comm a b, Nat.gcd_rec b a, Nat.gcd_comm]
      · have hy0 : b = 0 := by simpa using hy
        subst hy0
        rw [Nat.gcd_zero_right] at hg
        subst hg
        have hpos : 0 < Nat.gcd x.natAbs 6 := Nat.gcd_pos_of_pos_right _ (by decide)
        have hle : Nat.gcd x.natAbs 6 ≤ 6 := Nat.le_of_dvd (by decide) (Nat.gcd_dvd_right _ _)
        refine ht_cons (hs_append (ds := (RK 6 (row.take i)).map Q) (d := Q (mkRat x 6)) h2 h1 ((ev_tup (ar_cons (ev_fdiv (ev_name h3 rfl) (ev_name ha rfl) (by omega) (log2_lt (k := 64) (by omega) (by decide) (by decide))) (ar_cons (ev_fdiv (ev_int (i := 6)) (ev_name ha rfl) (by omega) (log2_lt (k := 64) (by omega) (by decide) (by decide))) ar_nil rfl) rfl) (show 2 ≤ sizeLine from by decide)).cast ?_) ?_ rfl rfl rfl (ht_nil ⟨ownOnly_own h1, ?_⟩))
        · have h := mkRat_parts (n := x) (K := 6) (by decide)
          rw [h.1]
          exact congrArg (fun z => D.tup [I (mkRat x 6).num, I z]) h.2
        · rw [RK, List.length_map, List.length_map, List.length_take]; have : sizeLine = 2 ^ 24 := rfl; omega
        · show some _ = _
          rw [List.take_add_one, hx]
          simp [RK]
    · rw [List.length_map, List.take_length] at g2
      exact ht_cons (hs_retOwn g2 rfl rfl)

structure Law1Lib (W : Wd) : Prop where
  law : LawLib W
  told : DefI W 27 "_law_told"
  cuts : DefI W 28 "_law_cuts_right"
  rows : DefI W 29 "_law_rows_right"

theorem lawTold_S (L : Law1Lib W) (row : List Int) (hl : row.length ≤ 4) : CallS W 7 "_law_told" [LI row] (LQ (psum (toQ row))) := by
  have ok := L.law.lib.ok
  refine callS_intro (ps := ["row"]) ok L.told rfl rfl rfl (by decide) (by decide) rfl (fun pm code doc vs h => ?_) ?_
  · match vs, h with
    | [x], _ => rfl
  · refine ht_cons (hs_ret (ev_call ok (polysum_S L.law.lib (toQ row) (by rw [toQ, List.length_map]; exact hl) (fun c hc => ?_)) (ar_cons ((ev_compM (ks := row) (ρf := []) (G := fun x => Q (x : Rat)) (it_listM (F := .int) (ev_name rfl rfl) rfl)
      (FreeOK.mk' (List.forall_mem_nil _) rfl) (by decide) rfl (by decide) (by decide) (fun k => List.forall_mem_nil _) fun x _ => ev_tup (ar_cons (ev_name rfl rfl) (ar_cons ev_int ar_nil rfl) rfl) (show 2 ≤ sizeLine from by decide)).cast ?_) ar_nil rfl) (Nat.le_refl _) rfl rfl rfl) rfl)
    · obtain ⟨x, _, rfl⟩ := List.mem_map.mp hc
      show 1 ≤ 72; decide
    · rw [LQ, toQ, List.map_map]; rfl

def lev (s : List Int) (c : Int) : Int := s.foldr (fun x l => l * c + x) 0

theorem lawCuts_S (L : Law1Lib W) (f s : List Int) (c : Int) (hf : f.length ≤ 4) (hs : s.length ≤ 100) (hc : c.natAbs < 2 ^ 60)
    (h1 : psum (toQ (atL f 1 c)) = RK 6 (plusL (atL s 1 c) [lev s c] (-1))) (h2 : psum (toQ (atL f (-1) (-1))) = RK 6 ((atL s (-1) 0).map fun x => 0 - x)) : CallS W 8 "_law_cuts_right" [LI f, LI s, I c] (.bool true) := by
  have ok := L.law.lib.ok
  have hal := atL_length s 1 c
  have hal2 := atL_length s (-1) 0
  have hpl := plusL_length (atL s 1 c) [lev s c] (-1)
  refine callS_intro (ps := ["f", "s", "c"]) ok L.cuts rfl rfl rfl (by decide) (by decide) rfl (fun pm code doc vs h => ?_) ?_
  · match vs, h with
    | [x, y, z], _ => rfl
  · refine ht_cons (hs_assign ev_int rfl rfl ?_)
    have hit := fun (sc : Scope) (ρ : Sto) (h1 : Hv ρ "s" (LI s)) (p1 p2 p3 p4 p5 p6 : Pos) (z : Nat) => it_list (W := W) (n := 7) (sc := sc) (ρ := ρ) (x := "number") (px := p1) (ev_slice (ds := s.map .int) (a := none) (b := none) (c := some (-1)) (p := p2) (pos := p3) (ev_name (pos := p4) h1 rfl) pt_none pt_none (pt_some (ev_neg (pos := p5) (ev_int (i := 1) (k := z) (pos := p6)))) (by simp) pick_rev) rfl
    simp only [← List.map_reverse, List.map_map] at hit
    refine ht_cons (hs_for (fun i ρ => Hv ρ "level" (I ((s.reverse.take i).foldl (fun l x => l * c + x) 0)) ∧ Hv ρ "f" (LI f) ∧ Hv ρ "s" (LI s) ∧ Hv ρ "c" (I c)) (hit _ _ rfl _ _ _ _ _ _ _) (by decide) ⟨rfl, rfl, rfl, rfl⟩ (fun i bs ρ hb ⟨g1, g2, g3, g4⟩ => ?_) fun ρ ⟨g1, g2, g3, g4⟩ => ?_)
    · obtain ⟨x, hx, rfl⟩ : ∃ x, s.reverse[i]? = some x ∧ bs = [(("number" : Str), .val (I x))] := by
        rw [List.getElem?_map, Option.map_eq_some_iff] at hb
        obtain ⟨x, hx, rfl⟩ := hb
        exact ⟨x, hx, rfl⟩
      refine ht_cons (hs_assign (ev_add (ev_mul (ev_name ((lk_ne rfl).trans g1) rfl) (ev_name ((lk_ne rfl).trans g4) rfl) (mulOk_r (by omega))) (ev_name rfl rfl)) rfl rfl (ht_nil ⟨?_, ?_, ?_, ?_⟩))
      · show some _ = some _
        rw [List.take_add_one, hx]; simp
      · exact (lk_ne rfl).trans ((lk_ne rfl).trans g2)
      · exact (lk_ne rfl).trans ((lk_ne rfl).trans g3)
      · exact (lk_ne rfl).trans ((lk_ne rfl).trans g4)
    · rw [List.length_map, List.take_length, List.foldl_reverse] at g1
      have g1 : Hv ρ "level" (I (lev s c)) := g1
      have hat := fun (row : List Int) (sl st : Int) (h1 : sl.natAbs < 2 ^ 64) (h2 : st.natAbs < 2 ^ 64) (h3 : row.length ≤ 100) => (lawAtLine_S L.law row sl st h1 h2 h3).le (show 3 ≤ 7 by decide)
      refine ht_cons (hs_if (c := false) (tr_cmp (a := LQ (RK 6 (plusL (atL s 1 c) [lev s c] (-1)))) ((ev_call ok (lawTold_S L (atL f 1 c) (by have := atL_length f 1 c; omega)) (ar_cons (ev_call ok (hat f 1 c (by decide) (by omega) (by omega)) (ar_cons (ev_name g2 rfl) (ar_cons ev_int (ar_cons (ev_name g4 rfl) ar_nil rfl) rfl) rfl) (Nat.le_refl _) rfl rfl rfl) ar_nil rfl) (Nat.le_refl _) rfl rfl rfl).cast (by rw [h1]))
        (ev_call ok ((lawRatios_S L.law (plusL (atL s 1 c) [lev s c] (-1)) (by simp only [List.length_cons, List.length_nil] at hpl; omega)).le (show 1 ≤ 7 by decide)) (ar_cons (ev_call ok ((lawPlus_S L.law (atL s 1 c) [lev s c] (-1) (by decide) (by omega) (by simp)).le (show 2 ≤ 7 by decide)) (ar_cons (ev_call ok (hat s 1 c (by decide) (by omega) (by omega)) (ar_cons (ev_name g3 rfl) (ar_cons ev_int (ar_cons (ev_name g4 rfl) ar_nil rfl) rfl) rfl) (Nat.le_refl _) rfl rfl rfl)
          (ar_cons (ev_lst (ar_cons (ev_name g1 rfl) ar_nil rfl) (show 1 ≤ sizeLine from by decide)) (ar_cons (ev_neg ev_int) ar_nil rfl) rfl) rfl) (Nat.le_refl _) rfl rfl rfl) ar_nil rfl) (Nat.le_refl _) rfl rfl rfl) (cmp_LQ_ne _) rfl) (fun h => by cases h) fun _ => ht_nil ?_)
      refine ht_cons (hs_ret (ev_cmp (a := LQ (RK 6 ((atL s (-1) 0).map fun x => 0 - x))) ((ev_call ok (lawTold_S L (atL f (-1) (-1)) (by have := atL_length f (-1) (-1); omega)) (ar_cons (ev_call ok (hat f (-1) (-1) (by decide) (by decide) (by omega)) (ar_cons (ev_name g2 rfl) (ar_cons (ev_neg ev_int) (ar_cons (ev_neg ev_int) ar_nil rfl) rfl) rfl) (Nat.le_refl _) rfl rfl rfl) ar_nil rfl) (Nat.le_refl _) rfl rfl rfl).cast (by rw [h2]))
        (ev_call ok ((lawRatios_S L.law ((atL s (-1) 0).map fun x => 0 - x) (by rw [List.length_map]; omega)).le (show 1 ≤ 7 by decide)) (ar_cons ((ev_compM (ks := atL s (-1) 0) (ρf := []) (G := fun x => I (0 - x)) (it_listM (F := .int) (ev_call ok (hat s (-1) 0 (by decide) (by decide) (by omega)) (ar_cons (ev_name g3 rfl) (ar_cons (ev_neg ev_int) (ar_cons ev_int ar_nil rfl) rfl) rfl) (Nat.le_refl _) rfl rfl rfl) rfl)
          (FreeOK.mk' (List.forall_mem_nil _) rfl) (by decide) rfl (by decide) (by decide) (fun k => List.forall_mem_nil _) fun x _ => ev_sub ev_int (ev_name rfl rfl)).cast ?_) ar_nil rfl) (Nat.le_refl _) rfl rfl rfl) (cmp_LQ_eq _) rfl) rfl)
      rw [LI, List.map_map]; rfl
end Mine

namespace Mine

section
variable {W : Wd} {n : Nat} {sc : Scope} {ρ : Sto}
theorem it_pairsM {α : Type} {ks : List α} {F G : α → D} {x y : Str} {px py pt : Pos} {kk : Nat} {iter : Expr} (hv : EvS W n sc ρ iter (.lst (ks.map fun k => .tup [F k, G k]))) (hs : notSet iter = true) : ItS W n sc ρ (.Tuple [.Name x px, .Name y py] kk pt) iter (ks.map fun k => [(y, Slot.val (G k)), (x, Slot.val (F k))]) := by
  have := it_pairs (x := x) (y := y) (px := px) (py := py) (pt := pt) (kk := kk) (ps := ks.map fun k => (F k, G k)) (by rw [List.map_map]; exact hv) hs
  rwa [List.map_map] at this
end
variable {W : Wd}

theorem lawRows_S (L : Law1Lib W) (f s : List Int) (k : Nat) (Wb Tb : Nat → List Int) (hf : f.length ≤ 4) (hs : s.length ≤ 100) (hk : k ≤ 10) (hT0 : Tb 0 = []) (hT : ∀ b < k, Tb (b + 1) = plusL (Tb b) (Wb b) 1)
    (hw : ∀ b < k, psum (toQ (atL f k b)) = RK 6 (Wb b)) (hfin : Tb k = atL s k 0) (hl : ∀ b, (Wb b).length ≤ 100 ∧ (Tb b).length ≤ 100) : CallS W 8 "_law_rows_right" [LI f, LI s, I (k : Int)] (.bool true) := by
  have ok := L.law.lib.ok
  refine callS_intro (ps := ["f", "s", "k"]) ok L.rows rfl rfl rfl (by decide) (by decide) rfl (fun pm code doc vs h => ?_) ?_
  · match vs, h with
    | [x, y, z], _ => rfl
  · refine ht_cons (hs_assign (ev_lst ar_nil (by decide)) rfl rfl ?_)
    have hit := fun (sc : Scope) (ρ : Sto) (h1 : Hv ρ "k" (I (k : Int))) (h2 : Gl sc "range") (p1 p2 p3 p4 : Pos) => it_range1 (W := W) (n := 7) (sc := sc) (ρ := ρ) (x := "begin") (px := p1) (pf := p2) (pos := p3) ok L.law.lib.range (ev_name (pos := p4) h1 rfl) h2 rfl rfl ⟨by omega, by omega⟩
    simp only [Int.toNat_natCast] at hit
    refine ht_cons (hs_for (fun i ρ => Hv ρ "total" (LI (Tb i)) ∧ Hv ρ "f" (LI f) ∧ Hv ρ "s" (LI s) ∧ Hv ρ "k" (I (k : Int))) (hit _ _ rfl rfl _ _ _ _) (by decide) ⟨by rw [hT0]; rfl, rfl, rfl, rfl⟩ (fun i bs ρ hb ⟨g1, g2, g3, g4⟩ => ?_) fun ρ ⟨g1, g2, g3, g4⟩ => ?_)
    · obtain ⟨hi, rfl⟩ := its_range hb
      have hlw := (hl i).1
      refine ht_cons (hs_assign (d := LQ (RK 6 (Wb i))) ((ev_call ok (lawTold_S L (atL f k i) (by have := atL_length f k i; omega)) (ar_cons (ev_call ok ((lawAtLine_S L.law f k i (by omega) (by omega) (by omega)).le (show 3 ≤ 7 by decide)) (ar_cons (ev_name ((lk_ne rfl).trans g2) rfl) (ar_cons (ev_name ((lk_ne rfl).trans g4) rfl) (ar_cons (ev_name rfl rfl) ar_nil rfl) rfl) rfl) (Nat.le_refl _) rfl rfl rfl) ar_nil rfl) (Nat.le_refl _) rfl rfl rfl).cast (by rw [hw i hi])) rfl rfl ?_)
      refine ht_cons (hs_compM (ks := Wb i) (ρf := []) (G := fun x => I x) (it_pairsM (F := fun x => I (mkRat x 6).num) (G := fun x => I ((mkRat x 6).den : Int)) ((ev_name (d := LQ (RK 6 (Wb i))) rfl rfl).cast (by rw [LQ, RK, List.map_map]; rfl)) rfl)
        (FreeOK.mk' (List.forall_mem_nil _) rfl) (by decide) rfl (by decide) (by decide) (fun k => List.forall_mem_nil _) (fun x _ => ?_) rfl rfl rfl ?_)
      · have hd := mkRat_den_le (n := x) (K := 6) (by decide)
        have hd0 := (mkRat x 6).den_pos
        exact (ev_fdiv (ev_mul (ev_name rfl rfl) (ev_int (i := 6)) (mulOk_r (by decide))) (ev_name rfl rfl) (by omega) (log2_lt (k := 64) (by omega) (by decide) (by decide))).cast (by have := mkRat_back (n := x) (K := 6) (by decide); exact congrArg D.int this)
      · refine ht_cons (hs_if (c := false) (tr_cmp (a := LQ (RK 6 (Wb i))) (ev_call ok ((lawRatios_S L.law (Wb i) (by omega)).le (show 1 ≤ 7 by decide)) (ar_cons (ev_name rfl rfl) ar_nil rfl) (Nat.le_refl _) rfl rfl rfl) (ev_name rfl rfl) (cmp_LQ_ne _) rfl) (fun h => by cases h) fun _ => ht_nil ?_)
        refine ht_cons (hs_assign (d := LI (Tb (i + 1))) ((ev_call ok ((lawPlus_S L.law (Tb i) (Wb i) 1 (by decide) (by have := (hl i).2; omega) (by omega)).le (show 2 ≤ 7 by decide)) (ar_cons (ev_name ((lk_ne rfl).trans ((lk_ne rfl).trans ((lk_ne rfl).trans g1))) rfl) (ar_cons (ev_name rfl rfl) (ar_cons ev_int ar_nil rfl) rfl) rfl) (Nat.le_refl _) rfl rfl rfl).cast (by rw [hT i hi])) rfl rfl (ht_nil ⟨rfl, ?_, ?_, ?_⟩))
        · exact (lk_ne rfl).trans ((lk_ne rfl).trans ((lk_ne rfl).trans ((lk_ne rfl).trans g2)))
        · exact (lk_ne rfl).trans ((lk_ne rfl).trans ((lk_ne rfl).trans ((lk_ne rfl).trans g3)))
        · exact (lk_ne rfl).trans ((lk_ne rfl).trans ((lk_ne rfl).trans ((lk_ne rfl).trans g4)))
    · rw [List.length_map, List.length_range, hfin] at g1
      exact ht_cons (hs_ret (ev_cmp (ev_name g1 rfl) (ev_call ok ((lawAtLine_S L.law s k 0 (by omega) (by decide) hs).le (show 3 ≤ 7 by decide)) (ar_cons (ev_name g3 rfl) (ar_cons (ev_name g4 rfl) (ar_cons ev_int ar_nil rfl) rfl) rfl) (Nat.le_refl _) rfl rfl rfl) (cmp_LI_eq _) rfl) rfl)

/-- what the law asks, of the numbers drawn -/
structure Asked1 (f g s : List Int) (k : Nat) (c : Int) where
  Wb : Nat → List Int
  Tb : Nat → List Int
  steps : List Int
  hf : f.length ≤ 3
  hg : g.length ≤ 4
  hs : s.length ≤ 4
  hc : c.natAbs < 2 ^ 60
  hk : k ≤ 10
  a1 : psum (toQ f) = RK 6 s
  a2 : plusL [] s 1 = s
  a3 : s.take 1 = [] ∨ s.take 1 = [0]
  a4 : plusL (atL s 1 1) s (-1) = f.map (6 * ·)
  c1 : psum (toQ (atL f 1 c)) = RK 6 (plusL (atL s 1 c) [lev s c] (-1))
  c2 : psum (toQ (atL f (-1) (-1))) = RK 6 ((atL s (-1) 0).map fun x => 0 - x)
  r0 : Tb 0 = []
  r1 : ∀ b < k, Tb (b + 1) = plusL (Tb b) (Wb b) 1
  r2 : ∀ b < k, psum (toQ (atL f k b)) = RK 6 (Wb b)
  r3 : Tb k = atL s k 0
  rl : ∀ b, (Wb b).length ≤ 100 ∧ (Tb b).length ≤ 100
  s0 : plusL (atL g 1 1) g (-1) = steps
  s1 : steps.length ≤ 4
  s2 : psum (toQ steps) = RK 6 ((plusL g (g.take 1) (-1)).map (6 * ·))

theorem cmp_in_zero {xs : List Int} (h : xs = [] ∨ xs = [0]) : CmpS .NotIn (LI xs) (.tup [.lst [], .lst [I 0]]) false := by
  have : PyData.canLayAll0 (toPs [D.lst [], D.lst [I 0]]) = true := rfl
  refine cmp_notIn (c := true) ?_ this ?_ ?_
  · have := shaped_LI xs
    unfold SeqAt.shaped at this
    exact (Bool.and_eq_true_iff.mp this).1
  · have : PyData.depthAll (toPs [D.lst [], D.lst [I 0]]) ≤ 50 := by decide
    omega
  · rcases h with rfl | rfl <;> rfl

theorem lawRest_S (L : Law1Lib W) {f g s : List Int} {k : Nat} {c : Int} (a : Asked1 f g s k c) {ρ : Sto} (hf : Hv ρ "f" (LI f)) (hg : Hv ρ "g" (LI g)) (hk : Hv ρ "k" (I (k : Int))) (hc : Hv ρ "c" (I c)) :
    HT W 8 (stScope (stAt 30)) ρ ((stBody (stAt 30)).drop 4) (fun fl _ => fl = .ret (.bool true)) := by
  have ok := L.law.lib.ok
  have hat := fun (row : List Int) (sl st : Int) (h1 : sl.natAbs < 2 ^ 64) (h2 : st.natAbs < 2 ^ 64) (h3 : row.length ≤ 100) => (lawAtLine_S L.law row sl st h1 h2 h3).le (show 3 ≤ 8 by decide)
  have hpl := fun (x y : List Int) (t : Int) (h1 : t.natAbs < 2 ^ 64) (h2 : x.length ≤ 1000) (h3 : y.length ≤ 1000) => (lawPlus_S L.law x y t h1 h2 h3).le (show 2 ≤ 8 by decide)
  have hra := fun (x : List Int) (h : x.length ≤ 1000) => (lawRatios_S L.law x h).le (show 1 ≤ 8 by decide)
  have hs4 := a.hs
  have hg4 := a.hg
  have hf3 := a.hf
  have las := atL_length s 1 1
  have lag := atL_length g 1 1
  have hto := fun (x : List Int) (h : x.length ≤ 4) => (lawTold_S L x h).le (show 7 ≤ 8 by decide)
  refine ht_cons (hs_assign (d := LQ (RK 6 s)) ((ev_call ok (hto f (by omega)) (ar_cons (ev_name hf rfl) ar_nil rfl) (Nat.le_refl _) rfl rfl rfl).cast (by rw [a.a1])) rfl rfl ?_)
  refine ht_cons (hs_compM (ks := s) (ρf := []) (G := fun x => I x) (it_pairsM (F := fun x => I (mkRat x 6).num) (G := fun x => I ((mkRat x 6).den : Int)) ((ev_name (d := LQ (RK 6 s)) rfl rfl).cast (by rw [LQ, RK, List.map_map]; rfl)) rfl)
    (FreeOK.mk' (List.forall_mem_nil _) rfl) (by decide) rfl (by decide) (by decide) (fun k => List.forall_mem_nil _) (fun x _ => ?_) rfl rfl rfl ?_)
  · have hd := mkRat_den_le (n := x) (K := 6) (by decide)
    have hd0 := (mkRat x 6).den_pos
    exact (ev_fdiv (ev_mul (ev_name rfl rfl) (ev_int (i := 6)) (mulOk_r (by decide))) (ev_name rfl rfl) (by omega) (log2_lt (k := 64) (by omega) (by decide) (by decide))).cast (by have := mkRat_back (n := x) (K := 6) (by decide); exact congrArg D.int this)
  generalize hρ1 : (("told" : Str), Slot.val (LQ (RK 6 s))) :: ρ = ρ1
  have f1 : Hv ρ1 "f" (LI f) := by rw [← hρ1]; exact (lk_ne rfl).trans hf
  have g1 : Hv ρ1 "g" (LI g) := by rw [← hρ1]; exact (lk_ne rfl).trans hg
  have k1 : Hv ρ1 "k" (I (k : Int)) := by rw [← hρ1]; exact (lk_ne rfl).trans hk
  have c1 : Hv ρ1 "c" (I c) := by rw [← hρ1]; exact (lk_ne rfl).trans hc
  have t1 : Hv ρ1 "told" (LQ (RK 6 s)) := by rw [← hρ1]; rfl
  generalize hρ2 : (("s" : Str), Slot.val (D.lst (s.map fun x => I x))) :: ρ1 = ρ2
  have f2 : Hv ρ2 "f" (LI f) := by rw [← hρ2]; exact (lk_ne rfl).trans f1
  have g2 : Hv ρ2 "g" (LI g) := by rw [← hρ2]; exact (lk_ne rfl).trans g1
  have k2 : Hv ρ2 "k" (I (k : Int)) := by rw [← hρ2]; exact (lk_ne rfl).trans k1
  have c2 : Hv ρ2 "c" (I c) := by rw [← hρ2]; exact (lk_ne rfl).trans c1
  have t2 : Hv ρ2 "told" (LQ (RK 6 s)) := by rw [← hρ2]; exact (lk_ne rfl).trans t1
  have s2 : Hv ρ2 "s" (LI s) := by rw [← hρ2]; rfl
  refine ht_cons (hs_if (c := false || (false || (false || false))) (tr_or (or_cons (tr_cmp (ev_call ok (hra s (by omega)) (ar_cons (ev_name s2 rfl) ar_nil rfl) (Nat.le_refl _) rfl rfl rfl) (ev_name t2 rfl) (cmp_LQ_ne _) rfl) fun _ =>
    or_cons (tr_cmp (a := LI s) ((ev_call ok (hpl [] s 1 (by decide) (by simp) (by omega)) (ar_cons (ev_lst ar_nil (by decide)) (ar_cons (ev_name s2 rfl) (ar_cons ev_int ar_nil rfl) rfl) rfl) (Nat.le_refl _) rfl rfl rfl).cast (by rw [a.a2])) (ev_name s2 rfl) (cmp_LI_ne _) rfl) fun _ =>
    or_cons (tr_cmp (a := LI (s.take 1)) ((ev_slice (ds := s.map .int) (a := none) (b := some ((1 : Nat) : Int)) (c := none) (ev_name s2 rfl) pt_none (pt_some ev_int) pt_none (by simp) pick_upto).cast (by rw [LI, List.map_take])) (ev_tup (ar_cons (ev_lst ar_nil (by decide)) (ar_cons (ev_lst (ar_cons ev_int ar_nil rfl) (show 1 ≤ sizeLine from by decide)) ar_nil rfl) rfl) (show 2 ≤ sizeLine from by decide)) (cmp_in_zero a.a3) rfl) fun _ => or_nil)) (fun h => by cases h) fun _ => ht_nil ?_)
  refine ht_cons (hs_if (c := false) (tr_cmp (a := LI (f.map (6 * ·))) ((ev_call ok (hpl (atL s 1 1) s (-1) (by decide) (by omega) (by omega)) (ar_cons (ev_call ok (hat s 1 1 (by decide) (by decide) (by omega)) (ar_cons (ev_name s2 rfl) (ar_cons ev_int (ar_cons ev_int ar_nil rfl) rfl) rfl) (Nat.le_refl _) rfl rfl rfl) (ar_cons (ev_name s2 rfl) (ar_cons (ev_neg ev_int) ar_nil rfl) rfl) rfl) (Nat.le_refl _) rfl rfl rfl).cast (by rw [a.a4]))
    ((ev_compM (ks := f) (ρf := []) (G := fun x => I (6 * x)) (it_listM (F := .int) (ev_name f2 rfl) rfl) (FreeOK.mk' (List.forall_mem_nil _) rfl) (by decide) rfl (by decide) (by decide) (fun k => List.forall_mem_nil _) fun x _ => ev_mul (ev_int (i := 6)) (ev_name rfl rfl) (mulOk_l (by decide))).cast (by rw [LI, List.map_map]; rfl)) (cmp_LI_ne _) rfl) (fun h => by cases h) fun _ => ht_nil ?_)
  refine ht_cons (hs_if (c := !true || (!true || false)) (tr_or (or_cons (tr_not (tr_call (ev_call ok (lawCuts_S L f s c (by omega) (by omega) a.hc a.c1 a.c2) (ar_cons (ev_name f2 rfl) (ar_cons (ev_name s2 rfl) (ar_cons (ev_name c2 rfl) ar_nil rfl) rfl) rfl) (Nat.le_refl _) rfl rfl rfl))) fun _ =>
    or_cons (tr_not (tr_call (ev_call ok (lawRows_S L f s k a.Wb a.Tb (by omega) (by omega) a.hk a.r0 a.r1 a.r2 a.r3 a.rl) (ar_cons (ev_name f2 rfl) (ar_cons (ev_name s2 rfl) (ar_cons (ev_name k2 rfl) ar_nil rfl) rfl) rfl) (Nat.le_refl _) rfl rfl rfl))) fun _ => or_nil)) (fun h => by cases h) fun _ => ht_nil ?_)
  refine ht_cons (hs_assign (d := LI a.steps) ((ev_call ok (hpl (atL g 1 1) g (-1) (by decide) (by omega) (by omega)) (ar_cons (ev_call ok (hat g 1 1 (by decide) (by decide) (by omega)) (ar_cons (ev_name g2 rfl) (ar_cons ev_int (ar_cons ev_int ar_nil rfl) rfl) rfl) (Nat.le_refl _) rfl rfl rfl) (ar_cons (ev_name g2 rfl) (ar_cons (ev_neg ev_int) ar_nil rfl) rfl) rfl) (Nat.le_refl _) rfl rfl rfl).cast (by rw [a.s0])) rfl rfl ?_)
  have g3 : Hv ((("steps" : Str), Slot.val (LI a.steps)) :: ρ2) "g" (LI g) := (lk_ne rfl).trans g2
  have lp := plusL_length g (g.take 1) (-1)
  have lt := List.length_take_le 1 g
  refine ht_cons (hs_ret (ev_cmp (a := LQ (RK 6 ((plusL g (g.take 1) (-1)).map (6 * ·)))) ((ev_call ok (hto a.steps a.s1) (ar_cons (ev_name rfl rfl) ar_nil rfl) (Nat.le_refl _) rfl rfl rfl).cast (by rw [a.s2]))
    (ev_call ok (hra ((plusL g (g.take 1) (-1)).map (6 * ·)) (by rw [List.length_map]; omega)) (ar_cons ((ev_compM (ks := plusL g (g.take 1) (-1)) (ρf := []) (G := fun x => I (6 * x)) (it_listM (F := .int) (ev_call ok (hpl g (g.take 1) (-1) (by decide) (by omega) (by omega)) (ar_cons (ev_name g3 rfl) (ar_cons ((ev_slice (ds := g.map .int) (a := none) (b := some ((1 : Nat) : Int)) (c := none) (ev_name g3 rfl) pt_none (pt_some ev_int) pt_none (by simp) pick_upto).cast (show D.lst _ = LI (g.take 1) by rw [LI, List.map_take])) (ar_cons (ev_neg ev_int) ar_nil rfl) rfl) rfl) (Nat.le_refl _) rfl rfl rfl) rfl)
      (FreeOK.mk' (List.forall_mem_nil _) rfl) (by decide) rfl (by decide) (by decide) (fun k => List.forall_mem_nil _) fun x _ => ev_mul (ev_int (i := 6)) (ev_name rfl rfl) (mulOk_l (by decide))).cast (by rw [LI, List.map_map]; rfl)) ar_nil rfl) (Nat.le_refl _) rfl rfl rfl) (cmp_LQ_eq _) rfl) rfl)
end Mine

namespace Mine

/-- the entry of a def, with the frame in hand -/
theorem call_entry {W : Wd} {n : Nat} {f : Str} {params : Arguments} {body : List Stmt} {scope : Scope} {ps : List Str} (ok : W.OK) (hd : DefAt W f params body scope)
    (hk : scope.kind = .function) (hco : scope.isCoroutine = false) (hgen : scope.isGenerator = false) (hps : ps.Nodup) (hkind : ∀ x ∈ ps, (scope.names.lookup x = some .local ∨ scope.names.lookup x = some .cell) ∧ (x == ("__classdict__" : Str)) = false)
    (hbind : ∀ (pm code doc : Value) (vs : List Value), vs.length = ps.length → bindArgs (Calls.docDef f params body scope pm code doc) ⟨vs, []⟩ = pure (ps.zip vs)) :
    ∃ a o fd, W.mg f = some (.ref a) ∧ W.hB.get? a = some o ∧ o.data = .func fd ∧ ∀ (A : Around) (N : Addr → Prop) (s : Shared) (vs : List Value) (ds : List D) (Q : Value → Shared → Prop), Room (n + 1) A → (∀ b o, W.hB.get? b = some o → s.heap.get? b = some o) →
      (∀ a, N a → W.hB.get? a = none ∧ ∃ o, s.heap.get? a = some o) → ps.length = ds.length → Reps N s.heap vs ds →
      (∀ env m s₁, EnvOK scope env → Room n (A.deeper env) → St W env m N (fun b => b = env.locals) (ps.zip (ds.map .val)) s₁.heap → Ks s s₁ → s.heap.get? env.locals = none → (∀ x v, (x, v) ∈ ps.zip vs → Rds env m (fun b => b = env.locals) s₁.heap x v) →
        (∀ y, scope.names.lookup y = some .cell → y ∉ ps → ∃ c, env.cells.lookup y = some c ∧ s₁.heap.IsCell c none ∧ s.heap.get? c = none ∧ c ≠ env.locals) →
        wpAny (model W.prog W.w) (A.deeper env) (execs body env) (fun fl s' => Q (match fl with | .ret v => v | _ => .none) s') NoE s₁) →
      wpAny (model W.prog W.w) A (call (.ref a) vs) Q NoE s := by
  obtain ⟨a, o, pm, code, doc, hg, ho, hdata, hcd⟩ := hd
  refine ⟨a, o, _, hg, ho, hdata, fun A N s vs ds Q rm hB hN hlen hr cont => ?_⟩
  have hvs : vs.length = ps.length := by rw [hr.length, hlen]
  have hroom : A.depth < recursionLimit := by have := rm.depth; omega
  refine wpAny_call (codeAny_call_cells (fd := Calls.docDef f params body scope pm code doc) (body := body) (binds := ps.zip vs) hroom (hB _ _ ho) hdata (ok.nolimit.keeps hB) (hcd.keeps hB) rfl (hbind pm code doc vs hvs) rfl ?_ (fun s₁ x => ?_) hco hgen hk)
  · intro x hx
    have hm : x.1 ∈ ps := List.of_mem_zip hx |>.1
    rcases (hkind _ hm).1 with q | q
    · exact .inl q
    · exact .inr ⟨q, cellsFrom_some _ _ _ (.inl q)⟩
  · generalize henv : callEnvC (Calls.docDef f params body scope pm code doc) s.heap.objs.size a = env at x ⊢
    have hL : env.locals = s.heap.objs.size := by rw [← henv]; rfl
    have en : EnvOK scope env := ⟨by rw [← henv]; rfl, hk, by rw [← henv]; rfl, by rw [← henv]; rfl⟩
    have kp := x.toInCall.keep
    have lt : ∀ b o, s.heap.get? b = some o → b ≠ env.locals := fun b o e q => Nat.lt_irrefl _ (by rw [hL] at q; exact q ▸ Heap.lt_size e)
    have hcells : ∀ y, scope.names.lookup y = some .cell → ∃ c, env.cells.lookup y = some c := fun y hy => by
      have : (env.cells.lookup y).isSome = true := by rw [← henv]; exact cellsFrom_some _ _ _ (.inl hy)
      exact Option.isSome_iff_exists.mp this
    have hnd : ((ps.zip vs).map (·.1)).Nodup := by rw [List.map_fst_zip (by omega)]; exact hps
    have hrd : ∀ y v, (y, v) ∈ ps.zip vs → Rds env (bindL env.kindOf (ps.zip vs) fun _ => none) (fun b => b = env.locals) s₁.heap y v := fun y v hm => by
      have hy := hkind y (List.of_mem_zip hm).1
      rcases hy.1 with q | q
      · exact .inl ⟨by rw [en.kindOf]; exact q, bindL_mem hnd hm (by rw [en.kindOf]; exact q)⟩
      · obtain ⟨c, hc⟩ := hcells y q
        refine .inr ⟨.inl (by rw [en.kindOf]; exact q), hy.2, c, hc, fun z => ?_, ?_⟩
        · exact Nat.lt_irrefl _ (z ▸ x.above y c (mem_of_lookup hc))
        · have := x.cell y c hc
          rwa [bindC_mem hnd hm (by rw [en.kindOf, q]; decide)] at this
    have S : St W env (bindL env.kindOf (ps.zip vs) fun _ => none) N (fun b => b = env.locals) (ps.zip (ds.map .val)) s₁.heap := by
      refine ⟨x.toInCall.ns, rfl, fun b o e => kp b o (hB b o e), fun b q => ?_, fun b q => ?_, fun y sl e => ?_⟩
      · obtain ⟨p, o, e⟩ := hN b q
        exact ⟨p, lt b o e, o, kp b o e⟩
      · subst q
        refine ⟨?_, ?_⟩
        · cases e : W.hB.get? env.locals with
          | none => rfl
          | some o => exact absurd rfl (lt _ o (hB _ _ e))
        · obtain ⟨o, _, _, e, _⟩ := x.toInCall.ns
          exact ⟨o, e⟩
      · obtain ⟨v, d', rfl, hm, r⟩ := zip_lookup hr e
        refine ⟨v, hrd y v hm, .val (r.kp (.of_ext kp) fun b q e' => ?_)⟩
        rcases q with q | q
        · exact q
        · obtain ⟨o, e'⟩ := e'
          exact absurd q (lt b o e')
    refine wpNoE (wpAny_mono (cont env _ s₁ en rm.deeper S ⟨x.toInCall.same, kp⟩ (by rw [hL]; exact fresh_size) hrd fun y hy hn => ?_) (fun fl s₂ q => q) fun _ _ x => x)
    obtain ⟨c, hc⟩ := hcells y hy
    have habove := x.above y c (mem_of_lookup hc)
    refine ⟨c, hc, ?_, ?_, fun z => Nat.lt_irrefl _ (z ▸ habove)⟩
    · have := x.cell y c hc
      rwa [bindC_other] at this
      intro p hp e
      exact hn (e ▸ (List.of_mem_zip hp).1)
    · exact Heap.get?_none_of_le (by rw [hL] at habove; exact Nat.le_of_lt habove)

def drawV (xs : List Int) (i : Nat) (m : Int) : Int := if i < xs.length then (((xs.getD i 0).natAbs : Nat) : Int).fmod m else (5 * (i : Int) + 4).fmod m

theorem draw_S {W : Wd} (L : Lib W) (hd : DefI W 22 "_law_draw") : ∃ a o fd, W.mg "_law_draw" = some (.ref a) ∧ W.hB.get? a = some o ∧ o.data = .func fd ∧ ∀ (A : Around) (N : Addr → Prop) (s : Shared) (P lc : Addr) (xs : List Int) (t tm : Tok) (i : Nat) (m : Int),
    Room 2 A → (∀ b o, W.hB.get? b = some o → s.heap.get? b = some o) → (∀ a, N a → W.hB.get? a = none ∧ ∃ o, s.heap.get? a = some o) → N P → s.heap.IsList P #[.ref lc, .int (i : Int) t] → Rep N s.heap (.ref lc) (LI xs) → m ≠ 0 →
    wpAny (model W.prog W.w) A (call (.ref a) [.ref P, .int m tm]) (fun v s' => (∃ tv, v = .int (drawV xs i m) tv) ∧ (∃ h' tk, s' = { s with heap := h', toks := tk }) ∧ (∀ b o, b ≠ P → s.heap.get? b = some o → s'.heap.get? b = some o) ∧ ∃ t', s'.heap.IsList P #[.ref lc, .int ((i + 1 : Nat) : Int) t']) NoE s := by
  obtain ⟨a, o, fd, hg, ho, hdt, hc⟩ := call_entry (n := 1) (ps := ["pool", "many"]) L.ok hd rfl rfl rfl (by decide) (by decide) (fun pm code doc vs h => by
    match vs, h with
    | [x, y], _ => rfl)
  refine ⟨a, o, fd, hg, ho, hdt, fun A N s P lc xs t tm i m rm hB hN hP hl hr hm0 => ?_⟩
  have hPn := (hN P hP).1
  have hlcP : lc ≠ P := by
    rintro rfl
    cases hr with
    | lst nn => exact nn hP
  have r' : Rep (fun b => N b ∧ b ≠ P) s.heap (.ref lc) (LI xs) := hr.kp .refl fun _ x _ => x.1
  have rpool : ∀ {h : Heap} {j : Int} {tj : Tok}, h.IsList P #[.ref lc, .int j tj] → Rep (fun b => N b ∧ b ≠ P) h (.ref lc) (LI xs) → Rep (fun b => N b ∧ b ≠ P) h (.ref P) (.lst [LI xs, I j]) := fun hl r => .lst (fun z => z.2 rfl) hl (show 2 ≤ sizeLine from by decide) (.cons r (.cons (.int _ _) .nil))
  refine hc A (fun b => N b ∧ b ≠ P) s [.ref P, .int m tm] [.lst [LI xs, I (i : Int)], I m] _ rm hB (fun b q => hN b q.1) rfl (.cons (rpool hl r') (.cons (.int _ _) .nil)) fun env mm s₁ en rm' S k hLn hrd _ => ?_
  have hLP : P ≠ env.locals := by
    rintro rfl
    obtain ⟨o, e, _⟩ := hl
    rw [hLn] at e; cases e
  have rdP := hrd "pool" (.ref P) (.head _)
  have hmP : mm "pool" = some (.ref P) := by
    rcases rdP with ⟨_, q⟩ | ⟨q, _⟩
    · exact q
    · have e : (stScope (stAt 22)).names.lookup ("pool" : Str) = some NameKind.local := rfl
      rw [en.kindOf, e] at q
      rcases q with q | q <;> cases q
  have hl1 : s₁.heap.IsList P #[.ref lc, .int (i : Int) t] := hl.at fun o e => k.get _ _ e
  have rlc1 : Rep (fun b => N b ∧ b ≠ P) s₁.heap (.ref lc) (LI xs) := r'.keep k.get
  -- spot = pool[1]
  refine wpAny_execs_cons (wpAny_Assign_Name (wpAny_mono (ev_sub_list (W := W) (n := 1) (ds := [LI xs, I (i : Int)]) (i := 1) (d := I (i : Int)) (ev_name rfl rfl) ev_int (by decide) rfl (A.deeper env) env mm _ _ s₁ rm' en S) (fun v s₂ ⟨k₂, q₂⟩ => ?_) fun _ _ x => x) rfl)
  cases q₂ with
  | int _ tv =>
  have S₂ := S.keep k₂.get
  have hks : env.kindOf "spot" = some .local := by rw [en.kindOf]; decide
  refine wpAny_storeName_local hks S₂.ns (fun h₃ hn₃ hs₃ => ?_) en.fn
  have S₃ := S₂.store hks hn₃ hs₃ (.val (.int (i : Int) tv))
  have hl3 : h₃.IsList P #[.ref lc, .int (i : Int) t] := (hl1.at fun o e => k₂.get _ _ e).at fun o e => (hs₃.2 P hLP).trans e
  -- pool[1] = spot + 1
  refine wpAny_execs_cons (wpAny_Assign_Subscript (wpAny_mono (ev_add (W := W) (n := 1) (i := (i : Int)) (j := 1) (ev_name rfl rfl) ev_int (A.deeper env) env _ _ _ _ rm' en S₃) (fun v s₄ ⟨k₄, q₄⟩ => ?_) fun _ _ x => x) rfl)
  cases q₄ with
  | int _ tw =>
  have S₄ := S₃.keep k₄.get
  have hkp : env.kindOf "pool" = some .local := by rw [en.kindOf]; decide
  refine wpAny_Name (wpAny_loadName_local (en.scope ▸ en.kind) hkp S₄.ns (v := .ref P) (by rw [if_neg (by decide)]; exact hmP) ?_)
  refine wpAny_Constant_int ?_
  have hl4 : s₄.heap.IsList P #[.ref lc, .int (i : Int) t] := hl3.at fun o e => k₄.get _ _ e
  refine PySem.wpAny_setItem_list (s := { s₄ with toks := s₄.toks + 1 }) hl4 (by decide) (by decide) (by simp) fun h₅ hl5 hs5 => ?_
  have hs5 : Heap.SameBut P s₄.heap h₅ := hs5
  have hl5 : h₅.IsList P #[.ref lc, .int ((i : Int) + 1) tw] := hl5
  have kall : ∀ b o, b ≠ P → s.heap.get? b = some o → h₅.get? b = some o := fun b o nb e => (hs5.2 b nb).trans (k₄.get b o ((hs₃.2 b (fun q => by rw [q, hLn] at e; cases e)).trans (k₂.get b o (k.get b o e))))
  have rlc5 : Rep (un (fun b => N b ∧ b ≠ P) (fun b => b = env.locals)) h₅ (.ref lc) (LI xs) := hr.kp (h' := h₅) (fun b o nb e => kall b o (fun q => nb (q ▸ hP)) e) fun b z ⟨o, e⟩ => z.elim (fun z => z.1) fun z => by rw [z, hLn] at e; cases e
  have S₅ : St W env (fun y => if y = ("spot" : Str) then some (Value.int (i : Int) tv) else mm y) (fun b => N b ∧ b ≠ P) (fun b => b = env.locals) [("spot", .val (I (i : Int))), ("pool", .val (.lst [LI xs, I ((i : Int) + 1)])), ("many", .val (I m))] h₅ := by
    refine ⟨S₄.ns.sameBut hs5 (Ne.symm hLP), rfl, fun b o e => (hs5.2 b (fun q => by rw [q, hPn] at e; cases e)).trans (S₄.base b o e), fun b q => ?_, fun b q => ?_, fun y sl e => ?_⟩
    · obtain ⟨p, q', o, r⟩ := S₄.xs b q
      exact ⟨p, q', o, (hs5.2 b q.2).trans r⟩
    · obtain ⟨p, o, r⟩ := S₄.os b q
      exact ⟨p, o, (hs5.2 b (fun z => hLP (by rw [← z, q]))).trans r⟩
    · have hm := mem_of_lookup e
      rcases List.mem_cons.mp hm with hm | hm
      · cases hm
        exact ⟨.int (i : Int) tv, .inl ⟨hks, if_pos rfl⟩, .val (.int _ _)⟩
      rcases List.mem_cons.mp hm with hm | hm
      · cases hm
        exact ⟨.ref P, .inl ⟨hkp, (if_neg (by decide)).trans hmP⟩, .val (.lst (fun z => z.elim (fun z => z.2 rfl) fun z => hLP z) hl5 (show 2 ≤ sizeLine from by decide) (.cons rlc5 (.cons (.int _ _) .nil)))⟩
      rcases List.mem_cons.mp hm with hm | hm
      · cases hm
        obtain ⟨v, r, q⟩ := S₄.vars "many" (.val (I m)) rfl
        cases q with
        | val q =>
        cases q with
        | int _ tq =>
        rcases r with r | ⟨r, _⟩
        · exact ⟨_, .inl r, .val (.int _ _)⟩
        · have e : (stScope (stAt 22)).names.lookup ("many" : Str) = some NameKind.local := rfl
          rw [en.kindOf, e] at r
          rcases r with r | r <;> cases r
      · cases hm
  have hrest : HT W 1 (stScope (stAt 22)) [("spot", .val (I (i : Int))), ("pool", .val (.lst [LI xs, I ((i : Int) + 1)])), ("many", .val (I m))] ((stBody (stAt 22)).drop 2) (fun fl _ => fl = .ret (I (drawV xs i m))) := by
    have e0 : ∀ (p1 p2 p3 : Pos) (z : Nat), EvS W 1 (stScope (stAt 22)) [("spot", .val (I (i : Int))), ("pool", .val (.lst [LI xs, I ((i : Int) + 1)])), ("many", .val (I m))] (.Subscript (.Name "pool" p1) (.Constant (.int 0) z p2) p3) (LI xs) := fun p1 p2 p3 z => ev_sub_list (ds := [LI xs, I ((i : Int) + 1)]) (i := 0) (ev_name rfl rfl) ev_int (by decide) rfl
    refine ht_cons (hs_if (tr_cmp (ev_name rfl rfl) (ev_len (ds := xs.map .int) L.ok L.len (e0 _ _ _ _) rfl rfl rfl) cmp_lt rfl) (fun h => ?_) fun h => ht_nil ?_)
    · rw [List.length_map] at h
      have hi : i < xs.length := by have := of_decide_eq_true h; omega
      refine ht_cons (hs_ret ((ev_fmod (ev_abs (i := xs.getD i 0) L.ok L.abs (ev_sub_list (ds := xs.map .int) (i := (i : Int)) (e0 _ _ _ _) (ev_name rfl rfl) (by omega) (by simp [hi, List.getD_eq_getElem?_getD])) rfl rfl rfl) (ev_name rfl rfl) hm0).cast ?_) rfl)
      unfold drawV
      rw [if_pos hi, iabs_eq]
    · rw [List.length_map] at h
      have hi : ¬ i < xs.length := by have := of_decide_eq_false h; omega
      refine ht_cons (hs_ret ((ev_fmod (ev_add (ev_mul (ev_int (i := 5)) (ev_name rfl rfl) (mulOk_l (by decide))) ev_int) (ev_name rfl rfl) hm0).cast ?_) rfl)
      unfold drawV
      rw [if_neg hi]
  refine wpAny_mono (hrest (A.deeper env) env _ _ _ _ rm' en S₅) (fun fl s₆ ⟨fl', ρ', m', O', st, S₆, fr, q⟩ => ?_) fun _ _ x => x
  subst q
  cases fr with
  | ret r =>
  cases r with
  | int _ tr =>
  obtain ⟨⟨h6, t6, e6⟩, kp6, _, _⟩ := st
  obtain ⟨⟨h1, t1, e1⟩, _⟩ := k
  obtain ⟨⟨h2, t2, e2⟩, _⟩ := k₂
  obtain ⟨⟨h4, t4, e4⟩, _⟩ := k₄
  refine ⟨⟨tr, rfl⟩, ⟨h6, t6, by rw [e6, e4, e2, e1]⟩, fun b o nb e => kp6 b o (fun q => by rw [q, hLn] at e; cases e) (kall b o nb e), tw, ?_⟩
  exact hl5.at fun o e => kp6 P o hLP e
end Mine

namespace Mine

/-- all but P stands -/
structure Kb (P : Addr) (s s' : Shared) : Prop where
  eq : ∃ h' tk, s' = { s with heap := h', toks := tk }
  get : ∀ b o, b ≠ P → s.heap.get? b = some o → s'.heap.get? b = some o
theorem Kb.of {P : Addr} {s s' : Shared} (k : Ks s s') : Kb P s s' := ⟨k.eq, fun b o _ e => k.get b o e⟩
theorem Kb.trans' {P : Addr} {s s₁ s₂ : Shared} (x : Kb P s s₁) (y : Kb P s₁ s₂) : Kb P s s₂ := by
  obtain ⟨⟨h, t, rfl⟩, k⟩ := x
  obtain ⟨⟨h', t', rfl⟩, k'⟩ := y
  exact ⟨⟨h', t', rfl⟩, fun b o nb e => k' b o nb (k b o nb e)⟩

structure PSt (W : Wd) (env : Env) (m : Str → Option Value) (X O : Addr → Prop) (ρ : Sto) (h : Heap) (P lc : Addr) (xs : List Int) (own : Bool) (i : Nat) : Prop where
  st : St W env m X O ρ h
  noown : ∀ y ds, ρ.lookup y ≠ some (.own ds)
  un : Mine.un X O P
  own : own = true → O P
  cell : env.kindOf ("pool" : Str) = some .cell ∧ ∃ cp, env.cells.lookup ("pool" : Str) = some cp ∧ ¬ O cp ∧ h.IsCell cp (some (.ref P))
  lst : ∃ t, h.IsList P #[.ref lc, .int (i : Int) t]
  rep : Rep (Mine.un X O) h (.ref lc) (LI xs)

/-- P alone is changed -/
theorem St.poke {W : Wd} {env : Env} {m : Str → Option Value} {X O : Addr → Prop} {ρ : Sto} {h h' : Heap} {P : Addr} {its its' : Array Value} (S : St W env m X O ρ h) (ho : ∀ y ds, ρ.lookup y ≠ some (.own ds)) (hP : un X O P) (hl : h.IsList P its) (hl' : h'.IsList P its')
    (k : ∀ b o, b ≠ P → h.get? b = some o → h'.get? b = some o) : St W env m X O ρ h' := by
  obtain ⟨op, ep, _, cp, dp⟩ := hl
  obtain ⟨op', ep', _⟩ := hl'
  have kp : Kp (un X O) h h' := fun b o nb e => k b o (fun q => nb (q ▸ hP)) e
  have hL : env.locals ≠ P := by
    rintro rfl
    obtain ⟨o', es, ep', e', hd', _⟩ := S.ns
    rw [ep] at e'; cases e'; rw [dp] at hd'; cases hd'
  have hB : W.hB.get? P = none := hP.elim (fun x => (S.xs _ x).1) fun x => (S.os _ x).1
  refine ⟨?_, S.loc, fun b o e => k b o (fun q => by rw [q, hB] at e; cases e) (S.base b o e), fun b q => ?_, fun b q => ?_, fun y sl e => ?_⟩
  · obtain ⟨o, es, ep2, e, hd, r⟩ := S.ns
    exact ⟨o, es, ep2, k _ o hL e, hd, r⟩
  · obtain ⟨p, q', o, r⟩ := S.xs b q
    by_cases hb : b = P
    · exact ⟨p, q', op', hb ▸ ep'⟩
    · exact ⟨p, q', o, k b o hb r⟩
  · obtain ⟨p, o, r⟩ := S.os b q
    by_cases hb : b = P
    · exact ⟨p, op', hb ▸ ep'⟩
    · exact ⟨p, o, k b o hb r⟩
  · obtain ⟨v, r, q⟩ := S.vars y sl e
    refine ⟨v, ?_, ?_⟩
    · rcases r with r | ⟨a, b, c, d, e', o, he, hd⟩
      · exact .inl r
      · refine .inr ⟨a, b, c, d, e', o, k c o ?_ he, hd⟩
        rintro rfl
        rw [he] at ep; cases ep; rw [hd] at dp; cases dp
    · cases q with
      | val q => exact .val (q.kp kp fun _ a _ => a)
      | own => exact absurd e (ho _ _)

theorem PSt.step {W : Wd} {env : Env} {m : Str → Option Value} {X O : Addr → Prop} {ρ : Sto} {h h' : Heap} {P lc : Addr} {xs : List Int} {ow : Bool} {i j : Nat} {t' : Tok} (S : PSt W env m X O ρ h P lc xs ow i) (k : ∀ b o, b ≠ P → h.get? b = some o → h'.get? b = some o)
    (hl' : h'.IsList P #[.ref lc, .int (j : Int) t']) : PSt W env m X O ρ h' P lc xs ow j := by
  obtain ⟨t, hl⟩ := S.lst
  refine ⟨S.st.poke S.noown S.un hl hl' k, S.noown, S.un, S.own, ⟨S.cell.1, ?_⟩, ⟨t', hl'⟩, S.rep.kp (fun b o nb e => k b o (fun q => nb (q ▸ S.un)) e) fun _ a _ => a⟩
  obtain ⟨cp, a, b, o, e, hd⟩ := S.cell.2
  refine ⟨cp, a, b, o, k cp o ?_ e, hd⟩
  rintro rfl
  obtain ⟨o', e', _, c', d'⟩ := hl
  rw [e] at e'; cases e'; rw [hd] at d'; cases d'
theorem PSt.keep {W : Wd} {env : Env} {m : Str → Option Value} {X O : Addr → Prop} {ρ : Sto} {h h' : Heap} {P lc : Addr} {xs : List Int} {ow : Bool} {i : Nat} (S : PSt W env m X O ρ h P lc xs ow i) (k : ∀ b o, h.get? b = some o → h'.get? b = some o) : PSt W env m X O ρ h' P lc xs ow i := by
  obtain ⟨t, hl⟩ := S.lst
  exact S.step (fun b o _ e => k b o e) (hl.at fun o e => k _ o e)

/-- an expression that draws -/
def EvP (W : Wd) (n : Nat) (sc : Scope) (ρ : Sto) (xs : List Int) (ow : Bool) (e : Expr) (d : D) (i j : Nat) : Prop :=
  ∀ (A : Around) (env : Env) (m : Str → Option Value) (X O : Addr → Prop) (s : Shared) (P lc : Addr), Room n A → EnvOK sc env → PSt W env m X O ρ s.heap P lc xs ow i →
    wpAny (model W.prog W.w) A (eval e env) (fun v s' => Kb P s s' ∧ PSt W env m X O ρ s'.heap P lc xs ow j ∧ Rep (un X O) s'.heap v d) NoE s

section
variable {W : Wd} {n : Nat} {sc : Scope} {ρ : Sto} {xs : List Int} {ow : Bool}
theorem EvP.cast {e : Expr} {d d' : D} {i j : Nat} (h : EvP W n sc ρ xs ow e d i j) (q : d = d') : EvP W n sc ρ xs ow e d' i j := q ▸ h
theorem evp_of {e : Expr} {d : D} {i : Nat} (h : EvS W n sc ρ e d) : EvP W n sc ρ xs ow e d i i := fun A env m X O s P lc rm en S =>
  wpAny_mono (h A env m X O s rm en S.st) (fun v s' ⟨k, r⟩ => ⟨.of k, S.keep k.get, r⟩) fun _ _ x => x

theorem evp_bin {l r : Expr} {op : Operator} {pos : Pos} {a b d : D} {i j k : Nat} (hl : EvP W n sc ρ xs ow l a i j) (hr : EvP W n sc ρ xs ow r b j k)
    (ho : ∀ (A : Around) (N : Addr → Prop) (s : Shared) (x y : Value), Rep N s.heap x a → Rep N s.heap y b → wpAny (model W.prog W.w) A (binaryOp op x y) (fun v s' => Ks s s' ∧ Rep N s'.heap v d) NoE s) : EvP W n sc ρ xs ow (.BinOp l op r pos) d i k := by
  intro A env m X O s P lc rm en S
  refine wpAny_BinOp (wpAny_mono (hl A env m X O s P lc rm en S) (fun x s₁ ⟨k₁, S₁, q₁⟩ => ?_) fun _ _ x => x)
  refine wpAny_mono (hr A env m X O s₁ P lc rm en S₁) (fun y s₂ ⟨k₂, S₂, q₂⟩ => ?_) fun _ _ x => x
  have q₁' : Rep (un X O) s₂.heap x a := q₁.kp (fun b o nb e => k₂.get b o (fun q => nb (q ▸ S₁.un)) e) fun _ a _ => a
  exact wpAny_mono (ho A (un X O) s₂ x y q₁' q₂) (fun v s₃ ⟨k₃, q₃⟩ => ⟨(k₁.trans' k₂).trans' (.of k₃), S₂.keep k₃.get, q₃⟩) fun _ _ x => x
theorem evp_add {l r : Expr} {pos : Pos} {a b : Int} {i j k : Nat} (hl : EvP W n sc ρ xs ow l (.int a) i j) (hr : EvP W n sc ρ xs ow r (.int b) j k) : EvP W n sc ρ xs ow (.BinOp l .Add r pos) (.int (a + b)) i k :=
  evp_bin hl hr fun A N s x y hx hy => by
    cases hx; cases hy; exact PyProof.Rows.add_int ⟨.tok, .int _ _⟩
theorem evp_sub {l r : Expr} {pos : Pos} {a b : Int} {i j k : Nat} (hl : EvP W n sc ρ xs ow l (.int a) i j) (hr : EvP W n sc ρ xs ow r (.int b) j k) : EvP W n sc ρ xs ow (.BinOp l .Sub r pos) (.int (a - b)) i k :=
  evp_bin hl hr fun A N s x y hx hy => by
    cases hx; cases hy; exact PyProof.Rows.sub_int' ⟨.tok, .int _ _⟩
theorem evp_mul {l r : Expr} {pos : Pos} {a b : Int} {i j k : Nat} (hl : EvP W n sc ρ xs ow l (.int a) i j) (hr : EvP W n sc ρ xs ow r (.int b) j k) (hm : IntMulOk a b) : EvP W n sc ρ xs ow (.BinOp l .Mult r pos) (.int (a * b)) i k :=
  evp_bin hl hr fun A N s x y hx hy => by
    cases hx; cases hy; exact PyProof.Rows.mul_int ⟨.tok, .int _ _⟩ hm

theorem evp_draw {p1 p2 p3 p4 : Pos} {kk : Nat} {i : Nat} {m : Int} (L : Lib W) (hd : DefI W 22 "_law_draw") (hm : m ≠ 0) (hn : 2 ≤ n) (hx : sc.names.lookup ("_law_draw" : Str) = some .globalImplicit) :
    EvP W n sc ρ xs ow (.Call (.Name "_law_draw" p1) [.Name "pool" p2, .Constant (.int m) kk p3] [] p4) (I (drawV xs i m)) i (i + 1) := by
  intro A env mm X O s P lc rm en S
  obtain ⟨a, o, fd, hg, ho, hf, hcall⟩ := draw_S L hd
  have hk : env.scope.kind = .function := en.scope ▸ en.kind
  refine wpAny_Call_NameR (wp_globalName L.ok en hx S.st.base (.inl hg) ?_ (by decide))
  obtain ⟨hkc, cp, hcp, hno, hcell⟩ := S.cell
  refine callWith_def hf (wpAny_items_cons (wpAny_Name (wpAny_loadName_cell hk hkc hcp hcell ?_) (by decide)) (starEach_of rfl)) (starEach_of rfl)
  refine wpAny_items_cons (wpAny_Constant_int ?_) (starEach_of rfl)
  refine wpAny_items_nil ?_
  have hN : ∀ a, un X O a → W.hB.get? a = none ∧ ∃ o, s.heap.get? a = some o := fun a h => by
    rcases h with h | h
    · exact ⟨(S.st.xs a h).1, (S.st.xs a h).2.2⟩
    · exact S.st.os a h
  obtain ⟨t, hl⟩ := S.lst
  refine ⟨S.st.base _ _ ho, wpAny_mono (hcall A (un X O) { s with toks := s.toks + 1 } P lc xs t _ i m (rm.le hn) S.st.base hN S.un hl S.rep hm) (fun v s₂ ⟨⟨tv, e⟩, ⟨h', tk, e'⟩, k, t', hl'⟩ => ?_) fun _ _ x => x⟩
  subst e'
  subst e
  exact ⟨⟨⟨h', tk, rfl⟩, k⟩, S.step k hl', .int _ _⟩
end
end Mine

namespace Mine

section
variable {W : Wd} {n : Nat} {sc : Scope} {ρ : Sto} {xs : List Int}

theorem closure_pool {scope : Scope} {env : Env} {m : Str → Option Value} {X O : Addr → Prop} {h : Heap} {P lc : Addr} {ow : Bool} {i : Nat} (S : PSt W env m X O ρ h P lc xs ow i) (hf : ∀ x ∈ scope.names, x.2 = .free → x.1 = ("pool" : Str)) : closureFor scope env = pure (clOf scope.names env.cells []) := by
  refine closureFor_eq fun x hx hk => ?_
  obtain ⟨_, cp, hc, _⟩ := S.cell
  rw [hf x hx hk, hc]; rfl

theorem evp_comp {elt target iter : Expr} {scope : Scope} {pos : Pos} {its : List Sto} {outs : List D} {i0 : Nat} (hi : ItS W n sc ρ target iter its) (hfree : ∀ x ∈ scope.names, x.2 = .free → x.1 = ("pool" : Str)) (hpf : scope.names.lookup ("pool" : Str) = some .free)
    (hsp : sc.names.lookup ("pool" : Str) = some .cell) (hcell : ∀ y ∈ scope.names, y.2 ≠ .cell) (hkind : scope.kind = .function)
    (hnames : ∀ x ∈ scope.names, x.2 = .local → scope.names.lookup x.1 = some .local)
    (ht : ∀ x ∈ tnames target, scope.names.lookup x = some .local) (hlen : outs.length = its.length) (hvals : ∀ bs ∈ its, ∀ y ds, bs.lookup y ≠ some (.own ds))
    (helt : ∀ (i : Nat) (bs : Sto) (d : D), its[i]? = some bs → outs[i]? = some d → EvP W n (relS scope sc) bs xs false elt d (i0 + i) (i0 + (i + 1))) :
    EvP W n sc ρ xs true (.ListComp elt [⟨target, iter, [], 0⟩] scope pos) (.lst outs) i0 (i0 + its.length) := by
  intro A env m X O s P lc rm en PS
  rw [eval_ListComp]
  have S := PS.st
  refine wpAny_comprehension_free (use := none) rfl (fun x => hi.plain x env) (closure_pool PS hfree) hkind hnames ?_
  refine wpAny_mono (hi.run A env m X O s rm en S) (fun xv s₁ q => wpAny_mono q (fun it s₂ ⟨I, s₀, F, Z, T, hI, k₀, k₂, R, t0, hF, hsz⟩ => ?_) fun _ _ x => x) fun _ _ x => x
  have k02 := k₀.trans' k₂
  have S₀ := S.keep k₀.get
  have PS₂ := PS.keep k02.get
  have S₂ := PS₂.st
  refine wpAny_newObj_type (wpAny_newFunctionEnv hcell (by intro y hy; simp at hy) (fun h₁ hns₁ hsb₁ => ?_) hkind)
  dsimp only at hns₁ hsb₁ ⊢
  generalize hH2 : s₂.heap.push { cls := .type "list", dict := none, data := .seq ([] : List Value).toArray } = H2 at hns₁ hsb₁ ⊢
  have hC : H2.objs.size = s₂.heap.objs.size + 1 := by rw [← hH2, Heap.size_push]
  generalize hDD : s₂.heap.objs.size = D at hC
  generalize hCC : H2.objs.size = C at hC hns₁ hsb₁
  have hDC : D ≠ C := by rw [hC]; exact Nat.ne_of_lt (Nat.lt_succ_self _)
  have low : ∀ b o, s₂.heap.get? b = some o → b ≠ C ∧ b ≠ D := fun b o e => by
    have := Heap.lt_size e
    rw [hDD] at this
    exact ⟨by rw [hC]; exact Nat.ne_of_lt (Nat.lt_succ_of_lt this), Nat.ne_of_lt this⟩
  have old : ∀ b o, s₂.heap.get? b = some o → h₁.get? b = some o := fun b o e => hsb₁.extBut b o (low b o e).1 (Heap.get?_push_of_some _ (hH2 ▸ Heap.get?_push_of_some _ e))
  have hacc : PlainL h₁ D #[] := ⟨_, _, hsb₁.extBut _ _ hDC (Heap.get?_push_of_some _ (by rw [← hH2, ← hDD]; exact Heap.get?_push_size _ rfl)), rfl, rfl, rfl⟩
  have noneOf : ∀ {h : Heap}, (∀ b o, h.get? b = some o → s₂.heap.get? b = some o) → h.get? C = none ∧ h.get? D = none := fun {h} k => by
    constructor
    · cases e : h.get? C with
      | none => rfl
      | some o => exact absurd rfl (low _ _ (k _ _ e)).1
    · cases e : h.get? D with
      | none => rfl
      | some o => exact absurd rfl (low _ _ (k _ _ e)).2
  have hOP : O P := PS.own rfl
  have hPF : ∀ b, F b → b ≠ P := fun b fb q => hF b fb (q ▸ hOP)
  obtain ⟨tP, hlP⟩ := PS₂.lst
  have hPe : ∃ o, s₂.heap.get? P = some o := let ⟨o, e, _⟩ := hlP; ⟨o, e⟩
  have hPlow : P ≠ C ∧ P ≠ D := let ⟨o, e⟩ := hPe; low P o e
  obtain ⟨hkc, cp, hcp, hcpO, hcpC⟩ := PS.cell
  obtain ⟨ocp, ecp, dcp⟩ := hcpC
  have hcpP : cp ≠ P := by
    rintro rfl; exact hcpO hOP
  -- the comprehension's own frame
  have en' : EnvOK (relS scope sc) (compEnvC scope (clOf scope.names env.cells []) C env) := ⟨relabel_eq en, hkind, en.globals, en.builtins⟩
  have S₃ : St W (compEnvC scope (clOf scope.names env.cells []) C env) (fun x => ([] : List (Str × Value)).reverse.lookup x) (un X O) (fun b => b = C ∨ b = D) [] h₁ := by
    refine ⟨hns₁, .inl rfl, fun b o e => old b o (S₂.base b o e), fun b q => ?_, fun b q => ?_, fun y sl e => nomatch e⟩
    · have : W.hB.get? b = none ∧ ∃ o, s₂.heap.get? b = some o := by
        rcases q with q | q
        · exact ⟨(S₂.xs b q).1, (S₂.xs b q).2.2⟩
        · exact S₂.os b q
      obtain ⟨p, o, e⟩ := this
      exact ⟨p, fun z => z.elim (low b o e).1 (low b o e).2, o, old b o e⟩
    · have hn := noneOf (h := W.hB) S₂.base
      rcases q with rfl | rfl
      · obtain ⟨o, _, _, e, _⟩ := hns₁
        exact ⟨hn.1, o, e⟩
      · obtain ⟨o, _, e, _⟩ := hacc
        exact ⟨hn.2, o, e⟩
  have hZ : ∀ b, Z b → W.hB.get? b = none ∧ ¬ un X O b := fun b z => by
    have zf := R.zf b z
    refine ⟨?_, fun x => ?_⟩
    · cases e : W.hB.get? b with
      | none => rfl
      | some o => have := S₀.base b o e; rw [zf] at this; cases this
    · exact S₀.fresh zf x
  have nZ : ∀ b o, s.heap.get? b = some o → ¬ Z b := fun b o e z => by
    have := R.zf b z; rw [k₀.get b o e] at this; cases this
  have hPZ : ¬ Z P := fun z => (hZ P z).2 (.inr hOP)
  have hFe : ∀ b, F b → ¬ (b = C ∨ b = D) := fun b hb => by
    obtain ⟨o, e⟩ := R.ex _ _ t0 b hb
    exact fun z => z.elim (low b o e).1 (low b o e).2
  have hlocal : ∀ x ∈ tnames target, (compEnvC scope (clOf scope.names env.cells []) C env).kindOf x = some .local := fun x hx => by rw [en'.kindOf]; exact relS_local (ht x hx)
  -- the pool, seen from the comprehension
  have mkP : ∀ {h' : Heap} {m' : Str → Option Value} {ρ' : Sto} {j : Nat} {t' : Tok}, St W (compEnvC scope (clOf scope.names env.cells []) C env) m' (un X O) (fun b => b = C ∨ b = D) ρ' h' → (∀ y ds, ρ'.lookup y ≠ some (.own ds)) →
      (∀ b o, b ≠ C → b ≠ D → b ≠ P → ¬ Z b → s₂.heap.get? b = some o → h'.get? b = some o) → h'.IsList P #[.ref lc, .int (j : Int) t'] → PSt W (compEnvC scope (clOf scope.names env.cells []) C env) m' (un X O) (fun b => b = C ∨ b = D) ρ' h' P lc xs false j := by
    intro h' m' ρ' j t' Sx hno kx hlx
    refine ⟨Sx, hno, .inl (.inr hOP), (fun q => nomatch q), ⟨?_, cp, clOf_lookup hcp _ _ (fun c' e => nomatch e) (.inl (mem_of_lookup hpf)), ?_, ocp, ?_, dcp⟩, ⟨t', hlx⟩, ?_⟩
    · rw [en'.kindOf]; exact relS_free en.kind hsp hpf
    · exact fun z => z.elim (low cp ocp (k02.get _ _ ecp)).1 (low cp ocp (k02.get _ _ ecp)).2
    · exact kx cp ocp (low cp ocp (k02.get _ _ ecp)).1 (low cp ocp (k02.get _ _ ecp)).2 hcpP (nZ _ _ ecp) (k02.get _ _ ecp)
    · refine PS.rep.kp (fun b o nb e => ?_) fun a z ⟨o, e⟩ => ?_
      · exact kx b o (low b o (k02.get _ _ e)).1 (low b o (k02.get _ _ e)).2 (fun q => nb (q ▸ .inr hOP)) (nZ b o e) (k02.get b o e)
      · rcases z with z | z | z
        · exact z
        · exact absurd z (low a o (k02.get _ _ e)).1
        · exact absurd z (low a o (k02.get _ _ e)).2
  let RR : Value → Addr → Result → Shared → Prop := fun acc C => compPost (model W.prog W.w) A NoE none (fun v s' => Kb P s s' ∧ PSt W env m X O ρ s'.heap P lc xs true (i0 + its.length) ∧ Rep (un X O) s'.heap v (.lst outs)) acc C
  have hRR : ∀ s' m' ws t', Kb P s s' → s'.heap.Ns C m' → s'.heap.IsList D (List.toArray ws) → ws.length ≤ sizeLine → Reps (un X O) s'.heap ws outs → s'.heap.IsList P #[.ref lc, .int ((i0 + its.length : Nat) : Int) t'] → RR (.ref D) C (.ok .next) s' := by
    intro s' m' ws t' k hn hl hz hr hlp
    obtain ⟨hCn, hDn⟩ := noneOf k02.get
    refine ⟨m', hn, fun h' hs => ?_⟩
    have kk : ∀ b o, b ≠ P → s.heap.get? b = some o → h'.get? b = some o := fun b o nb e => (hs.2 b (fun q => by rw [q, hCn] at e; cases e)).trans (k.get b o nb e)
    refine ⟨?_, PS.step kk (hlp.extBut hs.extBut hPlow.1), ?_⟩
    · obtain ⟨⟨hh, t, rfl⟩, g⟩ := k
      exact ⟨⟨h', t, rfl⟩, kk⟩
    · refine .lst (S.fresh hDn) (hl.extBut hs.extBut hDC) hz ?_
      exact (rep_keepZ (P := fun b => b = C) (h := s'.heap) (h' := h') (fun b o nb e => (hs.2 b nb).trans e) fun b z => .inr fun o its c e => by subst z; exact (ns_odd hn o e).1 its c).2 hr
  have loop : ∀ sx : Shared, (∃ tk, sx = { s₂ with heap := h₁, toks := tk }) → codeAny (model W.prog W.w) A (.compLoop (.ListComp elt [⟨target, iter, [], 0⟩] scope pos) 0 it (.ref D) (compEnvC scope (clOf scope.names env.cells []) C env)) (RR (.ref D) C) sx := by
    rintro sx ⟨tk, rfl⟩
    refine codeAny_loop rfl (fun r s' => ∃ i m' ws h' t' tP, s' = { s₂ with heap := h', toks := t' } ∧ r = its.length - i ∧ i ≤ its.length ∧ (∀ b o, b ≠ C → b ≠ D → b ≠ P → ¬ Z b → s₂.heap.get? b = some o → h'.get? b = some o) ∧
      St W (compEnvC scope (clOf scope.names env.cells []) C env) m' (un X O) (fun b => b = C ∨ b = D) [] h' ∧ T i h' ∧ PlainL h' D (List.toArray ws) ∧ Reps (un (un X O) (fun b => b = C ∨ b = D)) h' ws (outs.take i) ∧ h'.IsList P #[.ref lc, .int ((i0 + i : Nat) : Int) tP]) ?_ its.length
      ⟨0, _, [], h₁, tk, tP, rfl, by simp, Nat.zero_le _, fun b o _ _ _ _ e => old b o e, S₃, R.frame _ _ _ t0 fun b o hb e => old b o e, hacc, by simpa using Reps.nil, hlP.at fun o e => old _ o e⟩
    rintro r s' ⟨i, m', ws, h', t', tP, rfl, rfl, hle, kk, S', ti, hpl, hws, hlp⟩
    show wpAny _ _ ((compTurn (.ListComp elt [⟨target, iter, [], 0⟩] scope pos) 0 it (.ref D) (compEnvC scope (clOf scope.names env.cells []) C env)).onRaise (fun x => do noteFrame x (compEnvC scope (clOf scope.names env.cells []) C env); theTreesLotGoes x)) _ _ _
    refine wpNoE (wpAny_onRaise ?_)
    have wpK : ∀ {α : Type} {t : Sem α} {Q : α → Shared → Prop} {E : Value → Shared → Prop} {sy : Shared}, wpAny (model W.prog W.w) A t Q NoE sy → wpAny (model W.prog W.w) A t Q E sy := fun h => wpNoE h
    rw [compTurn_list1]
    refine wpAny_bind (wpAny_standAt (wpAny_bind ?_))
    have kp : Kp (un X O) s₀.heap h' := fun b o nb e => kk b o (low b o (k₂.get b o e)).1 (low b o (k₂.get b o e)).2 (fun q => nb (q ▸ .inr hOP)) (fun z => by have := R.zf b z; rw [e] at this; cases this) (k₂.get b o e)
    have hun : ∀ a, un (un X O) (fun b => b = C ∨ b = D) a → (∃ o, s₀.heap.get? a = some o) → un X O a := by
      rintro a (q | q) ⟨o, e⟩
      · exact q
      · exact absurd q (by rintro (z | z); exact (low a o (k₂.get a o e)).1 z; exact (low a o (k₂.get a o e)).2 z)
    by_cases hi' : i < its.length
    · obtain ⟨bs, hbs⟩ : ∃ bs, its[i]? = some bs := ⟨its[i], by simp [hi']⟩
      obtain ⟨d, hd⟩ : ∃ d, outs[i]? = some d := ⟨outs[i]'(by omega), by simp [show i < outs.length by omega]⟩
      have hstep := R.step i bs { s₂ with heap := h', toks := t' } _ m' _ _ [] (fun _ sy => ∃ h'' tk m₁, sy = { s₂ with heap := h'', toks := tk } ∧ (∀ b o, b ≠ C → ¬ Z b → h'.get? b = some o → h''.get? b = some o) ∧ T (i + 1) h'' ∧ St W (compEnvC scope (clOf scope.names env.cells []) C env) m₁ (un X O) (fun b => b = C ∨ b = D) bs h'')
        hbs ti kp hun hFe hZ hlocal en'.fn S' fun h'' tk m₁ k1 t₁ S₁ => ⟨h'', tk, m₁, rfl, k1, t₁, by simpa using S₁⟩
      refine wpK (wpAny_mono hstep (fun r sy q => ?_) fun _ _ x => x)
      cases r with
      | none => exact q.elim
      | some v =>
        refine wpAny_bind (wpK (wpAny_mono q (fun _ sy q => wpAny_bind (wpK (wpAny_mono q (fun _ sy ⟨h'', tk, m₁, e, k1, t₁, S₁⟩ => ?_) fun _ _ x => x))) fun _ _ x => x))
        subst e
        have kk1 : ∀ b o, b ≠ C → b ≠ D → b ≠ P → ¬ Z b → s₂.heap.get? b = some o → h''.get? b = some o := fun b o n1 n2 n3 n4 e => k1 b o n1 n4 (kk b o n1 n2 n3 n4 e)
        have PS₁ := mkP S₁ (hvals bs (List.mem_of_getElem? hbs)) kk1 (hlp.at fun o e => k1 _ o hPlow.1 hPZ e)
        refine wpAny_bind (wpAny_bind (wpK (wpAny_mono (helt i bs d hbs hd A _ m₁ _ _ { s₂ with heap := h'', toks := tk } P lc rm en' PS₁) (fun y s₅ ⟨k5, PS₅, r5⟩ => ?_) fun _ _ x => x)))
        obtain ⟨⟨h₅, t₅, rfl⟩, g5⟩ := k5
        obtain ⟨tP5, hlp5⟩ := PS₅.lst
        have hp5 : PlainL h₅ D (List.toArray ws) := by
          obtain ⟨o, c, e, r⟩ := hpl
          exact ⟨o, c, g5 _ _ (Ne.symm hPlow.2) (k1 D o hDC (fun z => hFe D (R.sub D z) (.inr rfl)) e), r⟩
        have hwl : ws.length = i := by rw [hws.length, List.length_take]; omega
        have S₅ : St W _ m₁ (un X O) (fun b => b = C ∨ b = D) [] h₅ := PS₅.st.forget fun x sl e => nomatch e
        refine wpAny_bind (wpK (list_append_plainL (s := { s₂ with heap := h₅, toks := t₅ }) hp5 (fun h₆ hp6 hs6 => wpAny_pure (wpAny_pure ?_)) (by simp only [List.size_toArray]; omega)))
        have hs6 : Heap.SameBut D h₅ h₆ := hs6
        refine ⟨rfl, its.length - (i + 1), by omega, i + 1, m₁, ws ++ [y], h₆, t₅, tP5, rfl, rfl, hi', ?_, S₅.touch (fun y ds e => nomatch e) (.inr rfl) hp5 hp6 hs6, ?_, by simpa using hp6, ?_, hlp5.extBut hs6.extBut hPlow.2⟩
        · intro b o n1 n2 n3 n4 e
          exact (hs6.2 b n2).trans (g5 _ _ n3 (kk1 b o n1 n2 n3 n4 e))
        · refine R.frame _ _ _ t₁ fun b o hb e => (hs6.2 b (fun q => hFe b hb (.inr q))).trans (g5 _ _ (hPF b hb) e)
        · have hz : ∀ b, (b = C ∨ Z b) → un (un X O) (fun b => b = C ∨ b = D) b ∨ NoSeq h' b := by
            rintro b (rfl | z)
            · exact .inl (.inr (.inl rfl))
            · refine .inr fun o its c e hd => ?_
              obtain ⟨vs, q⟩ := R.fl _ _ ti b z o e
              rw [hd] at q; cases q
          have w1 := (rep_keepZ (P := fun b => b = C ∨ Z b) (h' := h'') (fun b o nb e => k1 b o (fun q => nb (.inl q)) (fun q => nb (.inr q)) e) hz).2 hws
          have w2 : Reps (un (un X O) (fun b => b = C ∨ b = D)) h₅ ws (outs.take i) := w1.kp (fun b o nb e => g5 b o (fun q => nb (q ▸ .inl (.inr hOP))) e) fun _ a _ => a
          have kp6 : Kp (un (un X O) (fun b => b = C ∨ b = D)) h₅ h₆ := fun b o nb e => (hs6.2 b (fun q => nb (.inr (.inr q)))).trans e
          have hout : outs.take (i + 1) = outs.take i ++ [d] := by rw [List.take_add_one, hd]; rfl
          rw [hout]
          exact (w2.kp kp6 fun _ a _ => a).append (.cons (r5.kp kp6 fun _ a _ => a) .nil)
    · have hie : i = its.length := by omega
      subst hie
      refine wpK (wpAny_mono (R.stop { s₂ with heap := h', toks := t' } (fun sy => ∃ h'' tk, sy = { s₂ with heap := h'', toks := tk } ∧ ∀ b o, ¬ Z b → h'.get? b = some o → h''.get? b = some o) ti fun h'' tk k => ⟨h'', tk, rfl, k⟩) (fun r sy q => ?_) fun _ _ x => x)
      cases r with
      | some v => exact q.elim
      | none =>
        obtain ⟨h'', tk, rfl, k1⟩ := q
        refine wpAny_pure ?_
        have S₄ := S'.keepF (Z := Z) k1 fun b z => ⟨(hZ b z).1, (hZ b z).2, hFe b (R.sub b z), R.fl _ _ ti b z⟩
        refine hRR _ m' ws tP ?_ S₄.ns ?_ ?_ ?_ (hlp.at fun o e => k1 _ o hPZ e)
        · obtain ⟨⟨hh, tt, e⟩, g⟩ := k02
          subst e
          exact ⟨⟨h'', tk, rfl⟩, fun b o nb e => k1 b o (nZ b o e) (kk b o (low b o (g b o e)).1 (low b o (g b o e)).2 nb (nZ b o e) (g b o e))⟩
        · obtain ⟨o, c, e, r1, r2, r3⟩ := hpl
          exact ⟨o, k1 D o (fun z => hFe D (R.sub D z) (.inr rfl)) e, r1, c, r3⟩
        · rw [hws.length, List.length_take]; omega
        · have hout : outs.take its.length = outs := List.take_of_length_le (by omega)
          rw [hout] at hws
          have w1 := (rep_keepZ (P := Z) (h' := h'') (N := un (un X O) (fun b => b = C ∨ b = D)) k1 fun b z => .inr fun o its c e hd => by
            obtain ⟨vs, q⟩ := R.fl _ _ ti b z o e
            rw [hd] at q; cases q).2 hws
          exact w1.kp .refl fun a z _ => .inl z
  exact codeAny_compStart_list (loop _ ⟨_, rfl⟩) (wpNoE (R.self _ _ (R.frame _ _ _ t0 fun b o hb e => old b o e) (loop _ ⟨_, rfl⟩)))
end
end Mine

namespace Mine

theorem PSt.store {W : Wd} {sc : Scope} {env : Env} {m : Str → Option Value} {X O : Addr → Prop} {ρ : Sto} {h h' : Heap} {P lc : Addr} {xs : List Int} {i : Nat} {x : Str} {v : Value} {d : D} (S : PSt W env m X O ρ h P lc xs true i) (hk : env.kindOf x = some .local)
    (hn : h'.Ns env.locals (fun y => if y = x then some v else m y)) (hs : Heap.SameBut env.locals h h') (r : Rep (Mine.un X O) h v d) : PSt W env (fun y => if y = x then some v else m y) X O ((x, .val d) :: ρ) h' P lc xs true i := by
  obtain ⟨t, hl⟩ := S.lst
  have hLP : P ≠ env.locals := by
    rintro rfl
    obtain ⟨o', es, ep, e', hd', _⟩ := S.st.ns
    obtain ⟨o, e, _, c, hd⟩ := hl
    rw [e] at e'; cases e'; rw [hd] at hd'; cases hd'
  obtain ⟨hkc, cp, hcp, hno, hce⟩ := S.cell
  refine ⟨S.st.store hk hn hs (.val r), fun y ds e => ?_, S.un, S.own, ⟨hkc, cp, hcp, hno, (by obtain ⟨o, e, r⟩ := hce; exact ⟨o, (hs.2 cp fun q => hno (by rw [q]; exact S.st.loc)).trans e, r⟩)⟩, ⟨t, hl.at fun o e => (hs.2 _ hLP).trans e⟩, S.rep.kp (fun b o nb e => (hs.2 b (fun q => nb (.inr (q ▸ S.st.loc)))).trans e) fun _ a _ => a⟩
  rw [List.lookup_cons] at e
  split at e
  · cases e
  · exact S.noown y ds e

/-- a new own object -/
theorem St.growPush {W : Wd} {env : Env} {m : Str → Option Value} {X O : Addr → Prop} {ρ : Sto} {s : Shared} {ob : Obj} (S₁ : St W env m X O ρ s.heap) (hob : ob.isFreed = false := by rfl) : St W env m X (fun a => O a ∨ a = s.heap.objs.size) ρ (s.heap.push ob) := by
  have kg := (Ks.push (s := s) (o := ob)).get
  have pn : ∀ a, (∃ o, s.heap.get? a = some o) → a ≠ s.heap.objs.size := fun a ⟨o, e⟩ q => Nat.lt_irrefl _ (q ▸ Heap.lt_size e)
  have S₂ := S₁.keep kg
  refine ⟨S₂.ns, .inl S₂.loc, S₂.base, fun a q => ?_, fun a q => ?_, fun y sl e => ?_⟩
  · obtain ⟨p, q', o, r⟩ := S₁.xs a q
    refine ⟨p, fun z => ?_, o, kg _ _ r⟩
    rcases z with z | z
    · exact q' z
    · exact pn a ⟨o, r⟩ z
  · rcases q with q | rfl
    · exact S₂.os a q
    · refine ⟨?_, _, Heap.get?_push_size _ hob⟩
      cases e : W.hB.get? s.heap.objs.size with
      | none => rfl
      | some o => exact absurd rfl (pn _ ⟨o, S₁.base _ _ e⟩)
  · obtain ⟨v, r', q⟩ := S₁.vars y sl e
    refine ⟨v, ?_, ?_⟩
    · rcases r' with r' | ⟨a, b, c, d, e, f⟩
      · exact .inl r'
      · refine .inr ⟨a, b, c, d, ?_, f.keeps kg⟩
        rintro (z | z)
        · exact e z
        · obtain ⟨o, ho, _⟩ := f
          exact pn c ⟨o, ho⟩ z
    · have hun : ∀ a, Mine.un X (fun a => O a ∨ a = s.heap.objs.size) a → (∃ o, s.heap.get? a = some o) → Mine.un X O a := by
        rintro a (z | z | z) e
        · exact .inl z
        · exact .inr z
        · exact absurd z (pn a e)
      cases q with
      | val q => exact .val (q.kp (.of_ext kg) hun)
      | own a p l q => exact .own (.inl a) (p.keeps kg) l (q.kp (.of_ext kg) hun)

section
variable {W : Wd} {n : Nat} {sc : Scope} {ρ : Sto} {xs : List Int}

theorem hp_start {e : Expr} {px p0 pl pos : Pos} {kk : Nat} (h : EvS W n sc ρ e (LI xs)) (hst : notStar e = true) (hno : ∀ y ds, ρ.lookup y ≠ some (.own ds)) (hc : sc.names.lookup ("pool" : Str) = some .cell)
    {A : Around} {env : Env} {m : Str → Option Value} {X O : Addr → Prop} {s : Shared} {cp : Addr} (rm : Room n A) (en : EnvOK sc env) (S : St W env m X O ρ s.heap) (hcp : env.cells.lookup ("pool" : Str) = some cp) (hcell : s.heap.IsCell cp none) (hcO : ¬ un X O cp) (hcB : W.hB.get? cp = none) :
    wpAny (model W.prog W.w) A (exec (.Assign [.Name "pool" px] (.List [e, .Constant (.int 0) kk p0] pl) pos) env) (fun f s' => f = .next ∧ ∃ O' P lc, (∃ h' tk, s' = { s with heap := h', toks := tk }) ∧ (∀ b o, b ≠ cp → s.heap.get? b = some o → s'.heap.get? b = some o) ∧
      (∀ a, O' a → O a ∨ s.heap.get? a = none) ∧ PSt W env m X O' ρ s'.heap P lc xs true 0) NoE s := by
  refine wpAny_Assign_Name (wpAny_List (wpAny_items_cons (wpAny_mono (h A env m X O s rm en S) (fun v s₁ ⟨k, q⟩ => ?_) fun _ _ x => x) (starEach_of hst))) rfl
  refine wpAny_items_cons (wpAny_Constant_int (wpAny_items_nil ?_)) (starEach_of rfl)
  refine ⟨show 2 ≤ sizeLine from by decide, ?_⟩
  have S₁ := S.keep k.get
  cases q with
  | @lst lc vs _ nn hl lz rr =>
  have hkc : env.kindOf ("pool" : Str) = some .cell := by rw [en.kindOf]; exact hc
  have hcell1 : s₁.heap.IsCell cp none := hcell.keeps k.get
  obtain ⟨oc, ec, dc⟩ := hcell1
  have pn : ∀ a, (∃ o, s₁.heap.get? a = some o) → a ≠ s₁.heap.objs.size := fun a ⟨o, e⟩ q => Nat.lt_irrefl _ (q ▸ Heap.lt_size e)
  have S₂ := St.growPush (s := { s₁ with toks := s₁.toks + 1 }) (ob := { cls := .type "list", data := .seq #[.ref lc, .int 0 (s₁.toks)] }) S₁
  have kg := (Ks.push (s := s₁) (o := { cls := .type "list", data := .seq #[Value.ref lc, .int 0 (s₁.toks)] })).get
  have hfr := S₁.fresh (fresh_size (h := s₁.heap))
  have hP0 : s.heap.get? s₁.heap.objs.size = none := by
    cases e : s.heap.get? s₁.heap.objs.size with
    | none => rfl
    | some o => exact absurd rfl (pn _ ⟨o, k.get _ _ e⟩)
  have hcP : cp ≠ s₁.heap.objs.size := pn _ ⟨oc, ec⟩
  refine wpAny_storeName_cell (en.scope ▸ en.kind) hkc hcp (v₀ := none) ⟨oc, kg _ _ ec, dc⟩ fun h₃ hc₃ hs₃ => ?_
  have hs₃ : Heap.SameBut cp (s₁.heap.push { cls := .type "list", data := .seq #[Value.ref lc, .int 0 (s₁.toks)] }) h₃ := hs₃
  have hkz : ∀ b o, ¬ b = cp → (s₁.heap.push { cls := .type "list", data := .seq #[Value.ref lc, .int 0 (s₁.toks)] }).get? b = some o → h₃.get? b = some o := fun b o nb e => (hs₃.2 b nb).trans e
  have hcO1 : ¬ (fun a => O a ∨ a = s₁.heap.objs.size) cp := fun z => z.elim (fun z => hcO (.inr z)) hcP
  have nosq : ∀ N : Addr → Prop, ∀ b, b = cp → N b ∨ NoSeq (s₁.heap.push { cls := .type "list", data := .seq #[Value.ref lc, .int 0 (s₁.toks)] }) b := fun N b q => .inr fun o its c e hd => by
    rw [q, kg _ _ ec] at e; cases e; rw [dc] at hd; cases hd
  have S₃ : St W env m X (fun a => O a ∨ a = s₁.heap.objs.size) ρ h₃ := by
    refine ⟨?_, S₂.loc, fun b o e => hkz b o (fun q => by rw [q, hcB] at e; cases e) (S₂.base b o e), fun b q => ?_, fun b q => ?_, fun y sl e => ?_⟩
    · exact S₂.ns.sameBut hs₃ fun q => hcO (.inr (q ▸ S.loc))
    · obtain ⟨p, q', o, r⟩ := S₂.xs b q
      exact ⟨p, q', o, hkz b o (fun z => hcO (.inl (z ▸ q))) r⟩
    · obtain ⟨p, o, r⟩ := S₂.os b q
      exact ⟨p, o, hkz b o (fun z => hcO1 (z ▸ q)) r⟩
    · obtain ⟨v, r, q⟩ := S₂.vars y sl e
      refine ⟨v, ?_, ?_⟩
      · rcases r with r | ⟨a, b, c, d, e', o, he, hd⟩
        · exact .inl r
        · refine .inr ⟨a, b, c, d, e', o, hkz c o ?_ he, hd⟩
          rintro rfl
          rw [kg _ _ ec] at he; cases he; rw [dc] at hd; cases hd
      · cases q with
        | val q => exact .val ((rep_keepZ hkz (nosq _)).1 q)
        | own => exact absurd e (hno _ _)
  refine ⟨rfl, _, s₁.heap.objs.size, lc, ?_, fun b o nb e => hkz b o nb (kg _ _ (k.get _ _ e)), fun a z => (show O a ∨ a = s₁.heap.objs.size from z).imp id fun z => by rw [z]; exact hP0, S₃, hno, .inr (.inr rfl), fun _ => .inr rfl, ⟨hkc, cp, hcp, hcO1, hc₃⟩, ⟨s₁.toks, ?_⟩, ?_⟩
  · obtain ⟨⟨h1, t1, e1⟩, _⟩ := k
    exact ⟨h₃, s₁.toks + 1, by rw [e1]⟩
  · exact ⟨_, hkz _ _ (Ne.symm hcP) (Heap.get?_push_size _ rfl), rfl, _, rfl⟩
  · refine (rep_keepZ hkz (nosq _)).1 ?_
    have hun : ∀ a, Mine.un X (fun a => O a ∨ a = s₁.heap.objs.size) a → (∃ o, s₁.heap.get? a = some o) → Mine.un X O a := by
      rintro a (z | z | z) e
      · exact .inl z
      · exact .inr z
      · exact absurd z (pn a e)
    exact (Rep.lst nn hl lz rr).kp (.of_ext kg) hun

/-- a statement that draws -/
def HP (W : Wd) (n : Nat) (sc : Scope) (ρ : Sto) (xs : List Int) (st : Stmt) (ρ' : Sto) (i j : Nat) : Prop :=
  ∀ (A : Around) (env : Env) (m : Str → Option Value) (X O : Addr → Prop) (s : Shared) (P lc : Addr), Room n A → EnvOK sc env → PSt W env m X O ρ s.heap P lc xs true i →
    wpAny (model W.prog W.w) A (exec st env) (fun f s' => f = .next ∧ ∃ m', Stp O s O s' ∧ PSt W env m' X O ρ' s'.heap P lc xs true j) NoE s

theorem Kb.stp {P : Addr} {O : Addr → Prop} {s s₁ : Shared} {h' : Heap} {t : Nat} {L : Addr} (k : Kb P s s₁) (hs : Heap.SameBut L s₁.heap h') (hL : O L) (hP : O P) : Stp O s O { s₁ with heap := h', toks := t } := by
  obtain ⟨⟨h, tk, rfl⟩, g⟩ := k
  exact ⟨⟨h', t, rfl⟩, fun b o nb e => (hs.2 b (fun q => nb (q ▸ hL))).trans (g b o (fun q => nb (q ▸ hP)) e), fun _ x => x, fun _ x => .inl x⟩

theorem hp_assign {x : Str} {px pos : Pos} {e : Expr} {d : D} {i j : Nat} (h : EvP W n sc ρ xs true e d i j) (hc : notComp e = true) (hx : sc.names.lookup x = some .local) : HP W n sc ρ xs (.Assign [.Name x px] e pos) ((x, .val d) :: ρ) i j := by
  intro A env m X O s P lc rm en S
  refine wpAny_Assign_Name (wpAny_mono (h A env m X O s P lc rm en S) (fun v s₁ ⟨k, S₁, r⟩ => ?_) fun _ _ x => x) (swapsWith_of hc _ _ _)
  have hk : env.kindOf x = some .local := by rw [en.kindOf]; exact hx
  exact wpAny_storeName_local hk S₁.st.ns (fun h' hn hs => ⟨rfl, _, k.stp hs S.st.loc (S.own rfl), S₁.store (sc := sc) hk hn hs r⟩) en.fn

theorem evp_call {k : Nat} {f : Str} {p pos : Pos} {e : Expr} {d1 d : D} {i j : Nat} {ow : Bool} (ok : W.OK) (hc : CallS W k f [d1] d) (ha : EvP W n sc ρ xs ow e d1 i j) (hk : k ≤ n) (hx : sc.names.lookup f = some .globalImplicit) (hs : notStar e = true)
    (hd : (f == ("__debug__" : Str)) = false) : EvP W n sc ρ xs ow (.Call (.Name f p) [e] [] pos) d i j := by
  intro A env m X O s P lc rm en S
  obtain ⟨a, o, fd, hg, ho, hf, hcall⟩ := hc
  refine wpAny_Call_NameR (wp_globalName ok en hx S.st.base (.inl hg) ?_ hd)
  refine callWith_def hf (wpAny_items_cons (wpAny_mono (ha A env m X O s P lc rm en S) (fun v s₁ ⟨k₁, S₁, q₁⟩ => ?_) fun _ _ x => x) (starEach_of hs)) (starEach_of hs)
  refine wpAny_items_nil ⟨S₁.st.base _ _ ho, wpAny_mono (hcall A (un X O) s₁ _ (rm.le hk) S₁.st.base (fun a h => ?_) (.cons q₁ .nil)) (fun v s₂ ⟨k₂, q₂⟩ => ⟨k₁.trans' (.of k₂), S₁.keep k₂.get, q₂⟩) fun _ _ x => x⟩
  rcases h with h | h
  · exact ⟨(S₁.st.xs a h).1, (S₁.st.xs a h).2.2⟩
  · exact S₁.st.os a h

theorem evp_tup2 {e1 e2 : Expr} {d1 d2 : D} {i j k : Nat} {kk : Nat} {pos : Pos} {ow : Bool} (h1 : EvP W n sc ρ xs ow e1 d1 i j) (h2 : EvP W n sc ρ xs ow e2 d2 j k) (hs1 : notStar e1 = true) (hs2 : notStar e2 = true) : EvP W n sc ρ xs ow (.Tuple [e1, e2] kk pos) (.tup [d1, d2]) i k := by
  intro A env m X O s P lc rm en S
  refine wpAny_Tuple (wpAny_items_cons (wpAny_mono (h1 A env m X O s P lc rm en S) (fun v s₁ ⟨k₁, S₁, q₁⟩ => ?_) fun _ _ x => x) (starEach_of hs1))
  refine wpAny_items_cons (wpAny_mono (h2 A env m X O s₁ P lc rm en S₁) (fun y s₂ ⟨k₂, S₂, q₂⟩ => ?_) fun _ _ x => x) (starEach_of hs2)
  refine wpAny_items_nil ⟨show 2 ≤ sizeLine from by decide, (k₁.trans' k₂).trans' (.of .push), S₂.keep Ks.push.get, .tup (S₂.st.fresh fresh_size) (IsTup.new _ _) (show 2 ≤ sizeLine from by decide) ?_⟩
  exact .cons ((q₁.kp (fun b o nb e => k₂.get b o (fun q => nb (q ▸ S₁.un)) e) fun _ a _ => a).keep Ks.push.get) (.cons (q₂.keep Ks.push.get) .nil)

theorem hp_assign2 {a b : Str} {pa pb pt pv pos : Pos} {k1 k2 : Nat} {e1 e2 : Expr} {d1 d2 : D} {i j k : Nat} (h1 : EvP W n sc ρ xs true e1 d1 i j) (h2 : EvP W n sc ρ xs true e2 d2 j k) (ha : sc.names.lookup a = some .local) (hb : sc.names.lookup b = some .local)
    (hl : (pb.line == pa.line) = true) (hab : (a == b) = false) (hn1 : notStar e1 = true) (hn2 : notStar e2 = true) (hf : (foldedForSure 8 e1 && foldedForSure 8 e2) = false) (hc : (constantsAlone 8 e1 && constantsAlone 8 e2) = false) :
    HP W n sc ρ xs (.Assign [.Tuple [.Name a pa, .Name b pb] k1 pt] (.Tuple [e1, e2] k2 pv) pos) ((a, .val d1) :: (b, .val d2) :: ρ) i k := by
  intro A env m X O s P lc rm en S
  have hka : env.kindOf a = some .local := by rw [en.kindOf]; exact ha
  have hkb : env.kindOf b = some .local := by rw [en.kindOf]; exact hb
  rw [arm_exec_Assign]
  refine wpAny_bind (wpAny_standAt ?_)
  have hsw : swapsWithSole [.Tuple [.Name a pa, .Name b pb] k1 pt] (.Tuple [e1, e2] k2 pv) pos.line env = pure false := by
    show swapsWith (.Tuple [e1, e2] k2 pv) (some (.Tuple [.Name a pa, .Name b pb] k1 pt)) pos.line env = pure false
    rfl
  refine wpAny_bind (wpAny_of_eq hsw ?_)
  rw [if_neg (by decide)]
  refine wpAny_bind (wpAny_mono (evp_tup2 (kk := k2) (pos := pv) h1 h2 hn1 hn2 A env m X O s P lc rm en S) (fun v s₁ ⟨k, S₁, r⟩ => ?_) fun _ _ x => x)
  rw [swapped2 hka hkb (en.scope ▸ en.kind) hl hab hn1 hn2 hf hc]
  refine wpAny_bind (wpAny_pure ?_)
  cases r with
  | @tup t vs _ nn ht l r =>
    cases r with
    | @cons v1 _ _ _ r1 r =>
    cases r with
    | @cons v2 _ _ _ r2 r =>
    cases r
    show wpAny _ _ (do rule "assign.swapped-stores"; let items ← unpackItems (.ref t) 2 none; assignInOrder ([a, b].reverse.map fun n => bindName env n) items.reverse; (pure Flow.next : Sem Flow)) _ _ _
    refine wpAny_bind (wpAny_rule (wpAny_bind ?_))
    have ht' : s₁.heap.IsTuple t #[v1, v2] := ht
    have hu := wpAny_unpackItems_tuple (prog := W.prog) (w := W.w) (A := A) (E := NoE) (s := s₁) (t := t) (items := #[v1, v2]) (Q := fun its s' => ∃ h₂, Heap.ExtBut s₁.heap.objs.size s₁.heap h₂ ∧ its = [v1, v2] ∧ s' = { s₁ with heap := h₂ }) rm.handled ht' fun h₂ hx => ⟨h₂, hx, rfl, rfl⟩
    have e2 : (#[v1, v2] : Array Value).size = 2 := rfl
    rw [e2] at hu
    refine wpAny_mono hu (fun its s₂ q₂ => ?_) fun _ _ x => x
    obtain ⟨h₂, hx, rfl, rfl⟩ := q₂
    have kg : ∀ b o, s₁.heap.get? b = some o → h₂.get? b = some o := fun b o e => hx b o (Nat.ne_of_lt (Heap.lt_size e)) e
    have S₂ := S₁.keep kg
    show wpAny _ _ (do assignInOrder [bindName env b, bindName env a] [v2, v1]; (pure Flow.next : Sem Flow)) _ _ _
    refine wpAny_bind ?_
    show wpAny _ _ (do holding [v1] (bindName env b v2); assignInOrder [bindName env a] [v1]) _ _ _
    refine wpAny_bind (wpAny_holding (wpAny_bindName (wpAny_storeName_local hkb S₂.st.ns (fun h₃ hn₃ hs₃ => ?_) en.fn)))
    have S₃ := S₂.store (sc := sc) hkb hn₃ hs₃ (r2.keep kg)
    show wpAny _ _ (do holding [] (bindName env a v1); assignInOrder [] []) _ _ _
    refine wpAny_bind (wpAny_holding (wpAny_bindName (wpAny_storeName_local hka S₃.st.ns (fun h₄ hn₄ hs₄ => ?_) en.fn)))
    have k13 : ∀ b o, ¬ O b → s₁.heap.get? b = some o → h₃.get? b = some o := fun b o nb e => (hs₃.2 b (fun q => nb (q ▸ S.st.loc))).trans (kg b o e)
    have S₄ := S₃.store (sc := sc) hka hn₄ hs₄ (r1.kp (fun b o nb e => k13 b o (fun q => nb (.inr q)) e) fun _ a _ => a)
    refine wpAny_pure (wpAny_pure ⟨rfl, _, ?_, S₄⟩)
    obtain ⟨⟨hh, tt, e0⟩, g⟩ := k
    refine ⟨⟨h₄, s₁.toks + 1 + 1, by rw [e0]⟩, fun b o nb e => ?_, fun _ x => x, fun _ x => .inl x⟩
    exact (hs₄.2 b (fun q => nb (q ▸ S.st.loc))).trans (k13 b o nb (g b o (fun q => nb (q ▸ S.own rfl)) e))
end
end Mine

namespace Mine

section
variable {W : Wd} {n : Nat} {sc : Scope} {ρ : Sto} {xs : List Int}
/-- [elt for turn in range(N)], the element draws once -/
theorem evp_draws {elt : Expr} {px pf p1 p2 pos : Pos} {kk : Nat} {scope : Scope} {i0 N : Nat} {V : Nat → Int} (L : Lib W) (hN : N ≤ 10) (hr : sc.names.lookup ("range" : Str) = some .globalImplicit) (hfree : ∀ x ∈ scope.names, x.2 = .free → x.1 = ("pool" : Str)) (hpf : scope.names.lookup ("pool" : Str) = some .free)
    (hsp : sc.names.lookup ("pool" : Str) = some .cell) (hcell : ∀ y ∈ scope.names, y.2 ≠ .cell) (hkind : scope.kind = .function)
    (hnames : ∀ x ∈ scope.names, x.2 = .local → scope.names.lookup x.1 = some .local) (ht : scope.names.lookup ("turn" : Str) = some .local)
    (helt : ∀ (i : Nat) (bs : Sto), EvP W n (relS scope sc) bs xs false elt (I (V i)) i (i + 1)) :
    EvP W n sc ρ xs true (.ListComp elt [⟨.Name "turn" px, .Call (.Name "range" pf) [.Constant (.int (N : Int)) kk p1] [] p2, [], 0⟩] scope pos) (LI ((List.range N).map fun i => V (i0 + i))) i0 (i0 + N) := by
  have hit := it_range1 (W := W) (n := n) (sc := sc) (ρ := ρ) (x := "turn") (px := px) (pf := pf) (pos := p2) L.ok L.range (ev_int (i := (N : Int)) (k := kk) (pos := p1)) hr rfl rfl ⟨by omega, by omega⟩
  rw [Int.toNat_natCast] at hit
  have h := evp_comp (xs := xs) (elt := elt) (scope := scope) (pos := pos) (i0 := i0) (outs := (List.range N).map fun i => I (V (i0 + i))) hit hfree hpf hsp hcell hkind hnames (fun x hx => by
    have : x = ("turn" : Str) := List.mem_singleton.mp hx
    rw [this]; exact ht) (by simp) (fun bs hb y ds e => ?_) fun i bs d h1 h2 => ?_
  · rw [List.length_map, List.length_range] at h
    exact h.cast (by rw [LI, List.map_map]; rfl)
  · obtain ⟨j, _, rfl⟩ := List.mem_map.mp hb
    rw [List.lookup_cons] at e
    split at e
    · cases e
    · cases e
  · rw [List.getElem?_map, Option.map_eq_some_iff] at h2
    obtain ⟨j, hj, rfl⟩ := h2
    obtain ⟨hlt, hj⟩ := List.getElem?_eq_some_iff.mp hj
    simp only [List.length_range] at hlt
    simp only [List.getElem_range] at hj
    subst hj
    exact helt (i0 + i) bs
end

/-- what is asked, for all that may be drawn -/
def AllAsked1 : Prop := ∀ (f g : List Int) (k : Nat) (c : Int), f.length = 3 → g.length = 4 → (∀ x ∈ f, -3 ≤ x ∧ x ≤ 3) → (∀ x ∈ g, -3 ≤ x ∧ x ≤ 3) → 2 ≤ k → k ≤ 3 → -4 ≤ c → c ≤ 4 → ∃ s, Nonempty (Asked1 (trimR 0 f) (trimR 0 g) s k c)

theorem drawV_range (xs : List Int) (i : Nat) (m : Int) (h : 0 < m) : 0 ≤ drawV xs i m ∧ drawV xs i m < m := by
  unfold drawV
  split <;> exact ⟨Int.fmod_nonneg_of_pos _ h, Int.fmod_lt_of_pos _ h⟩

variable {W : Wd}
theorem law_S (L : Law1Lib W) (hd : DefI W 22 "_law_draw") (hint : TyAt W "int" "int") (hlaw : DefI W 30 "law") (HA : AllAsked1) (script : List Int) : CallS W 9 "law" [LI script] (.bool true) := by
  have Lb := L.law.lib
  have ok := Lb.ok
  obtain ⟨a, o, fd, hg, ho, hdt, hc⟩ := call_entry (n := 8) (ps := ["script"]) ok hlaw rfl rfl rfl (by decide) (by decide) (fun pm code doc vs h => by
    match vs, h with
    | [x], _ => rfl)
  refine ⟨a, o, fd, hg, ho, hdt, fun A N s vs rm hB hN hr => ?_⟩
  refine hc A N s vs [LI script] _ rm hB hN rfl hr fun env m s₁ en rm' S k hLn _ hcl => ?_
  obtain ⟨cp, hcp, hce, hcn, hcL⟩ := hcl "pool" rfl (by decide)
  generalize hxs : script.take 12 = xs
  have hN1 : ∀ b o, s.heap.get? b = some o → ¬ b = env.locals := fun b o e q => by rw [q, hLn] at e; cases e
  -- pool = [[int(cell) for cell in script[:12]], 0]
  refine wpAny_execs_cons (wpAny_mono (hp_start (xs := xs) ((ev_compM (ks := script.take 12) (ρf := []) (G := fun x => I x) (it_listM (F := .int) ((ev_slice (ds := script.map .int) (a := none) (b := some ((12 : Nat) : Int)) (c := none) (ev_name rfl rfl) pt_none (pt_some ev_int) pt_none (by simp) pick_upto).cast (by rw [List.map_take])) rfl)
    (FreeOK.mk' (List.forall_mem_nil _) rfl) (by decide) rfl (by decide) (by decide) (fun k => List.forall_mem_nil _) fun x _ => ev_intOf ok hint (ev_name rfl rfl) rfl rfl rfl).cast (by rw [LI, hxs])) rfl ?_ rfl rm' en S hcp hce ?_ ?_) (fun f s₂ ⟨hf, O, P, lc, ⟨h2, t2, e2⟩, k2, o2, PS⟩ => ?_) fun _ _ x => x)
  · intro y ds e
    have e : List.lookup y [(("script" : Str), Slot.val (LI script))] = some (Slot.own ds) := e
    rw [List.lookup_cons] at e
    split at e <;> cases e
  · rintro (q | q)
    · obtain ⟨_, o, e⟩ := hN cp q
      rw [hcn] at e; cases e
    · exact hcL q
  · cases e : W.hB.get? cp with
    | none => rfl
    | some o => have := hB _ _ e; rw [hcn] at this; cases this
  subst hf
  have g2 : ∀ b o, s.heap.get? b = some o → s₂.heap.get? b = some o := fun b o e => k2 b o (fun q => by rw [q, hcn] at e; cases e) (k.get _ _ e)
  have n2 : ∀ b, O b → s.heap.get? b = none := fun b q => by
    cases e : s.heap.get? b with
    | none => rfl
    | some o => exact ((o2 b q).elim (fun z => absurd z (hN1 b o e)) fun z => by have := k.get _ _ e; rw [z] at this; cases this)
  -- k, c
  refine wpAny_execs_cons (wpAny_mono (hp_assign2 (evp_add (evp_of (ev_int (i := 2))) (evp_draw Lb hd (m := 2) (by decide) (by decide) rfl)) (evp_sub (evp_draw Lb hd (m := 9) (by decide) (by decide) rfl) (evp_of (ev_int (i := 4)))) rfl rfl rfl rfl rfl rfl rfl rfl _ env m _ O s₂ P lc rm' en PS) (fun f s₃ ⟨hf, m3, st3, PS3⟩ => ?_) fun _ _ x => x)
  subst hf
  -- f
  refine wpAny_execs_cons (wpAny_mono (hp_assign (evp_call ok (lawTrim_S L.law ((List.range 3).map fun i => drawV xs (2 + i) 7 - 3)) (evp_draws (V := fun i => drawV xs i 7 - 3) (i0 := 2) (N := 3) Lb (by decide) rfl (by decide) rfl rfl (by decide) rfl (by decide) rfl fun i bs => evp_sub (evp_draw Lb hd (m := 7) (by decide) (by decide) rfl) (evp_of (ev_int (i := 3)))) (by decide) rfl rfl rfl) rfl rfl _ env m3 _ O s₃ P lc rm' en PS3) (fun f s₄ ⟨hf, m4, st4, PS4⟩ => ?_) fun _ _ x => x)
  subst hf
  -- g
  refine wpAny_execs_cons (wpAny_mono (hp_assign (evp_call ok (lawTrim_S L.law ((List.range 4).map fun i => drawV xs (5 + i) 7 - 3)) (evp_draws (V := fun i => drawV xs i 7 - 3) (i0 := 5) (N := 4) Lb (by decide) rfl (by decide) rfl rfl (by decide) rfl (by decide) rfl fun i bs => evp_sub (evp_draw Lb hd (m := 7) (by decide) (by decide) rfl) (evp_of (ev_int (i := 3)))) (by decide) rfl rfl rfl) rfl rfl _ env m4 _ O s₄ P lc rm' en PS4) (fun f s₅ ⟨hf, m5, st5, PS5⟩ => ?_) fun _ _ x => x)
  subst hf
  have hr0 := drawV_range xs 0 2 (by decide)
  have hr1 := drawV_range xs 1 9 (by decide)
  have hrr := fun i => drawV_range xs i 7 (by decide)
  have hlist : ∀ (N i0 : Nat), ∀ x ∈ (List.range N).map fun i => drawV xs (i0 + i) 7 - 3, -3 ≤ x ∧ x ≤ 3 := fun N i0 x hx => by
    obtain ⟨i, _, rfl⟩ := List.mem_map.mp hx
    have := hrr (i0 + i)
    omega
  obtain ⟨ss, ⟨As⟩⟩ := HA ((List.range 3).map fun i => drawV xs (2 + i) 7 - 3) ((List.range 4).map fun i => drawV xs (5 + i) 7 - 3) (2 + drawV xs 0 2).toNat (drawV xs 1 9 - 4) (by simp) (by simp) (hlist _ _) (hlist _ _) (by omega) (by omega) (by omega) (by omega)
  have hk : (2 + drawV xs 0 2) = (((2 + drawV xs 0 2).toNat : Nat) : Int) := by omega
  refine wpAny_mono (lawRest_S L As (c := drawV xs 1 9 - 4) rfl rfl (by rw [← hk]; exact (lk_ne rfl).trans ((lk_ne rfl).trans rfl)) rfl (A.deeper env) env m5 _ O s₅ rm' en PS5.st) (fun f s₆ ⟨fl, ρ', m', O', st6, S6, fr, hfl⟩ => ?_) fun _ _ x => x
  subst hfl
  cases fr with
  | ret r =>
  cases r with
  | bool b =>
  obtain ⟨⟨h6, t6, e6⟩, kp6, _, _⟩ := st6
  obtain ⟨⟨h5, t5, e5⟩, kp5, _, _⟩ := st5
  obtain ⟨⟨h4, t4, e4⟩, kp4, _, _⟩ := st4
  obtain ⟨⟨h3, t3, e3⟩, kp3, _, _⟩ := st3
  obtain ⟨⟨h1, t1, e1⟩, _⟩ := k
  refine ⟨⟨⟨h6, t6, by rw [e6, e5, e4, e3, e2, e1]⟩, fun b o e => ?_⟩, .bool true⟩
  have nO : ¬ O b := fun q => by rw [n2 b q] at e; cases e
  exact kp6 b o nO (kp5 b o nO (kp4 b o nO (kp3 b o nO (g2 b o e))))
end Mine

namespace Mine

/-! lists of numbers, by their entries -/
section
variable {α : Type} [DecidableEq α]
theorem trimR_getD (z : α) (xs : List α) (i : Nat) : (trimR z xs).getD i z = xs.getD i z := by
  induction h : xs.length generalizing xs with
  | zero => rw [List.length_eq_zero_iff.mp h]; rfl
  | succ n ih =>
    have hne : xs ≠ [] := by intro e; rw [e] at h; cases h
    have e := List.dropLast_concat_getLast hne
    have hl : xs.dropLast.length = n := by rw [List.length_dropLast, h]; rfl
    by_cases hz : xs.getLast hne = z
    · rw [hz] at e
      conv => lhs; rw [← e]
      rw [trimR_zero, ih _ hl]
      conv => rhs; rw [← e]
      rw [List.getD_eq_getElem?_getD, List.getD_eq_getElem?_getD, List.getElem?_append]
      split
      · rfl
      · rename_i hi
        rw [List.getElem?_eq_none (by omega)]
        cases hj : i - xs.dropLast.length with
        | zero => rfl
        | succ j => rfl
    · conv => lhs; rw [← e]
      rw [trimR_ne _ hz, e]
def Trd (z : α) (xs : List α) : Prop := trimR z xs = xs
theorem trd_trimR (z : α) (xs : List α) : Trd z (trimR z xs) := by
  unfold Trd
  induction h : xs.length generalizing xs with
  | zero => rw [List.length_eq_zero_iff.mp h]; rfl
  | succ n ih =>
    have hne : xs ≠ [] := by intro e; rw [e] at h; cases h
    have e := List.dropLast_concat_getLast hne
    have hl : xs.dropLast.length = n := by rw [List.length_dropLast, h]; rfl
    by_cases hz : xs.getLast hne = z
    · rw [hz] at e
      rw [← e, trimR_zero, ih _ hl]
    · rw [← e, trimR_ne _ hz, trimR_ne _ hz]
theorem trd_last {z : α} {xs : List α} (h : Trd z xs) (hne : xs ≠ []) : xs.getLast hne ≠ z := by
  intro hz
  have e := List.dropLast_concat_getLast hne
  rw [hz] at e
  have h2 := trimR_length z xs.dropLast
  unfold Trd at h
  rw [← e, trimR_zero] at h
  have := congrArg List.length h
  rw [List.length_append] at this
  simp only [List.length_cons, List.length_nil] at this
  omega
theorem trd_len_le {z : α} {a b : List α} (ha : Trd z a) (h : ∀ i, a.getD i z = b.getD i z) : a.length ≤ b.length := by
  by_cases hne : a = []
  · rw [hne]; simp
  · have hl := trd_last ha hne
    rw [List.getLast_eq_getElem hne] at hl
    have h1 := h (a.length - 1)
    have hp : 0 < a.length := List.length_pos_iff.mpr hne
    rw [List.getD_eq_getElem?_getD, List.getElem?_eq_getElem (by omega)] at h1
    by_cases hb : a.length ≤ b.length
    · exact hb
    · rw [List.getD_eq_getElem?_getD, List.getElem?_eq_none (show b.length ≤ a.length - 1 by omega)] at h1
      exact absurd h1 hl
theorem trd_ext {z : α} {a b : List α} (ha : Trd z a) (hb : Trd z b) (h : ∀ i, a.getD i z = b.getD i z) : a = b := by
  have l1 := trd_len_le ha h
  have l2 := trd_len_le hb fun i => (h i).symm
  refine List.ext_getElem (by omega) fun i h1 h2 => ?_
  have := h i
  rw [List.getD_eq_getElem?_getD, List.getD_eq_getElem?_getD, List.getElem?_eq_getElem h1, List.getElem?_eq_getElem h2] at this
  exact this
theorem getD_range_map {f : Nat → α} {z : α} {n i : Nat} (hz : n ≤ i → f i = z) : ((List.range n).map f).getD i z = f i := by
  rw [List.getD_eq_getElem?_getD, List.getElem?_map]
  by_cases h : i < n
  · simp [h]
  · rw [List.getElem?_eq_none (by simp; omega), hz (by omega)]; rfl
theorem getD_ge {z : α} {l : List α} {i : Nat} (h : l.length ≤ i) : l.getD i z = z := by rw [List.getD_eq_getElem?_getD, List.getElem?_eq_none h]; rfl
end

theorem plusL_getD (a b : List Int) (t : Int) (i : Nat) : (plusL a b t).getD i 0 = a.getD i 0 + t * b.getD i 0 := by
  unfold plusL
  rw [trimR_getD, getD_range_map]
  intro h
  rw [getD_ge (by omega), getD_ge (by omega)]; simp
theorem qaddL_getD (a b : List Rat) (i : Nat) : (qaddL a b).getD i 0 = a.getD i 0 + b.getD i 0 := by
  unfold qaddL
  rw [trimR_getD, getD_range_map]
  intro h
  rw [getD_ge (by omega), getD_ge (by omega)]; exact Rat.add_zero 0
theorem getD_map0 {α β : Type} (f : α → β) {z : α} {y : β} (hf : f z = y) (l : List α) (i : Nat) : (l.map f).getD i y = f (l.getD i z) := by
  rw [List.getD_eq_getElem?_getD, List.getD_eq_getElem?_getD, List.getElem?_map]
  cases l[i]? with
  | none => exact hf.symm
  | some x => rfl
theorem qscaleL_getD (p : List Rat) (r : Rat) (i : Nat) : (qscaleL p r).getD i 0 = p.getD i 0 * r := by
  unfold qscaleL
  split
  · rename_i h; rw [h]; simp
  · rw [getD_map0 (z := 0) _ (by simp)]
theorem RK_getD (K : Nat) (w : List Int) (i : Nat) : (RK K w).getD i 0 = mkRat (w.getD i 0) K := getD_map0 _ (by simp) _ _

theorem psum_step (found : List Rat) (i : Nat) (c : Rat) (j : Nat) : (if c = 0 then found else qaddL found (qscaleL (powL i) c)).getD j 0 = found.getD j 0 + (powL i).getD j 0 * c := by
  split
  · rename_i h; rw [h]; simp [Rat.add_zero]
  · rw [qaddL_getD, qscaleL_getD]
theorem trd_step (found : List Rat) (i : Nat) (c : Rat) (h : Trd 0 found) : Trd 0 (if c = 0 then found else qaddL found (qscaleL (powL i) c)) := by
  split
  · exact h
  · exact trd_trimR _ _
theorem trd_psumFrom : ∀ (p : List Rat) (i : Nat) (found : List Rat), Trd 0 found → Trd 0 (psumFrom i p found)
  | [], _, _, h => h
  | c :: r, i, found, h => trd_psumFrom r (i + 1) _ (trd_step found i c h)
theorem trd_psum (p : List Rat) : Trd 0 (psum p) := trd_psumFrom p 0 [] rfl
theorem psum_getD (p : List Rat) (hl : p.length ≤ 4) (j : Nat) : (psum p).getD j 0 = (powL 0).getD j 0 * p.getD 0 0 + (powL 1).getD j 0 * p.getD 1 0 + (powL 2).getD j 0 * p.getD 2 0 + (powL 3).getD j 0 * p.getD 3 0 := by
  unfold psum
  match p, hl with
  | [], _ => simp [psumFrom, Rat.add_zero]
  | [a], _ => simp only [psumFrom]; rw [psum_step]; simp [Rat.add_zero, Rat.zero_add]
  | [a, b], _ => simp only [psumFrom]; rw [psum_step, psum_step]; simp [Rat.add_zero, Rat.zero_add]
  | [a, b, c], _ => simp only [psumFrom]; rw [psum_step, psum_step, psum_step]; simp [Rat.add_zero, Rat.zero_add]
  | [a, b, c, d], _ => simp only [psumFrom]; rw [psum_step, psum_step, psum_step, psum_step]; simp [Rat.add_zero, Rat.zero_add]
  | a :: b :: c :: d :: e :: r, h => simp at h

theorem powL0 : powL 0 = [0, 1] := by decide +kernel
theorem powL1 : powL 1 = [0, -1 / 2, 1 / 2] := by decide +kernel
theorem powL2 : powL 2 = [0, 1 / 6, -1 / 2, 1 / 3] := by decide +kernel
theorem powL3 : powL 3 = [0, 0, 1 / 4, -1 / 2, 1 / 4] := by decide +kernel

/-- twelve times the sum -/
def T12 (w : List Int) : List Int := trimR 0 [0, 12 * w.getD 0 0 - 6 * w.getD 1 0 + 2 * w.getD 2 0, 6 * w.getD 1 0 - 6 * w.getD 2 0 + 3 * w.getD 3 0, 4 * w.getD 2 0 - 6 * w.getD 3 0, 3 * w.getD 3 0]

theorem mkRat_zero_iff {n : Int} {K : Nat} (hK : K ≠ 0) : mkRat n K = 0 ↔ n = 0 := Rat.mkRat_eq_zero hK
theorem trd_RK {K : Nat} (hK : K ≠ 0) {w : List Int} (h : Trd 0 w) : Trd 0 (RK K w) := by
  by_cases hne : w = []
  · rw [hne]; rfl
  · have hl := trd_last h hne
    have e := List.dropLast_concat_getLast hne
    rw [← e]
    unfold RK Trd
    rw [List.map_append]
    exact trimR_ne _ fun z => hl ((mkRat_zero_iff hK).mp z)
theorem mkRat_of {x : Rat} {n : Int} {K : Nat} (hK : K ≠ 0) (h : x * (K : Rat) = (n : Rat)) : x = mkRat n K := by
  rw [Rat.mkRat_eq_div, ← h, Rat.mul_div_cancel]
  exact fun z => hK (by exact_mod_cast z)
theorem mkRat_mulK {n : Int} {K : Nat} (hK : K ≠ 0) : mkRat n K * (K : Rat) = (n : Rat) := by
  rw [Rat.mkRat_eq_div, Rat.div_mul_cancel]
  exact fun z => hK (by exact_mod_cast z)

theorem psum_RK {K : Nat} (hK : K ≠ 0) (w : List Int) (hl : w.length ≤ 4) : psum (RK K w) = RK (12 * K) (T12 w) := by
  refine trd_ext (trd_psum _) (trd_RK (by omega) (trd_trimR _ _)) fun j => ?_
  rw [psum_getD _ (by rw [RK, List.length_map]; exact hl), RK_getD, RK_getD, RK_getD, RK_getD, RK_getD, T12, trimR_getD, powL0, powL1, powL2, powL3]
  refine mkRat_of (by omega) ?_
  have h0 := mkRat_mulK (n := w.getD 0 0) hK
  have h1 := mkRat_mulK (n := w.getD 1 0) hK
  have h2 := mkRat_mulK (n := w.getD 2 0) hK
  have h3 := mkRat_mulK (n := w.getD 3 0) hK
  generalize mkRat (w.getD 0 0) K = a0 at *
  generalize mkRat (w.getD 1 0) K = a1 at *
  generalize mkRat (w.getD 2 0) K = a2 at *
  generalize mkRat (w.getD 3 0) K = a3 at *
  generalize w.getD 0 0 = b0 at *
  generalize w.getD 1 0 = b1 at *
  generalize w.getD 2 0 = b2 at *
  generalize w.getD 3 0 = b3 at *
  match j with
  | 0 => simp [Rat.add_zero]
  | 1 => simp; grind
  | 2 => simp; grind
  | 3 => simp; grind
  | 4 => simp; grind
  | j + 5 => simp [Rat.add_zero]
end Mine

namespace Mine

theorem toQ_RK (w : List Int) : toQ w = RK 1 w := by
  unfold toQ RK
  refine List.map_congr_left fun n _ => ?_
  rw [Rat.mkRat_one]
theorem RK_mul {a K : Nat} (ha : a ≠ 0) (w : List Int) : RK (a * K) (w.map ((a : Int) * ·)) = RK K w := by
  unfold RK
  rw [List.map_map]
  exact List.map_congr_left fun n _ => Rat.mkRat_mul_left ha
theorem psum_ints {w s : List Int} (hl : w.length ≤ 4) (h : T12 w = s.map (2 * ·)) : psum (toQ w) = RK 6 s := by
  rw [toQ_RK, psum_RK (by decide) w hl, h]
  exact RK_mul (a := 2) (K := 6) (by decide) s

theorem mul_getD (a : Int) (l : List Int) (i : Nat) : (l.map (a * ·)).getD i 0 = a * l.getD i 0 := getD_map0 _ (by simp) _ _
theorem neg_getD (l : List Int) (i : Nat) : (l.map fun x => 0 - x).getD i 0 = 0 - l.getD i 0 := getD_map0 _ (by simp) _ _
theorem trd_map {f : Int → Int} (hf : ∀ x, f x = 0 → x = 0) {w : List Int} (h : Trd 0 w) : Trd 0 (w.map f) := by
  by_cases hne : w = []
  · rw [hne]; rfl
  · have hl := trd_last h hne
    have e := List.dropLast_concat_getLast hne
    rw [← e]
    unfold Trd
    rw [List.map_append]
    exact trimR_ne _ fun z => hl (hf _ z)
theorem trd_mul {a : Int} (ha : a ≠ 0) {w : List Int} (h : Trd 0 w) : Trd 0 (w.map (a * ·)) := trd_map (fun x e => (Int.mul_eq_zero.mp e).resolve_left ha) h
theorem trd_plusL (a b : List Int) (t : Int) : Trd 0 (plusL a b t) := trd_trimR _ _

/-- the place of a trimmed list does not matter to a fold -/
theorem foldr_trim {β : Type} (f : Int → β → β) (z : β) (h : f 0 z = z) (xs : List Int) : (trimR 0 xs).foldr f z = xs.foldr f z := by
  induction hn : xs.length generalizing xs with
  | zero => rw [List.length_eq_zero_iff.mp hn]; rfl
  | succ n ih =>
    have hne : xs ≠ [] := by intro e; rw [e] at hn; cases hn
    have e := List.dropLast_concat_getLast hne
    have hl : xs.dropLast.length = n := by rw [List.length_dropLast, hn]; rfl
    by_cases hz : xs.getLast hne = 0
    · rw [hz] at e
      rw [← e, trimR_zero, ih _ hl, List.foldr_append]
      simp [h]
    · rw [← e, trimR_ne _ hz]
theorem atL_trim (xs : List Int) (sl st : Int) : atL (trimR 0 xs) sl st = atL xs sl st := foldr_trim _ _ (by
  unfold atStep plusL
  simp [trimR]) xs
theorem lev_trim (xs : List Int) (c : Int) : lev (trimR 0 xs) c = lev xs c := foldr_trim _ _ (by simp) xs
theorem trd_atL (xs : List Int) (sl st : Int) : Trd 0 (atL xs sl st) := by
  cases xs with
  | nil => rfl
  | cons x r => exact trd_plusL _ _ _
theorem atL_nil_getD (sl st : Int) (i : Nat) : (atL [] sl st).getD i 0 = 0 := by cases i <;> rfl
theorem atL_cons_getD0 (x : Int) (r : List Int) (sl st : Int) : (atL (x :: r) sl st).getD 0 0 = st * (atL r sl st).getD 0 0 + x := by
  show (atStep sl st x (atL r sl st)).getD 0 0 = _
  unfold atStep
  rw [plusL_getD, plusL_getD]; simp
theorem atL_cons_getDs (x : Int) (r : List Int) (sl st : Int) (i : Nat) : (atL (x :: r) sl st).getD (i + 1) 0 = sl * (atL r sl st).getD i 0 + st * (atL r sl st).getD (i + 1) 0 := by
  show (atStep sl st x (atL r sl st)).getD (i + 1) 0 = _
  unfold atStep
  rw [plusL_getD, plusL_getD, List.getD_cons_succ, mul_getD]; simp

/-- six times the sum of at most three terms -/
def S6 (w : List Int) : List Int := trimR 0 [0, 6 * w.getD 0 0 - 3 * w.getD 1 0 + w.getD 2 0, 3 * w.getD 1 0 - 3 * w.getD 2 0, 2 * w.getD 2 0]
theorem T12_S6 {w : List Int} (hl : w.length ≤ 3) : T12 w = (S6 w).map (2 * ·) := by
  refine trd_ext (trd_trimR _ _) (trd_mul (by decide) (trd_trimR _ _)) fun j => ?_
  have h3 := getD_ge (z := (0 : Int)) hl
  rw [mul_getD, T12, S6, trimR_getD, trimR_getD, h3]
  match j with
  | 0 => simp
  | 1 => simp; omega
  | 2 => simp; omega
  | 3 => simp; omega
  | 4 => simp
  | j + 5 => simp

def TbOf (f : List Int) (k : Nat) : Nat → List Int
  | 0 => []
  | b + 1 => plusL (TbOf f k b) (S6 (atL f k b)) 1

theorem getD_take1 (g : List Int) (j : Nat) : (g.take 1).getD j 0 = if j = 0 then g.getD 0 0 else 0 := by
  cases g with
  | nil => simp
  | cons x r => cases j <;> simp

theorem allAsked1 : AllAsked1 := by
  intro f g k c hf hg hfr hgr hk2 hk3 hc1 hc2
  obtain ⟨f0, f1, f2, rfl⟩ : ∃ f0 f1 f2, f = [f0, f1, f2] := by
    match f, hf with
    | [a, b, c], _ => exact ⟨a, b, c, rfl⟩
  obtain ⟨g0, g1, g2, g3, rfl⟩ : ∃ g0 g1 g2 g3, g = [g0, g1, g2, g3] := by
    match g, hg with
    | [a, b, c, d], _ => exact ⟨a, b, c, d, rfl⟩
  have lf : (trimR 0 [f0, f1, f2]).length ≤ 3 := trimR_length _ _
  have lg : (trimR 0 [g0, g1, g2, g3]).length ≤ 4 := trimR_length _ _
  have ls : (S6 [f0, f1, f2]).length ≤ 4 := trimR_length _ _
  have es : S6 (trimR 0 [f0, f1, f2]) = S6 [f0, f1, f2] := by unfold S6; rw [trimR_getD, trimR_getD, trimR_getD]
  have lat := fun sl st => atL_length (trimR 0 [f0, f1, f2]) sl st
  have htrim : Trd 0 (trimR 0 [f0, f1, f2]) := trd_trimR _ _
  have las := atL_length (trimR 0 [g0, g1, g2, g3]) 1 1
  have lst : (plusL (atL (trimR 0 [g0, g1, g2, g3]) 1 1) (trimR 0 [g0, g1, g2, g3]) (-1)).length ≤ 4 := by
    have := plusL_length (atL (trimR 0 [g0, g1, g2, g3]) 1 1) (trimR 0 [g0, g1, g2, g3]) (-1)
    omega
  have lW : ∀ b, (S6 (atL (trimR 0 [f0, f1, f2]) k b)).length ≤ 4 := fun b => trimR_length _ _
  refine ⟨S6 [f0, f1, f2], ⟨{ Wb := fun b => S6 (atL (trimR 0 [f0, f1, f2]) k b), Tb := TbOf (trimR 0 [f0, f1, f2]) k, steps := plusL (atL (trimR 0 [g0, g1, g2, g3]) 1 1) (trimR 0 [g0, g1, g2, g3]) (-1), hf := lf, hg := lg, hs := ls, hc := (by omega), hk := (by omega), a1 := ?_, a2 := ?_, a3 := ?_, a4 := ?_, c1 := ?_, c2 := ?_, r0 := rfl, r1 := fun b _ => rfl, r2 := fun b _ => ?_, r3 := ?_, rl := ?_, s0 := rfl, s1 := lst, s2 := ?_ }⟩⟩
  · exact psum_ints (by omega) (by rw [T12_S6 lf, es])
  · refine trd_ext (trd_plusL _ _ _) (trd_trimR _ _) fun j => ?_
    rw [plusL_getD]; simp
  · have h0 : (S6 [f0, f1, f2]).getD 0 0 = 0 := by rw [S6, trimR_getD]; rfl
    cases h : S6 [f0, f1, f2] with
    | nil => exact .inl rfl
    | cons x r =>
      rw [h] at h0
      refine .inr ?_
      have : x = 0 := h0
      rw [this]; rfl
  · refine trd_ext (trd_plusL _ _ _) (trd_mul (by decide) htrim) fun j => ?_
    simp only [S6]
    match j with
    | 0 => simp only [plusL_getD, mul_getD, neg_getD, atL_trim, lev_trim, trimR_getD, getD_take1, atL_cons_getD0, atL_cons_getDs, atL_nil_getD, List.getD_cons_zero, List.getD_cons_succ, List.getD_nil]; try omega
    | 1 => simp only [plusL_getD, mul_getD, neg_getD, atL_trim, lev_trim, trimR_getD, getD_take1, atL_cons_getD0, atL_cons_getDs, atL_nil_getD, List.getD_cons_zero, List.getD_cons_succ, List.getD_nil]; try omega
    | 2 => simp only [plusL_getD, mul_getD, neg_getD, atL_trim, lev_trim, trimR_getD, getD_take1, atL_cons_getD0, atL_cons_getDs, atL_nil_getD, List.getD_cons_zero, List.getD_cons_succ, List.getD_nil]; try omega
    | 3 => simp only [plusL_getD, mul_getD, neg_getD, atL_trim, lev_trim, trimR_getD, getD_take1, atL_cons_getD0, atL_cons_getDs, atL_nil_getD, List.getD_cons_zero, List.getD_cons_succ, List.getD_nil]; try omega
    | j + 4 => simp only [plusL_getD, mul_getD, neg_getD, atL_trim, lev_trim, trimR_getD, getD_take1, atL_cons_getD0, atL_cons_getDs, atL_nil_getD, List.getD_cons_zero, List.getD_cons_succ, List.getD_nil]; try omega
  · refine psum_ints (by have := lat 1 c; omega) ?_
    rw [T12_S6 (by have := lat 1 c; omega)]
    congr 1
    refine trd_ext (trd_trimR _ _) (trd_plusL _ _ _) fun j => ?_
    simp only [S6]
    match j with
    | 0 => simp only [plusL_getD, mul_getD, neg_getD, atL_trim, lev_trim, trimR_getD, getD_take1, atL_cons_getD0, atL_cons_getDs, atL_nil_getD, List.getD_cons_zero, List.getD_cons_succ, List.getD_nil]; simp only [lev, List.foldr_cons, List.foldr_nil]; try grind
    | 1 => simp only [plusL_getD, mul_getD, neg_getD, atL_trim, lev_trim, trimR_getD, getD_take1, atL_cons_getD0, atL_cons_getDs, atL_nil_getD, List.getD_cons_zero, List.getD_cons_succ, List.getD_nil]; try grind
    | 2 => simp only [plusL_getD, mul_getD, neg_getD, atL_trim, lev_trim, trimR_getD, getD_take1, atL_cons_getD0, atL_cons_getDs, atL_nil_getD, List.getD_cons_zero, List.getD_cons_succ, List.getD_nil]; try grind
    | 3 => simp only [plusL_getD, mul_getD, neg_getD, atL_trim, lev_trim, trimR_getD, getD_take1, atL_cons_getD0, atL_cons_getDs, atL_nil_getD, List.getD_cons_zero, List.getD_cons_succ, List.getD_nil]; try grind
    | j + 4 => simp only [plusL_getD, mul_getD, neg_getD, atL_trim, lev_trim, trimR_getD, getD_take1, atL_cons_getD0, atL_cons_getDs, atL_nil_getD, List.getD_cons_zero, List.getD_cons_succ, List.getD_nil]; try grind
  · refine psum_ints (by have := lat (-1) (-1); omega) ?_
    rw [T12_S6 (by have := lat (-1) (-1); omega)]
    congr 1
    refine trd_ext (trd_trimR _ _) (trd_map (fun x h => by omega) (trd_atL _ _ _)) fun j => ?_
    simp only [S6]
    match j with
    | 0 => simp only [plusL_getD, mul_getD, neg_getD, atL_trim, lev_trim, trimR_getD, getD_take1, atL_cons_getD0, atL_cons_getDs, atL_nil_getD, List.getD_cons_zero, List.getD_cons_succ, List.getD_nil]; try grind
    | 1 => simp only [plusL_getD, mul_getD, neg_getD, atL_trim, lev_trim, trimR_getD, getD_take1, atL_cons_getD0, atL_cons_getDs, atL_nil_getD, List.getD_cons_zero, List.getD_cons_succ, List.getD_nil]; try grind
    | 2 => simp only [plusL_getD, mul_getD, neg_getD, atL_trim, lev_trim, trimR_getD, getD_take1, atL_cons_getD0, atL_cons_getDs, atL_nil_getD, List.getD_cons_zero, List.getD_cons_succ, List.getD_nil]; try grind
    | 3 => simp only [plusL_getD, mul_getD, neg_getD, atL_trim, lev_trim, trimR_getD, getD_take1, atL_cons_getD0, atL_cons_getDs, atL_nil_getD, List.getD_cons_zero, List.getD_cons_succ, List.getD_nil]; try grind
    | j + 4 => simp only [plusL_getD, mul_getD, neg_getD, atL_trim, lev_trim, trimR_getD, getD_take1, atL_cons_getD0, atL_cons_getDs, atL_nil_getD, List.getD_cons_zero, List.getD_cons_succ, List.getD_nil]; try grind
  · exact psum_ints (by have := lat k b; omega) (T12_S6 (by have := lat k b; omega))
  · have hk : k = 2 ∨ k = 3 := by omega
    have hT : Trd 0 (TbOf (trimR 0 [f0, f1, f2]) k k) := by rcases hk with rfl | rfl <;> exact trd_plusL _ _ _
    refine trd_ext hT (trd_atL _ _ _) fun j => ?_
    rcases hk with rfl | rfl
    · simp only [TbOf, S6]
      match j with
      | 0 => simp only [plusL_getD, mul_getD, neg_getD, atL_trim, lev_trim, trimR_getD, getD_take1, atL_cons_getD0, atL_cons_getDs, atL_nil_getD, List.getD_cons_zero, List.getD_cons_succ, List.getD_nil]; try grind
      | 1 => simp only [plusL_getD, mul_getD, neg_getD, atL_trim, lev_trim, trimR_getD, getD_take1, atL_cons_getD0, atL_cons_getDs, atL_nil_getD, List.getD_cons_zero, List.getD_cons_succ, List.getD_nil]; try grind
      | 2 => simp only [plusL_getD, mul_getD, neg_getD, atL_trim, lev_trim, trimR_getD, getD_take1, atL_cons_getD0, atL_cons_getDs, atL_nil_getD, List.getD_cons_zero, List.getD_cons_succ, List.getD_nil]; try grind
      | 3 => simp only [plusL_getD, mul_getD, neg_getD, atL_trim, lev_trim, trimR_getD, getD_take1, atL_cons_getD0, atL_cons_getDs, atL_nil_getD, List.getD_cons_zero, List.getD_cons_succ, List.getD_nil]; try grind
      | j + 4 => simp only [plusL_getD, mul_getD, neg_getD, atL_trim, lev_trim, trimR_getD, getD_take1, atL_cons_getD0, atL_cons_getDs, atL_nil_getD, List.getD_cons_zero, List.getD_cons_succ, List.getD_nil]; try grind
    · simp only [TbOf, S6]
      match j with
      | 0 => simp only [plusL_getD, mul_getD, neg_getD, atL_trim, lev_trim, trimR_getD, getD_take1, atL_cons_getD0, atL_cons_getDs, atL_nil_getD, List.getD_cons_zero, List.getD_cons_succ, List.getD_nil]; try grind
      | 1 => simp only [plusL_getD, mul_getD, neg_getD, atL_trim, lev_trim, trimR_getD, getD_take1, atL_cons_getD0, atL_cons_getDs, atL_nil_getD, List.getD_cons_zero, List.getD_cons_succ, List.getD_nil]; try grind
      | 2 => simp only [plusL_getD, mul_getD, neg_getD, atL_trim, lev_trim, trimR_getD, getD_take1, atL_cons_getD0, atL_cons_getDs, atL_nil_getD, List.getD_cons_zero, List.getD_cons_succ, List.getD_nil]; try grind
      | 3 => simp only [plusL_getD, mul_getD, neg_getD, atL_trim, lev_trim, trimR_getD, getD_take1, atL_cons_getD0, atL_cons_getDs, atL_nil_getD, List.getD_cons_zero, List.getD_cons_succ, List.getD_nil]; try grind
      | j + 4 => simp only [plusL_getD, mul_getD, neg_getD, atL_trim, lev_trim, trimR_getD, getD_take1, atL_cons_getD0, atL_cons_getDs, atL_nil_getD, List.getD_cons_zero, List.getD_cons_succ, List.getD_nil]; try grind
  · intro b
    refine ⟨by have := lW b; omega, ?_⟩
    have : (TbOf (trimR 0 [f0, f1, f2]) k b).length ≤ 4 := by
      induction b with
      | zero => simp [TbOf]
      | succ b ih =>
        have h1 := plusL_length (TbOf (trimR 0 [f0, f1, f2]) k b) (S6 (atL (trimR 0 [f0, f1, f2]) k b)) 1
        have h2 := lW b
        show (plusL _ _ _).length ≤ 4
        omega
    omega
  · refine psum_ints lst ?_
    refine trd_ext (trd_trimR _ _) (trd_mul (by decide) (trd_mul (by decide) (trd_plusL _ _ _))) fun j => ?_
    simp only [T12]
    match j with
    | 0 => simp only [plusL_getD, mul_getD, neg_getD, atL_trim, lev_trim, trimR_getD, getD_take1, atL_cons_getD0, atL_cons_getDs, atL_nil_getD, List.getD_cons_zero, List.getD_cons_succ, List.getD_nil]; try grind
    | 1 => simp only [plusL_getD, mul_getD, neg_getD, atL_trim, lev_trim, trimR_getD, getD_take1, atL_cons_getD0, atL_cons_getDs, atL_nil_getD, List.getD_cons_zero, List.getD_cons_succ, List.getD_nil]; try grind
    | 2 => simp only [plusL_getD, mul_getD, neg_getD, atL_trim, lev_trim, trimR_getD, getD_take1, atL_cons_getD0, atL_cons_getDs, atL_nil_getD, List.getD_cons_zero, List.getD_cons_succ, List.getD_nil]; try grind
    | 3 => simp only [plusL_getD, mul_getD, neg_getD, atL_trim, lev_trim, trimR_getD, getD_take1, atL_cons_getD0, atL_cons_getDs, atL_nil_getD, List.getD_cons_zero, List.getD_cons_succ, List.getD_nil]; try grind
    | 4 => simp only [plusL_getD, mul_getD, neg_getD, atL_trim, lev_trim, trimR_getD, getD_take1, atL_cons_getD0, atL_cons_getDs, atL_nil_getD, List.getD_cons_zero, List.getD_cons_succ, List.getD_nil]; try grind
    | j + 5 => simp only [plusL_getD, mul_getD, neg_getD, atL_trim, lev_trim, trimR_getD, getD_take1, atL_cons_getD0, atL_cons_getDs, atL_nil_getD, List.getD_cons_zero, List.getD_cons_succ, List.getD_nil]; try grind
end Mine

namespace Mine

theorem defI_of {W : Wd} {p : Program} {loose : List Str} {mean : ExcName → Option Value} (T : Top p loose mean W.mg W.mb W.hB) {i : Nat} {f : Str} (j : Nat)
    (h : ((recsOf p)[j]?).map (fun d => (d.name, d.params, d.body, d.scope)) = some (f, stParams (stAt i), stBody (stAt i), stScope (stAt i))) : DefI W i f := by
  rw [Option.map_eq_some_iff] at h
  obtain ⟨d, hd, e⟩ := h
  obtain ⟨a, o, pm, code, doc, h1, h2, h3, h4⟩ := T.fn d (List.mem_of_getElem? hd)
  injection e with e1 e
  injection e with e2 e
  injection e with e3 e4
  rw [e1] at h1 h3 h4
  rw [e2, e3, e4] at h3
  exact ⟨a, o, pm, code, doc, h1, h2, h3, h4⟩
theorem bi_of {W : Wd} {p : Program} {loose : List Str} {mean : ExcName → Option Value} (T : Top p loose mean W.mg W.mb W.hB) {x : Str} {v : Value}
    (h : decide (x ∉ startupNames) && decide (x ∉ loose) && decide (x ∉ (recsOf p).map (·.name)) && decide (x ∉ (litsOf p).map (·.1)) && decide (x ∉ (clssOf p loose).map (·.name)) && decide (x ≠ "__name__") = true) (hv : bootBuiltins x = some v) : W.mg x = none ∧ W.mb x = some v := by
  simp only [Bool.and_eq_true, decide_eq_true_eq] at h
  obtain ⟨⟨⟨⟨⟨h1, h2⟩, h3⟩, h4⟩, h5⟩, h6⟩ := h
  exact ⟨T.free x h1 h2 h3 h4 h5, (T.builtins x h6).trans hv⟩
theorem pair_of {W : Wd} {p : Program} {loose : List Str} {mean : ExcName → Option Value} {K : Frag} (T : Top p loose mean W.mg W.mb W.hB) (KX : K.In W.hB) {x : Str} {a : Addr} {i j : Int} {t u : Tok} (h1 : nsIn K mainGlobals x = some (some (.ref a)))
    (h2 : K.lookup a = some { cls := .type "tuple", data := .seq #[.int i t, .int j u] 0 }) : GlobAt W x (.tup [I i, I j]) := by
  have ht : IsTup W.hB a [Value.int i t, Value.int j u].toArray := ⟨_, KX _ _ h2, rfl, 0, rfl⟩
  exact ⟨.ref a, mg_of KX T.g h1, .tup (fun x => x) ht (show 2 ≤ sizeLine from by decide) (.cons (.int _ t) (.cons (.int _ u) .nil))⟩

theorem ints_reps {N : Addr → Prop} {h : Heap} : ∀ {vs : List Value} {xs : List Int}, IntsAre vs xs → Reps N h vs (xs.map .int)
  | _, _, .nil => .nil
  | _, _, .cons n t r => .cons (.int n t) (ints_reps r)
theorem ints_len : ∀ {vs : List Value} {xs : List Int}, IntsAre vs xs → vs.length = xs.length
  | _, _, .nil => rfl
  | _, _, .cons n t r => by rw [List.length_cons, List.length_cons, ints_len r]
theorem ints_small {vs : List Value} {xs : List Int} (h : IntsAre vs xs) (hl : xs.length ≤ 63) : vs.length ≤ sizeLine := by
  have hs : sizeLine = 2 ^ 24 := rfl
  rw [ints_len h]; omega
end Mine

set_option maxHeartbeats 8000000 in
theorem PySem.Challenge.cw_sa0079_01_holds : PySem.Challenge.rw_sa0079_01.Holds := by
  w_on
  o_law
  k_head
  case hw => w_witness2
  w_strict (
  intro w s₀ s₁ mg mb G Y fa o pm cd doc dV kV ho hd hcd hD hmg hg args vals as hpre hlay hrd hwl hlo
  have KX := kIn_of Y
  refine Ground.open G ?_
  intro T B D TE TW
  clear Y hd hcd hD D TE TW B
  wrow_args hpre hlay hrd hwl hlo
  rename IntsAre _ _ => hI
  rename Heap.IsList _ _ _ => hL
  rename ¬ _ < _ => hlen
  have ok : Mine.Wd.OK ⟨PySem.Challenge.rw_sa0079_01.row.prog, w, mg, mb, s₁.heap⟩ := ⟨T.g, T.b, T.nolimit⟩
  have lib : Mine.Lib ⟨PySem.Challenge.rw_sa0079_01.row.prog, w, mg, mb, s₁.heap⟩ := {
    ok := ok
    abs := Mine.bi_of T (by decide +kernel) rfl
    len := Mine.bi_of T (by decide +kernel) rfl
    max := Mine.bi_of T (by decide +kernel) rfl
    list := Mine.bi_of T (by decide +kernel) rfl
    range := Mine.bi_of T (by decide +kernel) rfl
    enumerate := Mine.bi_of T (by decide +kernel) rfl
    R0 := Mine.pair_of T KX rfl rfl
    R1 := Mine.pair_of T KX rfl rfl
    gcd := Mine.defI_of T 0 rfl
    rat := Mine.defI_of T 1 rfl
    radd := Mine.defI_of T 2 rfl
    rmul := Mine.defI_of T 3 rfl
    rdiv := Mine.defI_of T 4 rfl
    rneg := Mine.defI_of T 5 rfl
    qtrim := Mine.defI_of T 6 rfl
    qadd := Mine.defI_of T 7 rfl
    qscale := Mine.defI_of T 8 rfl
    binomial_row := Mine.defI_of T 9 rfl
    bernoulli_row := Mine.defI_of T 10 rfl
    power_sum := Mine.defI_of T 11 rfl
    polynomial_sum := Mine.defI_of T 12 rfl }
  have lib1 : Mine.Law1Lib ⟨PySem.Challenge.rw_sa0079_01.row.prog, w, mg, mb, s₁.heap⟩ := {
    law := { lib := lib, trim := Mine.defI_of T 14 rfl, plus := Mine.defI_of T 15 rfl, atLine := Mine.defI_of T 16 rfl, ratios := Mine.defI_of T 17 rfl }
    told := Mine.defI_of T 18 rfl
    cuts := Mine.defI_of T 19 rfl
    rows := Mine.defI_of T 20 rfl }
  obtain ⟨a, ob, fd, hg1, ho1, _, hcall⟩ := Mine.law_S lib1 (Mine.defI_of T 13 rfl) (Mine.bi_of T (by decide +kernel) rfl) (Mine.defI_of T 21 rfl) Mine.allAsked1 _
  have ea := hmg.symm.trans hg1
  injection ea with ea
  injection ea with ea
  subst ea
  have hz := Mine.ints_small hI (by omega)
  refine Mine.wpNoE (wpAny_mono (hcall callerA (fun _ => False) s₁ _ ⟨rfl, by decide, by decide⟩ (fun _ _ e => e) (fun _ q => q.elim) (.cons (.lst (fun q => q) hL hz (Mine.ints_reps hI)) .nil)) (fun v s' q => ?_) fun _ _ x => x)
  obtain ⟨⟨⟨h', tk, e⟩, k⟩, r⟩ := q
  subst e
  cases r with
  | bool b =>
  exact GoodW.toG ⟨.inl ⟨_, _, _, rfl, raisesW_false (by wrow_none_raised), .bool true, (by wrow_post), unshared_nil⟩, k, rfl, hg⟩)
