import PyProof.Rows.All
import Wide.All
import OpenK.AllK
import Wide.FinOn
import PySem.Challenge.RW_pb0349_01
open PySem PySem.W PyProof.Rows PySem.Calls
set_option Elab.async false
set_option linter.unusedVariables false
set_option linter.unusedSimpArgs false
namespace Mine

noncomputable section
/-! values without their tokens -/
def er : Value → Value
  | .int i _ => .int i 0
  | .str x _ => .str x 0
  | .float b _ => .float b 0
  | .bytes b _ => .bytes b 0
  | v => v

theorem er_er (v : Value) : er (er v) = er v := by cases v <;> rfl
theorem er_ref {v : Value} {a : Addr} (h : er v = .ref a) : v = .ref a := by cases v <;> first | exact h | cases h
theorem er_none {v : Value} (h : er v = .none) : v = .none := by cases v <;> first | exact h | cases h
theorem er_bool {v : Value} {b : Bool} (h : er v = .bool b) : v = .bool b := by cases v <;> first | exact h | cases h
theorem er_builtin {v : Value} {b : String} (h : er v = .builtin b) : v = .builtin b := by cases v <;> first | exact h | cases h
theorem er_type {v : Value} {b : String} (h : er v = .type b) : v = .type b := by cases v <;> first | exact h | cases h
theorem er_int {v : Value} {i : Int} {u : Tok} (h : er v = .int i u) : ∃ t, v = .int i t := by cases v <;> first | (cases h; exact ⟨_, rfl⟩) | cases h
theorem er_str {v : Value} {x : Str} {u : Tok} (h : er v = .str x u) : ∃ t, v = .str x t := by cases v <;> first | (cases h; exact ⟨_, rfl⟩) | cases h

/-! abstract objects -/
inductive AO where
  | list (xs : List Value)
  | tup (xs : List Value)
  | dict (es : List (Str × Value))
  | inst (C d : Addr)
  | attrs (al : List (Str × Value))
  | set (n : Nat)
  | range (n : Int)

abbrev Store := Addr → Option AO
def Store.upd (σ : Store) (a : Addr) (o : AO) : Store := fun b => if b = a then some o else σ b
theorem Store.upd_self (σ : Store) (a : Addr) (o : AO) : σ.upd a o a = some o := by simp [Store.upd]
theorem Store.upd_ne (σ : Store) {a b : Addr} (o : AO) (h : b ≠ a) : σ.upd a o b = σ b := by simp [Store.upd, h]

theorem Store.up_upd {σ : Store} {a : Addr} {o : AO} : ∀ b, σ b ≠ none → σ.upd a o b ≠ none := fun b e => by
  unfold Store.upd
  split
  · exact fun z => nomatch z
  · exact e

abbrev Loc := Str → Option Value
def Loc.upd (m : Loc) (x : Str) (v : Value) : Loc := fun y => if y = x then some v else m y

/-! the fixed ground: the program, the written part, the heap at the law's start -/
structure Gd where
  prog : Program
  w : World
  K : Frag
  h₀ : Heap
  mg : Str → Option Value
  mb : Str → Option Value
  X : K.In h₀
  g : h₀.Ns mainGlobals mg
  b : h₀.Ns builtinsNs mb
  nolimit : h₀.NoLimit
  bi : ∀ x : Str, x ≠ "__name__" → mb x = bootBuiltins x

variable {Γ : Gd}

/-- what of an object an abstract one says -/
def OR (Γ : Gd) (h : Heap) (a : Addr) : AO → Prop
  | .list xs => ∃ vs n, IsL h a vs n ∧ vs.toList.map er = xs
  | .tup xs => ∃ vs n, h.get? a = some { cls := .type "tuple", data := .seq vs n } ∧ vs.toList.map er = xs
  | .dict es => ∃ kvs, h.DictOf (strKind Γ.prog Γ.w) a kvs ∧ kvs.map (fun p => (p.1, er p.2)) = es ∧ a ≠ sysModules
  | .inst C d => h.get? a = some (instObj C d)
  | .attrs al => ∃ m, h.Ns1 a m ∧ ∀ x, (m x).map er = al.lookup x
  | .set n => ∃ S, h.SetOf (strKind Γ.prog Γ.w) a S n
  | .range k => ∃ t u v, IsRange h a 0 k 1 t u v

theorem OR.at {h h' : Heap} {a : Addr} {o : AO} (x : OR Γ h a o) (e : ∀ q, h.get? a = some q → h'.get? a = some q) : OR Γ h' a o := by
  cases o with
  | list xs => obtain ⟨vs, n, l, r⟩ := x; exact ⟨vs, n, e _ l, r⟩
  | tup xs => obtain ⟨vs, n, l, r⟩ := x; exact ⟨vs, n, e _ l, r⟩
  | dict es => obtain ⟨kvs, ⟨o, es', ep, l, q⟩, r⟩ := x; exact ⟨kvs, ⟨o, es', ep, e _ l, q⟩, r⟩
  | inst C d => exact e _ x
  | attrs f => obtain ⟨m, N, r⟩ := x; exact ⟨m, N.at fun o q => e o q, r⟩
  | set n => obtain ⟨S, o, es, k, t, l, r⟩ := x; exact ⟨S, o, es, k, t, e _ l, r⟩
  | range n => obtain ⟨t, u, v, l⟩ := x; exact ⟨t, u, v, e _ l⟩
theorem OR.there {h : Heap} {a : Addr} {o : AO} (x : OR Γ h a o) : ∃ q, h.get? a = some q := by
  cases o with
  | list xs => obtain ⟨vs, n, l, r⟩ := x; exact ⟨_, l⟩
  | tup xs => obtain ⟨vs, n, l, r⟩ := x; exact ⟨_, l⟩
  | dict es => obtain ⟨kvs, ⟨o, es', ep, l, q⟩, r⟩ := x; exact ⟨_, l⟩
  | inst C d => exact ⟨_, x⟩
  | attrs f => obtain ⟨m, ⟨o, _, _, l, _⟩, r⟩ := x; exact ⟨_, l⟩
  | set n => obtain ⟨S, o, es, k, t, l, r⟩ := x; exact ⟨_, l⟩
  | range n => obtain ⟨t, u, v, l⟩ := x; exact ⟨_, l⟩

/-- the state bears the store -/
structure St (Γ : Gd) (σ : Store) (h : Heap) : Prop where
  old : ∀ b o, Γ.h₀.get? b = some o → h.get? b = some o ∧ σ b = none
  rep : ∀ a o, σ a = some o → OR Γ h a o

theorem St.keep {σ : Store} {h : Heap} (S : St Γ σ h) : ∀ b o, Γ.h₀.get? b = some o → h.get? b = some o := fun b o e => (S.old b o e).1
theorem St.K {σ : Store} {h : Heap} (S : St Γ σ h) : Γ.K.In h := Γ.X.keeps S.keep
theorem St.free {σ : Store} {h : Heap} (S : St Γ σ h) {a : Addr} (e : h.get? a = none) : σ a = none := by
  cases q : σ a with
  | none => rfl
  | some o => obtain ⟨x, hx⟩ := (S.rep a o q).there; rw [hx] at e; cases e
theorem St.newNone {σ : Store} {h : Heap} (S : St Γ σ h) : σ h.objs.size = none := by
  refine S.free ?_
  cases q : h.get? h.objs.size with
  | none => rfl
  | some o => exact absurd (Heap.lt_size q) (Nat.lt_irrefl _)
theorem St.isNew {σ : Store} {h : Heap} (S : St Γ σ h) {a : Addr} {o : AO} (e : σ a = some o) : Γ.h₀.get? a = none := by
  cases q : Γ.h₀.get? a with
  | none => rfl
  | some x => rw [(S.old a x q).2] at e; cases e

/-- from (σ, h) to (σ', h'): whatever stood there and is neither in the store nor in X stands, and is not in the store -/
structure Keep (ql : Bool) (X : List Addr) (σ : Store) (h : Heap) (σ' : Store) (h' : Heap) : Prop where
  k : ∀ b o, b ∉ X → h.get? b = some o → σ b = none → h'.get? b = some o ∧ σ' b = none
  up : ∀ b, σ b ≠ none → σ' b ≠ none
  qt : ql = true → ∀ b o, h.get? b = some o → h'.get? b = some o ∧ σ' b = σ b
theorem Keep.refl {ql : Bool} {X : List Addr} {σ : Store} {h : Heap} : Keep ql X σ h σ h := ⟨fun _ _ _ e n => ⟨e, n⟩, fun _ e => e, fun _ _ _ e => ⟨e, rfl⟩⟩
theorem Keep.trans {ql : Bool} {X : List Addr} {σ σ₁ σ₂ : Store} {h h₁ h₂ : Heap} (k : Keep ql X σ h σ₁ h₁) (k' : Keep ql X σ₁ h₁ σ₂ h₂) : Keep ql X σ h σ₂ h₂ := ⟨fun b o x e n => by
  obtain ⟨e', n'⟩ := k.k b o x e n
  exact k'.k b o x e' n', fun b e => k'.up b (k.up b e), fun z b o e => by
  obtain ⟨e', n'⟩ := k.qt z b o e
  obtain ⟨e2, n2⟩ := k'.qt z b o e'
  exact ⟨e2, n2.trans n'⟩⟩
theorem Keep.more {X Y : List Addr} {σ σ₁ : Store} {h h₁ : Heap} (k : Keep ql X σ h σ₁ h₁) (s : ∀ a ∈ X, a ∈ Y) : Keep ql Y σ h σ₁ h₁ := ⟨fun b o x e n => k.k b o (fun q => x (s b q)) e n, k.up, k.qt⟩
theorem Keep.nil {Y : List Addr} {σ σ₁ : Store} {h h₁ : Heap} (k : Keep ql [] σ h σ₁ h₁) : Keep ql Y σ h σ₁ h₁ := k.more fun _ h => nomatch h

theorem Keep.loud {ql : Bool} {X : List Addr} {σ σ₁ : Store} {h h₁ : Heap} (k : Keep ql X σ h σ₁ h₁) : Keep false X σ h σ₁ h₁ := ⟨k.k, k.up, fun z => nomatch z⟩

def Same (s s' : Shared) : Prop := ∃ h' tk, s' = { s with heap := h', toks := tk }
theorem Same.refl (s : Shared) : Same s s := ⟨s.heap, s.toks, rfl⟩
theorem Same.trans {s s₁ s₂ : Shared} (a : Same s s₁) (b : Same s₁ s₂) : Same s s₂ := by
  obtain ⟨h, t, rfl⟩ := a
  obtain ⟨h', t', rfl⟩ := b
  exact ⟨h', t', rfl⟩
theorem Same.mk' (s : Shared) (h : Heap) (t : Nat) : Same s { s with heap := h, toks := t } := ⟨h, t, rfl⟩

/-- the room: n calls deep -/
structure Lv (n : Nat) (A : Around) : Prop where
  depth : A.depth + 4 * n ≤ 900
  units : A.units + 20 * n ≤ 9000
  hand : A.handled = none

theorem Lv.in1 {n : Nat} {A : Around} (l : Lv (n + 1) A) : Lv n A.in1 := ⟨by have := l.depth; show A.depth + _ ≤ _; omega, by have := l.units; show A.units + 1 + _ ≤ _; omega, l.hand⟩
theorem Lv.le {n k : Nat} {A : Around} (l : Lv n A) (h : k ≤ n) : Lv k A := ⟨by have := l.depth; omega, by have := l.units; omega, l.hand⟩
theorem Lv.deeper {n : Nat} {A : Around} (l : Lv (n + 1) A) (e : Env) : Lv n (A.deeper e) := ⟨by have := l.depth; show A.depth + 1 + _ ≤ _; omega, by have := l.units; show A.units + 3 + _ ≤ _; omega, l.hand⟩
theorem Lv.room {n : Nat} {A : Around} (l : Lv n A) : A.depth < recursionLimit := by have := l.depth; unfold recursionLimit; omega
theorem Lv.units' {n : Nat} {A : Around} (l : Lv n A) : A.units < cLine := by have := l.units; unfold cLine; omega

structure EnvIs (sc : Scope) (env : Env) : Prop where
  scope : env.scope = sc
  globals : env.globals = mainGlobals
  builtins : env.builtins = builtinsNs

def own (env : Env) : List Addr := env.locals :: env.cells.map (·.2)

/-- the frame bears the names -/
structure Fm (Γ : Gd) (env : Env) (m : Loc) (σ : Store) (h : Heap) : Prop where
  loc : ∃ ml, h.Ns env.locals ml ∧ ∀ x, env.kindOf x = some .local → (ml x).map er = m x
  cel : ∀ x, env.kindOf x = some .cell ∨ env.kindOf x = some .free → ∃ c v, env.cells.lookup x = some c ∧ h.IsCell c v ∧ v.map er = m x
  inj : ∀ x y c, env.cells.lookup x = some c → env.cells.lookup y = some c → x = y
  off : ∀ a ∈ own env, (σ a = none ∧ Γ.h₀.get? a = none) ∧ ∃ o, h.get? a = some o

theorem Fm.at {env : Env} {m : Loc} {σ σ' : Store} {h h' : Heap} (F : Fm Γ env m σ h) (k : ∀ a ∈ own env, ∀ o, h.get? a = some o → h'.get? a = some o ∧ σ' a = none) : Fm Γ env m σ' h' := by
  refine ⟨?_, ?_, F.inj, ?_⟩
  · obtain ⟨ml, N, r⟩ := F.loc
    exact ⟨ml, N.at' fun o e => (k env.locals (List.mem_cons_self ..) o e).1, r⟩
  · intro x hx
    obtain ⟨c, v, hc, ⟨o, ho, hd⟩, r⟩ := F.cel x hx
    have hm : c ∈ own env := List.mem_cons_of_mem _ (List.mem_map.mpr ⟨(x, c), mem_of_lookup hc, rfl⟩)
    exact ⟨c, v, hc, ⟨o, (k c hm o ho).1, hd⟩, r⟩
  · intro a ha
    obtain ⟨n, o, ho⟩ := F.off a ha
    exact ⟨⟨(k a ha o ho).2, n.2⟩, o, (k a ha o ho).1⟩
theorem Fm.keep {ql : Bool} {env : Env} {m : Loc} {σ σ' : Store} {h h' : Heap} (F : Fm Γ env m σ h) (k : Keep ql [] σ h σ' h') : Fm Γ env m σ' h' :=
  F.at fun a ha o e => k.k a o (fun q => nomatch q) e (F.off a ha).1.1

abbrev Gd.M (Γ : Gd) : Model := model Γ.prog Γ.w

/-- a tree that never raises, in the store's words -/
def Go {α : Type} (Γ : Gd) (ql : Bool) (A : Around) (X : List Addr) (σ : Store) (s : Shared) (t : Sem α) (Q : α → Store → Shared → Prop) (E : Value → Shared → Prop) : Prop :=
  wpAny Γ.M A t (fun v s' => ∃ σ', Same s s' ∧ Keep ql X σ s.heap σ' s'.heap ∧ St Γ σ' s'.heap ∧ Q v σ' s') E s

noncomputable section
variable {α β : Type} {ql : Bool} {A : Around} {X : List Addr} {σ : Store} {s : Shared} {t : Sem α} {E : Value → Shared → Prop}
theorem Go.then {Q : α → Store → Shared → Prop} {R : α → Shared → Prop} (h : Go Γ ql A X σ s t Q E)
    (k : ∀ v s' σ', Same s s' → Keep ql X σ s.heap σ' s'.heap → St Γ σ' s'.heap → Q v σ' s' → R v s') : wpAny Γ.M A t R E s :=
  wpAny_mono h (fun v s' x => by obtain ⟨σ', a, b, c, d⟩ := x; exact k v s' σ' a b c d) fun _ _ e => e
theorem Go.back {Q : α → Store → Shared → Prop} {X' : List Addr} {s₀ : Shared} {σ₀ : Store} (sm : Same s₀ s) (k : Keep ql X' σ₀ s₀.heap σ s.heap) (h : Go Γ ql A X' σ s t Q E) :
    wpAny Γ.M A t (fun v s' => ∃ σ', Same s₀ s' ∧ Keep ql X' σ₀ s₀.heap σ' s'.heap ∧ St Γ σ' s'.heap ∧ Q v σ' s') E s :=
  wpAny_mono h (fun v s' x => by obtain ⟨σ', a, b, c, d⟩ := x; exact ⟨σ', sm.trans a, k.trans b, c, d⟩) fun _ _ e => e
theorem Go.mono {Q Q' : α → Store → Shared → Prop} (h : Go Γ ql A X σ s t Q E) (q : ∀ v σ' s', Q v σ' s' → Q' v σ' s') : Go Γ ql A X σ s t Q' E :=
  wpAny_mono h (fun v s' x => by obtain ⟨σ', a, b, c, d⟩ := x; exact ⟨σ', a, b, c, q _ _ _ d⟩) fun _ _ e => e
theorem Go.more {Q : α → Store → Shared → Prop} {Y : List Addr} (h : Go Γ ql A [] σ s t Q E) : Go Γ ql A Y σ s t Q E :=
  wpAny_mono h (fun v s' x => by obtain ⟨σ', a, b, c, d⟩ := x; exact ⟨σ', a, b.nil, c, d⟩) fun _ _ e => e
end

/-- an expression, in a frame of that scope -/
def TE (Γ : Gd) (ql : Bool) (n : Nat) (sc : Scope) (e : Expr) (m : Loc) (σ : Store) (Q : Value → Store → Prop) : Prop :=
  ∀ A env s E, Lv n A → EnvIs sc env → St Γ σ s.heap → Fm Γ env m σ s.heap → Go Γ ql A [] σ s (eval e env) (fun v σ' _ => Q (er v) σ') E
/-- a test -/
def TB (Γ : Gd) (ql : Bool) (n : Nat) (sc : Scope) (e : Expr) (m : Loc) (σ : Store) (Q : Bool → Store → Prop) : Prop :=
  ∀ A env s E, Lv n A → EnvIs sc env → St Γ σ s.heap → Fm Γ env m σ s.heap → Go Γ ql A [] σ s (isTrue e env (eval e env)) (fun v σ' _ => Q v σ') E
def erF : Flow → Flow
  | .ret v => .ret (er v)
  | f => f
/-- a statement -/
def TS (Γ : Gd) (n : Nat) (sc : Scope) (t : Stmt) (m : Loc) (σ : Store) (Q : Flow → Loc → Store → Prop) : Prop :=
  ∀ A env s E, Lv n A → EnvIs sc env → St Γ σ s.heap → Fm Γ env m σ s.heap → Go Γ false A (own env) σ s (exec t env) (fun f σ' s' => ∃ m', Fm Γ env m' σ' s'.heap ∧ Q (erF f) m' σ') E
def TSs (Γ : Gd) (n : Nat) (sc : Scope) (t : List Stmt) (m : Loc) (σ : Store) (Q : Flow → Loc → Store → Prop) : Prop :=
  ∀ A env s E, Lv n A → EnvIs sc env → St Γ σ s.heap → Fm Γ env m σ s.heap → Go Γ false A (own env) σ s (execs t env) (fun f σ' s' => ∃ m', Fm Γ env m' σ' s'.heap ∧ Q (erF f) m' σ') E
/-- an operation upon values -/
def P1 (Γ : Gd) (ql : Bool) (n : Nat) (f : Value → Sem Value) (a : Value) (σ : Store) (Q : Value → Store → Prop) : Prop :=
  ∀ A s E va, Lv n A → St Γ σ s.heap → er va = a → Go Γ ql A [] σ s (f va) (fun v σ' _ => Q (er v) σ') E
def P2 (Γ : Gd) (ql : Bool) (n : Nat) (f : Value → Value → Sem Value) (a b : Value) (σ : Store) (Q : Value → Store → Prop) : Prop :=
  ∀ A s E va vb, Lv n A → St Γ σ s.heap → er va = a → er vb = b → Go Γ ql A [] σ s (f va vb) (fun v σ' _ => Q (er v) σ') E
def P1u (Γ : Gd) (ql : Bool) (n : Nat) (f : Value → Sem Bool) (a : Value) (σ : Store) (Q : Bool → Store → Prop) : Prop :=
  ∀ A s E va, Lv n A → St Γ σ s.heap → er va = a → Go Γ ql A [] σ s (f va) (fun v σ' _ => Q v σ') E
/-- a call -/
def TC (Γ : Gd) (ql : Bool) (n : Nat) (f : Value) (args : List Value) (σ : Store) (Q : Value → Store → Prop) : Prop :=
  ∀ A s E vs, Lv n A → St Γ σ s.heap → vs.map er = args → Go Γ ql A [] σ s (call f vs []) (fun v σ' _ => Q (er v) σ') E

noncomputable section
variable {ql : Bool} {n : Nat} {sc : Scope} {m : Loc} {σ : Store}
theorem TE.mono {e : Expr} {Q Q' : Value → Store → Prop} (h : TE Γ ql n sc e m σ Q) (q : ∀ v σ', Q v σ' → Q' v σ') : TE Γ ql n sc e m σ Q' :=
  fun A env s E l he S F => (h A env s E l he S F).mono fun _ _ _ x => q _ _ x
theorem TB.mono {e : Expr} {Q Q' : Bool → Store → Prop} (h : TB Γ ql n sc e m σ Q) (q : ∀ v σ', Q v σ' → Q' v σ') : TB Γ ql n sc e m σ Q' :=
  fun A env s E l he S F => (h A env s E l he S F).mono fun _ _ _ x => q _ _ x
theorem TS.mono {e : Stmt} {Q Q' : Flow → Loc → Store → Prop} (h : TS Γ n sc e m σ Q) (q : ∀ v m' σ', Q v m' σ' → Q' v m' σ') : TS Γ n sc e m σ Q' :=
  fun A env s E l he S F => (h A env s E l he S F).mono fun _ _ _ ⟨m', f, x⟩ => ⟨m', f, q _ _ _ x⟩
theorem TSs.mono {e : List Stmt} {Q Q' : Flow → Loc → Store → Prop} (h : TSs Γ n sc e m σ Q) (q : ∀ v m' σ', Q v m' σ' → Q' v m' σ') : TSs Γ n sc e m σ Q' :=
  fun A env s E l he S F => (h A env s E l he S F).mono fun _ _ _ ⟨m', f, x⟩ => ⟨m', f, q _ _ _ x⟩
theorem TC.mono {f : Value} {args : List Value} {Q Q' : Value → Store → Prop} (h : TC Γ ql n f args σ Q) (q : ∀ v σ', Q v σ' → Q' v σ') : TC Γ ql n f args σ Q' :=
  fun A s E vs l S e => (h A s E vs l S e).mono fun _ _ _ x => q _ _ x
theorem TC.le {f : Value} {args : List Value} {k : Nat} {Q : Value → Store → Prop} (h : TC Γ ql k f args σ Q) (hk : k ≤ n) : TC Γ ql n f args σ Q :=
  fun A s E vs l S e => h A s E vs (l.le hk) S e

/-! a value at once, the heap as it was but for tokens -/
theorem Go.now {α : Type} {A : Around} {ql : Bool} {X : List Addr} {s : Shared} {t : Sem α} {Q : α → Store → Shared → Prop} {E : Value → Shared → Prop} (S : St Γ σ s.heap)
    (h : ∀ R : α → Shared → Prop, (∀ v tk, Q v σ { s with toks := tk } → R v { s with toks := tk }) → wpAny Γ.M A t R E s) : Go Γ ql A X σ s t Q E :=
  h _ fun _ tk q => ⟨σ, ⟨s.heap, tk, rfl⟩, Keep.refl, S, q⟩

theorem TE_int {i : Int} {k : Nat} {pos : Pos} {Q : Value → Store → Prop} (h : Q (.int i 0) σ) : TE Γ ql n sc (.Constant (.int i) k pos) m σ Q :=
  fun _ _ _ _ _ _ S _ => Go.now S fun _ q => wpAny_Constant_int (q (.int i _) _ h)
theorem TE_str {x : Str} {k : Nat} {pos : Pos} {Q : Value → Store → Prop} (h : Q (.str x 0) σ) : TE Γ ql n sc (.Constant (.str x) k pos) m σ Q :=
  fun _ _ _ _ _ _ S _ => Go.now S fun _ q => PySem.wpAny_Constant_str (q (.str x _) _ h)
theorem TE_bool {b : Bool} {k : Nat} {pos : Pos} {Q : Value → Store → Prop} (h : Q (.bool b) σ) : TE Γ ql n sc (.Constant (.bool b) k pos) m σ Q :=
  fun _ _ s _ _ _ S _ => Go.now S fun _ q => wpAny_Constant_bool (q (.bool b) s.toks h)
theorem TE_none {k : Nat} {pos : Pos} {Q : Value → Store → Prop} (h : Q .none σ) : TE Γ ql n sc (.Constant .none k pos) m σ Q :=
  fun _ _ s _ _ _ S _ => Go.now S fun _ q => wpAny_Constant_none (q .none s.toks h)

theorem map_er_some {o : Option Value} {v : Value} (h : o.map er = some v) : ∃ u, o = some u ∧ er u = v := by
  cases o with
  | none => cases h
  | some u => exact ⟨u, rfl, Option.some.inj h⟩

/-- a name of the frame, whatever its kind -/
theorem TE_Name {x : Str} {pos : Pos} {v : Value} {Q : Value → Store → Prop} (hv : m x = some v) (h : Q v σ)
    (hk : sc.kind = .function := by rfl) (hx : (sc.names.lookup x = some .local ∨ sc.names.lookup x = some .cell ∨ sc.names.lookup x = some .free) := by decide)
    (hd : (x == ("__debug__" : Str)) = false ∧ (x == ("__classdict__" : Str)) = false := by decide) : TE Γ ql n sc (.Name x pos) m σ Q := by
  intro A env s E _ he S F
  refine Go.now S fun R q => wpAny_Name ?_ hd.1
  have hke : env.scope.kind = .function := by rw [he.scope]; exact hk
  have hkx : env.kindOf x = sc.names.lookup x := by unfold Env.kindOf; rw [he.scope]
  rcases hx with hx | hx | hx
  · obtain ⟨ml, N, r⟩ := F.loc
    obtain ⟨u, hu, rfl⟩ := map_er_some ((r x (hkx.trans hx)).trans hv)
    exact wpAny_loadName_local hke (hkx.trans hx) N hu (q _ s.toks h)
  · obtain ⟨c, u, hc, hi, r⟩ := F.cel x (.inl (hkx.trans hx))
    obtain ⟨u, rfl, rfl⟩ := map_er_some (r.trans hv)
    exact wpAny_loadName_cell hke (hkx.trans hx) hc hi (q _ s.toks h)
  · obtain ⟨c, u, hc, hi, r⟩ := F.cel x (.inr (hkx.trans hx))
    obtain ⟨u, rfl, rfl⟩ := map_er_some (r.trans hv)
    exact wpAny_loadName_free hke (hkx.trans hx) hc hi (q _ s.toks h) hd.2

theorem TE_own {x : Str} {pos : Pos} {v : Value} {Q : Value → Store → Prop} (e : nsIn Γ.K mainGlobals x = some (some v)) (h : Q (er v) σ)
    (hk : sc.kind = .function := by rfl) (hx : sc.names.lookup x = some .globalImplicit := by decide) (hd : (x == ("__debug__" : Str)) = false := by decide) : TE Γ ql n sc (.Name x pos) m σ Q := by
  intro A env s E _ he S F
  refine Go.now S fun R q => ?_
  have hke : env.scope.kind = .function := by rw [he.scope]; exact hk
  have hkx : env.kindOf x = sc.names.lookup x := by unfold Env.kindOf; rw [he.scope]
  refine Name_function_global hke (hkx.trans hx) ?_ hd
  refine loadGlobal_global (by rw [he.globals]; exact Γ.g.keeps S.keep) (mg_of Γ.X Γ.g e) (q _ s.toks h)
theorem TE_builtin {x : Str} {pos : Pos} {v : Value} {Q : Value → Store → Prop} (e : nsIn Γ.K mainGlobals x = some none) (hb : bootBuiltins x = some v) (h : Q (er v) σ)
    (hk : sc.kind = .function := by rfl) (hx : sc.names.lookup x = some .globalImplicit := by decide) (hd : (x == ("__debug__" : Str)) = false ∧ x ≠ ("__name__" : Str) := by decide) : TE Γ ql n sc (.Name x pos) m σ Q := by
  intro A env s E _ he S F
  refine Go.now S fun R q => ?_
  have hke : env.scope.kind = .function := by rw [he.scope]; exact hk
  have hkx : env.kindOf x = sc.names.lookup x := by unfold Env.kindOf; rw [he.scope]
  refine Name_function_global hke (hkx.trans hx) ?_ hd.1
  exact loadGlobal_builtin (by rw [he.globals]; exact Γ.g.keeps S.keep) (mg_none_of Γ.X Γ.g e) (by rw [he.builtins]; exact Γ.b.keeps S.keep) ((Γ.bi x hd.2).trans hb) (q _ s.toks h)

theorem TE_BinOp {l r : Expr} {op : Operator} {pos : Pos} {Q : Value → Store → Prop}
    (h : TE Γ ql n sc l m σ fun a σ₁ => TE Γ ql n sc r m σ₁ fun b σ₂ => P2 Γ ql n (binaryOp op) a b σ₂ Q) : TE Γ ql n sc (.BinOp l op r pos) m σ Q :=
  fun A env s E hl he S F => wpAny_BinOp ((h A env s E hl he S F).then fun _ s₁ _ sm k S₁ h₁ =>
    (h₁ A env s₁ E hl he S₁ (F.keep k)).then fun _ s₂ _ sm₂ k₂ S₂ h₂ => Go.back (sm.trans sm₂) (k.trans k₂) (h₂ A s₂ E _ _ hl S₂ rfl rfl))
theorem TE_Compare {l r : Expr} {op : CmpOp} {pos : Pos} {Q : Value → Store → Prop}
    (h : TE Γ ql n sc l m σ fun a σ₁ => TE Γ ql n sc r m σ₁ fun b σ₂ => P2 Γ ql n (compareOp op) a b σ₂ Q) (hm : behindInMarks op r = false := by with_unfolding_all rfl) : TE Γ ql n sc (.Compare l [op] [r] pos) m σ Q :=
  fun A env s E hl he S F => wpAny_Compare1 ((h A env s E hl he S F).then fun _ s₁ _ sm k S₁ h₁ =>
    (h₁ A env s₁ E hl he S₁ (F.keep k)).then fun _ s₂ _ sm₂ k₂ S₂ h₂ => Go.back (sm.trans sm₂) (k.trans k₂) (h₂ A s₂ E _ _ hl S₂ rfl rfl)) hm
theorem TB_Compare {l r : Expr} {op : CmpOp} {pos : Pos} {Q : Bool → Store → Prop}
    (h : TE Γ ql n sc l m σ fun a σ₁ => TE Γ ql n sc r m σ₁ fun b σ₂ => P2 Γ ql n (compareOp op) a b σ₂ fun c σ₃ => ∃ t, c = .bool t ∧ Q t σ₃) (hm : behindInMarks op r = false := by with_unfolding_all rfl) :
    TB Γ ql n sc (.Compare l [op] [r] pos) m σ Q :=
  fun A env s E hl he S F => wpAny_isTrue_Compare1 ((h A env s E hl he S F).then fun _ s₁ _ sm k S₁ h₁ =>
    (h₁ A env s₁ E hl he S₁ (F.keep k)).then fun _ s₂ _ sm₂ k₂ S₂ h₂ => (h₂ A s₂ E _ _ hl S₂ rfl rfl).then fun c s₃ σ₃ sm₃ k₃ S₃ h₃ => by
      obtain ⟨t, ht, q⟩ := h₃
      rw [er_bool ht]
      exact wpAny_truthy_bool ⟨σ₃, (sm.trans sm₂).trans sm₃, (k.trans k₂).trans k₃, S₃, q⟩) hm
/-- a test that is a value: a name that holds a bool .. -/
theorem TB_value {e : Expr} {Q : Bool → Store → Prop} (h : TE Γ ql n sc e m σ fun c σ₁ => ∃ t, c = .bool t ∧ Q t σ₁)
    (hf : ∀ env whole, isTrue e env whole = (do let v ← whole; standAt e.pos; holding [v] (truthy v)) := by intros; rfl) : TB Γ ql n sc e m σ Q :=
  fun A env s E hl he S F => wpAny_isTrue_value ((h A env s E hl he S F).then fun c s₁ σ₁ sm k S₁ h₁ => by
    obtain ⟨t, ht, q⟩ := h₁
    rw [er_bool ht]
    exact wpAny_truthy_bool ⟨σ₁, sm, k, S₁, q⟩) (hf _ _)
theorem TB_Not {x : Expr} {pos : Pos} {Q : Bool → Store → Prop} (h : TB Γ ql n sc x m σ fun b σ₁ => Q (!b) σ₁) : TB Γ ql n sc (.UnaryOp .Not x pos) m σ Q :=
  fun A env s E hl he S F => wpAny_isTrue_Not ((h A env s E hl he S F).mono fun _ _ _ q => q)

/-- and, or of a test -/
def TBs (Γ : Gd) (ql : Bool) (n : Nat) (sc : Scope) (op : BoolOp) (es : List Expr) (m : Loc) (σ : Store) (Q : Bool → Store → Prop) : Prop :=
  ∀ A env s E, Lv n A → EnvIs sc env → St Γ σ s.heap → Fm Γ env m σ s.heap → Go Γ ql A [] σ s (allTrue op es env) (fun v σ' _ => Q v σ') E
theorem TB_BoolOp {op : BoolOp} {es : List Expr} {pos : Pos} {Q : Bool → Store → Prop} (h : TBs Γ ql n sc op es m σ Q) : TB Γ ql n sc (.BoolOp op es pos) m σ Q :=
  fun A env s E hl he S F => wpAny_isTrue_BoolOp (h A env s E hl he S F)
theorem TBs_And_nil {Q : Bool → Store → Prop} (h : Q true σ) : TBs Γ ql n sc .And [] m σ Q := fun _ _ s _ _ _ S _ => Go.now S fun _ q => wpAny_allTrue_And_nil (q true s.toks h)
theorem TBs_Or_nil {Q : Bool → Store → Prop} (h : Q false σ) : TBs Γ ql n sc .Or [] m σ Q := fun _ _ s _ _ _ S _ => Go.now S fun _ q => wpAny_allTrue_Or_nil (q false s.toks h)
theorem TBs_And {x : Expr} {es : List Expr} {Q : Bool → Store → Prop} (h : TB Γ ql n sc x m σ fun b σ₁ => if b then TBs Γ ql n sc .And es m σ₁ Q else Q false σ₁) : TBs Γ ql n sc .And (x :: es) m σ Q :=
  fun A env s E hl he S F => wpAny_allTrue_And_cons ((h A env s E hl he S F).then fun b s₁ σ₁ sm k S₁ h₁ => by
    cases b with
    | true => exact Go.back sm k (h₁ A env s₁ E hl he S₁ (F.keep k))
    | false => exact ⟨σ₁, sm, k, S₁, h₁⟩)
theorem TBs_Or {x : Expr} {es : List Expr} {Q : Bool → Store → Prop} (h : TB Γ ql n sc x m σ fun b σ₁ => if b then Q true σ₁ else TBs Γ ql n sc .Or es m σ₁ Q) : TBs Γ ql n sc .Or (x :: es) m σ Q :=
  fun A env s E hl he S F => wpAny_allTrue_Or_cons ((h A env s E hl he S F).then fun b s₁ σ₁ sm k S₁ h₁ => by
    cases b with
    | false => exact Go.back sm k (h₁ A env s₁ E hl he S₁ (F.keep k))
    | true => exact ⟨σ₁, sm, k, S₁, h₁⟩)
/-- and, or as a value, of two bools -/
theorem TE_And2 {x y : Expr} {pos : Pos} {Q : Value → Store → Prop} (h : TE Γ ql n sc x m σ fun v σ₁ => ∃ t, v = .bool t ∧ if t then TE Γ ql n sc y m σ₁ Q else Q (.bool false) σ₁) :
    TE Γ ql n sc (.BoolOp .And [x, y] pos) m σ Q :=
  fun A env s E hl he S F => wpAny_And2 ((h A env s E hl he S F).then fun v s₁ σ₁ sm k S₁ h₁ => by
    obtain ⟨t, ht, q⟩ := h₁
    have := er_bool ht
    subst this
    refine wpAny_truthy_bool ?_
    cases t with
    | true => exact Go.back sm k (q A env s₁ E hl he S₁ (F.keep k))
    | false => exact ⟨σ₁, sm, k, S₁, q⟩)
theorem TE_Or2 {x y : Expr} {pos : Pos} {Q : Value → Store → Prop} (h : TE Γ ql n sc x m σ fun v σ₁ => ∃ t, v = .bool t ∧ if t then Q (.bool true) σ₁ else TE Γ ql n sc y m σ₁ Q) :
    TE Γ ql n sc (.BoolOp .Or [x, y] pos) m σ Q :=
  fun A env s E hl he S F => wpAny_Or2 ((h A env s E hl he S F).then fun v s₁ σ₁ sm k S₁ h₁ => by
    obtain ⟨t, ht, q⟩ := h₁
    have := er_bool ht
    subst this
    refine wpAny_truthy_bool ?_
    cases t with
    | false => exact Go.back sm k (q A env s₁ E hl he S₁ (F.keep k))
    | true => exact ⟨σ₁, sm, k, S₁, q⟩)
theorem TE_IfExp {t b o : Expr} {pos : Pos} {Q : Value → Store → Prop} (h : TB Γ ql n sc t m σ fun v σ₁ => if v then TE Γ ql n sc b m σ₁ Q else TE Γ ql n sc o m σ₁ Q) : TE Γ ql n sc (.IfExp t b o pos) m σ Q :=
  fun A env s E hl he S F => wpAny_IfExp ((h A env s E hl he S F).then fun v s₁ σ₁ sm k S₁ h₁ => by
    cases v with
    | true => exact Go.back sm k (h₁ A env s₁ E hl he S₁ (F.keep k))
    | false => exact Go.back sm k (h₁ A env s₁ E hl he S₁ (F.keep k)))
theorem TE_Unary {op : UnaryOp} {x : Expr} {pos : Pos} {Q : Value → Store → Prop} (h : TE Γ ql n sc x m σ fun v σ₁ => P1 Γ ql n (unaryOp op) v σ₁ Q) : TE Γ ql n sc (.UnaryOp op x pos) m σ Q :=
  fun A env s E hl he S F => wpAny_UnaryOp ((h A env s E hl he S F).then fun _ s₁ _ sm k S₁ h₁ => Go.back sm k (h₁ A s₁ E _ hl S₁ rfl))

/-! several expressions in a row -/
def TL (Γ : Gd) (ql : Bool) (n : Nat) (sc : Scope) (es : List Expr) (m : Loc) (σ : Store) (Q : List Value → Store → Prop) : Prop :=
  ∀ A env pos s E, Lv n A → EnvIs sc env → St Γ σ s.heap → Fm Γ env m σ s.heap → Go Γ ql A [] σ s (spliced (backTo pos (starEach es env))) (fun vs σ' _ => Q (vs.map er) σ') E
theorem TL_nil {Q : List Value → Store → Prop} (h : Q [] σ) : TL Γ ql n sc [] m σ Q := fun _ _ _ s _ _ _ S _ => Go.now S fun _ q => wpAny_items_nil (q [] s.toks h)
theorem TL_cons {e : Expr} {es : List Expr} {Q : List Value → Store → Prop} (h : TE Γ ql n sc e m σ fun v σ₁ => TL Γ ql n sc es m σ₁ fun vs σ₂ => Q (v :: vs) σ₂)
    (hs : ∀ env, starEach (e :: es) env = (false, eval e env) :: starEach es env := by intros; rfl) : TL Γ ql n sc (e :: es) m σ Q :=
  fun A env pos s E hl he S F => wpAny_items_cons ((h A env s E hl he S F).then fun _ s₁ _ sm k S₁ h₁ =>
    (h₁ A env pos s₁ E hl he S₁ (F.keep k)).then fun _ s₂ σ₂ sm₂ k₂ S₂ q => ⟨σ₂, sm.trans sm₂, k.trans k₂, S₂, q⟩) (hs env)

/-- a new object -/
theorem St.push {s : Shared} {o : Obj} {ao : AO} (S : St Γ σ s.heap) (r : OR Γ (s.heap.push o) s.heap.objs.size ao) : St Γ (σ.upd s.heap.objs.size ao) (s.heap.push o) := by
  refine ⟨fun b x e => ⟨Heap.get?_push_of_some _ (S.old b x e).1, ?_⟩, fun a x e => ?_⟩
  · rw [Store.upd_ne _ _ (Nat.ne_of_lt (Heap.lt_size (S.old b x e).1))]; exact (S.old b x e).2
  · by_cases h : a = s.heap.objs.size
    · subst h; rw [Store.upd_self] at e; cases e; exact r
    · rw [Store.upd_ne _ _ h] at e; exact (S.rep a x e).at fun q hq => Heap.get?_push_of_some _ hq
theorem Keep.push {ql : Bool} {X : List Addr} {h : Heap} {o : Obj} {ao : AO} : Keep ql X σ h (σ.upd h.objs.size ao) (h.push o) := ⟨fun b x _ e n => ⟨Heap.get?_push_of_some _ e, by
  rw [Store.upd_ne _ _ (Nat.ne_of_lt (Heap.lt_size e))]; exact n⟩, Store.up_upd, fun _ b o e => ⟨Heap.get?_push_of_some _ e, Store.upd_ne _ _ (Nat.ne_of_lt (Heap.lt_size e))⟩⟩
theorem Keep.pushG {ql : Bool} {X : List Addr} {h : Heap} {o : Obj} : Keep ql X σ h σ (h.push o) := ⟨fun b x _ e n => ⟨Heap.get?_push_of_some _ e, n⟩, fun _ e => e, fun _ b o e => ⟨Heap.get?_push_of_some _ e, rfl⟩⟩
theorem St.pushG {h : Heap} {o : Obj} (S : St Γ σ h) : St Γ σ (h.push o) :=
  ⟨fun b x e => ⟨Heap.get?_push_of_some _ (S.old b x e).1, (S.old b x e).2⟩, fun a x e => (S.rep a x e).at fun q hq => Heap.get?_push_of_some _ hq⟩

theorem TE_List {es : List Expr} {pos : Pos} {Q : Value → Store → Prop}
    (h : TL Γ ql n sc es m σ fun vs σ₁ => vs.length ≤ sizeLine ∧ ∀ a, σ₁ a = none → Q (.ref a) (σ₁.upd a (.list vs))) : TE Γ ql n sc (.List es pos) m σ Q :=
  fun A env s E hl he S F => wpAny_List ((h A env pos s E hl he S F).then fun vs s₁ σ₁ sm k S₁ h₁ => ⟨by simpa using h₁.1, σ₁.upd s₁.heap.objs.size (.list (vs.map er)),
    sm.trans ⟨_, s₁.toks, rfl⟩, k.trans Keep.push, S₁.push ⟨vs.toArray, 0, Heap.get?_push_size _ rfl, rfl⟩, h₁.2 _ S₁.newNone⟩)
theorem TE_Tuple {es : List Expr} {k : Nat} {pos : Pos} {Q : Value → Store → Prop}
    (h : TL Γ ql n sc es m σ fun vs σ₁ => vs.length ≤ sizeLine ∧ ∀ a, σ₁ a = none → Q (.ref a) (σ₁.upd a (.tup vs))) : TE Γ ql n sc (.Tuple es k pos) m σ Q :=
  fun A env s E hl he S F => wpAny_Tuple ((h A env pos s E hl he S F).then fun vs s₁ σ₁ sm k S₁ h₁ => ⟨by simpa using h₁.1, σ₁.upd s₁.heap.objs.size (.tup (vs.map er)),
    sm.trans ⟨_, s₁.toks, rfl⟩, k.trans Keep.push, S₁.push ⟨vs.toArray, 0, Heap.get?_push_size _ rfl, rfl⟩, h₁.2 _ S₁.newNone⟩)
end
end

noncomputable section
variable {Γ : Gd}

theorem St.off {σ : Store} {h h' : Heap} {a : Addr} (S : St Γ σ h) (hs : Heap.SameBut a h h') (n : σ a = none ∧ Γ.h₀.get? a = none) : St Γ σ h' := by
  have ne : ∀ b, b ≠ a → h'.get? b = h.get? b := hs.2
  refine ⟨fun b o e => ?_, fun b o e => ?_⟩
  · have q := S.old b o e
    have : b ≠ a := fun z => by rw [z, n.2] at e; cases e
    exact ⟨(ne b this).trans q.1, q.2⟩
  · have : b ≠ a := fun z => by rw [z, n.1] at e; cases e
    exact (S.rep b o e).at fun q hq => (ne b this).trans hq
theorem St.offE {σ : Store} {h h' : Heap} {a : Addr} (S : St Γ σ h) (hs : Heap.ExtBut a h h') (n : σ a = none ∧ Γ.h₀.get? a = none) : St Γ σ h' := by
  refine ⟨fun b o e => ?_, fun b o e => ?_⟩
  · have q := S.old b o e
    have : b ≠ a := fun z => by rw [z, n.2] at e; cases e
    exact ⟨hs b o this q.1, q.2⟩
  · have : b ≠ a := fun z => by rw [z, n.1] at e; cases e
    exact (S.rep b o e).at fun q hq => hs b q this hq
theorem St.newNone₀ {σ : Store} {h : Heap} (S : St Γ σ h) : σ h.objs.size = none ∧ Γ.h₀.get? h.objs.size = none := by
  refine ⟨S.newNone, ?_⟩
  cases q : Γ.h₀.get? h.objs.size with
  | none => rfl
  | some o => exact absurd (Heap.lt_size (S.keep _ _ q)) (Nat.lt_irrefl _)

noncomputable section
variable {n : Nat} {sc : Scope} {m : Loc} {σ : Store} {A : Around} {s : Shared} {E : Value → Shared → Prop} {env : Env}

theorem lookup_own {c : Addr} {x : Str} (h : env.cells.lookup x = some c) : c ∈ own env := List.mem_cons_of_mem _ (List.mem_map.mpr ⟨(x, c), mem_of_lookup h, rfl⟩)

theorem store_go {x : Str} {v : Value} (hk : env.scope.kind = .function) (hx : env.kindOf x = some .local ∨ env.kindOf x = some .cell) (S : St Γ σ s.heap) (F : Fm Γ env m σ s.heap) :
    Go Γ false A (own env) σ s (storeName env x v) (fun _ σ' s' => σ' = σ ∧ Fm Γ env (m.upd x (er v)) σ s'.heap) E := by
  obtain ⟨ml, N, r⟩ := F.loc
  have Lo : env.locals ∈ own env := List.mem_cons_self ..
  have nc : ∀ c v, s.heap.IsCell c v → c ≠ env.locals := by
    rintro c v ⟨o, ho, hd⟩ rfl
    obtain ⟨o', es, ep, ho', hd', _⟩ := N
    rw [ho] at ho'
    cases ho'
    rw [hd] at hd'
    cases hd'
  rcases hx with hx | hx
  · refine wpAny_storeName_local hx N (fun h' hn' hs' => ⟨σ, ⟨h', _, rfl⟩, ?_, S.off hs' (F.off _ Lo).1, rfl, ?_, ?_, F.inj, ?_⟩) (by rw [hk]; rfl)
    · refine ⟨fun b o hb e nn => ?_, fun _ e => e, fun z => nomatch z⟩
      exact ⟨(hs'.2 b fun z => hb (z ▸ Lo)).trans e, nn⟩
    · refine ⟨_, hn', fun y hy => ?_⟩
      unfold Loc.upd
      by_cases h : y = x
      · rw [if_pos h, if_pos h]; rfl
      · rw [if_neg h, if_neg h]; exact r y hy
    · intro y hy
      obtain ⟨c, u, hc, hi, q⟩ := F.cel y hy
      refine ⟨c, u, hc, hi.sameBut hs' (nc c u hi), ?_⟩
      have : y ≠ x := fun z => by subst z; rw [hx] at hy; rcases hy with hy | hy <;> cases hy
      unfold Loc.upd
      rw [if_neg this]; exact q
    · intro a ha
      obtain ⟨q, o, ho⟩ := F.off a ha
      refine ⟨q, ?_⟩
      by_cases h : a = env.locals
      · subst h; obtain ⟨o', _, _, e, _⟩ := hn'; exact ⟨o', e⟩
      · exact ⟨o, (hs'.2 a h).trans ho⟩
  · obtain ⟨c, u, hc, hi, q⟩ := F.cel x (.inl hx)
    have Co := lookup_own hc
    refine wpAny_storeName_cell hk hx hc hi fun h' hc' hs' => ⟨σ, ⟨h', s.toks, rfl⟩, ?_, S.off hs' (F.off _ Co).1, rfl, ?_, ?_, F.inj, ?_⟩
    · refine ⟨fun b o hb e nn => ?_, fun _ e => e, fun z => nomatch z⟩
      exact ⟨(hs'.2 b fun z => hb (z ▸ Co)).trans e, nn⟩
    · refine ⟨ml, N.sameBut hs' (Ne.symm (nc c u hi)), fun y hy => ?_⟩
      have : y ≠ x := fun z => by subst z; rw [hx] at hy; cases hy
      unfold Loc.upd
      rw [if_neg this]; exact r y hy
    · intro y hy
      obtain ⟨c', u', hc2, hi', q'⟩ := F.cel y hy
      by_cases h : y = x
      · subst h
        rw [hc] at hc2; cases hc2
        exact ⟨c, some v, hc, hc', by unfold Loc.upd; rw [if_pos rfl]; rfl⟩
      · refine ⟨c', u', hc2, hi'.sameBut hs' fun z => h (F.inj y x c' hc2 (z ▸ hc)), ?_⟩
        unfold Loc.upd
        rw [if_neg h]; exact q'
    · intro a ha
      obtain ⟨q, o, ho⟩ := F.off a ha
      refine ⟨q, ?_⟩
      by_cases h : a = c
      · subst h; obtain ⟨o', e, _⟩ := hc'; exact ⟨o', e⟩
      · exact ⟨o, (hs'.2 a h).trans ho⟩

/-- a name that may be stored -/
abbrev Named (sc : Scope) (x : Str) : Prop := sc.kind = .function ∧ (sc.names.lookup x = some .local ∨ sc.names.lookup x = some .cell)
theorem Named.store {x : Str} {v : Value} (hx : Named sc x) (he : EnvIs sc env) (S : St Γ σ s.heap) (F : Fm Γ env m σ s.heap) :
    Go Γ false A (own env) σ s (storeName env x v) (fun _ σ' s' => σ' = σ ∧ Fm Γ env (m.upd x (er v)) σ s'.heap) E :=
  store_go (by rw [he.scope]; exact hx.1) (by unfold Env.kindOf; rw [he.scope]; exact hx.2) S F

def swNo (value : Expr) : Bool := match value with
  | .ListComp .. | .SetComp .. | .DictComp .. => false
  | _ => true
theorem swapsWith_no {value : Expr} {t : Option Expr} {l : Nat} (h : swNo value = true) : swapsWith value t l env = pure false := by
  cases value <;> first | rfl | cases h

theorem TS_Assign_Name {x : Str} {pos' pos : Pos} {value : Expr} {Q : Flow → Loc → Store → Prop} (h : TE Γ false n sc value m σ fun v σ₁ => Q .next (m.upd x v) σ₁)
    (hx : Named sc x := by decide) (hs : swNo value = true := by rfl) : TS Γ n sc (.Assign [.Name x pos'] value pos) m σ Q :=
  fun A env s E hl he S F => wpAny_Assign_Name ((h A env s E hl he S F).then fun v s₁ σ₁ sm k S₁ q => (hx.store he S₁ (F.keep k)).then fun _ s₂ σ₂ sm₂ k₂ S₂ q₂ => by
    obtain ⟨rfl, F₂⟩ := q₂
    exact ⟨σ₂, sm.trans sm₂, k.nil.trans k₂, S₂, _, F₂, q⟩) (swapsWith_no hs)

theorem TS_Return {e : Expr} {pos : Pos} {Q : Flow → Loc → Store → Prop} (h : TE Γ false n sc e m σ fun v σ₁ => Q (.ret v) m σ₁) : TS Γ n sc (.Return (some e) pos) m σ Q :=
  fun A env s E hl he S F => wpAny_Return_some ((h A env s E hl he S F).then fun v s₁ σ₁ sm k S₁ q => ⟨σ₁, sm, k.nil, S₁, m, F.keep k, q⟩)
theorem TS_Return0 {pos : Pos} {Q : Flow → Loc → Store → Prop} (h : Q (.ret .none) m σ) : TS Γ n sc (.Return none pos) m σ Q :=
  fun A env s E hl he S F => Go.now S fun R q => wpAny_Return_none (q _ s.toks ⟨m, F, h⟩)
theorem TS_Break {pos : Pos} {Q : Flow → Loc → Store → Prop} (h : Q .brk m σ) : TS Γ n sc (.Break pos) m σ Q :=
  fun A env s E hl he S F => Go.now S fun R q => wpAny_Break (q _ s.toks ⟨m, F, h⟩)
theorem TSs_nil {Q : Flow → Loc → Store → Prop} (h : Q .next m σ) : TSs Γ n sc [] m σ Q :=
  fun A env s E hl he S F => Go.now S fun R q => wpAny_execs_nil (q _ s.toks ⟨m, F, h⟩)
theorem TSs_cons {t : Stmt} {ts : List Stmt} {Q : Flow → Loc → Store → Prop} (h : TS Γ n sc t m σ fun f m' σ' => match f with | .next => TSs Γ n sc ts m' σ' Q | f => Q f m' σ') : TSs Γ n sc (t :: ts) m σ Q :=
  fun A env s E hl he S F => wpAny_execs_cons ((h A env s E hl he S F).then fun f s₁ σ₁ sm k S₁ q => by
    obtain ⟨m₁, F₁, q⟩ := q
    cases f with
    | next => exact Go.back sm k (q A env s₁ E hl he S₁ F₁)
    | brk => exact ⟨σ₁, sm, k, S₁, m₁, F₁, q⟩
    | cont => exact ⟨σ₁, sm, k, S₁, m₁, F₁, q⟩
    | ret v => exact ⟨σ₁, sm, k, S₁, m₁, F₁, q⟩)
theorem TS_If {test : Expr} {b o : List Stmt} {pos : Pos} {Q : Flow → Loc → Store → Prop} (h : TB Γ false n sc test m σ fun v σ₁ => if v then TSs Γ n sc b m σ₁ Q else TSs Γ n sc o m σ₁ Q) : TS Γ n sc (.If test b o pos) m σ Q :=
  fun A env s E hl he S F => wpAny_If ((h A env s E hl he S F).then fun v s₁ σ₁ sm k S₁ h₁ => by
    cases v with
    | true => exact Go.back sm k.nil (h₁ A env s₁ E hl he S₁ (F.keep k))
    | false => exact Go.back sm k.nil (h₁ A env s₁ E hl he S₁ (F.keep k)))
/-- an expression statement whose value is None -/
theorem TS_Expr {e : Expr} {pos : Pos} {Q : Flow → Loc → Store → Prop} (h : TE Γ false n sc e m σ fun v σ₁ => v = .none ∧ Q .next m σ₁) (hs : swNo e = true := by rfl) (hk : sc.kind = .function := by rfl) : TS Γ n sc (.Expr e pos) m σ Q :=
  fun A env s E hl he S F => wpAny_Expr ((h A env s E hl he S F).then fun v s₁ σ₁ sm k S₁ q => by
    rw [er_none q.1]
    exact ⟨σ₁, sm, k.nil, S₁, m, F.keep k, q.2⟩) (by unfold interactive; rw [he.scope, hk]; rfl) (swapsWith_no hs)
theorem loadName_go {x : Str} {v : Value} {Q : Value → Store → Shared → Prop} (hv : m x = some v) (hx : Named sc x) (he : EnvIs sc env) (S : St Γ σ s.heap) (F : Fm Γ env m σ s.heap) (h : ∀ u, er u = v → Q u σ s) :
    Go Γ false A [] σ s (loadName env x) Q E := by
  have hke : env.scope.kind = .function := by rw [he.scope]; exact hx.1
  have hkx : env.kindOf x = sc.names.lookup x := by unfold Env.kindOf; rw [he.scope]
  rcases hx.2 with hx | hx
  · obtain ⟨ml, N, r⟩ := F.loc
    obtain ⟨u, hu, rfl⟩ := map_er_some ((r x (hkx.trans hx)).trans hv)
    exact wpAny_loadName_local hke (hkx.trans hx) N hu ⟨σ, Same.refl _, Keep.refl, S, h _ rfl⟩
  · obtain ⟨c, u, hc, hi, r⟩ := F.cel x (.inl (hkx.trans hx))
    obtain ⟨u, rfl, rfl⟩ := map_er_some (r.trans hv)
    exact wpAny_loadName_cell hke (hkx.trans hx) hc hi ⟨σ, Same.refl _, Keep.refl, S, h _ rfl⟩
theorem TS_AugAssign_Name {x : Str} {old : Value} {op : Operator} {pos' pos : Pos} {value : Expr} {Q : Flow → Loc → Store → Prop} (hv : m x = some old)
    (h : TE Γ false n sc value m σ fun v σ₁ => P2 Γ false n (inplaceOp op) old v σ₁ fun r σ₂ => Q .next (m.upd x r) σ₂) (hx : Named sc x := by decide) :
    TS Γ n sc (.AugAssign (.Name x pos') op value pos) m σ Q :=
  fun A env s E hl he S F => wpAny_AugAssign_Name ((loadName_go (s := s) (Q := fun u σ' s' => er u = old ∧ σ' = σ ∧ s' = s) hv hx he S F fun u e => ⟨e, rfl, rfl⟩).then fun u s₀ σ₀ _ _ _ q₀ => by
    obtain ⟨e, rfl, rfl⟩ := q₀
    exact (h A env _ E hl he S F).then fun v s₁ σ₁ sm k S₁ q => (q A s₁ E u v hl S₁ e rfl).then fun r s₂ σ₂ sm₂ k₂ S₂ q₂ =>
      (hx.store he S₂ (F.keep (k.trans k₂))).then fun _ s₃ σ₃ sm₃ k₃ S₃ q₃ => by
        obtain ⟨rfl, F₃⟩ := q₃
        exact ⟨σ₃, (sm.trans sm₂).trans sm₃, (k.trans k₂).nil.trans k₃, S₃, _, F₃, q₂⟩)

/-- storing by a place -/
def P3 (Γ : Gd) (n : Nat) (f : Value → Value → Value → Sem Unit) (a b c : Value) (σ : Store) (Q : Store → Prop) : Prop :=
  ∀ A s E va vb vc, Lv n A → St Γ σ s.heap → er va = a → er vb = b → er vc = c → Go Γ false A [] σ s (f va vb vc) (fun _ σ' _ => Q σ') E
theorem TS_Assign_Sub {o i value : Expr} {pos' pos : Pos} {Q : Flow → Loc → Store → Prop}
    (h : TE Γ false n sc value m σ fun v σ₁ => TE Γ false n sc o m σ₁ fun ov σ₂ => TE Γ false n sc i m σ₂ fun iv σ₃ => P3 Γ n setItem ov iv v σ₃ fun σ₄ => Q .next m σ₄) (hs : swNo value = true := by rfl) :
    TS Γ n sc (.Assign [.Subscript o i pos'] value pos) m σ Q :=
  fun A env s E hl he S F => wpAny_Assign_Subscript ((h A env s E hl he S F).then fun v s₁ σ₁ sm k S₁ h₁ => (h₁ A env s₁ E hl he S₁ (F.keep k)).then fun ov s₂ σ₂ sm₂ k₂ S₂ h₂ =>
    (h₂ A env s₂ E hl he S₂ (F.keep (k.trans k₂))).then fun iv s₃ σ₃ sm₃ k₃ S₃ h₃ => (h₃ A s₃ E ov iv v hl S₃ rfl rfl rfl).then fun _ s₄ σ₄ sm₄ k₄ S₄ q =>
      ⟨σ₄, ((sm.trans sm₂).trans sm₃).trans sm₄, (((k.trans k₂).trans k₃).trans k₄).nil, S₄, m, F.keep (((k.trans k₂).trans k₃).trans k₄), q⟩) (swapsWith_no hs)
def P2s (Γ : Gd) (n : Nat) (f : Value → Value → Sem Unit) (a b : Value) (σ : Store) (Q : Store → Prop) : Prop :=
  ∀ A s E va vb, Lv n A → St Γ σ s.heap → er va = a → er vb = b → Go Γ false A [] σ s (f va vb) (fun _ σ' _ => Q σ') E
theorem TS_Assign_Attr {o value : Expr} {attr : Str} {pos' pos : Pos} {Q : Flow → Loc → Store → Prop}
    (h : TE Γ false n sc value m σ fun v σ₁ => TE Γ false n sc o m σ₁ fun ov σ₂ => P2s Γ n (fun ov v => setAttr ov attr v) ov v σ₂ fun σ₃ => Q .next m σ₃) (hs : swNo value = true := by rfl) :
    TS Γ n sc (.Assign [.Attribute o attr pos'] value pos) m σ Q :=
  fun A env s E hl he S F => plainObj_wpAny_Assign_Attribute ((h A env s E hl he S F).then fun v s₁ σ₁ sm k S₁ h₁ => (h₁ A env s₁ E hl he S₁ (F.keep k)).then fun ov s₂ σ₂ sm₂ k₂ S₂ h₂ =>
    (h₂ A s₂ E ov v hl S₂ rfl rfl).then fun _ s₄ σ₄ sm₄ k₄ S₄ q => ⟨σ₄, (sm.trans sm₂).trans sm₄, ((k.trans k₂).trans k₄).nil, S₄, m, F.keep ((k.trans k₂).trans k₄), q⟩) (swapsWith_no hs)

/-! a tuple's items to names -/
noncomputable def setAll : List Str → List Value → Loc → Loc
  | x :: xs, v :: vs, m => setAll xs vs (m.upd x v)
  | _, _, m => m
theorem assignNames_go {ps : List (Str × Pos)} {vs : List Value} : ∀ {m : Loc} {s : Shared}, (∀ p ∈ ps, Named sc p.1) → ps.length = vs.length → EnvIs sc env → St Γ σ s.heap → Fm Γ env m σ s.heap →
    Go Γ false A (own env) σ s (assignInOrder (ps.map fun p => assign (.Name p.1 p.2) env) vs) (fun _ σ' s' => σ' = σ ∧ Fm Γ env (setAll (ps.map (·.1)) (vs.map er) m) σ s'.heap) E := by
  induction ps generalizing vs with
  | nil => intro m s _ _ he S F; exact Go.now S fun R q => wpAny_pure (q _ s.toks ⟨rfl, F⟩)
  | cons p ps ih =>
    intro m s hn hl he S F
    cases vs with
    | nil => cases hl
    | cons v vs =>
      refine wpAny_bind (m := holding vs (assign (.Name p.1 p.2) env v)) (wpAny_holding (wpAny_assign_Name (((hn p (List.mem_cons_self ..)).store he S F).then fun _ s₁ σ₁ sm k S₁ q => ?_)))
      obtain ⟨rfl, F₁⟩ := q
      exact Go.back sm k (ih (fun q hq => hn q (List.mem_cons_of_mem _ hq)) (Nat.succ.inj hl) he S₁ F₁)
def notTup : Expr → Bool
  | .Tuple .. => false
  | _ => true
theorem TS_Assign_Tuple {ps : List (Str × Pos)} {elts : List Expr} {value : Expr} {k : Nat} {tpos pos : Pos} {Q : Flow → Loc → Store → Prop}
    (h : TE Γ false n sc value m σ fun v σ₁ => ∃ a xs, v = .ref a ∧ σ₁ a = some (.tup xs) ∧ xs.length = ps.length ∧ Q .next (setAll (ps.map (·.1)) xs m) σ₁)
    (hx : (ps.all fun p => decide (Named sc p.1)) = true := by decide) (he : elts = ps.map (fun p => .Name p.1 p.2) := by rfl) (hw : notTup value = true := by rfl) (hs : swNo value = true := by rfl) :
    TS Γ n sc (.Assign [.Tuple elts k tpos] value pos) m σ Q := by
  intro A env s E hl hen S F
  subst he
  have sw : swappedStores [.Tuple (ps.map fun p => Expr.Name p.1 p.2) k tpos] value env = pure none := by cases value <;> first | rfl | cases hw
  refine Assign_Tuple ((h A env s E hl hen S F).then fun v s₁ σ₁ sm k S₁ q => ?_) (by unfold swapsWithSole; exact swapsWith_no hs) sw
  obtain ⟨a, xs, hv, ha, hlen, q⟩ := q
  rw [er_ref hv]
  obtain ⟨vs, t, ho, rfl⟩ := S₁.rep a _ ha
  have each : ∀ l : List (Str × Pos), assignEach (l.map fun p => Expr.Name p.1 p.2) env = l.map fun p => (false, assign (.Name p.1 p.2) env) := by
    intro l
    induction l with
    | nil => rfl
    | cons p l ih => show (false, assign (.Name p.1 p.2) env) :: assignEach (l.map fun p => Expr.Name p.1 p.2) env = _; rw [ih]; rfl
  have hl' : ps.length = vs.toList.length := by rw [← hlen, List.length_map]
  refine wpAny_assign_Tuple hl.hand ⟨_, ho, rfl, t, rfl⟩ (by rw [each, List.length_map, hl']; simp) (by rw [each]; simp [List.findIdx?_eq_none_iff]) fun h' hs' => ?_
  have S₂ : St Γ σ₁ h' := S₁.offE hs' S₁.newNone₀
  have k₂ : Keep false [] σ₁ s₁.heap σ₁ h' := ⟨fun b o _ e nn => ⟨hs' b o (Nat.ne_of_lt (Heap.lt_size e)) e, nn⟩, fun _ e => e, fun z => nomatch z⟩
  rw [each, List.map_map]
  refine (assignNames_go (s := { s₁ with heap := h' }) (ps := ps) (vs := vs.toList) (fun p hp => of_decide_eq_true (List.all_eq_true.mp hx p hp)) hl' hen S₂ (F.keep (k.trans k₂))).then fun _ s₃ σ₃ sm₃ k₃ S₃ q₃ => ?_
  obtain ⟨rfl, F₃⟩ := q₃
  exact ⟨σ₃, (sm.trans ⟨h', s₁.toks, rfl⟩).trans sm₃, (k.trans k₂).nil.trans k₃, S₃, _, F₃, q⟩

/-! loops -/
theorem TS_While {test : Expr} {body : List Stmt} {pos : Pos} {Q : Flow → Loc → Store → Prop} (I : Nat → Loc → Store → Prop) (k₀ : Nat) (h0 : I k₀ m σ)
    (turn : ∀ k m σ, I k m σ → TB Γ false n sc test m σ fun b σ₁ => if b then TSs Γ n sc body m σ₁ (fun f m₂ σ₂ => match f with | .next | .cont => ∃ k', k' < k ∧ I k' m₂ σ₂ | .brk => Q .next m₂ σ₂ | .ret v => Q (.ret v) m₂ σ₂) else Q .next m σ₁) :
    TS Γ n sc (.While test body [] pos) m σ Q := by
  intro A env s E hl he S F
  refine wpAny_While (codeAny_whileLoop (fun k s' => ∃ m' σ', Same s s' ∧ Keep false (own env) σ s.heap σ' s'.heap ∧ St Γ σ' s'.heap ∧ Fm Γ env m' σ' s'.heap ∧ I k m' σ') ?_ k₀ ⟨m, σ, Same.refl _, Keep.refl, S, F, h0⟩)
  rintro k s₁ ⟨m₁, σ₁, sm, kp, S₁, F₁, hI⟩
  refine (turn k m₁ σ₁ hI A env s₁ _ hl he S₁ F₁).then fun b s₂ σ₂ sm₂ k₂ S₂ q => ?_
  cases b with
  | false => exact wpAny_execs_nil ⟨σ₂, sm.trans sm₂, kp.trans k₂.nil, S₂, m₁, F₁.keep k₂, q⟩
  | true =>
    refine (q A env s₂ _ hl he S₂ (F₁.keep k₂)).then fun f s₃ σ₃ sm₃ k₃ S₃ q₃ => ?_
    obtain ⟨m₃, F₃, q₃⟩ := q₃
    cases f with
    | next => obtain ⟨k', lt, q⟩ := q₃; exact ⟨k', lt, m₃, σ₃, (sm.trans sm₂).trans sm₃, (kp.trans k₂.nil).trans k₃, S₃, F₃, q⟩
    | cont => obtain ⟨k', lt, q⟩ := q₃; exact ⟨k', lt, m₃, σ₃, (sm.trans sm₂).trans sm₃, (kp.trans k₂.nil).trans k₃, S₃, F₃, q⟩
    | brk => exact ⟨σ₃, (sm.trans sm₂).trans sm₃, (kp.trans k₂.nil).trans k₃, S₃, m₃, F₃, q₃⟩
    | ret v => exact ⟨σ₃, (sm.trans sm₂).trans sm₃, (kp.trans k₂.nil).trans k₃, S₃, m₃, F₃, q₃⟩

/-- for x in a list -/
theorem TS_For_list {x : Str} {xp pos : Pos} {iter : Expr} {body : List Stmt} {Q : Flow → Loc → Store → Prop} (I : Nat → Addr → List Value → Loc → Store → Prop)
    (h : TE Γ false n sc iter m σ fun v σ₁ => ∃ a xs, v = .ref a ∧ σ₁ a = some (.list xs) ∧ I 0 a xs m σ₁)
    (turn : ∀ i a xs m₁ σ₁ v, σ₁ a = some (.list xs) → I i a xs m₁ σ₁ → xs[i]? = some v →
      TSs Γ n sc body (m₁.upd x v) σ₁ fun f m₂ σ₂ => match f with | .next | .cont => σ₂ a = some (.list xs) ∧ I (i + 1) a xs m₂ σ₂ | .brk => Q .next m₂ σ₂ | .ret v => Q (.ret v) m₂ σ₂)
    (fin : ∀ a xs m₁ σ₁, σ₁ a = some (.list xs) → I xs.length a xs m₁ σ₁ → Q .next m₁ σ₁) (hx : Named sc x := by decide) (hs : ∀ env x, foldedSetIterable iter env x = pure x := by intros; rfl) :
    TS Γ n sc (.For (.Name x xp) iter body [] pos) m σ Q := by
  intro A env s E hl he S F
  refine wpAny_For ((h A env s E hl he S F).then fun v s₁ σ₁ sm k S₁ q => ?_) (hs env)
  obtain ⟨a, xs, hv, ha, h0⟩ := q
  rw [er_ref hv]
  obtain ⟨vs, t, ho, rfl⟩ := S₁.rep a _ ha
  have F₁ := F.keep k
  refine wpAny_pyIter_list ⟨_, ho, rfl, t, rfl⟩ ?_
  generalize hit : s₁.heap.objs.size = it
  have ltI : ∀ b o, s₁.heap.get? b = some o → b ≠ it := fun b o e => hit ▸ Nat.ne_of_lt (Heap.lt_size e)
  have itI : it ∉ own env := fun z => by obtain ⟨_, o, e⟩ := F₁.off it z; exact ltI it o e rfl
  have nI := S₁.newNone₀
  rw [hit] at nI
  refine codeAny_forLoop (fun kk s' => ∃ i m' σ', kk + i = vs.size + 1 ∧ i ≤ vs.size ∧ Same s s' ∧ Keep false (own env) σ s.heap σ' s'.heap ∧ St Γ σ' s'.heap ∧ Fm Γ env m' σ' s'.heap ∧ s'.heap.IsListIter it a i ∧ σ' it = none ∧
    σ' a = some (.list (vs.toList.map er)) ∧ s.heap.get? it = none ∧ I i a (vs.toList.map er) m' σ') ?_ (vs.size + 1)
    ⟨0, m, σ₁, rfl, Nat.zero_le _, sm.trans ⟨_, s₁.toks, rfl⟩, k.nil.trans Keep.pushG, S₁.pushG, F₁.keep (ql := false) Keep.pushG, ?_, nI.1, ha, ?_, h0⟩
  · rintro kk s₂ ⟨i, m₂, σ₂, hk, hi, sm₂, k₂, S₂, F₂, it₂, nit, ha₂, hnew, hI⟩
    obtain ⟨vs₂, t₂, ho₂, hvs⟩ := S₂.rep a _ ha₂
    have hsz : vs₂.size = vs.size := by simpa using congrArg List.length hvs
    have hl₂ : s₂.heap.IsList a vs₂ := ⟨_, ho₂, rfl, t₂, rfl⟩
    rcases Nat.lt_or_ge i vs₂.size with hlt | hge
    · refine wpAny_pyNext_list_item it₂ hl₂ (x := vs₂[i]) (by simp [hlt]) fun h' hit' hs' => ?_
      have S₃ : St Γ σ₂ h' := S₂.off hs' ⟨nit, nI.2⟩
      have F₃ : Fm Γ env m₂ σ₂ h' := F₂.at fun b hb o e => ⟨(hs'.2 b fun z => itI (z ▸ hb)).trans e, (F₂.off b hb).1.1⟩
      have k₃ : Keep false (own env) σ s.heap σ₂ h' := ⟨fun b o hb e nn => by
        obtain ⟨e', nn'⟩ := k₂.k b o hb e nn
        exact ⟨(hs'.2 b fun z => by rw [z, hnew] at e; cases e).trans e', nn'⟩, k₂.up, fun z => nomatch z⟩
      have hv : (vs.toList.map er)[i]? = some (er vs₂[i]) := by rw [← hvs]; simp [hlt]
      refine wpAny_assign_Name ((hx.store (s := { s₂ with heap := h' }) he S₃ F₃).then fun _ s₄ σ₄ sm₄ k₄ S₄ q => ?_)
      obtain ⟨rfl, F₄⟩ := q
      have it₄ : s₄.heap.IsListIter it a (i + 1) := by
        obtain ⟨o, ho', r⟩ := hit'
        exact ⟨o, (k₄.k it o itI ho' nit).1, r⟩
      refine (turn i a _ m₂ σ₄ _ ha₂ hI hv A env s₄ _ hl he S₄ F₄).then fun f s₅ σ₅ sm₅ k₅ S₅ q => ?_
      obtain ⟨m₅, F₅, q⟩ := q
      have smA : Same s s₅ := (sm₂.trans (Same.trans ⟨h', s₂.toks, rfl⟩ sm₄)).trans sm₅
      have kA : Keep false (own env) σ s.heap σ₅ s₅.heap := (k₃.trans k₄).trans k₅
      have it₅ : s₅.heap.IsListIter it a (i + 1) ∧ σ₅ it = none := by
        obtain ⟨o, ho', r⟩ := it₄
        have z := k₅.k it o itI ho' nit
        exact ⟨⟨o, z.1, r⟩, z.2⟩
      cases f with
      | next => exact ⟨vs.size - i, by omega, i + 1, m₅, σ₅, by omega, by omega, smA, kA, S₅, F₅, it₅.1, it₅.2, q.1, hnew, q.2⟩
      | cont => exact ⟨vs.size - i, by omega, i + 1, m₅, σ₅, by omega, by omega, smA, kA, S₅, F₅, it₅.1, it₅.2, q.1, hnew, q.2⟩
      | brk => exact ⟨σ₅, smA, kA, S₅, m₅, F₅, q⟩
      | ret v => exact ⟨σ₅, smA, kA, S₅, m₅, F₅, q⟩
    · have hi' : i = (vs.toList.map er).length := by simp; omega
      refine wpAny_pyNext_list_end hl.hand it₂ hl₂ (by simp; omega) fun h' hs' => ?_
      have S₃ : St Γ σ₂ h' := S₂.offE hs' ⟨nit, nI.2⟩
      have F₃ : Fm Γ env m₂ σ₂ h' := F₂.at fun b hb o e => ⟨hs' b o (fun z => itI (z ▸ hb)) e, (F₂.off b hb).1.1⟩
      have k₃ : Keep false (own env) σ s.heap σ₂ h' := ⟨fun b o hb e nn => by
        obtain ⟨e', nn'⟩ := k₂.k b o hb e nn
        exact ⟨hs' b o (fun z => by rw [z, hnew] at e; cases e) e', nn'⟩, k₂.up, fun z => nomatch z⟩
      refine wpAny_execs_nil ⟨σ₂, sm₂.trans ⟨h', s₂.toks, rfl⟩, k₃, S₃, m₂, F₃, fin a _ m₂ σ₂ ha₂ (hi' ▸ hI)⟩
  · exact ⟨_, hit ▸ Heap.get?_push_size _ rfl, rfl, rfl⟩
  · cases q : s.heap.get? it with
    | none => rfl
    | some o =>
      exfalso
      by_cases z : σ it = none
      · exact ltI it o (k.k it o (fun q => nomatch q) q z).1 rfl
      · exact k.up it z nI.1

/-- for x in range(k) -/
theorem TS_For_range {x : Str} {xp pos : Pos} {iter : Expr} {body : List Stmt} {Q : Flow → Loc → Store → Prop} (I : Nat → Int → Loc → Store → Prop)
    (h : TE Γ false n sc iter m σ fun v σ₁ => ∃ a k, v = .ref a ∧ σ₁ a = some (.range k) ∧ 0 ≤ k ∧ k < 2 ^ 62 ∧ I 0 k m σ₁)
    (turn : ∀ (i : Nat) k m₁ σ₁, (i : Int) < k → I i k m₁ σ₁ →
      TSs Γ n sc body (m₁.upd x (.int i 0)) σ₁ fun f m₂ σ₂ => match f with | .next | .cont => I (i + 1) k m₂ σ₂ | .brk => Q .next m₂ σ₂ | .ret v => Q (.ret v) m₂ σ₂)
    (fin : ∀ (k : Int) m₁ σ₁, I k.toNat k m₁ σ₁ → Q .next m₁ σ₁) (hx : Named sc x := by decide) (hs : ∀ env x, foldedSetIterable iter env x = pure x := by intros; rfl) :
    TS Γ n sc (.For (.Name x xp) iter body [] pos) m σ Q := by
  intro A env s E hl he S F
  refine wpAny_For ((h A env s E hl he S F).then fun v s₁ σ₁ sm k S₁ q => ?_) (hs env)
  obtain ⟨a, N, hv, ha, hN0, hN1, h0⟩ := q
  rw [er_ref hv]
  obtain ⟨t, u, tv, ho⟩ := S₁.rep a _ ha
  have F₁ := F.keep k
  have hrs : Builtin.Range.rangeSize 0 N 1 = N := by rw [rangeSize_one]; split <;> omega
  refine wpAny_pyIter_range ho (small_one (by omega) (by omega) (by omega) hN1) ?_
  generalize hit : s₁.heap.objs.size = it
  have ltI : ∀ b o, s₁.heap.get? b = some o → b ≠ it := fun b o e => hit ▸ Nat.ne_of_lt (Heap.lt_size e)
  have itI : it ∉ own env := fun z => by obtain ⟨_, o, e⟩ := F₁.off it z; exact ltI it o e rfl
  have nI := S₁.newNone₀
  rw [hit] at nI
  refine codeAny_forLoop (fun kk s' => ∃ (i : Nat) (m' : Loc) (σ' : Store), kk + i = N.toNat + 1 ∧ i ≤ N.toNat ∧ Same s s' ∧ Keep false (own env) σ s.heap σ' s'.heap ∧ St Γ σ' s'.heap ∧ Fm Γ env m' σ' s'.heap ∧ IsRangeIter s'.heap it i (N - i) 1 ∧ σ' it = none ∧
    s.heap.get? it = none ∧ I i N m' σ') ?_ (N.toNat + 1)
    ⟨0, m, σ₁, rfl, Nat.zero_le _, sm.trans ⟨_, s₁.toks, rfl⟩, k.nil.trans Keep.pushG, S₁.pushG, F₁.keep (ql := false) Keep.pushG, ?_, nI.1, ?_, h0⟩
  · rintro kk s₂ ⟨i, m₂, σ₂, hk, hi, sm₂, k₂, S₂, F₂, it₂, nit, hnew, hI⟩
    rcases Nat.lt_or_ge i N.toNat with hlt | hge
    · refine wpAny_pyNext_range_item it₂ (by omega) fun h' hit' hs' => ?_
      have S₃ : St Γ σ₂ h' := S₂.off hs' ⟨nit, nI.2⟩
      have F₃ : Fm Γ env m₂ σ₂ h' := F₂.at fun b hb o e => ⟨(hs'.2 b fun z => itI (z ▸ hb)).trans e, (F₂.off b hb).1.1⟩
      have k₃ : Keep false (own env) σ s.heap σ₂ h' := ⟨fun b o hb e nn => by
        obtain ⟨e', nn'⟩ := k₂.k b o hb e nn
        exact ⟨(hs'.2 b fun z => by rw [z, hnew] at e; cases e).trans e', nn'⟩, k₂.up, fun z => nomatch z⟩
      refine wpAny_assign_Name ((hx.store (s := { s₂ with heap := h', toks := s₂.toks + 1 }) he S₃ F₃).then fun _ s₄ σ₄ sm₄ k₄ S₄ q => ?_)
      obtain ⟨rfl, F₄⟩ := q
      have it₄ : IsRangeIter s₄.heap it ((i + 1 : Nat) : Int) (N - (i + 1 : Nat)) 1 := by
        have z := (k₄.k it _ itI hit' nit).1
        have e1 : ((i + 1 : Nat) : Int) = (i : Int) + 1 := by omega
        have e2 : N - ((i + 1 : Nat) : Int) = N - i - 1 := by omega
        rw [e1, show N - ((i : Int) + 1) = N - i - 1 by omega]
        exact z
      refine (turn i N m₂ σ₄ (by omega) hI A env s₄ _ hl he S₄ F₄).then fun f s₅ σ₅ sm₅ k₅ S₅ q => ?_
      obtain ⟨m₅, F₅, q⟩ := q
      have smA : Same s s₅ := (sm₂.trans (Same.trans ⟨h', _, rfl⟩ sm₄)).trans sm₅
      have kA : Keep false (own env) σ s.heap σ₅ s₅.heap := (k₃.trans k₄).trans k₅
      have it₅ := k₅.k it _ itI it₄ (by exact nit)
      cases f with
      | next => exact ⟨N.toNat - i, by omega, i + 1, m₅, σ₅, by omega, by omega, smA, kA, S₅, F₅, it₅.1, it₅.2, hnew, q⟩
      | cont => exact ⟨N.toNat - i, by omega, i + 1, m₅, σ₅, by omega, by omega, smA, kA, S₅, F₅, it₅.1, it₅.2, hnew, q⟩
      | brk => exact ⟨σ₅, smA, kA, S₅, m₅, F₅, q⟩
      | ret v => exact ⟨σ₅, smA, kA, S₅, m₅, F₅, q⟩
    · have hi' : i = N.toNat := by omega
      refine wpAny_pyNext_range_end hl.hand it₂ (by omega) fun h' hs' => ?_
      have S₃ : St Γ σ₂ h' := S₂.offE hs' ⟨nit, nI.2⟩
      have F₃ : Fm Γ env m₂ σ₂ h' := F₂.at fun b hb o e => ⟨hs' b o (fun z => itI (z ▸ hb)) e, (F₂.off b hb).1.1⟩
      have k₃ : Keep false (own env) σ s.heap σ₂ h' := ⟨fun b o hb e nn => by
        obtain ⟨e', nn'⟩ := k₂.k b o hb e nn
        exact ⟨hs' b o (fun z => by rw [z, hnew] at e; cases e) e', nn'⟩, k₂.up, fun z => nomatch z⟩
      refine wpAny_execs_nil ⟨σ₂, sm₂.trans ⟨h', s₂.toks, rfl⟩, k₃, S₃, m₂, F₃, fin N m₂ σ₂ (hi' ▸ hI)⟩
  · rw [hrs]
    have : IsRangeIter (s₁.heap.push { cls := .type "range_iterator", data := .fields #[rawInt 0, rawInt N, rawInt 1] }) it 0 N 1 := hit ▸ Heap.get?_push_size _ rfl
    simpa using this
  · cases q : s.heap.get? it with
    | none => rfl
    | some o =>
      exfalso
      by_cases z : σ it = none
      · exact ltI it o (k.k it o (fun q => nomatch q) q z).1 rfl
      · exact k.up it z nI.1
end
end

noncomputable section
variable {Γ : Gd}

/-! comprehensions -/
def cscope (sc scope : Scope) : Scope :=
  { scope with names := scope.names.map fun (n, k) => if (k == .free && sc.kind == .function && sc.names.lookup n == some .cell) then (n, .cell) else (n, k) }
theorem relabel_is (scope : Scope) (env : Env) : relabel scope env = cscope env.scope scope := rfl

noncomputable def clo (cells : List (Str × Addr)) : List (Str × NameKind) → List (Str × Addr) → List (Str × Addr)
  | [], acc => acc
  | (x, k) :: r, acc => if k == .free then clo cells r ((x, (cells.lookup x).getD 0) :: acc) else clo cells r acc

theorem clo_for (env : Env) : ∀ (names : List (Str × NameKind)) (acc : List (Str × Addr)), (∀ p ∈ names, p.2 = .free → ∃ c, env.cells.lookup p.1 = some c) →
    (forIn names acc (fun (p : Str × NameKind) (cs : List (Str × Addr)) => (if (p.2 == .free) = true then (do let a ← cellOf env p.1; pure (ForInStep.yield ((p.1, a) :: cs))) else pure (ForInStep.yield cs) : Sem (ForInStep (List (Str × Addr)))))) = pure (clo env.cells names acc)
  | [], acc, _ => by rw [List.forIn_nil]; rfl
  | (x, k) :: r, acc, h => by
    rw [List.forIn_cons]
    unfold clo
    by_cases hk : (k == .free) = true
    · obtain ⟨c, hc⟩ := h (x, k) (List.mem_cons_self ..) (eq_of_beq hk)
      have hco : cellOf env x = pure c := by unfold cellOf; rw [hc]
      simp only [hk, if_true, hco, pure_bind, hc, Option.getD_some]
      exact clo_for env r _ fun p hp => h p (List.mem_cons_of_mem _ hp)
    · simp only [hk, if_false, pure_bind]
      exact clo_for env r _ fun p hp => h p (List.mem_cons_of_mem _ hp)
theorem closureFor_clo {scope : Scope} {env : Env} (h : ∀ p ∈ scope.names, p.2 = .free → ∃ c, env.cells.lookup p.1 = some c) : closureFor scope env = pure (clo env.cells scope.names []) := by
  have := clo_for env scope.names [] h
  simp only [closureFor]
  first | exact this | (simpa using this) | (rw [← this]; rfl)
theorem clo_mem {cells : List (Str × Addr)} : ∀ {names : List (Str × NameKind)} {acc : List (Str × Addr)}, (∀ p ∈ names, p.2 = .free → ∃ c, cells.lookup p.1 = some c) → (∀ p ∈ acc, cells.lookup p.1 = some p.2) →
    ∀ p ∈ clo cells names acc, cells.lookup p.1 = some p.2
  | [], acc, _, ha => ha
  | (x, k) :: r, acc, h, ha => by
    unfold clo
    have hr : ∀ p ∈ r, p.2 = .free → ∃ c, cells.lookup p.1 = some c := fun p hp => h p (List.mem_cons_of_mem _ hp)
    split
    · rename_i hk
      obtain ⟨c, hc⟩ := h (x, k) (List.mem_cons_self ..) (eq_of_beq hk)
      refine clo_mem hr fun p hp => ?_
      rcases List.mem_cons.mp hp with rfl | hp
      · show cells.lookup x = some ((cells.lookup x).getD 0)
        have hc : cells.lookup x = some c := hc
        rw [hc]; rfl
      · exact ha p hp
    · exact clo_mem hr ha
theorem clo_has {cells : List (Str × Addr)} {x : Str} : ∀ {names : List (Str × NameKind)} {acc : List (Str × Addr)}, ((x, .free) ∈ names ∨ ∃ c, (x, c) ∈ acc) → ∃ c, (x, c) ∈ clo cells names acc
  | [], acc, h => h.elim (fun q => nomatch q) id
  | (y, k) :: r, acc, h => by
    unfold clo
    split
    · rename_i hk
      refine clo_has ?_
      rcases h with h | ⟨c, h⟩
      · rcases List.mem_cons.mp h with h | h
        · cases h; exact .inr ⟨_, List.mem_cons_self ..⟩
        · exact .inl h
      · exact .inr ⟨c, List.mem_cons_of_mem _ h⟩
    · rename_i hk
      refine clo_has ?_
      rcases h with h | h
      · rcases List.mem_cons.mp h with h | h
        · cases h; exact absurd rfl hk
        · exact .inl h
      · exact .inr h
theorem lookup_isSome_of_mem {α : Type} : ∀ {l : List (Str × α)} {x : Str} {c : α}, (x, c) ∈ l → ∃ d, l.lookup x = some d
  | (y, v) :: r, x, c, h => by
    rw [List.lookup_cons]
    by_cases e : (x == y) = true
    · exact ⟨v, by rw [e]⟩
    · rcases List.mem_cons.mp h with h | h
      · cases h; simp at e
      · obtain ⟨d, hd⟩ := lookup_isSome_of_mem h
        exact ⟨d, by simp only [Bool.not_eq_true] at e; rw [e]; exact hd⟩
theorem clo_lookup {cells : List (Str × Addr)} {names : List (Str × NameKind)} (h : ∀ p ∈ names, p.2 = .free → ∃ c, cells.lookup p.1 = some c) {x : Str} (hx : (x, .free) ∈ names) :
    (clo cells names []).lookup x = cells.lookup x := by
  obtain ⟨c, hc⟩ := clo_has (cells := cells) (acc := []) (.inl hx)
  obtain ⟨d, hd⟩ := lookup_isSome_of_mem hc
  have := clo_mem h (List.forall_mem_nil _) _ (mem_of_lookup hd)
  rw [hd]; exact this.symm
theorem lookup_map_kind {g : Str → NameKind → NameKind} {x : Str} : ∀ {l : List (Str × NameKind)}, (l.map fun p => (p.1, g p.1 p.2)).lookup x = (l.lookup x).map (g x)
  | [] => rfl
  | (y, k) :: r => by
    simp only [List.map_cons, List.lookup_cons]
    by_cases e : (x == y) = true
    · rw [e]; rw [beq_iff_eq.mp e]; rfl
    · simp only [Bool.not_eq_true] at e; rw [e]; exact lookup_map_kind
theorem cscope_lookup {sc scope : Scope} {x : Str} : (cscope sc scope).names.lookup x = (scope.names.lookup x).map fun k => if (k == .free && sc.kind == .function && sc.names.lookup x == some .cell) then .cell else k := by
  unfold cscope
  rw [← lookup_map_kind (g := fun n k => if (k == .free && sc.kind == .function && sc.names.lookup n == some .cell) then .cell else k)]
  congr 1
  refine List.map_congr_left fun p _ => ?_
  obtain ⟨n, k⟩ := p
  dsimp only
  split <;> rfl

/-- what a comprehension's scope must be -/
structure CompOk (sc scope : Scope) (x : Str) : Prop where
  kind : scope.kind = .function
  okind : sc.kind = .function
  nocell : ∀ y ∈ scope.names, y.2 ≠ .cell
  frees : ∀ y ∈ scope.names, y.2 = .free → sc.names.lookup y.1 = some .cell ∨ sc.names.lookup y.1 = some .free
  nodup : ∀ y ∈ scope.names, y.2 = .local → scope.names.lookup y.1 = some .local
  targ : scope.names.lookup x = some .local
def compOk (sc scope : Scope) (x : Str) : Bool :=
  scope.kind == .function && sc.kind == .function && scope.names.all (fun y => y.2 != .cell) && scope.names.all (fun y => y.2 != .free || sc.names.lookup y.1 == some .cell || sc.names.lookup y.1 == some .free) &&
    scope.names.all (fun y => y.2 != .local || scope.names.lookup y.1 == some .local) && scope.names.lookup x == some .local
theorem CompOk.of {sc scope : Scope} {x : Str} (h : compOk sc scope x = true) : CompOk sc scope x := by
  unfold compOk at h
  simp only [Bool.and_eq_true, List.all_eq_true, Bool.or_eq_true, bne_iff_ne, beq_iff_eq, ne_eq] at h
  obtain ⟨⟨⟨⟨⟨a, b⟩, c⟩, d⟩, e⟩, f⟩ := h
  refine ⟨a, b, c, fun y hy q => ?_, fun y hy q => ?_, f⟩
  · rcases d y hy with (h | h) | h
    · exact absurd q h
    · exact .inl h
    · exact .inr h
  · rcases e y hy with h | h
    · exact absurd q h
    · exact h

/-- the names within: the target's value, the rest as without -/
structure Inner (sc scope : Scope) (x : Str) (v : Value) (m m' : Loc) : Prop where
  targ : m' x = some v
  rest : ∀ y, (cscope sc scope).names.lookup y = some .cell ∨ (cscope sc scope).names.lookup y = some .free → m' y = m y

noncomputable section
variable {ql : Bool} {n : Nat} {sc : Scope} {m : Loc} {σ : Store} {A : Around} {env : Env}

theorem cscope_free {scope : Scope} {x y : Str} (C : CompOk sc scope x) (h : (cscope sc scope).names.lookup y = some .cell ∨ (cscope sc scope).names.lookup y = some .free) : (y, .free) ∈ scope.names := by
  rw [cscope_lookup] at h
  cases q : scope.names.lookup y with
  | none => rw [q] at h; rcases h with h | h <;> cases h
  | some k =>
    have hm := mem_of_lookup q
    rw [q] at h
    simp only [Option.map_some, Option.some.injEq] at h
    have : k = .free := by
      by_cases z : k = .free
      · exact z
      · have zb : (k == .free) = false := by simpa using z
        simp only [zb, Bool.false_and, Bool.false_eq_true, if_false] at h
        rcases h with h | h
        · exact absurd h (C.nocell _ hm)
        · exact absurd h z
    subst this; exact hm

theorem comp_cells {scope : Scope} {x : Str} (C : CompOk sc scope x) {h : Heap} (he : EnvIs sc env) (F : Fm Γ env m σ h) : ∀ p ∈ scope.names, p.2 = .free → ∃ c, env.cells.lookup p.1 = some c := fun p hp hf => by
  have : env.kindOf p.1 = some .cell ∨ env.kindOf p.1 = some .free := by unfold Env.kindOf; rw [he.scope]; exact C.frees p hp hf
  obtain ⟨c, _, hc, _⟩ := F.cel _ this
  exact ⟨c, hc⟩

/-- the comprehension's frame -/
theorem comp_frame {scope : Scope} {x : Str} {v : Value} {C : Addr} {h₁ h₃ : Heap} {m₃ : Str → Option Value} {I : Addr} (O : CompOk sc scope x) (he : EnvIs sc env) (S₁ : St Γ σ h₁) (F₁ : Fm Γ env m σ h₁)
    (hC : h₁.get? C = none) (N : h₃.Ns C m₃) (hv : m₃ x = some v) (nI : h₁.get? I = none) (k : ∀ b o, b ≠ I → h₁.get? b = some o → h₃.get? b = some o) :
    EnvIs (cscope sc scope) (compEnvC scope (clo env.cells scope.names []) C env) ∧ St Γ σ h₃ ∧ ∃ m', Inner sc scope x (er v) m m' ∧ Fm Γ (compEnvC scope (clo env.cells scope.names []) C env) m' σ h₃ := by
  have hes : env.scope = sc := he.scope
  have sub : ∀ b o, h₁.get? b = some o → h₃.get? b = some o := fun b o e => k b o (fun z => by rw [z, nI] at e; cases e) e
  have S₃ : St Γ σ h₃ := ⟨fun b o e => ⟨sub b o (S₁.old b o e).1, (S₁.old b o e).2⟩, fun a o e => (S₁.rep a o e).at fun q hq => sub a q hq⟩
  have cs := comp_cells O he F₁
  have kd : ∀ y, (compEnvC scope (clo env.cells scope.names []) C env).kindOf y = (cscope sc scope).names.lookup y := fun y => by
    show (relabel scope env).names.lookup y = _
    rw [relabel_is, hes]
  have hown : ∀ a ∈ own (compEnvC scope (clo env.cells scope.names []) C env), a = C ∨ a ∈ own env := fun a ha => by
    rcases List.mem_cons.mp ha with rfl | ha
    · exact .inl rfl
    · obtain ⟨p, hp, rfl⟩ := List.mem_map.mp ha
      have := clo_mem cs (List.forall_mem_nil _) p hp
      exact .inr (lookup_own this)
  have nC : σ C = none ∧ Γ.h₀.get? C = none := ⟨S₁.free hC, by
    cases q : Γ.h₀.get? C with
    | none => rfl
    | some o => rw [(S₁.old C o q).1] at hC; cases hC⟩
  refine ⟨⟨by show relabel scope env = _; rw [relabel_is, hes], he.globals, he.builtins⟩, S₃, fun y => if (cscope sc scope).names.lookup y = some .local then (m₃ y).map er else m y, ⟨?_, ?_⟩, ⟨m₃, N, fun y hy => ?_⟩, fun y hy => ?_, fun y z c h1 h2 => ?_, fun a ha => ?_⟩
  · have : (cscope sc scope).names.lookup x = some .local := by rw [cscope_lookup, O.targ]; rfl
    simp only [this, if_true, hv, Option.map_some]
  · intro y hy
    have : ¬ (cscope sc scope).names.lookup y = some .local := fun q => by rw [q] at hy; rcases hy with h | h <;> cases h
    simp only [this, if_false]
  · rw [kd] at hy
    simp only [hy, if_true]
  · rw [kd] at hy
    have hm := cscope_free O hy
    have hk : env.kindOf y = some .cell ∨ env.kindOf y = some .free := by unfold Env.kindOf; rw [hes]; exact O.frees _ hm rfl
    obtain ⟨c, u, hc, ⟨o, ho, hd⟩, r⟩ := F₁.cel y hk
    refine ⟨c, u, (clo_lookup cs hm).trans hc, ⟨o, sub c o ho, hd⟩, ?_⟩
    have : ¬ (cscope sc scope).names.lookup y = some .local := fun q => by rw [q] at hy; rcases hy with h | h <;> cases h
    simp only [this, if_false]; exact r
  · have e1 := clo_mem cs (List.forall_mem_nil _) _ (mem_of_lookup h1)
    have e2 := clo_mem cs (List.forall_mem_nil _) _ (mem_of_lookup h2)
    exact F₁.inj y z c e1 e2
  · rcases hown a ha with rfl | h
    · obtain ⟨o, _, _, ho, _⟩ := N
      exact ⟨nC, o, ho⟩
    · obtain ⟨q, o, ho⟩ := F₁.off a h
      exact ⟨q, o, sub a o ho⟩

/-- the tests and the element of a comprehension, quietly -/
structure CompDo (Γ : Gd) (n : Nat) (sc scope : Scope) (x : Str) (ifs : List Expr) (elt : Expr) (m : Loc) (σ : Store) (p : Value → Bool) (f : Value → Value) (xs : List Value) : Prop where
  test : ∀ v ∈ xs, ∀ m', Inner sc scope x v m m' → match ifs with
    | [] => p v = true
    | [t] => TB Γ true n (cscope sc scope) t m' σ fun b _ => b = p v
    | _ => False
  elt : ∀ v ∈ xs, p v = true → ∀ m', Inner sc scope x v m m' → TE Γ true n (cscope sc scope) elt m' σ fun r _ => r = f v

theorem Go.quiet {α : Type} {A : Around} {X : List Addr} {σ : Store} {s : Shared} {t : Sem α} {E : Value → Shared → Prop} {Q : α → Store → Shared → Prop} {P : α → Prop} (h : Go Γ true A X σ s t Q E) (hq : ∀ v σ' s', Q v σ' s' → P v) :
    wpAny Γ.M A t (fun v s' => P v ∧ Keeps s s') E s := h.then fun v s' σ' sm k S q => by
  obtain ⟨h', tk, rfl⟩ := sm
  exact ⟨hq _ _ _ q, h', tk, rfl, fun b o e => (k.qt rfl b o e).1⟩

theorem Paired.map_er {F : Value → Value → Prop} {f : Value → Value} (hF : ∀ v y, F v y → er y = f (er v)) : ∀ {l l' : List Value}, Paired F l l' → l'.map er = (l.map er).map f
  | _, _, .nil => rfl
  | _, _, .cons h t => by simp only [List.map_cons]; rw [hF _ _ h, Paired.map_er hF t]
theorem filter_er {p : Value → Bool} : ∀ l : List Value, (l.filter fun v => p (er v)).map er = (l.map er).filter p
  | [] => rfl
  | v :: l => by
    simp only [List.map_cons, List.filter_cons]
    cases p (er v) <;> simp [filter_er l]

theorem comp_quiet {scope : Scope} {x : Str} {ifs : List Expr} {elt : Expr} {p : Value → Bool} {f : Value → Value} {vs : Array Value} {s₁ s₂ : Shared} {I : Addr} (O : CompOk sc scope x) (hl : Lv n A) (he : EnvIs sc env)
    (S₁ : St Γ σ s₁.heap) (F₁ : Fm Γ env m σ s₁.heap) (D : CompDo Γ n sc scope x ifs elt m σ p f (vs.toList.map er)) (h12 : ∀ b o, s₁.heap.get? b = some o → s₂.heap.get? b = some o) (hsz : s₁.heap.objs.size ≤ s₂.heap.objs.size) (nI : s₁.heap.get? I = none) :
    QuietOnC Γ.prog Γ.w A env scope (clo env.cells scope.names []) x ifs elt [I] (fun i v => vs[i]? = some v) (fun v => p (er v)) (fun v y => er y = f (er v)) s₂ := by
  have mem : ∀ (i : Nat) v, vs[i]? = some v → er v ∈ vs.toList.map er := fun i v h => List.mem_map.mpr ⟨v, by rw [← Array.getElem?_toList] at h; exact List.mem_of_getElem? h, rfl⟩
  have none_ge : ∀ C, s₂.heap.objs.size ≤ C → s₁.heap.get? C = none := fun C h => by
    cases q : s₁.heap.get? C with
    | none => rfl
    | some o => exact absurd (Heap.lt_size q) (Nat.not_lt.mpr (Nat.le_trans hsz h))
  refine ⟨fun C i v s₃ m₃ E' hC hv N hx k _ => ?_, fun C i v s₃ m₃ E' hC hv hp N hx k _ => ?_⟩
  · obtain ⟨he', S₃, m', In, F₃⟩ := comp_frame O he S₁ F₁ (none_ge C hC) N hx nI (fun b o hb e => k b o (by simpa using hb) (h12 b o e))
    have T := D.test (er v) (mem i v hv) m' In
    match ifs, T with
    | [], T =>
      rw [List.forIn_nil]
      exact wpAny_pure ⟨T.symm, s₃.heap, s₃.toks, rfl, fun _ _ e => e⟩
    | [t], T =>
      rw [List.forIn_cons]
      refine wpAny_bind ?_
      show wpAny _ _ (isTrue t _ _ >>= fun ok => pure (ForInStep.yield ok)) _ _ _
      refine wpAny_bind (wpAny_mono ((T A _ s₃ E' hl he' S₃ F₃).quiet (P := fun b => b = p (er v)) fun _ _ _ q => q) (fun b s₄ q => wpAny_pure ?_) fun _ _ e => e)
      show wpAny _ _ (forIn ([] : List Expr) b _) _ _ _
      rw [List.forIn_nil]
      exact wpAny_pure q
    | _ :: _ :: _, T => exact T.elim
  · obtain ⟨he', S₃, m', In, F₃⟩ := comp_frame O he S₁ F₁ (none_ge C hC) N hx nI (fun b o hb e => k b o (by simpa using hb) (h12 b o e))
    exact (D.elt (er v) (mem i v hv) hp m' In A _ s₃ E' hl he' S₃ F₃).quiet fun _ _ _ q => q

theorem TE_ListComp {elt iter : Expr} {x : Str} {px : Pos} {ifs : List Expr} {scope : Scope} {pos : Pos} {Q : Value → Store → Prop} (p : Value → Bool) (f : Value → Value)
    (h : TE Γ ql n sc iter m σ fun v σ₁ => ∃ a xs, v = .ref a ∧ σ₁ a = some (.list xs) ∧ xs.length ≤ sizeLine ∧ CompDo Γ n sc scope x ifs elt m σ₁ p f xs ∧ ∀ D, σ₁ D = none → Q (.ref D) (σ₁.upd D (.list ((xs.filter p).map f))))
    (hO : compOk sc scope x = true := by decide) (hs : ∀ env x, foldedSetIterable iter env x = pure x := by intros; rfl) :
    TE Γ ql n sc (.ListComp elt [⟨.Name x px, iter, ifs, 0⟩] scope pos) m σ Q := by
  have O := CompOk.of hO
  intro A env s E hl he S F
  refine wpAny_ListComp_free (fun v => p (er v)) (fun v y => er y = f (er v)) (closureFor_clo (comp_cells O he F)) O.nocell O.kind O.nodup O.targ ((h A env s E hl he S F).then fun v s₁ σ₁ sm k S₁ q => ?_) (hs env)
  obtain ⟨a, xs, hv, ha, hlen, D, hQ⟩ := q
  rw [er_ref hv]
  obtain ⟨vs, t, ho, rfl⟩ := S₁.rep a _ ha
  have F₁ := F.keep k
  refine wpAny_pyIter_list ⟨_, ho, rfl, t, rfl⟩ ?_
  have ltA : a ≠ s₁.heap.objs.size := Nat.ne_of_lt (Heap.lt_size ho)
  have nI := S₁.newNone₀
  have nI' : s₁.heap.get? s₁.heap.objs.size = none := by
    cases q : s₁.heap.get? s₁.heap.objs.size with
    | none => rfl
    | some o => exact absurd (Heap.lt_size q) (Nat.lt_irrefl _)
  refine ⟨s₁.heap.objs.size, _, _, vs.size, _, _, rfl, Walks.list hl.hand s₁.heap.objs.size a ltA vs, by simpa using hlen, ⟨⟨_, Heap.get?_push_size _ rfl, rfl, rfl⟩, ⟨_, Heap.get?_push_of_some _ ho, rfl, t, rfl⟩⟩, ?_,
    comp_quiet O hl he S₁ F₁ D (fun b o e => Heap.get?_push_of_some _ e) (by show _ ≤ (Heap.push _ _).objs.size; rw [Heap.size_push]; exact Nat.le_succ _) nI', ?_⟩
  · intro b hb
    show b < (Heap.push _ _).objs.size
    rw [Heap.size_push]
    simp only [List.mem_cons, List.not_mem_nil, or_false] at hb
    rcases hb with rfl | rfl
    · exact Nat.lt_succ_self _
    · exact Nat.lt_succ_of_lt (Heap.lt_size ho)
  · intro D' h' tk ys vs' hD hL hP hlen' hPv hPa hk
    have hk' : ∀ b o, s₁.heap.get? b = some o → h'.get? b = some o := fun b o e => hk b o (by simpa using Nat.ne_of_lt (Heap.lt_size e)) (Heap.get?_push_of_some _ e)
    have hD' : s₁.heap.get? D' = none := by
      cases q : s₁.heap.get? D' with
      | none => rfl
      | some o => have := Heap.get?_push_of_some (h := s₁.heap) { cls := .type "list_iterator", data := .fields #[.ref a, .int 0 0] } q; rw [show ((s₁.heap.push { cls := .type "list_iterator", data := .fields #[.ref a, .int 0 0] }).get? D' = none) from hD] at this; cases this
    have nD : σ₁ D' = none := S₁.free hD'
    have hvs : vs' = vs.toList := by
      refine List.ext_getElem? fun j => ?_
      by_cases hj : j < vs'.length
      · obtain ⟨v, hv⟩ : ∃ v, vs'[j]? = some v := ⟨vs'[j], by simp [hj]⟩
        rw [hv, Array.getElem?_toList, hPv j v hv]
      · rw [List.getElem?_eq_none (by omega), List.getElem?_eq_none (by simp; omega)]
    subst hvs
    have hys : ys.toList.map er = ((vs.toList.map er).filter p).map f := by
      rw [Paired.map_er (f := f) (fun v y e => e) hPa, filter_er]
    refine ⟨σ₁.upd D' (.list (((vs.toList.map er).filter p).map f)), sm.trans ⟨h', tk, rfl⟩, k.trans ⟨fun b o _ e nn => ⟨hk' b o e, ?_⟩, Store.up_upd, fun _ b o e => ⟨hk' b o e, ?_⟩⟩, ⟨fun b o e => ⟨hk' b o (S₁.old b o e).1, ?_⟩, fun b o e => ?_⟩, hQ D' nD⟩
    · rw [Store.upd_ne _ _ (fun z => by rw [z, hD'] at e; cases e)]; exact nn
    · exact Store.upd_ne _ _ (fun z => by rw [z, hD'] at e; cases e)
    · rw [Store.upd_ne _ _ (fun z => by rw [z] at e; rw [(S₁.old D' o e).1] at hD'; cases hD')]; exact (S₁.old b o e).2
    · by_cases z : b = D'
      · subst z
        rw [Store.upd_self] at e; cases e
        obtain ⟨n', e⟩ := hP
        exact ⟨ys, n', e, hys⟩
      · rw [Store.upd_ne _ _ z] at e; exact (S₁.rep b o e).at fun q hq => hk' b q hq

def swYes (sc scope : Scope) (y : Str) (py pos : Pos) : Bool :=
  (if sc.kind.isAnnotationScope then ScopeKind.function else sc.kind) == .function && sc.names.lookup y == some .local && py.line == pos.line && !(scope.names.any fun (n, k) => n == y && (k == .local || k == .cell))
theorem swapsWith_is {elt : Expr} {gens : List Comprehension} {scope : Scope} {pos py : Pos} {y : Str} {l : Nat} (he : EnvIs sc env) :
    swapsWith (.ListComp elt gens scope pos) (some (.Name y py)) l env = pure (swYes sc scope y py pos) := by
  rw [← he.scope]; rfl

/-- x = [..], x a local: the names go first, then the store -/
theorem TS_Assign_ListComp {elt iter : Expr} {x y : Str} {px py : Pos} {ifs : List Expr} {scope : Scope} {pos spos : Pos} {Q : Flow → Loc → Store → Prop} (p : Value → Bool) (f : Value → Value)
    (h : TE Γ false n sc iter m σ fun v σ₁ => ∃ a xs, v = .ref a ∧ σ₁ a = some (.list xs) ∧ xs.length ≤ sizeLine ∧ CompDo Γ n sc scope x ifs elt m σ₁ p f xs ∧
      ∀ D, σ₁ D = none → Q .next (m.upd y (.ref D)) (σ₁.upd D (.list ((xs.filter p).map f))))
    (hO : compOk sc scope x = true := by decide) (hsw : swYes sc scope y py pos = true := by decide) (hy : sc.names.lookup y = some .local := by decide) (hs : ∀ env x, foldedSetIterable iter env x = pure x := by intros; rfl) :
    TS Γ n sc (.Assign [.Name y py] (.ListComp elt [⟨.Name x px, iter, ifs, 0⟩] scope pos) spos) m σ Q := by
  have O := CompOk.of hO
  intro A env s E hl he S F
  have hy' : env.kindOf y = some .local := by unfold Env.kindOf; rw [he.scope]; exact hy
  refine wpAny_Assign_ListComp_free (fun v => p (er v)) (fun v y => er y = f (er v)) (by rw [swapsWith_is he, hsw]) (closureFor_clo (comp_cells O he F)) O.nocell O.kind O.nodup O.targ hy'
    (by rw [he.scope, O.okind]; rfl) ((h A env s E hl he S F).then fun v s₁ σ₁ sm k S₁ q => ?_) (hs env)
  obtain ⟨a, xs, hv, ha, hlen, D, hQ⟩ := q
  rw [er_ref hv]
  obtain ⟨vs, t, ho, rfl⟩ := S₁.rep a _ ha
  have F₁ := F.keep k
  refine wpAny_pyIter_list ⟨_, ho, rfl, t, rfl⟩ ?_
  have ltA : a ≠ s₁.heap.objs.size := Nat.ne_of_lt (Heap.lt_size ho)
  have nI := S₁.newNone₀
  have nI' : s₁.heap.get? s₁.heap.objs.size = none := by
    cases q : s₁.heap.get? s₁.heap.objs.size with
    | none => rfl
    | some o => exact absurd (Heap.lt_size q) (Nat.lt_irrefl _)
  obtain ⟨ml, N, r⟩ := F₁.loc
  have ltL : env.locals ≠ s₁.heap.objs.size := Nat.ne_of_lt N.lt
  have Lo : env.locals ∈ own env := List.mem_cons_self ..
  refine ⟨s₁.heap.objs.size, _, _, vs.size, _, _, ml, rfl, Walks.list hl.hand s₁.heap.objs.size a ltA vs, by simpa using hlen, ⟨⟨_, Heap.get?_push_size _ rfl, rfl, rfl⟩, ⟨_, Heap.get?_push_of_some _ ho, rfl, t, rfl⟩⟩, ?_,
    by simpa using ltL, N.push _, comp_quiet O hl he S₁ F₁ D (fun b o e => Heap.get?_push_of_some _ e) (by show _ ≤ (Heap.push _ _).objs.size; rw [Heap.size_push]; exact Nat.le_succ _) nI', ?_⟩
  · intro b hb
    show b < (Heap.push _ _).objs.size
    rw [Heap.size_push]
    simp only [List.mem_cons, List.not_mem_nil, or_false] at hb
    rcases hb with rfl | rfl
    · exact Nat.lt_succ_self _
    · exact Nat.lt_succ_of_lt (Heap.lt_size ho)
  · intro D' h' tk ys vs' hD hL hP hlen' hPv hPa hN hk
    have hk' : ∀ b o, b ≠ env.locals → s₁.heap.get? b = some o → h'.get? b = some o := fun b o hb e => hk b o hb (by simpa using Nat.ne_of_lt (Heap.lt_size e)) (Heap.get?_push_of_some _ e)
    have hD' : s₁.heap.get? D' = none := by
      cases q : s₁.heap.get? D' with
      | none => rfl
      | some o => have := Heap.get?_push_of_some (h := s₁.heap) { cls := .type "list_iterator", data := .fields #[.ref a, .int 0 0] } q; rw [show ((s₁.heap.push { cls := .type "list_iterator", data := .fields #[.ref a, .int 0 0] }).get? D' = none) from hD] at this; cases this
    have nD : σ₁ D' = none := S₁.free hD'
    have hvs : vs' = vs.toList := by
      refine List.ext_getElem? fun j => ?_
      by_cases hj : j < vs'.length
      · obtain ⟨v, hv⟩ : ∃ v, vs'[j]? = some v := ⟨vs'[j], by simp [hj]⟩
        rw [hv, Array.getElem?_toList, hPv j v hv]
      · rw [List.getElem?_eq_none (by omega), List.getElem?_eq_none (by simp; omega)]
    subst hvs
    have hys : ys.toList.map er = ((vs.toList.map er).filter p).map f := by
      rw [Paired.map_er (f := f) (fun v y e => e) hPa, filter_er]
    have nL := (F₁.off _ Lo).1
    have live : ∀ b o, s₁.heap.get? b = some o → b ≠ D' := fun b o e z => by rw [z, hD'] at e; cases e
    refine ⟨σ₁.upd D' (.list (((vs.toList.map er).filter p).map f)), sm.trans ⟨h', tk, rfl⟩, k.nil.trans ⟨fun b o hb e nn => ⟨hk' b o (fun z => hb (z ▸ Lo)) e, ?_⟩, Store.up_upd, fun z => nomatch z⟩, ⟨fun b o e => ⟨hk' b o ?_ (S₁.old b o e).1, ?_⟩, fun b o e => ?_⟩,
      m.upd y (.ref D'), ⟨⟨_, hN, fun z hz => ?_⟩, fun z hz => ?_, F₁.inj, fun b hb => ?_⟩, hQ D' nD⟩
    · rw [Store.upd_ne _ _ (live b o e)]; exact nn
    · rintro rfl; rw [nL.2] at e; cases e
    · rw [Store.upd_ne _ _ (live b o (S₁.old b o e).1)]; exact (S₁.old b o e).2
    · by_cases z : b = D'
      · subst z
        rw [Store.upd_self] at e; cases e
        obtain ⟨n', e⟩ := hP
        exact ⟨ys, n', e, hys⟩
      · rw [Store.upd_ne _ _ z] at e; exact (S₁.rep b o e).at fun q hq => hk' b q (fun z => by rw [z, nL.1] at e; cases e) hq
    · unfold Loc.upd
      by_cases h : z = y
      · rw [if_pos h, if_pos h]; rfl
      · rw [if_neg h, if_neg h]; exact r z hz
    · obtain ⟨c, u, hc, ⟨o, ho', hd⟩, q⟩ := F₁.cel z hz
      have cne : c ≠ env.locals := by
        rintro rfl
        obtain ⟨o', es, ep, ho2, hd2, _⟩ := N
        rw [ho'] at ho2; cases ho2
        rw [hd] at hd2; cases hd2
      refine ⟨c, u, hc, ⟨o, hk' c o cne ho', hd⟩, ?_⟩
      have : z ≠ y := fun w => by subst w; rw [hy'] at hz; rcases hz with hz | hz <;> cases hz
      unfold Loc.upd
      rw [if_neg this]; exact q
    · obtain ⟨q, o, ho'⟩ := F₁.off b hb
      refine ⟨⟨by rw [Store.upd_ne _ _ (live b o ho')]; exact q.1, q.2⟩, ?_⟩
      by_cases z : b = env.locals
      · subst z; obtain ⟨o', _, _, e, _⟩ := hN; exact ⟨o', e⟩
      · exact ⟨o, hk' b o z ho'⟩
/-- x = e, x a cell: no exchange -/
theorem TS_Assign_Cell {y : Str} {py pos : Pos} {elt : Expr} {gens : List Comprehension} {scope : Scope} {cpos : Pos} {Q : Flow → Loc → Store → Prop}
    (h : TE Γ false n sc (.ListComp elt gens scope cpos) m σ fun v σ₁ => Q .next (m.upd y v) σ₁) (hsw : swYes sc scope y py cpos = false := by decide) (hx : Named sc y := by decide) :
    TS Γ n sc (.Assign [.Name y py] (.ListComp elt gens scope cpos) pos) m σ Q :=
  fun A env s E hl he S F => wpAny_Assign_Name ((h A env s E hl he S F).then fun v s₁ σ₁ sm k S₁ q => (hx.store he S₁ (F.keep k)).then fun _ s₂ σ₂ sm₂ k₂ S₂ q₂ => by
    obtain ⟨rfl, F₂⟩ := q₂
    exact ⟨σ₂, sm.trans sm₂, k.nil.trans k₂, S₂, _, F₂, q⟩) (by rw [swapsWith_is he, hsw])
end
end

noncomputable section
variable {Γ : Gd}

noncomputable section
variable {α β : Type} {M : Model} {A : Around} {E : Value → Shared → Prop} {s : Shared}

theorem evalArgs_go {f : Value} {l : List (Bool × Sem Value)} {Q : Args → Shared → Prop} (hl : l.all (fun x => !x.1) = true) (h : wpAny M A (spliced l) (fun vs s' => Q ⟨vs, []⟩ s') E s) :
    wpAny M A (evalArgs f true l []) Q E s := by
  match l, hl with
  | [], _ =>
    unfold evalArgs
    refine wpAny_bind ?_
    refine wpAny_bind (wpAny_mono h (fun vs s' h' => ?_) fun _ _ e => e)
    refine wpAny_pure (wpAny_holding ?_)
    exact wpAny_bind (wpAny_pure (wpAny_bind (wpAny_pure (wpAny_pure h'))))
  | (b, x) :: r, hl =>
    have : b = false := by simpa using (List.all_eq_true.mp hl (b, x) (List.mem_cons_self ..))
    subst this
    exact evalArgs_plain h

theorem callWith_go {pos : Pos} {f : Value} {first : List Value} {l : List (Bool × Sem Value)} {kp : Keeper} {h : Heap} {Q : Value → Shared → Prop} (hl : l.all (fun x => !x.1) = true) (hK : Looks M h (keeperOf f) kp)
    (hc : wpAny M A (spliced l) (fun vs s₁ => (∀ b o, h.get? b = some o → s₁.heap.get? b = some o) ∧ wpAny M A (call f (first ++ vs) []) Q E s₁) E s) :
    wpAny M A (callWith pos f first l []) Q E s := by
  unfold callWith
  have hs : l.any (·.1) = false := by
    rw [List.any_eq_false]
    intro x hx
    have := List.all_eq_true.mp hl x hx
    simpa using this
  refine wpAny_bind (wpAny_holding (evalArgs_go hl (wpAny_mono hc (fun vs s₁ h₁ => wpAny_bind (wpAny_standAt ?_)) fun _ _ e => e)))
  have tail : ∀ {t : Sem Value}, wpAny M A t Q E s₁ → wpAny M A (t >>= fun r => holding [r] point >>= fun _ => pure r) Q E s₁ :=
    fun ht => wpAny_bind (wpAny_mono ht (fun r s₂ hr => wpAny_bind (wpAny_holding (wpAny_point (wpAny_pure hr)))) fun _ _ x => x)
  simp only [hs, List.any_nil, Bool.or_false]
  refine wpAny_bind (m := keeperOf f) (hK A _ E s₁ h₁.1 ?_)
  cases kp <;> dsimp only
  · split <;> exact tail (by first | exact h₁.2 | exact wpAny_keep h₁.2)
  · split <;> exact tail (by first | exact h₁.2 | exact wpAny_keep h₁.2)
  · exact tail h₁.2
  · exact tail (wpAny_operating h₁.2)
end

def noStar (es : List Expr) : Bool := es.all fun | .Starred .. => false | _ => true
theorem starEach_plain {env : Env} : ∀ {es : List Expr}, noStar es = true → (starEach es env).all (fun x => !x.1) = true
  | [], _ => rfl
  | e :: r, h => by
    unfold noStar at h
    rw [List.all_cons] at h
    obtain ⟨a, b⟩ := Bool.and_eq_true_iff.mp h
    have ih := starEach_plain (env := env) (es := r) b
    cases e <;> first | (cases a; done) | (unfold starEach; rw [List.all_cons, ih]; rfl)
theorem backTo_plain {env : Env} {pos : Pos} {es : List Expr} (h : noStar es = true) : (backTo pos (starEach es env)).all (fun x => !x.1) = true := by
  have := starEach_plain (env := env) h
  unfold backTo
  rw [List.all_map]
  exact this

noncomputable section
variable {ql : Bool} {n : Nat} {sc : Scope} {m : Loc} {σ : Store}

/-- that a callee is handed its arguments plainly -/
def Kept (Γ : Gd) (f : Value) : Prop := ∃ kp, Looks Γ.M Γ.h₀ (keeperOf f) kp
theorem Kept.builtin {id : String} : Kept Γ (.builtin id) := ⟨.machine, .now⟩
theorem Kept.type {id : String} : Kept Γ (.type id) := ⟨.machine, .now⟩
theorem Kept.fn {f : Addr} {oc : Value} {od : Option Addr} {fd : FuncData} {osl : Array (Option Value)} (ho : Γ.K.lookup f = some ⟨oc, od, .func fd, osl⟩) : Kept Γ (.ref f) :=
  ⟨.frame, by unfold keeperOf; exact (Looks.ld (part := none) (Γ.X _ _ ho)).andThen .now⟩
theorem Kept.cls {C : Addr} (hm : makesIn Γ.K C = true) : Kept Γ (.ref C) := by
  have Y := makes_of (M := Γ.M) Γ.X hm
  obtain ⟨oc, od, cd, sl, hC, _⟩ := Y.obj
  refine ⟨.machine, ?_⟩
  unfold keeperOf
  refine (Looks.ld (part := none) hC).andThen ?_
  exact Y.call.andThen .now

def isCal : Value → Bool
  | .ref _ => true
  | .builtin _ => true
  | .type _ => true
  | _ => false
theorem er_cal {v f : Value} (h : er v = f) (c : isCal f = true) : v = f := by
  cases f <;> first | exact er_ref h | exact er_builtin h | exact er_type h | cases c

/-- f(..) by a name -/
theorem TE_Call {id : Str} {p pos : Pos} {args : List Expr} {Q : Value → Store → Prop}
    (h : TE Γ ql n sc (.Name id p) m σ fun f σ₁ => isCal f = true ∧ Kept Γ f ∧ TL Γ ql n sc args m σ₁ fun vs σ₂ => TC Γ ql n f vs σ₂ Q) (hs : noStar args = true := by rfl) :
    TE Γ ql n sc (.Call (.Name id p) args [] pos) m σ Q := by
  intro A env s E hl he S F
  refine wpAny_Call_NameR ((h A env s E hl he S F).then fun f s₁ σ₁ sm k S₁ q => ?_)
  obtain ⟨hc, ⟨kp, hK⟩, q⟩ := q
  have e := er_cal rfl hc
  rw [← e] at hK q
  refine callWith_go (backTo_plain hs) hK ((q A env pos s₁ E hl he S₁ (F.keep k)).then fun vs s₂ σ₂ sm₂ k₂ S₂ q₂ => ⟨S₂.keep, ?_⟩)
  exact Go.back (sm.trans sm₂) (k.trans k₂) (q₂ A s₂ E vs hl S₂ rfl)

/-- what a method's name gives -/
def Meth (Γ : Gd) (ov : Value) (name : Str) (σ : Store) (f : Value) (first : List Value) : Prop :=
  ∀ A s E v pl (Q : Value × List Value → Shared → Prop), St Γ σ s.heap → er v = ov → (∀ fst, fst.map er = first → Q (f, fst) s) → wpAny Γ.M A (getMethod v name pl) Q E s

def plainBase (o : Expr) : Bool := match o with
  | .Call (.Name id _) [] [] _ => id != ("super" : Str)
  | _ => true
theorem attributeBase_plain {o : Expr} {attr : Str} {env : Env} {t : Sem Value} (h : plainBase o = true) : attributeBase o attr env t = t := by
  unfold attributeBase
  split
  · rename_i id p pos
    have : (id != ("super" : Str)) = true := h
    simp [this]
  · rfl
theorem methodForm {args : List Expr} {env : Env} {pos : Pos} (hs : noStar args = true) (hlen : args.length < 20) :
    methodCallForm (args.length + ([] : List Keyword).length) (backTo pos (starEach args env)) (backToKw pos (keywordEach [] env)) = true := by
  have := backTo_plain (env := env) (pos := pos) hs
  unfold methodCallForm
  simp only [Bool.and_eq_true, decide_eq_true_eq]
  refine ⟨⟨?_, rfl⟩, ?_⟩
  · exact this
  · show args.length + 0 + 0 < 30
    omega
/-- o.name(..) -/
theorem TE_CallM {o : Expr} {name : Str} {apos pos : Pos} {args : List Expr} {Q : Value → Store → Prop}
    (h : TE Γ ql n sc o m σ fun ov σ₁ => ∃ f first, isCal f = true ∧ Kept Γ f ∧ Meth Γ ov name σ₁ f first ∧ TL Γ ql n sc args m σ₁ fun vs σ₂ => TC Γ ql n f (first ++ vs) σ₂ Q)
    (hb : plainBase o = true := by rfl) (hs : noStar args = true := by rfl) (hlen : args.length < 20 := by decide) (hline : (apos.endLine == pos.line) = true := by rfl) :
    TE Γ ql n sc (.Call (.Attribute o name apos) args [] pos) m σ Q := by
  intro A env s E hl he S F
  show wpAny _ _ (do
    let ov ← attributeBase o name env (eval o env)
    standAt apos.atName
    methodCall o name apos pos env ov (args.length + ([] : List Keyword).length) (backTo pos (starEach args env)) (backToKw pos (keywordEach [] env))) _ _ _
  rw [attributeBase_plain hb]
  refine wpAny_bind ((h A env s E hl he S F).then fun ov s₁ σ₁ sm k S₁ q => wpAny_bind (wpAny_standAt ?_))
  obtain ⟨f, first, hc, ⟨kp, hK⟩, hM, q⟩ := q
  unfold methodCall
  rw [methodForm hs hlen]
  refine wpAny_bind (wpAny_holding ?_)
  show wpAny _ _ (getMethod ov name _) _ _ _
  refine hM A s₁ E ov _ _ S₁ rfl fun fst hfst => ?_
  have hpos : methodCallPos true o env apos pos = pure pos := by unfold methodCallPos; simp [hline]
  refine wpAny_bind (wpAny_of_eq hpos ?_)
  refine callWith_go (backTo_plain hs) hK ((q A env pos s₁ E hl he S₁ (F.keep k)).then fun vs s₂ σ₂ sm₂ k₂ S₂ q₂ => ⟨S₂.keep, ?_⟩)
  exact Go.back (sm.trans sm₂) (k.trans k₂) (q₂ A s₂ E (fst ++ vs) hl S₂ (by rw [List.map_append, hfst]))

/-! objects -/
theorem ns_look {h : Heap} {a : Addr} {mm : Str → Option Value} (N : h.Ns a mm) : ∃ o, h.get? a = some o ∧ ∀ name, lookIn name o = some (mm name) := by
  obtain ⟨o, es, ep, ho, hd, hk, hf⟩ := N
  refine ⟨o, ho, fun name => ?_⟩
  unfold lookIn
  rw [hd]
  have hfn := hf name
  unfold nsFind findBy at hfn
  rw [← Array.find?_toList] at hfn
  dsimp only
  cases q : es.toList.find? (fun e => e.key.isStr name) with
  | some e => rw [q] at hfn; rw [← hfn]; rfl
  | none =>
    rw [q] at hfn
    have hr : es.toList.any (·.refKey) = false := by
      rw [List.any_eq_false]
      intro e he
      obtain ⟨n, t, hn⟩ := hk e (Array.mem_def.mpr he)
      simp [DictEntry.refKey, hn]
    rw [hr, ← hfn]; rfl
theorem inst_at {s : Shared} {x C d : Addr} {g : List (Str × Value)} (S : St Γ σ s.heap) (hx : σ x = some (.inst C d)) (hd : σ d = some (.attrs g)) :
    ∃ od mm, InstAt s.heap x (instObj C d) C (some od) ∧ s.heap.Ns1 d mm ∧ (∀ y, (mm y).map er = g.lookup y) ∧ ∀ name, lookIn name od = some (mm name) := by
  have h1 : s.heap.get? x = some (instObj C d) := S.rep x _ hx
  obtain ⟨mm, N, r⟩ := S.rep d _ hd
  obtain ⟨od, ho, hl⟩ := ns_look N.ns
  exact ⟨od, mm, ⟨h1, rfl, rfl, ho⟩, N, r, hl⟩

theorem Meth.inst {x C d f : Addr} {name : Str} {g : List (Str × Value)} (hx : σ x = some (.inst C d)) (hd : σ d = some (.attrs g)) (hn : g.lookup name = none) (hg : plainGet Γ.K C name = true)
    (hf : findIn Γ.K (.ref C) name = some (some (.ref f))) (ht : isFn Γ.K (.ref f) = true) : Meth Γ (.ref x) name σ (.ref f) [.ref x] := by
  intro A s E v pl Q S hv q
  rw [er_ref hv]
  obtain ⟨od, mm, I, N, r, hl⟩ := inst_at S hx hd
  have hm : mm name = none := by have := r name; rw [hn] at this; cases z : mm name with | none => rfl | some u => rw [z] at this; cases this
  exact method_fn S.K I (plainGet_of hg).1 (plainGet_of hg).2 hf (beq_iff_eq.mp ht) (by show Option.map (fun x => x.isSome) (lookIn name od) = some false; rw [hl name, hm]; rfl) (q _ rfl)

theorem handed_er {v : Value} (h : handedIn (er v) = true) : handedIn v = true := by cases v <;> exact h
/-- o.attr, an object's own -/
theorem TE_Attr {o : Expr} {attr : Str} {pos : Pos} {Q : Value → Store → Prop}
    (h : TE Γ ql n sc o m σ fun ov σ₁ => ∃ x C d g v cls, ov = .ref x ∧ σ₁ x = some (.inst C d) ∧ σ₁ d = some (.attrs g) ∧ g.lookup attr = some v ∧ handedIn v = true ∧ plainGet Γ.K C attr = true ∧ hasDictIn Γ.K C = true ∧
      findIn Γ.K (.ref C) attr = some cls ∧ noGet Γ.K cls = true ∧ Q v σ₁) (hb : plainBase o = true := by rfl) : TE Γ ql n sc (.Attribute o attr pos) m σ Q := by
  intro A env s E hl he S F
  refine Attribute_any_ ((h A env s E hl he S F).then fun ov s₁ σ₁ sm k S₁ q => ?_) (by
    show (do
      let ov ← attributeBase o attr env (eval o env)
      standAt pos.atName
      let r ← holding [ov] (getAttr ov attr true)
      letTemporaryGo o ov r
      pure r) = _
    rw [attributeBase_plain hb])
  obtain ⟨x, C, d, g, v, cls, hov, hx, hd, hgv, hh, hg, hD, hcl, hno, q⟩ := q
  rw [er_ref hov]
  obtain ⟨od, mm, I, N, r, hlk⟩ := inst_at S₁ hx hd
  obtain ⟨u, hu, rfl⟩ := map_er_some ((r attr).trans hgv)
  exact get_value S₁.K I (plainGet_of hg).1 (findObj_own hD hcl hno (by rw [hlk, hu])) (handed_er hh) ⟨σ₁, sm.trans ⟨_, _, rfl⟩, k, S₁, q⟩

/-- one more pair, or its value anew -/
noncomputable def put {V : Type} : List (Str × V) → Str → V → List (Str × V)
  | [], x, v => [(x, v)]
  | (y, u) :: r, x, v => if x = y then (y, v) :: r else (y, u) :: put r x v
theorem put_lookup {V : Type} {x y : Str} {v : V} : ∀ {l : List (Str × V)}, (put l x v).lookup y = if y = x then some v else l.lookup y
  | [] => by
    unfold put
    by_cases h : y = x
    · subst h; simp
    · simp [h, List.lookup_cons, beq_eq_false_iff_ne.mpr h]
  | (z, u) :: r => by
    unfold put
    by_cases h : x = z
    · subst h
      by_cases e : y = x
      · subst e; simp
      · simp [e, List.lookup_cons, beq_eq_false_iff_ne.mpr e]
    · rw [if_neg h, List.lookup_cons, List.lookup_cons]
      by_cases e : y = z
      · subst e
        have : y ≠ x := fun q => h q.symm
        simp [this]
      · simp [beq_eq_false_iff_ne.mpr e, put_lookup]
theorem put_names {V : Type} {x y : Str} {v : V} {l : List (Str × V)} (h : (put l x v).lookup y ≠ none) : y ∈ x :: l.map (·.1) := by
  rw [put_lookup] at h
  by_cases e : y = x
  · exact e ▸ List.mem_cons_self ..
  · rw [if_neg e] at h
    cases q : l.lookup y with
    | none => exact absurd q h
    | some u => exact List.mem_cons_of_mem _ (List.mem_map.mpr ⟨(y, u), mem_of_lookup q, rfl⟩)

/-- o.attr = v -/
theorem P2s_setAttr {x C d : Addr} {g : List (Str × Value)} {attr : Str} {v : Value} {Q : Store → Prop} (hx : σ x = some (.inst C d)) (hd : σ d = some (.attrs g)) (hlen : g.length ≤ 1000)
    (hs : findIn Γ.K (.ref C) "__setattr__" = some (some (.builtin "object.__setattr__"))) (hp : plainOver Γ.K C = true) (ht : takerIn Γ.K C attr = some none) (hh : hasDictIn Γ.K C = true)
    (h : Q (σ.upd d (.attrs (put g attr v)))) : P2s Γ n (fun ov v => setAttr ov attr v) (.ref x) v σ Q := by
  intro A s E va vb hl S ha hb
  subst hb
  rw [er_ref ha]
  obtain ⟨od, mm, I, N, r, hlk⟩ := inst_at S hx hd
  refine set_plain S.K I hs (osa_open (s := { s with toks := s.toks + 1 }) S.K I hp ht fun b => ?_)
  obtain ⟨cd, hc, hd'⟩ := any_some hh
  have hxo := I.at_
  refine wpAny_bind (wpAny_pure (wpAny_bind (wpAny_bind (wpAny_loadPart hxo (wpAny_bind (looks_clsIn (M := Γ.M) S.K hc _ _ _ _ (fun _ _ e => e) ?_))))))
  rw [hd']
  refine wpAny_pure (a := some d) (wpAny_bind (wpAny_pure (wpAny_bind ?_)))
  refine wpAny_nsSet1 N fun h' hn' hs' => ?_
  have hre : ∀ y, ((fun y => if y = attr then some vb else mm y) y).map er = (put g attr (er vb)).lookup y := fun y => by
    rw [put_lookup]
    dsimp only
    by_cases z : y = attr
    · rw [if_pos z, if_pos z]; rfl
    · rw [if_neg z, if_neg z]; exact r y
  obtain ⟨oo, es, ep, ho, hdd, hsz⟩ := hn'.count (ns := attr :: g.map (·.1)) fun y hy => put_names (l := g) (v := er vb) (by
    rw [← hre]
    cases q : (fun y => if y = attr then some vb else mm y) y with
    | none => exact absurd q hy
    | some u => exact fun z => nomatch z)
  refine wpAny_bind (wpAny_lookBehind ho (by rw [hdd]; exact pastItsLine_dict (by rw [List.length_cons, List.length_map] at hsz; rw [sizeLine_eq]; omega)) ?_)
  refine wpAny_pure ?_
  have nd : Γ.h₀.get? d = none := S.isNew hd
  have keep : ∀ b o, b ≠ d → s.heap.get? b = some o → h'.get? b = some o := fun b o hb e => (hs'.2 b hb).trans e
  refine ⟨σ.upd d (.attrs (put g attr (er vb))), ⟨h', _, rfl⟩, ⟨fun b o _ e nn => ?_, Store.up_upd, fun z => nomatch z⟩, ⟨fun b o e => ?_, fun b o e => ?_⟩, h⟩
  · have hb : b ≠ d := fun z => by rw [z, hd] at nn; cases nn
    exact ⟨keep b o hb e, (Store.upd_ne _ _ hb).trans nn⟩
  · have hb : b ≠ d := fun z => by rw [z, nd] at e; cases e
    exact ⟨keep b o hb (S.old b o e).1, (Store.upd_ne _ _ hb).trans (S.old b o e).2⟩
  · by_cases hb : b = d
    · subst hb
      rw [Store.upd_self] at e; cases e
      exact ⟨_, hn', hre⟩
    · rw [Store.upd_ne _ _ hb] at e
      exact (S.rep b o e).at fun q hq => keep b q hb hq

/-! calls of the text's defs -/
def retV : Flow → Value
  | .ret v => v
  | _ => .none
theorem bindL_lookup {k : Str → Option NameKind} {x : Str} (hx : k x = some .local) : ∀ {binds : List (Str × Value)} {m : Str → Option Value}, bindL k binds m x = (binds.reverse.lookup x).or (m x)
  | [], m => by simp [bindL]
  | (y, v) :: r, m => by
    unfold bindL
    rw [bindL_lookup hx]
    rw [List.reverse_cons, List.lookup_append, Option.or_assoc]
    congr 1
    by_cases h : x = y
    · subst h; simp [hx]
    · have : ((if k y = some .local then (fun z => if z = y then some v else m z) else m) : Str → Option Value) x = m x := by split <;> simp [h]
      rw [this]
      simp [List.lookup_cons, beq_eq_false_iff_ne.mpr h]
theorem bindC_lookup {k : Str → Option NameKind} {x : Str} (hx : k x ≠ some .local) : ∀ {binds : List (Str × Value)} {m : Str → Option Value}, bindC k binds m x = (binds.reverse.lookup x).or (m x)
  | [], m => by simp [bindC]
  | (y, v) :: r, m => by
    unfold bindC
    rw [bindC_lookup hx]
    rw [List.reverse_cons, List.lookup_append, Option.or_assoc]
    congr 1
    by_cases h : x = y
    · subst h; simp [hx]
    · have : ((if k y = some .local then m else (fun z => if z = y then some v else m z)) : Str → Option Value) x = m x := by split <;> simp [h]
      rw [this]
      simp [List.lookup_cons, beq_eq_false_iff_ne.mpr h]
theorem map_er_lookup {x : Str} : ∀ {l : List (Str × Value)}, (l.lookup x).map er = (l.map fun p => (p.1, er p.2)).lookup x
  | [] => rfl
  | (y, v) :: r => by
    rw [List.map_cons, List.lookup_cons, List.lookup_cons]
    by_cases h : (x == y) = true
    · rw [h]; rfl
    · simp only [Bool.not_eq_true] at h; rw [h]; exact map_er_lookup
/-- the names at a def's start -/
def start (ps : List (Str × Value)) : Loc := fun x => ps.reverse.lookup x
def paramsOk (scope : Scope) (ps : List Str) : Bool :=
  scope.kind == .function && ps.all (fun x => scope.names.lookup x == some .local || scope.names.lookup x == some .cell) && scope.names.all (fun y => y.2 != .free) &&
    decide ((cellsFrom 0 scope.names []).map (·.1)).Nodup
theorem cellsFrom_name {x : Str} {c : Addr} : ∀ {names : List (Str × NameKind)} {k : Nat} {acc : List (Str × Addr)}, (x, c) ∈ cellsFrom k names acc → (x, .cell) ∈ names ∨ (x, c) ∈ acc
  | [], k, acc, h => .inr h
  | (y, kd) :: r, k, acc, h => by
    unfold cellsFrom at h
    split at h
    · rename_i hk
      rcases cellsFrom_name h with h | h
      · exact .inl (List.mem_cons_of_mem _ h)
      · rcases List.mem_cons.mp h with h | h
        · cases h; rw [beq_iff_eq.mp hk]; exact .inl (List.mem_cons_self ..)
        · exact .inr h
    · rcases cellsFrom_name h with h | h
      · exact .inl (List.mem_cons_of_mem _ h)
      · exact .inr h
theorem cellsFrom_has {x : Str} {k : Nat} {names : List (Str × NameKind)} (h : names.lookup x = some .cell) : ∃ c, (cellsFrom k names []).lookup x = some c := by
  have := cellsFrom_some (x := x) names k [] (.inl h)
  exact Option.isSome_iff_exists.mp this

/-- a call, as the machine's own code -/
def TCc (Γ : Gd) (n : Nat) (f : Value) (args : List Value) (σ : Store) (Q : Value → Store → Prop) : Prop :=
  ∀ (A : Around) (s : Shared) (E : Value → Shared → Prop) (vs : List Value), Lv n A → St Γ σ s.heap → vs.map er = args → codeAny Γ.M A (.call f ⟨vs, []⟩) (fun r s' => match r with
    | .ok (.ret v) => ∃ σ', Same s s' ∧ Keep false [] σ s.heap σ' s'.heap ∧ St Γ σ' s'.heap ∧ Q (er v) σ'
    | .ok _ => False
    | .error e => E e s') s
theorem TCc.tc {f : Value} {args : List Value} {Q : Value → Store → Prop} (h : TCc Γ n f args σ Q) : TC Γ false n f args σ Q :=
  fun A s E vs hl S hv => wpAny_call (codeAny_mono (h A s E vs hl S hv) fun r s' q => by
    rcases r with e | (v | _ | _ | _) <;> exact q)

theorem TCc_fn {f : Addr} {args : List Value} {oc : Value} {od : Option Addr} {osl : Array (Option Value)} {name qual : Str} {params : Arguments} {body : List Stmt} {scope : Scope} {dV kV doc pm cdv ct : Value} {an : Option Addr} {Q : Value → Store → Prop}
    (ps : List (Str × Value)) (ho : Γ.K.lookup f = some ⟨oc, od, .func (fnOf name qual params body scope dV kV doc pm an cdv ct), osl⟩) (hcd : codeIn Γ.K cdv qual = true)
    (hb : ∀ vs : List Value, vs.map er = args → ∀ S, ∃ binds, peek Γ.K S (bindArgs (fnOf name qual params body scope dV kV doc pm an cdv ct) ⟨vs, []⟩) = some binds ∧ binds.map (fun p => (p.1, er p.2)) = ps)
    (hp : paramsOk scope (ps.map (·.1)) = true) (hg : scope.isGenerator = false ∧ scope.isCoroutine = false)
    (h : TSs Γ n scope body (start ps) σ fun fl _ σ' => Q (retV fl) σ') : TCc Γ (n + 1) (.ref f) args σ Q := by
  unfold paramsOk at hp
  simp only [Bool.and_eq_true, beq_iff_eq, List.all_eq_true, Bool.or_eq_true, bne_iff_ne, ne_eq, decide_eq_true_eq] at hp
  obtain ⟨⟨⟨hk, hps⟩, hfree⟩, hnd⟩ := hp
  intro A s E vs hl S hvs
  obtain ⟨binds, hbind, hbp⟩ := hb vs hvs ⟨Γ.prog, Γ.w.params⟩
  have hkinds : ∀ x ∈ binds, scope.names.lookup x.1 = some .local ∨ scope.names.lookup x.1 = some .cell := fun x hx => hps x.1 (by
    rw [← hbp, List.map_map]
    exact List.mem_map.mpr ⟨x, hx, rfl⟩)
  refine codeAny_call_function hl.room (S.K _ _ ho) rfl hg.2 hg.1 rfl (codeRec_of S.K hcd) ((Looks.of_peek (M := Γ.M) S.K hbind).here ?_)
  refine wpAny_newFunctionEnv_cells hk (fun x hx => (hkinds x hx).imp id fun hc => ⟨hc, by obtain ⟨c, e⟩ := cellsFrom_has (k := s.heap.objs.size + 1) hc; rw [e]; rfl⟩) fun env he s' x => ?_
  have hkp := x.toInCall.keep
  have hes : env.scope = scope := by rw [he]; rfl
  have hls : env.locals = s.heap.objs.size := by rw [he]; rfl
  have hcs : env.cells = cellsFrom (s.heap.objs.size + 1) scope.names [] := by rw [he]; rfl
  refine ⟨(Γ.nolimit.keeps S.keep).keeps hkp, codeAny_func ?_⟩
  obtain ⟨h₁, tk, rfl, _⟩ := x.done
  have fresh : ∀ a ∈ own env, s.heap.get? a = none := fun a ha => by
    cases q : s.heap.get? a with
    | none => rfl
    | some o =>
      exfalso
      have lt := Heap.lt_size q
      rcases List.mem_cons.mp ha with rfl | ha
      · rw [hls] at lt; exact Nat.lt_irrefl _ lt
      · obtain ⟨⟨z, c⟩, hz, rfl⟩ := List.mem_map.mp ha
        have := x.above z c hz
        rw [hls] at this
        exact Nat.lt_asymm this lt
  have S₁ : St Γ σ h₁ := ⟨fun b o e => ⟨hkp b o (S.old b o e).1, (S.old b o e).2⟩, fun a o e => (S.rep a o e).at fun q hq => hkp a q hq⟩
  have k₁ : Keep false [] σ s.heap σ h₁ := ⟨fun b o _ e nn => ⟨hkp b o e, nn⟩, fun _ e => e, fun z => nomatch z⟩
  have kd : ∀ y, env.kindOf y = scope.names.lookup y := fun y => by unfold Env.kindOf; rw [hes]
  have value : ∀ y, (binds.reverse.lookup y).map er = start ps y := fun y => by
    unfold start
    rw [← hbp, map_er_lookup, List.map_reverse]
  have F₁ : Fm Γ env (start ps) σ h₁ := by
    refine ⟨⟨_, x.toInCall.ns, fun y hy => ?_⟩, fun y hy => ?_, fun y z c h1 h2 => ?_, fun a ha => ⟨⟨S.free (fresh a ha), ?_⟩, ?_⟩⟩
    · rw [bindL_lookup hy, Option.or_none]; exact value y
    · rcases hy with hy | hy
      · obtain ⟨c, hc⟩ := cellsFrom_has (k := s.heap.objs.size + 1) ((kd y).symm.trans hy)
        rw [← hcs] at hc
        refine ⟨c, _, hc, x.cell y c hc, ?_⟩
        rw [bindC_lookup (by rw [hy]; exact fun z => nomatch z), Option.or_none]; exact value y
      · rw [kd] at hy
        exact absurd rfl (hfree (y, .free) (mem_of_lookup hy))
    · exact name_of_addr x.apart (mem_of_lookup h1) (mem_of_lookup h2)
    · cases q : Γ.h₀.get? a with
      | none => rfl
      | some o => have := (S.old a o q).1; rw [fresh a ha] at this; cases this
    · rcases List.mem_cons.mp ha with rfl | ha
      · obtain ⟨o, _, _, e, _⟩ := x.toInCall.ns; exact ⟨o, e⟩
      · obtain ⟨⟨z, c⟩, hz, rfl⟩ := List.mem_map.mp ha
        obtain ⟨d, hd⟩ := lookup_isSome_of_mem hz
        have hz' := hz
        rw [hcs] at hz'
        have hnd' : ((cellsFrom (s.heap.objs.size + 1) scope.names []).map (·.1)).Nodup := by
          rw [cellsFrom_names scope.names (s.heap.objs.size + 1) 0 [] [] rfl]; exact hnd
        have := x.cell z c (lookup_of_mem_nodup (by rw [hcs]; exact hnd') hz)
        obtain ⟨o, e, _⟩ := this
        exact ⟨o, e⟩
  refine (h (A.deeper env) env { s with heap := h₁, toks := tk } _ (hl.deeper env) ⟨hes, by rw [he]; rfl, by rw [he]; rfl⟩ S₁ F₁).then fun fl s₂ σ₂ sm₂ k₂ S₂ q => ?_
  obtain ⟨m₂, F₂, q⟩ := q
  refine ⟨σ₂, Same.trans ⟨h₁, tk, rfl⟩ sm₂, ⟨fun b o hb e nn => ?_, k₂.up, fun z => nomatch z⟩, S₂, by cases fl <;> exact q⟩
  exact k₂.k b o (fun z => by rw [fresh b z] at e; cases e) (hkp b o e) nn

/-- a class called -/
theorem TC_cls {C fI : Addr} {args : List Value} {Q : Value → Store → Prop} (hm : makesIn Γ.K C = true) (hi : findIn Γ.K (.ref C) "__init__" = some (some (.ref fI))) (hf : typeIn Γ.K (.ref fI) = some (.type "function"))
    (h : ∀ x d, σ x = none → σ d = none → x ≠ d → TCc Γ n (.ref fI) (.ref x :: args) ((σ.upd d (.attrs [])).upd x (.inst C d)) (fun v σ' => v = .none ∧ Q (.ref x) σ')) : TC Γ false (n + 1) (.ref C) args σ Q := by
  intro A s E vs hl S hvs
  obtain ⟨hh, g, dr, tk, os⟩ := s
  have K : Γ.K.In hh := S.K
  refine wpAny_call (make_core (makes_of K hm) (looks_findIn K hi) (fun self => bind_fn K self hf) (.inl rfl) ?_)
  have nd : σ hh.objs.size = none := S.newNone
  have none_ge : ∀ b, hh.objs.size ≤ b → hh.get? b = none := fun b hb => by
    cases q : hh.get? b with
    | none => rfl
    | some o => exact absurd (Heap.lt_size q) (Nat.not_lt.mpr hb)
  have gx : hh.get? (hh.objs.size + 1) = none := none_ge _ (Nat.le_succ _)
  have nx : σ (hh.objs.size + 1) = none := S.free gx
  have S₁ : St Γ (σ.upd hh.objs.size (.attrs [])) (hh.push emptyDict) := St.push (s := ⟨hh, g, dr, tk, os⟩) (ao := .attrs []) S ⟨fun _ => none, Heap.Ns1.of_empty (Heap.Ns.new hh (.type "dict")), fun _ => rfl⟩
  have sz : (hh.push emptyDict).objs.size = hh.objs.size + 1 := Heap.size_push ..
  have S₂ : St Γ ((σ.upd hh.objs.size (.attrs [])).upd (hh.objs.size + 1) (.inst C hh.objs.size)) ((hh.push emptyDict).push (instObj C hh.objs.size)) := by
    rw [← sz]
    exact St.push (s := ⟨hh.push emptyDict, g, dr, tk, os⟩) (ao := .inst C hh.objs.size) S₁ (Heap.get?_push_size _ rfl)
  have hne : hh.objs.size + 1 ≠ hh.objs.size := Nat.succ_ne_self _
  have lv : Lv n (A.under (.builtin "type.__call__" ⟨.ref C :: vs, []⟩)) := ⟨by rw [depth_under_make]; have := hl.depth; omega, by rw [units_under_make]; have := hl.units; omega, hl.hand⟩
  refine codeAny_mono (h _ _ nx nd hne _ ⟨(hh.push emptyDict).push (instObj C hh.objs.size), g, dr, tk, os⟩ E (.ref (hh.objs.size + 1) :: vs) lv S₂ (by rw [List.map_cons, hvs]; rfl)) fun r s' q => ?_
  rcases r with e | (v | _ | _ | _) <;> first | exact q | skip
  obtain ⟨σ', sm, k, S', hv, q⟩ := q
  refine ⟨er_none hv, σ', Same.trans ⟨_, _, rfl⟩ sm, ⟨fun b o hb e nn => ?_, fun b hb => ?_, fun z => nomatch z⟩, S', q⟩
  · have lt : b < hh.objs.size := Heap.lt_size e
    refine k.k b o hb (Heap.get?_push_of_some _ (Heap.get?_push_of_some _ e)) ?_
    exact (Store.upd_ne _ _ (Nat.ne_of_lt (Nat.lt_succ_of_lt lt))).trans ((Store.upd_ne _ _ (Nat.ne_of_lt lt)).trans nn)
  · exact k.up b (Store.up_upd b (Store.up_upd b hb))
end
end

noncomputable section
variable {Γ : Gd}
noncomputable section
variable {ql : Bool} {n : Nat} {sc : Scope} {m : Loc} {σ : Store}

/-! operations upon ints, bools, strs -/
theorem P2_now {f : Value → Value → Sem Value} {a b r : Value} {Q : Value → Store → Prop} (q : Q r σ)
    (h : ∀ A s E va vb, er va = a → er vb = b → ∀ R : Value → Shared → Prop, (∀ v tk, er v = r → R v { s with toks := tk }) → wpAny Γ.M A (f va vb) R E s) : P2 Γ ql n f a b σ Q :=
  fun A s E va vb _ S ha hb => Go.now S fun R k => h A s E va vb ha hb R fun v tk e => k v tk (e ▸ q)
theorem P1_now {f : Value → Sem Value} {a r : Value} {Q : Value → Store → Prop} (q : Q r σ)
    (h : ∀ A s E va, er va = a → ∀ R : Value → Shared → Prop, (∀ v tk, er v = r → R v { s with toks := tk }) → wpAny Γ.M A (f va) R E s) : P1 Γ ql n f a σ Q :=
  fun A s E va _ S ha => Go.now S fun R k => h A s E va ha R fun v tk e => k v tk (e ▸ q)

variable {a b : Int} {Q : Value → Store → Prop}
theorem P2_add_int (h : Q (.int (a + b) 0) σ) : P2 Γ ql n (binaryOp .Add) (.int a 0) (.int b 0) σ Q := P2_now h fun A s E va vb ha hb R k => by
  obtain ⟨t, rfl⟩ := er_int ha; obtain ⟨u, rfl⟩ := er_int hb; exact P.add_int (k _ _ rfl)
theorem P2_iadd_int (h : Q (.int (a + b) 0) σ) : P2 Γ ql n (inplaceOp .Add) (.int a 0) (.int b 0) σ Q := P2_now h fun A s E va vb ha hb R k => by
  obtain ⟨t, rfl⟩ := er_int ha; obtain ⟨u, rfl⟩ := er_int hb; exact P.iadd_int (k _ _ rfl)
theorem P2_sub_int (h : Q (.int (a - b) 0) σ) : P2 Γ ql n (binaryOp .Sub) (.int a 0) (.int b 0) σ Q := P2_now h fun A s E va vb ha hb R k => by
  obtain ⟨t, rfl⟩ := er_int ha; obtain ⟨u, rfl⟩ := er_int hb; exact P.sub_int (k _ _ rfl)
theorem P2_mul_int (hm : Builtin.Int.intBits a ≤ 64 ∨ Builtin.Int.intBits b ≤ 64) (h : Q (.int (a * b) 0) σ) : P2 Γ ql n (binaryOp .Mult) (.int a 0) (.int b 0) σ Q := P2_now h fun A s E va vb ha hb R k => by
  obtain ⟨t, rfl⟩ := er_int ha; obtain ⟨u, rfl⟩ := er_int hb
  refine P.mul_int (k _ _ rfl) ?_
  rcases hm with h | h
  · exact IntMulOk.of_left h
  · have h' : ¬ (Builtin.Int.intBits b > shortFactorBits) := Nat.not_lt.mpr h
    unfold IntMulOk
    rw [decide_eq_false h']; simp
theorem P2_mod_int (hb0 : b ≠ 0) (h : Q (.int (a.fmod b) 0) σ) : P2 Γ ql n (binaryOp .Mod) (.int a 0) (.int b 0) σ Q := P2_now h fun A s E va vb ha hb R k => by
  obtain ⟨t, rfl⟩ := er_int ha; obtain ⟨u, rfl⟩ := er_int hb; exact mod_int' hb0 (k _ _ rfl)
theorem P2_floordiv_int (hb0 : b ≠ 0) (hs : b.natAbs < 1073741824) (h : Q (.int (a.fdiv b) 0) σ) : P2 Γ ql n (binaryOp .FloorDiv) (.int a 0) (.int b 0) σ Q := P2_now h fun A s E va vb ha hb R k => by
  obtain ⟨t, rfl⟩ := er_int ha; obtain ⟨u, rfl⟩ := er_int hb; exact floordiv_int hb0 (k _ _ rfl) (.inl (PyProof.noPylong_small hs))
theorem P1_neg_int (h : Q (.int (-a) 0) σ) : P1 Γ ql n (unaryOp .USub) (.int a 0) σ Q := P1_now h fun A s E va ha R k => by
  obtain ⟨t, rfl⟩ := er_int ha; exact P.neg_int (k _ _ rfl)
theorem P2_eq_int (h : Q (.bool (decide (a = b))) σ) : P2 Γ ql n (compareOp .Eq) (.int a 0) (.int b 0) σ Q := P2_now h fun A s E va vb ha hb R k => by
  obtain ⟨t, rfl⟩ := er_int ha; obtain ⟨u, rfl⟩ := er_int hb; exact P.eq_int (k _ s.toks rfl)
theorem P2_ne_int (h : Q (.bool (!decide (a = b))) σ) : P2 Γ ql n (compareOp .NotEq) (.int a 0) (.int b 0) σ Q := P2_now h fun A s E va vb ha hb R k => by
  obtain ⟨t, rfl⟩ := er_int ha; obtain ⟨u, rfl⟩ := er_int hb; exact P.ne_int (k _ s.toks rfl)
theorem P2_lt_int (h : Q (.bool (decide (a < b))) σ) : P2 Γ ql n (compareOp .Lt) (.int a 0) (.int b 0) σ Q := P2_now h fun A s E va vb ha hb R k => by
  obtain ⟨t, rfl⟩ := er_int ha; obtain ⟨u, rfl⟩ := er_int hb; exact P.lt_int (k _ s.toks rfl)
theorem P2_le_int (h : Q (.bool (decide (a ≤ b))) σ) : P2 Γ ql n (compareOp .LtE) (.int a 0) (.int b 0) σ Q := P2_now h fun A s E va vb ha hb R k => by
  obtain ⟨t, rfl⟩ := er_int ha; obtain ⟨u, rfl⟩ := er_int hb; exact P.le_int (k _ s.toks rfl)
theorem P2_gt_int (h : Q (.bool (decide (a > b))) σ) : P2 Γ ql n (compareOp .Gt) (.int a 0) (.int b 0) σ Q := P2_now h fun A s E va vb ha hb R k => by
  obtain ⟨t, rfl⟩ := er_int ha; obtain ⟨u, rfl⟩ := er_int hb; exact P.gt_int (k _ s.toks rfl)
theorem P2_ge_int (h : Q (.bool (decide (a ≥ b))) σ) : P2 Γ ql n (compareOp .GtE) (.int a 0) (.int b 0) σ Q := P2_now h fun A s E va vb ha hb R k => by
  obtain ⟨t, rfl⟩ := er_int ha; obtain ⟨u, rfl⟩ := er_int hb; exact P.ge_int (k _ s.toks rfl)
theorem P2_ne_bool {c d : Bool} (h : Q (.bool (c != d)) σ) : P2 Γ ql n (compareOp .NotEq) (.bool c) (.bool d) σ Q := P2_now h fun A s E va vb ha hb R k => by
  rw [er_bool ha, er_bool hb]; exact ne_bool (k _ s.toks rfl)

theorem str_beq (x y : Str) : (x.cps.toList == y.cps.toList) = decide (x = y) := by
  by_cases hne : x = y
  · subst hne; simp
  · rw [decide_eq_false hne]
    refine beq_eq_false_iff_ne.mpr fun hl => hne ?_
    cases x; cases y
    simp only [Str.mk.injEq]
    exact Array.toList_inj.mp hl
theorem str_bne (x y : Str) : (x.cps.toList != y.cps.toList) = !decide (x = y) := by rw [← str_beq]; rfl
variable {x y : Str}
theorem P2_eq_str (h : Q (.bool (decide (x = y))) σ) : P2 Γ ql n (compareOp .Eq) (.str x 0) (.str y 0) σ Q := P2_now h fun A s E va vb ha hb R k => by
  obtain ⟨t, rfl⟩ := er_str ha; obtain ⟨u, rfl⟩ := er_str hb; exact P.eq_str (k _ s.toks (by rw [str_beq]; rfl))
theorem P2_ne_str (h : Q (.bool (!decide (x = y))) σ) : P2 Γ ql n (compareOp .NotEq) (.str x 0) (.str y 0) σ Q := P2_now h fun A s E va vb ha hb R k => by
  obtain ⟨t, rfl⟩ := er_str ha; obtain ⟨u, rfl⟩ := er_str hb; exact P.ne_str (k _ s.toks (by rw [str_bne]; rfl))
theorem P2_lt_str (h : Q (.bool (decide (x.cps.toList < y.cps.toList))) σ) : P2 Γ ql n (compareOp .Lt) (.str x 0) (.str y 0) σ Q := P2_now h fun A s E va vb ha hb R k => by
  obtain ⟨t, rfl⟩ := er_str ha; obtain ⟨u, rfl⟩ := er_str hb; exact P.lt_str (k _ s.toks rfl)
theorem P2_le_str (h : Q (.bool (!decide (y.cps.toList < x.cps.toList))) σ) : P2 Γ ql n (compareOp .LtE) (.str x 0) (.str y 0) σ Q := P2_now h fun A s E va vb ha hb R k => by
  obtain ⟨t, rfl⟩ := er_str ha; obtain ⟨u, rfl⟩ := er_str hb; exact P.le_str (k _ s.toks rfl)
theorem P2_in_str (h : Q (.bool !(Builtin.Str.occurrences x y 0 x.length 1).isEmpty) σ) : P2 Γ ql n (compareOp .In) (.str y 0) (.str x 0) σ Q := P2_now h fun A s E va vb ha hb R k => by
  obtain ⟨t, rfl⟩ := er_str ha; obtain ⟨u, rfl⟩ := er_str hb; exact P.in_str (k _ s.toks rfl)
theorem empty_app (x y : Str) (h : (x.length == 0) = true) : y = x ++ y := by
  have : x = Str.empty := by
    cases x; simp only [Str.length, beq_iff_eq] at h
    simp only [Str.empty, Str.mk.injEq]
    exact Array.eq_empty_of_size_eq_zero h
  subst this; exact (Str.empty_append y).symm
theorem app_empty (x y : Str) (h : (y.length == 0) = true) : x = x ++ y := by
  have : y = Str.empty := by
    cases y; simp only [Str.length, beq_iff_eq] at h
    simp only [Str.empty, Str.mk.injEq]
    exact Array.eq_empty_of_size_eq_zero h
  subst this
  cases x
  show Str.mk _ = Str.mk (_ ++ #[])
  rw [Array.append_empty]
theorem add_str_go {A : Around} {s : Shared} {E : Value → Shared → Prop} {t u : Tok} {R : Value → Shared → Prop} (hsz : (x ++ y).length ≤ sizeLine) (k : ∀ v tk, er v = .str (x ++ y) 0 → R v { s with toks := tk }) :
    (if x.length == 0 then Made.val (.str y u) else if y.length == 0 then Made.val (.str x t) else Made.str (x ++ y)).post R s := by
  split
  · rename_i h; exact k _ s.toks (by rw [← empty_app x y h]; rfl)
  · split
    · rename_i h; exact k _ s.toks (by rw [← app_empty x y h]; rfl)
    · exact ⟨hsz, k _ _ rfl⟩
theorem P2_add_str (hsz : (x ++ y).length ≤ sizeLine) (h : Q (.str (x ++ y) 0) σ) : P2 Γ ql n (binaryOp .Add) (.str x 0) (.str y 0) σ Q := P2_now h fun A s E va vb ha hb R k => by
  obtain ⟨t, rfl⟩ := er_str ha; obtain ⟨u, rfl⟩ := er_str hb; exact P.add_str (add_str_go (A := A) (E := E) hsz k)
theorem P2_iadd_str (hsz : (x ++ y).length ≤ sizeLine) (h : Q (.str (x ++ y) 0) σ) : P2 Γ ql n (inplaceOp .Add) (.str x 0) (.str y 0) σ Q := P2_now h fun A s E va vb ha hb R k => by
  obtain ⟨t, rfl⟩ := er_str ha; obtain ⟨u, rfl⟩ := er_str hb; exact P.iadd_str (add_str_go (A := A) (E := E) hsz k)
end
end

noncomputable section
variable {Γ : Gd}
noncomputable section
variable {ql : Bool} {n : Nat} {sc : Scope} {m : Loc} {σ : Store} {Q : Value → Store → Prop}

/-! items and slices -/
def Getter (s : Shared) (o : Value) : Prop := ∃ T id, s.TypeIs o T ∧ typeLookup (.type T) "__getitem__" = pure (some (.builtin id))
def PG (Γ : Gd) (ql : Bool) (n : Nat) (o i : Value) (σ : Store) (Q : Value → Store → Prop) : Prop :=
  ∀ A s E vo vi, Lv n A → St Γ σ s.heap → er vo = o → er vi = i → Getter s vo ∧ Go Γ ql A [] σ s (getItem vo vi) (fun v σ' _ => Q (er v) σ') E
theorem TE_Sub {value slice : Expr} {pos : Pos} (h : TE Γ ql n sc value m σ fun o σ₁ => TE Γ ql n sc slice m σ₁ fun i σ₂ => PG Γ ql n o i σ₂ Q)
    (hs : ∀ o i, subscripted slice false o i = operate [o, i] (getItem o i) := by intros; rfl) : TE Γ ql n sc (.Subscript value slice pos) m σ Q :=
  fun A env s E hl he S F => Subscript_ ((h A env s E hl he S F).then fun vo s₁ σ₁ sm k S₁ h₁ => (h₁ A env s₁ E hl he S₁ (F.keep k)).then fun vi s₂ σ₂ sm₂ k₂ S₂ h₂ => by
    obtain ⟨⟨T, id, hT, hl'⟩, g⟩ := h₂ A s₂ E vo vi hl S₂ rfl rfl
    exact tail_any hT hl' (Go.back (sm.trans sm₂) (k.trans k₂) g) (hs vo vi))
def TP (Γ : Gd) (ql : Bool) (n : Nat) (sc : Scope) (e : Option Expr) (m : Loc) (σ : Store) (Q : Option Int → Store → Prop) : Prop := match e with
  | none => Q none σ
  | some e => TE Γ ql n sc e m σ fun v σ₁ => ∃ i, v = .int i 0 ∧ Q (some i) σ₁
theorem TP.go {e : Option Expr} {Q : Option Int → Store → Prop} {A : Around} {env : Env} {s : Shared} {E : Value → Shared → Prop} (h : TP Γ ql n sc e m σ Q) (hl : Lv n A) (he : EnvIs sc env) (S : St Γ σ s.heap) (F : Fm Γ env m σ s.heap) :
    Go Γ ql A [] σ s (evalPart e env) (fun v σ' _ => ∃ p : Option (Int × Tok), v = partValue p ∧ Q (p.map (·.1)) σ') E := by
  cases e with
  | none => exact Go.now S fun R q => wpAny_pure (q _ s.toks ⟨none, rfl, h⟩)
  | some e =>
    refine Go.mono (h A env s E hl he S F) fun v σ' _ q => ?_
    obtain ⟨i, hv, q⟩ := q
    obtain ⟨t, rfl⟩ := er_int hv
    exact ⟨some (i, t), rfl, q⟩
theorem part_is (p : Option (Int × Tok)) : IsPart (partValue p) (p.map (·.1)) := by
  cases p with
  | none => exact .none
  | some p => exact .int p.1 p.2
def PSl (Γ : Gd) (ql : Bool) (n : Nat) (o : Value) (lo hi : Option Int) (σ : Store) (Q : Value → Store → Prop) : Prop :=
  ∀ A s E vo sl l u, Lv n A → St Γ σ s.heap → er vo = o → s.heap.IsSlice sl l u none → l.map (·.1) = lo → u.map (·.1) = hi → Getter s vo ∧ Go Γ ql A [] σ s (getItem vo (.ref sl)) (fun v σ' _ => Q (er v) σ') E
theorem TE_Slice {value : Expr} {lower upper : Option Expr} {p pos : Pos} (h : TE Γ ql n sc value m σ fun o σ₁ => TP Γ ql n sc lower m σ₁ fun lo σ₂ => TP Γ ql n sc upper m σ₂ fun hi σ₃ => PSl Γ ql n o lo hi σ₃ Q) :
    TE Γ ql n sc (.Subscript value (.Slice lower upper none p) pos) m σ Q :=
  fun A env s E hl he S F => Subscript_ ((h A env s E hl he S F).then fun vo s₁ σ₁ sm k S₁ h₁ => wpAny_Slice ((h₁.go hl he S₁ (F.keep k)).then fun vl s₂ σ₂ sm₂ k₂ S₂ h₂ => by
    obtain ⟨pl, rfl, h₂⟩ := h₂
    refine (h₂.go hl he S₂ (F.keep (k.trans k₂))).then fun vu s₃ σ₃ sm₃ k₃ S₃ h₃ => ?_
    obtain ⟨pu, rfl, h₃⟩ := h₃
    refine evalPart_none_step ?_
    have sm' : Same s { s₃ with heap := s₃.heap.push { cls := .type "slice", data := .fields #[partValue pl, partValue pu, .none] } } := ((sm.trans sm₂).trans sm₃).trans ⟨_, s₃.toks, rfl⟩
    obtain ⟨⟨T, id, hT, hl'⟩, g⟩ := h₃ A { s₃ with heap := s₃.heap.push { cls := .type "slice", data := .fields #[partValue pl, partValue pu, .none] } } E vo s₃.heap.objs.size pl pu hl S₃.pushG rfl ⟨_, Heap.get?_push_size _ rfl, rfl, rfl⟩ rfl rfl
    exact tail_any hT hl' (Go.back sm' (((k.trans k₂).trans k₃).trans Keep.pushG) g) rfl))

/-- an object of the store changed -/
theorem Keep.changed {X : List Addr} {a : Addr} {o o' : AO} {h h' : Heap} (hx : σ a = some o) (s : Heap.SameBut a h h') : Keep false X σ h (σ.upd a o') h' := ⟨fun b o _ e nn => by
  have hb : b ≠ a := fun z => by rw [z, hx] at nn; cases nn
  exact ⟨(s.2 b hb).trans e, (Store.upd_ne _ _ hb).trans nn⟩, Store.up_upd, fun z => nomatch z⟩
theorem St.changed {a : Addr} {o o' : AO} {h h' : Heap} (S : St Γ σ h) (hx : σ a = some o) (s : Heap.SameBut a h h') (r : OR Γ h' a o') : St Γ (σ.upd a o') h' := by
  have nd : Γ.h₀.get? a = none := S.isNew hx
  refine ⟨fun b o e => ?_, fun b o e => ?_⟩
  · have hb : b ≠ a := fun z => by rw [z, nd] at e; cases e
    exact ⟨(s.2 b hb).trans (S.old b o e).1, (Store.upd_ne _ _ hb).trans (S.old b o e).2⟩
  · by_cases hb : b = a
    · subst hb; rw [Store.upd_self] at e; cases e; exact r
    · rw [Store.upd_ne _ _ hb] at e
      exact (S.rep b o e).at fun q hq => (s.2 b hb).trans hq
theorem list_at {s : Shared} {a : Addr} {xs : List Value} (S : St Γ σ s.heap) (h : σ a = some (.list xs)) : ∃ vs t, IsL s.heap a vs t ∧ vs.toList.map er = xs := S.rep a _ h
theorem get_er {vs : Array Value} {xs : List Value} {i : Nat} {v : Value} (h : vs.toList.map er = xs) (g : xs[i]? = some v) : ∃ u, vs[i]? = some u ∧ er u = v := by
  subst h
  rw [List.getElem?_map, Array.getElem?_toList] at g
  cases q : vs[i]? with
  | none => rw [q] at g; cases g
  | some u => rw [q] at g; exact ⟨u, rfl, Option.some.inj g⟩
theorem PG_list {a : Addr} {xs : List Value} {i : Int} {v : Value} (hx : σ a = some (.list xs)) (h0 : 0 ≤ i) (hi : i < 2 ^ 63) (hv : xs[i.toNat]? = some v) (h : Q v σ) : PG Γ ql n (.ref a) (.int i 0) σ Q := by
  intro A s E vo vi hl S ho hv'
  rw [er_ref ho]
  obtain ⟨t, rfl⟩ := er_int hv'
  obtain ⟨vs, c, hL, e⟩ := list_at S hx
  obtain ⟨u, hu, rfl⟩ := get_er e hv
  refine ⟨⟨"list", _, ⟨_, hL, rfl⟩, slot_list_getitem.lookup⟩, Go.now S fun R q => wpAny_getItem_list ⟨_, hL, rfl, c, rfl⟩ h0 hi hu (q u s.toks h)⟩
theorem PG_list_last {a : Addr} {xs : List Value} {v : Value} (hx : σ a = some (.list xs)) (hlen : (xs.length : Int) < 2 ^ 62) (hv : xs.getLast? = some v) (h : Q v σ) : PG Γ ql n (.ref a) (.int (-1) 0) σ Q := by
  intro A s E vo vi hl S ho hv'
  rw [er_ref ho]
  obtain ⟨t, rfl⟩ := er_int hv'
  obtain ⟨vs, c, hL, e⟩ := list_at S hx
  have hne : 0 < xs.length := by
    cases xs with
    | nil => cases hv
    | cons => exact Nat.succ_pos _
  have hs : vs.size = xs.length := by rw [← e]; simp
  rw [List.getLast?_eq_getElem?] at hv
  obtain ⟨u, hu, rfl⟩ := get_er e hv
  refine ⟨⟨"list", _, ⟨_, hL, rfl⟩, slot_list_getitem.lookup⟩, Go.now S fun R q => wpAny_getItem_list_neg ⟨_, hL, rfl, c, rfl⟩ (by decide) (by omega) (by decide) (x := u) ?_ (q u s.toks h)⟩
  rw [← hu, hs]
  congr 1
  omega
theorem PSl_list {a : Addr} {xs : List Value} {lo hi : Option Int} {ys : List Value} (hx : σ a = some (.list xs)) (hlen : xs.length ≤ sizeLine) (hp : ∀ vs : Array Value, vs.toList.map er = xs → (slicePick vs lo hi none).toList.map er = ys)
    (h : ∀ D, σ D = none → Q (.ref D) (σ.upd D (.list ys))) : PSl Γ ql n (.ref a) lo hi σ Q := by
  intro A s E vo sl l u hl S ho hs hlo hhi
  subst hlo hhi
  rw [er_ref ho]
  obtain ⟨vs, c, hL, e⟩ := list_at S hx
  have hsz : vs.size ≤ sizeLine := by rw [← e] at hlen; simpa using hlen
  refine ⟨⟨"list", _, ⟨_, hL, rfl⟩, slot_list_getitem.lookup⟩, ?_⟩
  refine wpAny_getItem_list_slice (lo := l.map (·.1)) (hi := u.map (·.1)) (st := none) ⟨_, hL, rfl, c, rfl⟩ hs (part_is l) (part_is u) .none (fun z => nomatch z) ?_ hsz
  exact ⟨σ.upd s.heap.objs.size (.list ys), ⟨_, s.toks, rfl⟩, Keep.push, S.push ⟨_, 0, Heap.get?_push_size _ rfl, hp vs e⟩, h _ S.newNone⟩
theorem PSl_upto {a : Addr} {xs : List Value} {k : Nat} (hx : σ a = some (.list xs)) (hlen : xs.length ≤ sizeLine) (h : ∀ D, σ D = none → Q (.ref D) (σ.upd D (.list (xs.take k)))) : PSl Γ ql n (.ref a) none (some (k : Int)) σ Q :=
  PSl_list hx hlen (fun vs e => by rw [slicePick_upto', ← e]; simp [List.map_take]) h
theorem PSl_from {a : Addr} {xs : List Value} {k : Nat} (hx : σ a = some (.list xs)) (hlen : xs.length ≤ sizeLine) (h : ∀ D, σ D = none → Q (.ref D) (σ.upd D (.list (xs.drop k)))) : PSl Γ ql n (.ref a) (some (k : Int)) none σ Q :=
  PSl_list hx hlen (fun vs e => by rw [slicePick_from', ← e]; simp [List.map_drop]) h

def sub (x : Str) (a b : Nat) : Str := ⟨((x.cps.toList.drop a).take (b - a)).toArray⟩
theorem strRange (a b : Int) (ha : 0 ≤ a) (hb : 0 ≤ b) (k : Nat) : Builtin.Str.strSliceIndices (some a) (some b) 1 k = (List.range (min b.toNat k - min a.toNat k)).map (min a.toNat k + ·) := by
  rw [← sliceRange_one]
  unfold Builtin.Str.strSliceIndices
  simp only [show ¬ a < 0 by omega, show ¬ b < 0 by omega, if_false, show (1 : Int) > 0 by decide, if_true]
  congr 1 <;> omega
theorem slice_is (x : Str) (a b : Int) (ha : 0 ≤ a) (hb : 0 ≤ b) : (⟨((Builtin.Str.strSliceIndices (some a) (some b) 1 x.length).filterMap (x.cps[·]?)).toArray⟩ : Str) = sub x a.toNat b.toNat := by
  rw [strRange a b ha hb, pick_run]
  unfold sub
  congr 2
  have hn : x.cps.toList.length = x.length := by simp [Str.length]
  by_cases h : a.toNat ≤ x.length
  · rw [Nat.min_eq_left h]
    by_cases h' : b.toNat ≤ x.length
    · rw [Nat.min_eq_left h']
    · rw [Nat.min_eq_right (by omega), List.take_of_length_le (by rw [List.length_drop]; omega), List.take_of_length_le (by rw [List.length_drop]; omega)]
  · rw [Nat.min_eq_right (by omega : x.length ≤ a.toNat), List.drop_of_length_le (by omega), List.drop_of_length_le (by omega)]; simp
theorem sub_len (x : Str) (a b : Nat) : (sub x a b).length ≤ x.length := by
  unfold sub Str.length
  simp only [List.size_toArray, List.length_take, List.length_drop, Array.length_toList]
  omega
theorem all_in_len {β : Type} {f : Nat → Option β} : ∀ {l : List Nat}, (∀ i ∈ l, ∃ b, f i = some b) → (l.filterMap f).length = l.length
  | [], _ => rfl
  | i :: l, h => by
    obtain ⟨b, hb⟩ := h i (List.mem_cons_self ..)
    rw [List.filterMap_cons, hb]
    simp [all_in_len fun j hj => h j (List.mem_cons_of_mem _ hj)]
theorem PSl_str {x : Str} {a b : Int} (ha : 0 ≤ a) (hb : 0 ≤ b) (hlen : x.length ≤ sizeLine) (h : Q (.str (sub x a.toNat b.toNat) 0) σ) : PSl Γ ql n (.str x 0) (some a) (some b) σ Q := by
  intro A s E vo sl l u hl S ho hs hlo hhi
  obtain ⟨t, rfl⟩ := er_str ho
  refine ⟨⟨"str", _, typeIs_str _ _ _, F.slot_str_getitem.lookup⟩, Go.now S fun R q => ?_⟩
  refine wpAny_getItem_str_slice hs rfl ?_
  have e := slice_is x a b ha hb
  unfold sliceMade slicePicked
  rw [hlo, hhi]
  simp only [Option.map_none, Option.getD_none]
  split
  · rename_i hc
    refine q _ s.toks ?_
    rw [Bool.and_eq_true] at hc
    have hlen' := beq_iff_eq.mp hc.2
    have : x = sub x a.toNat b.toNat := by
      rw [← e]
      have hf : ((Builtin.Str.strSliceIndices (some a) (some b) 1 x.length).filterMap (x.cps[·]?)).length = x.length := by
        refine (all_in_len fun i hi => ?_).trans hlen'
        rw [strRange a b ha hb] at hi
        obtain ⟨j, hj, rfl⟩ := List.mem_map.mp hi
        have := List.mem_range.mp hj
        have : min a.toNat x.length + j < x.cps.size := by show _ < x.length; omega
        rw [Array.getElem?_eq_getElem this]; exact ⟨_, rfl⟩
      rw [strRange a b ha hb, pick_run] at hf ⊢
      have sbl : ((x.cps.toList.drop (min a.toNat x.length)).take (min b.toNat x.length - min a.toNat x.length)).Sublist x.cps.toList := (List.take_sublist ..).trans (List.drop_sublist ..)
      have := sbl.eq_of_length (by rw [hf]; simp [Str.length])
      rw [this]
    show Q (.str x 0) σ
    rw [this]; exact h
  · refine ⟨?_, q _ _ ?_⟩
    · rw [e]; exact Nat.le_trans (sub_len ..) hlen
    · rw [e]; exact h

/-! list items set, lists in, lists joined -/
theorem setList_go {prog : Program} {w : World} {A : Around} {E : Value → Shared → Prop} {s : Shared} {l : Addr} {items : Array Value} {c : Nat} {k : Int} {t : Tok} {v : Value} {Q : Unit → Shared → Prop} (hL : IsL s.heap l items c)
    (h0 : 0 ≤ k) (hfit : k < 2 ^ 63) (hn : k < items.size) (hQ : Q () { s with heap := s.heap.update l (Obj.mapSeq (·.setIfInBounds k.toNat v)) }) : wpAny (model prog w) A (setItem (.ref l) (.int k t) v) Q E s := by
  have hT : s.TypeIs (.ref l) "list" := ⟨_, hL, rfl⟩
  unfold setItem
  refine wpAny_holding ?_
  refine wpAny_bind (wpAny_sequenceKey hT (by decide) ?_)
  refine wpAny_bind (wpAny_callSpecial?_slot (name := Str.ofString "__setitem__") hT slot_list_setitem (wpAny_call_entry slot_list_setitem hT entry_list_setitem ?_ (args_list_setitem _ _ _)))
  show wpAny _ _ (Builtin.List.listSubscript? (.int k t) >>= _) _ _ s
  refine wpAny_bind (wpAny_listSubscript_int (fitsIndex_of h0 hfit) ?_)
  clear hfit
  obtain ⟨j, rfl⟩ := Int.eq_ofNat_of_zero_le h0
  have hj : j < items.size := by omega
  show wpAny _ _ ((seqItemAt l j >>= fun r => pure (r.map (j, ·))) >>= _) _ _ s
  refine wpAny_bind (wpAny_bind (wpAny_seqItemAt hL rfl (wpAny_pure ?_)))
  rw [Array.getElem?_eq_getElem hj]
  show wpAny _ _ (setSeqItemAt l j v >>= _) _ _ s
  refine wpAny_bind (wpAny_setSeqItemAt hL rfl ?_)
  first
    | exact wpAny_bind (wpAny_pure (wpAny_pure ⟨.none, rfl, wpAny_pure hQ⟩))
    | exact wpAny_pure ⟨.none, rfl, wpAny_pure hQ⟩
theorem P3_list {a : Addr} {xs : List Value} {i : Int} {v : Value} {Q : Store → Prop} (hx : σ a = some (.list xs)) (h0 : 0 ≤ i) (hi : i < xs.length) (hf : i < 1000) (h : Q (σ.upd a (.list (xs.set i.toNat v)))) : P3 Γ n setItem (.ref a) (.int i 0) v σ Q := by
  intro A s E va vb vc hl S ha hb hc
  rw [er_ref ha]
  obtain ⟨t, rfl⟩ := er_int hb
  obtain ⟨vs, c, hL, e⟩ := list_at S hx
  have hsz : vs.size = xs.length := by rw [← e]; simp
  refine setList_go hL h0 (by omega) (by omega) ⟨σ.upd a (.list (xs.set i.toNat v)), ⟨_, s.toks, rfl⟩, Keep.changed hx (Heap.SameBut.update ..), S.changed hx (Heap.SameBut.update ..) ⟨_, _, hL.update _, ?_⟩, h⟩
  rw [Array.toList_setIfInBounds, List.map_set, e, hc]

/-! dicts -/
theorem dict_at {s : Shared} {a : Addr} {es : List (Str × Value)} (S : St Γ σ s.heap) (h : σ a = some (.dict es)) : ∃ kvs, s.heap.DictOf (strKind Γ.prog Γ.w) a kvs ∧ kvs.map (fun p => (p.1, er p.2)) = es ∧ a ≠ sysModules := S.rep a _ h
theorem nm {a : Addr} (h : a ≠ sysModules) : (a == sysModules) = false := beq_eq_false_iff_ne.mpr h
end
end

noncomputable section
variable {Γ : Gd}

abbrev sv (x : Str) : Value := .str x 0
theorem er_sv {v : Value} {x : Str} (h : er v = sv x) : ∃ t, v = .str x t := er_str h
theorem lookup_map {V W : Type} {f : V → W} {k : Str} : ∀ {l : List (Str × V)}, (l.map fun p => (p.1, f p.2)).lookup k = (l.lookup k).map f
  | [] => rfl
  | (y, v) :: r => by
    rw [List.map_cons, List.lookup_cons, List.lookup_cons]
    by_cases h : (k == y) = true
    · rw [h]; rfl
    · simp only [Bool.not_eq_true] at h; rw [h]; exact lookup_map
theorem valueAt_lookup {kvs : List (Str × Value)} {k : Str} : valueAt kvs k = kvs.lookup k := by
  unfold valueAt
  induction kvs with
  | nil => rfl
  | cons p r ih =>
    obtain ⟨y, v⟩ := p
    rw [List.find?_cons, List.lookup_cons]
    by_cases h : k = y
    · subst h; simp
    · have h' : ¬ y = k := fun e => h e.symm
      simp only [beq_eq_false_iff_ne.mpr h, decide_eq_false h', ih]
theorem put_map {V W : Type} {f : V → W} {k : Str} {v : V} : ∀ {l : List (Str × V)}, (put l k v).map (fun p => (p.1, f p.2)) = put (l.map fun p => (p.1, f p.2)) k (f v)
  | [] => rfl
  | (y, u) :: r => by
    unfold put
    rw [List.map_cons]
    by_cases h : k = y
    · simp [h]
    · simp [h, put_map]
theorem stored_put {k : Str} {v : Value} : ∀ {kvs : List (Str × Value)}, (kvs.map (·.1)).Nodup → stored kvs k v = put kvs k v
  | [], _ => rfl
  | (y, u) :: r, h => by
    rw [List.map_cons, List.nodup_cons] at h
    have ih := stored_put (k := k) (v := v) h.2
    unfold stored at ih ⊢
    unfold put
    by_cases e : k = y
    · subst e
      simp only [List.any_cons, decide_true, Bool.true_or, if_true, List.map_cons]
      congr 1
      refine (List.map_congr_left (g := id) fun p hp => ?_).trans (List.map_id _)
      have : ¬ p.1 = k := fun q => h.1 (List.mem_map.mpr ⟨p, hp, q⟩)
      rw [if_neg this]; rfl
    · have e' : ¬ y = k := fun q => e q.symm
      simp only [List.any_cons, decide_eq_false e', Bool.false_or, List.map_cons, if_neg e', if_neg e, List.cons_append]
      rw [← ih]
      split <;> rfl

noncomputable section
variable {ql : Bool} {n : Nat} {sc : Scope} {m : Loc} {σ : Store} {Q : Value → Store → Prop}

theorem dict_at' {s : Shared} {a : Addr} {es : List (Str × Value)} (S : St Γ σ s.heap) (h : σ a = some (.dict es)) :
    ∃ kvs, s.heap.DictOf (strKind Γ.prog Γ.w) a kvs ∧ kvs.map (fun p => (p.1, er p.2)) = es ∧ (a == sysModules) = false ∧ ∀ k, (valueAt kvs k).map er = es.lookup k := by
  obtain ⟨kvs, D, e, na⟩ := dict_at S h
  exact ⟨kvs, D, e, nm na, fun k => by rw [valueAt_lookup, ← e, lookup_map]⟩
theorem P2_in_dict {d : Addr} {es : List (Str × Value)} {k : Str} (hd : σ d = some (.dict es)) (h : Q (.bool (es.lookup k).isSome) σ) : P2 Γ ql n (compareOp .In) (sv k) (.ref d) σ Q := by
  intro A s E va vb hl S ha hb
  obtain ⟨t, rfl⟩ := er_str ha
  rw [er_ref hb]
  obtain ⟨kvs, D, e, na, hv⟩ := dict_at' S hd
  refine Go.now S fun R q => wpAny_in_of (strKind_is _ _ k t) na D.mapOf (q (.bool _) _ ?_)
  have := hv k
  show Q (.bool _) σ
  rw [show (valueAt kvs k).isSome = (es.lookup k).isSome by rw [← this, Option.isSome_map]]; exact h
theorem P2_notIn_dict {d : Addr} {es : List (Str × Value)} {k : Str} (hd : σ d = some (.dict es)) (h : Q (.bool !(es.lookup k).isSome) σ) : P2 Γ ql n (compareOp .NotIn) (sv k) (.ref d) σ Q := by
  intro A s E va vb hl S ha hb
  obtain ⟨t, rfl⟩ := er_str ha
  rw [er_ref hb]
  obtain ⟨kvs, D, e, na, hv⟩ := dict_at' S hd
  refine Go.now S fun R q => wpAny_notIn_of (strKind_is _ _ k t) na D.mapOf (q (.bool _) _ ?_)
  have := hv k
  show Q (.bool _) σ
  rw [show (valueAt kvs k).isSome = (es.lookup k).isSome by rw [← this, Option.isSome_map]]; exact h
theorem PG_dict {d : Addr} {es : List (Str × Value)} {k : Str} {v : Value} (hd : σ d = some (.dict es)) (hk : es.lookup k = some v) (h : Q v σ) : PG Γ ql n (.ref d) (sv k) σ Q := by
  intro A s E va vb hl S ha hb
  obtain ⟨t, rfl⟩ := er_str hb
  rw [er_ref ha]
  obtain ⟨kvs, D, e, na, hv⟩ := dict_at' S hd
  obtain ⟨u, hu, rfl⟩ := map_er_some ((hv k).trans hk)
  exact ⟨⟨"dict", _, D.mapOf.typeIs, slot_dict_getitem.lookup⟩, Go.now S fun R q => wpAny_getItem_of (strKind_is _ _ k t) D.mapOf hu (q u _ h)⟩
theorem P3_dict {d : Addr} {es : List (Str × Value)} {k : Str} {v : Value} {Q : Store → Prop} (hd : σ d = some (.dict es)) (hlen : es.length ≤ sizeLine) (h : Q (σ.upd d (.dict (put es k v)))) : P3 Γ n setItem (.ref d) (sv k) v σ Q := by
  intro A s E va vb vc hl S ha hb hc
  obtain ⟨t, rfl⟩ := er_str hb
  rw [er_ref ha]
  obtain ⟨kvs, D, e, na⟩ := dict_at S hd
  have hn : (kvs.map (·.1)).Nodup := let ⟨_, _, _, _, _, _, _, _, hn⟩ := D; hn
  refine wpAny_setItem_pairs (strKind_is _ _ k t) D (fun h' D' sb => ⟨σ.upd d (.dict (put es k v)), ⟨h', _, rfl⟩, Keep.changed hd sb, S.changed hd sb ⟨_, D', ?_, na⟩, h⟩) (by rw [← e] at hlen; simpa using hlen)
  rw [stored_put hn, put_map, e, hc]

/-! what a call makes: new objects, the old kept -/
theorem St.grow {h h' : Heap} {D : Addr} {ao : AO} (S : St Γ σ h) (k : ∀ b o, h.get? b = some o → h'.get? b = some o) (hD : h.get? D = none) (r : OR Γ h' D ao) : St Γ (σ.upd D ao) h' := by
  refine ⟨fun b o e => ?_, fun b o e => ?_⟩
  · have q := S.old b o e
    have hb : b ≠ D := fun z => by rw [z] at q; rw [hD] at q; cases q.1
    exact ⟨k b o q.1, (Store.upd_ne _ _ hb).trans q.2⟩
  · by_cases hb : b = D
    · subst hb; rw [Store.upd_self] at e; cases e; exact r
    · rw [Store.upd_ne _ _ hb] at e
      exact (S.rep b o e).at fun q hq => k b q hq
theorem Keep.grow {X : List Addr} {h h' : Heap} {D : Addr} {ao : AO} (k : ∀ b o, h.get? b = some o → h'.get? b = some o) (hD : h.get? D = none) : Keep ql X σ h (σ.upd D ao) h' := by
  have ne : ∀ b o, h.get? b = some o → b ≠ D := fun b o e z => by rw [z, hD] at e; cases e
  exact ⟨fun b o _ e nn => ⟨k b o e, (Store.upd_ne _ _ (ne b o e)).trans nn⟩, Store.up_upd, fun _ b o e => ⟨k b o e, Store.upd_ne _ _ (ne b o e)⟩⟩
theorem St.same {h h' : Heap} (S : St Γ σ h) (k : ∀ b o, h.get? b = some o → h'.get? b = some o) : St Γ σ h' :=
  ⟨fun b o e => ⟨k b o (S.old b o e).1, (S.old b o e).2⟩, fun b o e => (S.rep b o e).at fun q hq => k b q hq⟩
theorem Keep.same {X : List Addr} {h h' : Heap} (k : ∀ b o, h.get? b = some o → h'.get? b = some o) : Keep ql X σ h σ h' :=
  ⟨fun b o _ e nn => ⟨k b o e, nn⟩, fun _ e => e, fun _ b o e => ⟨k b o e, rfl⟩⟩
theorem none_at {h : Heap} {b : Addr} (hb : h.objs.size ≤ b) : h.get? b = none := by
  cases q : h.get? b with
  | none => rfl
  | some o => exact absurd (Heap.lt_size q) (Nat.not_lt.mpr hb)
theorem St.big {h : Heap} (S : St Γ σ h) : sysModules < h.objs.size := by
  obtain ⟨o, _, _, ho, _⟩ := Γ.g
  exact Nat.lt_trans (show sysModules < mainGlobals by decide) (Heap.lt_size (S.keep _ _ ho))

theorem TE_Dict0 {pos : Pos} (h : ∀ D, σ D = none → Q (.ref D) (σ.upd D (.dict []))) : TE Γ ql n sc (.Dict [] [] pos) m σ Q := by
  intro A env s E hl he S F
  refine wpAny_Dict_empty ⟨σ.upd s.heap.objs.size (.dict []), ⟨_, s.toks, rfl⟩, Keep.push, S.push ⟨[], Heap.DictOf.new _, rfl, Nat.ne_of_gt S.big⟩, h _ S.newNone⟩

/-! in a list, a tuple of strs -/
theorem beq_dec (a b : Str) : (a == b) = decide (a = b) := by
  by_cases h : a = b
  · subst h; simp
  · simp [h]
def eqS (x : Str) : Value → Bool
  | .str y _ => decide (y = x)
  | _ => false
theorem any_eqS {x : Str} {vs : Array Value} {ys : List Str} (e : vs.toList.map er = ys.map sv) : vs.any (eqS x) = decide (x ∈ ys) := by
  rw [← Array.any_toList]
  generalize vs.toList = l at e
  induction l generalizing ys with
  | nil => cases ys with | nil => simp | cons => cases e
  | cons v l ih =>
    cases ys with
    | nil => cases e
    | cons y ys =>
      simp only [List.map_cons, List.cons.injEq] at e
      obtain ⟨t, rfl⟩ := er_str e.1
      rw [List.any_cons, ih e.2]
      show (decide (y = x) || _) = _
      by_cases h : x = y
      · subst h; simp
      · have : ¬ y = x := fun q => h q.symm
        simp [h, this]
theorem eqS_at {A : Around} {s : Shared} {x : Str} {t : Tok} {vs : Array Value} {ys : List Str} (e : vs.toList.map er = ys.map sv) : ∀ y, y ∈ vs → SeqAt.EqAt A s y (.str x t) (eqS x y) := fun y hy => by
  have : er y ∈ vs.toList.map er := List.mem_map.mpr ⟨y, Array.mem_def.mp hy, rfl⟩
  rw [e] at this
  obtain ⟨z, _, hz⟩ := List.mem_map.mp this
  obtain ⟨u, rfl⟩ := er_str hz.symm
  have := SeqAt.EqAt.str_str (A := A) (s := s) z u x t
  rw [beq_dec] at this
  exact this
theorem P2_in_list {a : Addr} {ys : List Str} {x : Str} (ha : σ a = some (.list (ys.map sv))) (h : Q (.bool (decide (x ∈ ys))) σ) : P2 Γ ql n (compareOp .In) (sv x) (.ref a) σ Q := by
  intro A s E va vb hl S hx hb
  obtain ⟨t, rfl⟩ := er_str hx
  rw [er_ref hb]
  obtain ⟨vs, c, hL, e⟩ := list_at S ha
  exact Go.now S fun R q => SeqAt.in_listAt (eqS x) ⟨_, hL, rfl, c, rfl⟩ (eqS_at e) (q (.bool _) s.toks (by rw [any_eqS e]; exact h))
theorem P2_notIn_list {a : Addr} {ys : List Str} {x : Str} (ha : σ a = some (.list (ys.map sv))) (h : Q (.bool (!decide (x ∈ ys))) σ) : P2 Γ ql n (compareOp .NotIn) (sv x) (.ref a) σ Q := by
  intro A s E va vb hl S hx hb
  obtain ⟨t, rfl⟩ := er_str hx
  rw [er_ref hb]
  obtain ⟨vs, c, hL, e⟩ := list_at S ha
  exact Go.now S fun R q => SeqAt.notIn_listAt (eqS x) ⟨_, hL, rfl, c, rfl⟩ (eqS_at e) (q (.bool _) s.toks (by rw [any_eqS e]; exact h))
theorem P2_in_tuple {a : Addr} {ys : List Str} {x : Str} (ha : σ a = some (.tup (ys.map sv))) (h : Q (.bool (decide (x ∈ ys))) σ) : P2 Γ ql n (compareOp .In) (sv x) (.ref a) σ Q := by
  intro A s E va vb hl S hx hb
  obtain ⟨t, rfl⟩ := er_str hx
  rw [er_ref hb]
  obtain ⟨vs, c, hL, e⟩ : ∃ vs n, s.heap.get? a = some { cls := .type "tuple", data := .seq vs n } ∧ vs.toList.map er = ys.map sv := S.rep a _ ha
  exact Go.now S fun R q => SeqAt.in_tupleAt (eqS x) ⟨_, hL, rfl, c, rfl⟩ (eqS_at e) (q (.bool _) s.toks (by rw [any_eqS e]; exact h))
def eqB (b : Bool) : Value → Bool
  | .bool c => c == b
  | _ => false
theorem any_eqB {b : Bool} : ∀ {l : List Value} {bs : List Bool}, l.map er = bs.map Value.bool → l.any (eqB b) = decide (b ∈ bs)
  | [], [], _ => by simp
  | [], _ :: _, e => by cases e
  | _ :: _, [], e => by cases e
  | v :: l, c :: bs, e => by
    simp only [List.map_cons, List.cons.injEq] at e
    rw [er_bool e.1, List.any_cons, any_eqB e.2]
    show ((c == b) || _) = _
    cases b <;> cases c <;> simp
theorem P2_notIn_bools {a : Addr} {bs : List Bool} {b : Bool} (ha : σ a = some (.list (bs.map .bool))) (h : Q (.bool (!decide (b ∈ bs))) σ) : P2 Γ ql n (compareOp .NotIn) (.bool b) (.ref a) σ Q := by
  intro A s E va vb hl S hx hb
  rw [er_bool hx, er_ref hb]
  obtain ⟨vs, c, hL, e⟩ := list_at S ha
  refine Go.now S fun R q => SeqAt.notIn_listAt (eqB b) ⟨_, hL, rfl, c, rfl⟩ (fun y hy => ?_) (q (.bool _) s.toks (by rw [← Array.any_toList, any_eqB e]; exact h))
  have : er y ∈ vs.toList.map er := List.mem_map.mpr ⟨y, Array.mem_def.mp hy, rfl⟩
  rw [e] at this
  obtain ⟨z, _, hz⟩ := List.mem_map.mp this
  rw [er_bool hz.symm]
  exact SeqAt.EqAt.bool_bool z b

/-! lists of strs compared -/
theorem all_range {xs ys : List Str} (hl : xs.length = ys.length) : ((List.range xs.length).all fun i => decide (xs.getD i Str.empty = ys.getD i Str.empty)) = decide (xs = ys) := by
  induction xs generalizing ys with
  | nil => cases ys with | nil => simp | cons => cases hl
  | cons x xs ih =>
    cases ys with
    | nil => cases hl
    | cons y ys =>
      rw [List.length_cons, List.range_succ_eq_map, List.all_cons, List.all_map]
      have := ih (ys := ys) (Nat.succ.inj hl)
      have e : ((fun i => decide ((x :: xs).getD i Str.empty = (y :: ys).getD i Str.empty)) ∘ Nat.succ) = fun i => decide (xs.getD i Str.empty = ys.getD i Str.empty) := by
        funext i; simp
      rw [e, this]
      by_cases h : x = y <;> simp [h]
theorem rows_eq {A : Around} {s : Shared} {vs us : Array Value} {xs ys : List Str} (e : vs.toList.map er = xs.map sv) (e' : us.toList.map er = ys.map sv) :
    ∀ j (h1 : j < vs.size) (h2 : j < us.size), SeqAt.EqAt A s vs[j] us[j] (decide (xs.getD j Str.empty = ys.getD j Str.empty)) := fun j h1 h2 => by
  have a : (vs.toList.map er)[j]? = some (er vs[j]) := by simp [h1]
  have b : (us.toList.map er)[j]? = some (er us[j]) := by simp [h2]
  rw [e, List.getElem?_map] at a
  rw [e', List.getElem?_map] at b
  cases p : xs[j]? with
  | none => rw [p] at a; cases a
  | some x =>
    cases q : ys[j]? with
    | none => rw [q] at b; cases b
    | some y =>
      rw [p] at a; rw [q] at b
      obtain ⟨t, ht⟩ := er_str (Option.some.inj a).symm
      obtain ⟨u, hu⟩ := er_str (Option.some.inj b).symm
      rw [ht, hu, List.getD_eq_getElem?_getD, List.getD_eq_getElem?_getD, p, q]
      have := SeqAt.EqAt.str_str (A := A) (s := s) x t y u
      rw [beq_dec] at this
      exact this
theorem P2_eq_list {a b : Addr} {xs ys : List Str} (ha : σ a = some (.list (xs.map sv))) (hb : σ b = some (.list (ys.map sv))) (h : Q (.bool (decide (xs = ys))) σ) : P2 Γ ql n (compareOp .Eq) (.ref a) (.ref b) σ Q := by
  intro A s E va vb hl S hx hy
  rw [er_ref hx, er_ref hy]
  obtain ⟨vs, c, hL, e⟩ := list_at S ha
  obtain ⟨us, c', hL', e'⟩ := list_at S hb
  have sz : vs.size = xs.length := by have := congrArg List.length e; simpa using this
  have sz' : us.size = ys.length := by have := congrArg List.length e'; simpa using this
  refine Go.now S fun R q => ?_
  by_cases hlen : xs.length = ys.length
  · refine SeqAt.eq_listAt ⟨_, hL, rfl, c, rfl⟩ ⟨_, hL', rfl, c', rfl⟩ (by omega) hl.units' (rows_eq e e') (q (.bool _) s.toks ?_)
    rw [sz, all_range hlen]; exact h
  · refine SeqAt.eq_list_lengthsAt ⟨_, hL, rfl, c, rfl⟩ ⟨_, hL', rfl, c', rfl⟩ (by rw [sz, sz']; simpa using hlen) hl.units' (q (.bool _) s.toks ?_)
    rw [decide_eq_false (fun z => hlen (by rw [z]))] at h; exact h
theorem P2_ne_list {a b : Addr} {xs ys : List Str} (ha : σ a = some (.list (xs.map sv))) (hb : σ b = some (.list (ys.map sv))) (h : Q (.bool (!decide (xs = ys))) σ) : P2 Γ ql n (compareOp .NotEq) (.ref a) (.ref b) σ Q := by
  intro A s E va vb hl S hx hy
  rw [er_ref hx, er_ref hy]
  obtain ⟨vs, c, hL, e⟩ := list_at S ha
  obtain ⟨us, c', hL', e'⟩ := list_at S hb
  have sz : vs.size = xs.length := by have := congrArg List.length e; simpa using this
  have sz' : us.size = ys.length := by have := congrArg List.length e'; simpa using this
  refine Go.now S fun R q => ?_
  by_cases hlen : xs.length = ys.length
  · refine SeqAt.RcNeAt.lists ⟨_, hL, rfl, c, rfl⟩ ⟨_, hL', rfl, c', rfl⟩ (by omega) hl.units' (rows_eq e e') _ _ _ _ (q (.bool _) s.toks ?_)
    rw [sz, all_range hlen]; exact h
  · refine SeqAt.RcNeAt.lists_lengths ⟨_, hL, rfl, c, rfl⟩ ⟨_, hL', rfl, c', rfl⟩ (by rw [sz, sz']; simpa using hlen) hl.units' _ _ _ _ (q (.bool _) s.toks ?_)
    rw [decide_eq_false (fun z => hlen (by rw [z]))] at h; exact h
/-- two dicts of lists of strs, alike -/
theorem list_eqAt {A : Around} {s : Shared} {a b : Addr} {xs : List Str} (hu : A.units < cLine) (S : St Γ σ s.heap) (ha : σ a = some (.list (xs.map sv))) (hb : σ b = some (.list (xs.map sv))) : SeqAt.EqAt A s (.ref a) (.ref b) true := by
  by_cases h : a = b
  · subst h; exact SeqAt.EqAt.same _
  · obtain ⟨vs, c, hL, e⟩ := list_at S ha
    obtain ⟨us, c', hL', e'⟩ := list_at S hb
    have sz : vs.size = xs.length := by have := congrArg List.length e; simpa using this
    have sz' : us.size = xs.length := by have := congrArg List.length e'; simpa using this
    have := SeqAt.RcAt.lists (A := A) ⟨_, hL, rfl, c, rfl⟩ ⟨_, hL', rfl, c', rfl⟩ (by omega) hu (rows_eq e e')
    rw [sz, all_range rfl, decide_eq_true rfl] at this
    exact SeqAt.EqAt.of_refs h this
theorem P2_ne_dict {a b : Addr} {ea eb : List (Str × Value)} (ha : σ a = some (.dict ea)) (hb : σ b = some (.dict eb)) (hlen : ea.length = eb.length)
    (hall : ∀ p ∈ ea, ∃ (x y : Addr) (xs : List Str), p.2 = .ref x ∧ eb.lookup p.1 = some (.ref y) ∧ σ x = some (.list (xs.map sv)) ∧ σ y = some (.list (xs.map sv))) (h : Q (.bool false) σ) : P2 Γ ql (n + 1) (compareOp .NotEq) (.ref a) (.ref b) σ Q := by
  intro A s E va vb hl S hx hy
  rw [er_ref hx, er_ref hy]
  obtain ⟨ka, Da, e, na, hv⟩ := dict_at' S ha
  obtain ⟨kb, Db, e', nb, hv'⟩ := dict_at' S hb
  have sz : ka.length = kb.length := by rw [← e, ← e'] at hlen; simpa using hlen
  refine Go.now S fun R q => keq_ne (r := true) na nb Da Db hl.units' (fun _ => ?_) (q (.bool _) s.toks (by rw [sz]; show Q (.bool _) σ; simpa using h))
  have hu : A.in1.units < cLine := by have := hl.units; show A.units + 1 < cLine; unfold cLine; omega
  have this : ∀ p ∈ ka, ∃ (x y : Addr) (xs : List Str), er p.2 = .ref x ∧ eb.lookup p.1 = some (.ref y) ∧ σ x = some (.list (xs.map sv)) ∧ σ y = some (.list (xs.map sv)) := fun p hp =>
    hall (p.1, er p.2) (by rw [← e]; exact List.mem_map.mpr ⟨p, hp, rfl⟩)
  clear e hv Da hlen sz
  rename_i zz
  clear zz
  induction ka with
  | nil => exact .nil
  | cons p r ih =>
    obtain ⟨x, y, xs, hx', hy', h1, h2⟩ := this p (List.mem_cons_self ..)
    obtain ⟨k, v⟩ := p
    obtain ⟨u, hu', he⟩ := map_er_some ((hv' k).trans hy')
    have hh := KeqHits.hit (r := r) hu' (v := v) (e := true) (b := true) (by have hx2 : er v = .ref x := hx'; rw [er_ref hx2, er_ref he]; exact list_eqAt hu S h1 h2) (ih fun p hp => this p (List.mem_cons_of_mem _ hp))
    exact hh
end
end

noncomputable section
variable {Γ : Gd}

noncomputable section
variable {ql : Bool} {n : Nat} {sc : Scope} {m : Loc} {σ : Store} {Q : Value → Store → Prop}

theorem P2_add_list {a b : Addr} {xs ys : List Value} (ha : σ a = some (.list xs)) (hb : σ b = some (.list ys)) (hlen : xs.length + ys.length ≤ sizeLine) (h : ∀ D, σ D = none → Q (.ref D) (σ.upd D (.list (xs ++ ys)))) : P2 Γ ql n (binaryOp .Add) (.ref a) (.ref b) σ Q := by
  intro A s E va vb hl S hx hy
  rw [er_ref hx, er_ref hy]
  obtain ⟨vs, c, hL, e⟩ := list_at S ha
  obtain ⟨us, c', hL', e'⟩ := list_at S hb
  have sz : vs.size = xs.length := by have := congrArg List.length e; simpa using this
  have sz' : us.size = ys.length := by have := congrArg List.length e'; simpa using this
  refine P.add_list hL hL' ⟨σ.upd s.heap.objs.size (.list (xs ++ ys)), ⟨_, s.toks, rfl⟩, Keep.push, S.push ⟨_, 0, Heap.get?_push_size _ rfl, ?_⟩, h _ S.newNone⟩ (by omega)
  rw [Array.toList_append, List.map_append, e, e']

theorem args1 {vs : List Value} {a : Value} (h : vs.map er = [a]) : ∃ u, vs = [u] ∧ er u = a := by
  match vs with
  | [] => cases h
  | [u] => exact ⟨u, rfl, by simpa using h⟩
  | _ :: _ :: _ => simp at h
theorem args2 {vs : List Value} {a b : Value} (h : vs.map er = [a, b]) : ∃ u v, vs = [u, v] ∧ er u = a ∧ er v = b := by
  match vs with
  | [] => cases h
  | [u] => simp at h
  | [u, v] => exact ⟨u, v, rfl, by simpa using h⟩
  | _ :: _ :: _ :: _ => simp at h
/-! lists' methods -/
theorem Meth.list {a : Addr} {xs : List Value} {name : Str} {id : String} (ha : σ a = some (.list xs)) (slot : Slot "list" name id) (ty : typeOf (.builtin id) = pure (.type "method_descriptor") := by kernel_rfl) : Meth Γ (.ref a) name σ (.builtin id) [.ref a] := by
  intro A s E v pl Q S hv q
  rw [er_ref hv]
  obtain ⟨vs, c, hL, e⟩ := list_at S ha
  exact getMethod_builtin ⟨_, hL, rfl⟩ F.plainAttrs_list slot ty (fun b hb => by cases hb; exact ⟨_, hL, rfl⟩) (q _ rfl)
theorem TC_append {a : Addr} {xs : List Value} {v : Value} (ha : σ a = some (.list xs)) (hlen : xs.length ≤ sizeLine) (h : Q .none (σ.upd a (.list (xs ++ [v])))) : TC Γ false n (.builtin "list.append") [.ref a, v] σ Q := by
  intro A s E vs hl S hv
  obtain ⟨u, v', e0, hw⟩ := args2 hv
  subst e0
  clear hv
  have hv := hw
  clear hw
  · obtain ⟨h1, rfl⟩ := hv
    rw [er_ref h1]
    obtain ⟨us, c, hL, e⟩ := list_at S ha
    have sz : us.size = xs.length := by have := congrArg List.length e; simpa using this
    refine call_meets F.slot_list_append ⟨_, hL, rfl⟩ F.entry_list_append (F.args_list_append_2 _ _) (list_append a us c v' (by omega)) ⟨hL, ?_⟩
    refine ⟨σ.upd a (.list (xs ++ [er v'])), ⟨_, s.toks, rfl⟩, Keep.changed ha (Heap.SameBut.update ..), S.changed ha (Heap.SameBut.update ..) ⟨_, _, hL.update _, ?_⟩, h⟩
    rw [Array.toList_push, List.map_append, e]; rfl
theorem map_erase {α β : Type} {f : α → β} : ∀ {l : List α} {k : Nat}, (l.eraseIdx k).map f = (l.map f).eraseIdx k
  | [], _ => rfl
  | _ :: _, 0 => rfl
  | x :: l, k + 1 => by simp [map_erase]
theorem TC_pop {a : Addr} {xs : List Value} {v : Value} (ha : σ a = some (.list (xs ++ [v]))) (hlen : xs.length < sizeLine) (h : Q v (σ.upd a (.list xs))) : TC Γ false n (.builtin "list.pop") [.ref a] σ Q := by
  intro A s E vs hl S hv
  obtain ⟨u, e0, hw⟩ := args1 hv
  subst e0
  clear hv
  have hv := hw
  clear hw
  · rw [er_ref hv]
    obtain ⟨us, c, hL, e⟩ := list_at S ha
    have sz : us.size = xs.length + 1 := by have := congrArg List.length e; simpa using this
    obtain ⟨y, hy, hye⟩ := get_er (i := us.size - 1) e (v := v) (by rw [sz]; simp)
    refine call_meets F.slot_list_pop ⟨_, hL, rfl⟩ F.entry_list_pop (F.args_list_pop_1 _) (MeetsSeq.list_pop_last a us c y hy (by omega)) ⟨hL, ?_⟩
    refine ⟨σ.upd a (.list xs), ⟨_, s.toks, rfl⟩, Keep.changed ha (Heap.SameBut.update ..), S.changed ha (Heap.SameBut.update ..) ⟨_, _, hL.update _, ?_⟩, by show Q (er y) _; rw [hye]; exact h⟩
    rw [Array.toList_eraseIdxIfInBounds, sz]
    simp only [Nat.add_sub_cancel]
    have : (us.toList.eraseIdx xs.length).map er = (xs ++ [v]).eraseIdx xs.length := by rw [← e, map_erase]
    rw [this]
    rw [List.eraseIdx_append_of_length_le (Nat.le_refl _)]
    simp
theorem index_at {us : Array Value} {xs : List Str} {x : Str} (e : us.toList.map er = xs.map sv) {j : Nat} (hj : j < us.size) : eqS x us[j] = decide (xs.getD j Str.empty = x) := by
  have a : (us.toList.map er)[j]? = some (er us[j]) := by simp [hj]
  rw [e, List.getElem?_map] at a
  cases p : xs[j]? with
  | none => rw [p] at a; cases a
  | some y =>
    rw [p] at a
    obtain ⟨t, ht⟩ := er_str (Option.some.inj a).symm
    rw [ht, List.getD_eq_getElem?_getD, p]; rfl
theorem TC_index {a : Addr} {xs : List Str} {x : Str} (ha : σ a = some (.list (xs.map sv))) (hx : x ∈ xs) (hlen : xs.length ≤ sizeLine) (h : Q (.int (xs.idxOf x : Nat) 0) σ) : TC Γ ql n (.builtin "list.index") [.ref a, sv x] σ Q := by
  intro A s E vs hl S hv
  obtain ⟨u, v', e0, hw⟩ := args2 hv
  subst e0
  clear hv
  have hv := hw
  clear hw
  · obtain ⟨h1, h2⟩ := hv
    obtain ⟨t, rfl⟩ := er_str h2
    rw [er_ref h1]
    obtain ⟨us, c, hL, e⟩ := list_at S ha
    have sz : us.size = xs.length := by have := congrArg List.length e; simpa using this
    have hi : xs.idxOf x < xs.length := List.idxOf_lt_length_iff.mpr hx
    have sl : sizeLine < 2 ^ 62 := by rw [sizeLine_eq]; decide
    refine Go.now S fun R q => call_meets F.slot_list_index ⟨_, hL, rfl⟩ F.entry_list_index (F.args_list_index_2 _ _) (MeetsSeq.list_index a us c (.str x t) (eqS x) (fun y hy => ?_) (xs.idxOf x) (by omega) (by omega) ?_ ?_) ⟨hL, q (.int _ _) _ h⟩
    · have : er y ∈ us.toList.map er := List.mem_map.mpr ⟨y, Array.mem_def.mp hy, rfl⟩
      rw [e] at this
      obtain ⟨z, _, hz⟩ := List.mem_map.mp this
      obtain ⟨u, rfl⟩ := er_str hz.symm
      have := SeqRoads2.EqGives.str z x u t
      rw [str_beq] at this
      exact this
    · rw [index_at e (by omega)]
      rw [List.getD_eq_getElem?_getD, List.getElem?_eq_getElem hi]
      simp
    · intro i hi' hlt
      rw [index_at e (by omega)]
      rw [List.getD_eq_getElem?_getD, List.getElem?_eq_getElem (by omega)]
      have := List.not_of_lt_findIdx (p := (· == x)) (xs := xs) (i := i) hlt
      simpa using this

/-! builtins called -/
theorem TC_len_list {a : Addr} {xs : List Value} (ha : σ a = some (.list xs)) (hlen : xs.length ≤ sizeLine) (h : Q (.int (xs.length : Nat) 0) σ) : TC Γ ql n (.builtin "len") [.ref a] σ Q := by
  intro A s E vs hl S hv
  obtain ⟨u, e0, hw⟩ := args1 hv
  subst e0
  clear hv
  have hv := hw
  clear hw
  · rw [er_ref hv]
    obtain ⟨us, c, hL, e⟩ := list_at S ha
    have sz : us.size = xs.length := by have := congrArg List.length e; simpa using this
    have sl : sizeLine < 2 ^ 62 := by rw [sizeLine_eq]; decide
    exact Go.now S fun R q => call_len_list ⟨_, hL, rfl, c, rfl⟩ (by omega) (q (.int _ _) _ (by rw [sz]; exact h))
theorem TC_len_str {x : Str} (hlen : x.length ≤ sizeLine) (h : Q (.int (x.length : Nat) 0) σ) : TC Γ ql n (.builtin "len") [sv x] σ Q := by
  intro A s E vs hl S hv
  obtain ⟨u, e0, hw⟩ := args1 hv
  subst e0
  clear hv
  have hv := hw
  clear hw
  · obtain ⟨t, rfl⟩ := er_str hv
    have sl : sizeLine < 2 ^ 62 := by rw [sizeLine_eq]; decide
    exact Go.now S fun R q => P.len_str (by omega) (q (.int _ _) _ h)
theorem TC_len_set {a : Addr} {k : Nat} (ha : σ a = some (.set k)) (hlen : k ≤ sizeLine) (h : Q (.int (k : Nat) 0) σ) : TC Γ ql n (.builtin "len") [.ref a] σ Q := by
  intro A s E vs hl S hv
  obtain ⟨u, e0, hw⟩ := args1 hv
  subst e0
  clear hv
  have hv := hw
  clear hw
  · rw [er_ref hv]
    obtain ⟨_, o, es, ep, t, ho, hex, hd, _, _, _, hf, rfl⟩ : ∃ S', s.heap.SetOf (strKind Γ.prog Γ.w) a S' k := S.rep a _ ha
    have sl : sizeLine < 2 ^ 62 := by rw [sizeLine_eq]; decide
    exact Go.now S fun R q => call_len_set ho hex hd hf (by omega) (q (.int _ _) _ h)
theorem TC_max2 {a b : Int} (h : Q (.int (if b > a then b else a) 0) σ) : TC Γ ql n (.builtin "max") [.int a 0, .int b 0] σ Q := by
  intro A s E vs hl S hv
  obtain ⟨u, v, e0, hw⟩ := args2 hv
  subst e0
  clear hv
  have hv := hw
  clear hw
  · obtain ⟨t, rfl⟩ := er_int hv.1
    obtain ⟨t', rfl⟩ := er_int hv.2
    refine max_two_ints hl.hand fun h' tk hk => ⟨σ, ⟨_, _, rfl⟩, Keep.same hk, S.same hk, ?_⟩
    show Q (er (if b > a then Value.int b t' else Value.int a t)) σ
    rw [show er (if b > a then Value.int b t' else Value.int a t) = .int (if b > a then b else a) 0 by split <;> rfl]; exact h
theorem TC_min2 {a b : Int} (h : Q (.int (if b < a then b else a) 0) σ) : TC Γ ql n (.builtin "min") [.int a 0, .int b 0] σ Q := by
  intro A s E vs hl S hv
  obtain ⟨u, v, e0, hw⟩ := args2 hv
  subst e0
  clear hv
  have hv := hw
  clear hw
  · obtain ⟨t, rfl⟩ := er_int hv.1
    obtain ⟨t', rfl⟩ := er_int hv.2
    refine min_two_ints hl.hand fun h' tk hk => ⟨σ, ⟨_, _, rfl⟩, Keep.same hk, S.same hk, ?_⟩
    show Q (er (if b < a then Value.int b t' else Value.int a t)) σ
    rw [show er (if b < a then Value.int b t' else Value.int a t) = .int (if b < a then b else a) 0 by split <;> rfl]; exact h
theorem TC_ord {x : Str} (h1 : x.length = 1) (h : Q (.int (x.cps.getD 0 0 : Nat) 0) σ) : TC Γ ql n (.builtin "ord") [sv x] σ Q := by
  intro A s E vs hl S hv
  obtain ⟨u, e0, hw⟩ := args1 hv
  subst e0
  clear hv
  have hv := hw
  clear hw
  · obtain ⟨t, rfl⟩ := er_str hv
    exact Go.now S fun R q => ord_of_one h1 (q (.int _ _) _ h)
theorem TC_range {k : Int} (h : ∀ D, σ D = none → Q (.ref D) (σ.upd D (.range k))) : TC Γ ql n (.type "range") [.int k 0] σ Q := by
  intro A s E vs hl S hv
  obtain ⟨u, e0, hw⟩ := args1 hv
  subst e0
  clear hv
  have hv := hw
  clear hw
  · obtain ⟨t, rfl⟩ := er_int hv
    exact call_range_1 ⟨σ.upd s.heap.objs.size (.range k), ⟨_, _, rfl⟩, Keep.push, S.push ⟨_, _, _, Heap.get?_push_size _ rfl⟩, h _ S.newNone⟩
theorem TC_dict {d : Addr} {es : List (Str × Value)} (hd : σ d = some (.dict es)) (hlen : es.length ≤ sizeLine) (h : ∀ D, σ D = none → Q (.ref D) (σ.upd D (.dict es))) : TC Γ ql n (.type "dict") [.ref d] σ Q := by
  intro A s E vs hl S hv
  obtain ⟨u, e0, hw⟩ := args1 hv
  subst e0
  clear hv
  have hv := hw
  clear hw
  · rw [er_ref hv]
    obtain ⟨kvs, D, e, na⟩ := dict_at S hd
    have nD := none_at (h := s.heap) (Nat.le_refl _)
    refine kt_call_dict (nm na) D (by rw [← e] at hlen; simpa using hlen) fun h' D' sb => ?_
    have hk : ∀ b o, s.heap.get? b = some o → h'.get? b = some o := fun b o hb => by
      rw [sb.2 b (Nat.ne_of_lt (Heap.lt_size hb))]; exact Heap.get?_push_of_some _ hb
    exact ⟨σ.upd s.heap.objs.size (.dict es), ⟨_, s.toks, rfl⟩, Keep.grow hk nD, S.grow hk nD ⟨kvs, D', e, Nat.ne_of_gt S.big⟩, h _ S.newNone⟩

/-! sorted -/
def ltS (a b : Str) : Bool := decide (a.cps.toList < b.cps.toList)
noncomputable def ins (x : Str) : List Str → List Str
  | [] => [x]
  | y :: r => if ltS y x then y :: ins x r else x :: y :: r
noncomputable def srt : List Str → List Str
  | [] => []
  | x :: r => ins x (srt r)
theorem ins_perm {x : Str} : ∀ {l : List Str}, (ins x l).Perm (x :: l)
  | [] => List.Perm.refl _
  | y :: r => by
    unfold ins
    split
    · exact (List.Perm.cons y ins_perm).trans (List.Perm.swap ..)
    · exact List.Perm.refl _
theorem srt_perm : ∀ {l : List Str}, (srt l).Perm l
  | [] => List.Perm.refl _
  | x :: r => ins_perm.trans (List.Perm.cons x srt_perm)
def UpS (l : List Str) : Prop := l.Pairwise fun a b => ltS b a = false
theorem ltS_trans {a b c : Str} (h : ltS a b = true) (h' : ltS b c = true) : ltS a c = true := by
  unfold ltS at *
  simp only [decide_eq_true_eq] at *
  exact List.lt_trans h h'
theorem ltS_total {a b : Str} (h : ltS a b = false) (h' : ltS b a = false) : a = b := by
  unfold ltS at *
  simp only [decide_eq_false_iff_not] at *
  have := List.le_antisymm (List.not_lt.mp h') (List.not_lt.mp h)
  cases a; cases b
  simp only [Str.mk.injEq]
  exact Array.toList_inj.mp this
theorem leS_trans {a b c : Str} (h : ltS b a = false) (h' : ltS c b = false) : ltS c a = false := by
  unfold ltS at *
  simp only [decide_eq_false_iff_not, List.not_lt] at *
  exact List.le_trans h h'
theorem ltS_asymm {a b : Str} (h : ltS a b = true) : ltS b a = false := by
  unfold ltS at *
  simp only [decide_eq_true_eq, decide_eq_false_iff_not] at *
  exact List.lt_asymm h
theorem ins_up {x : Str} : ∀ {l : List Str}, UpS l → UpS (ins x l)
  | [], _ => List.pairwise_singleton ..
  | y :: r, h => by
    obtain ⟨h1, h2⟩ := List.pairwise_cons.mp h
    unfold ins
    split
    · rename_i hy
      refine List.pairwise_cons.mpr ⟨fun z hz => ?_, ins_up h2⟩
      rcases List.mem_cons.mp (ins_perm.mem_iff.mp hz) with rfl | hz
      · exact ltS_asymm hy
      · exact h1 z hz
    · rename_i hy
      have hy : ltS y x = false := by simpa using hy
      refine List.pairwise_cons.mpr ⟨fun z hz => ?_, h⟩
      rcases List.mem_cons.mp hz with rfl | hz
      · exact hy
      · exact leS_trans hy (h1 z hz)
theorem srt_up : ∀ {l : List Str}, UpS (srt l)
  | [] => List.Pairwise.nil
  | x :: r => ins_up srt_up
theorem srt_unique {l l' : List Str} (p : l'.Perm l) (u : UpS l') : l' = srt l :=
  (p.trans srt_perm.symm).eq_of_pairwise (fun a b _ _ h1 h2 => ltS_total h2 h1) u srt_up
end
end

noncomputable section
variable {Γ : Gd}

theorem strsAre_of : ∀ {vs : List Value} {ss : List Str}, vs.map er = ss.map sv → StrsAre vs ss
  | [], [], _ => .nil
  | [], _ :: _, h => by cases h
  | _ :: _, [], h => by cases h
  | v :: vs, x :: ss, h => by
    simp only [List.map_cons, List.cons.injEq] at h
    obtain ⟨t, rfl⟩ := er_str h.1
    exact .cons x t (strsAre_of h.2)
theorem of_strsAre : ∀ {vs : List Value} {ss : List Str}, StrsAre vs ss → vs.map er = ss.map sv
  | _, _, .nil => rfl
  | _, _, .cons y t r => by rw [List.map_cons, List.map_cons, of_strsAre r]; rfl
theorem up_of_sorted : ∀ {l : List Str}, sortedS l = true → UpS l
  | [], _ => List.Pairwise.nil
  | [x], _ => List.pairwise_singleton ..
  | x :: y :: r, h => by
    have h : (!PySem.Spec.ltCps y.cps.toList x.cps.toList && risingS y r) = true := h
    rw [Bool.and_eq_true] at h
    have ih : UpS (y :: r) := up_of_sorted (l := y :: r) h.2
    have hxy : ltS y x = false := by have := h.1; rw [ltCps_eq] at this; unfold ltS; simpa using this
    refine List.pairwise_cons.mpr ⟨fun z hz => ?_, ih⟩
    rcases List.mem_cons.mp hz with rfl | hz
    · exact hxy
    · exact leS_trans hxy ((List.pairwise_cons.mp ih).1 z hz)

noncomputable section
variable {ql : Bool} {n : Nat} {sc : Scope} {m : Loc} {σ : Store} {Q : Value → Store → Prop}

theorem TC_sorted_list {a : Addr} {xs : List Str} (ha : σ a = some (.list (xs.map sv))) (hlen : xs.length < 64) (h : ∀ D, σ D = none → Q (.ref D) (σ.upd D (.list ((srt xs).map sv)))) : TC Γ ql n (.builtin "sorted") [.ref a] σ Q := by
  intro A s E vs hl S hv
  obtain ⟨u, rfl, hu⟩ := args1 hv
  rw [er_ref hu]
  obtain ⟨us, c, hL, e⟩ := list_at S ha
  refine sorted_strs (vs := us.toList) ⟨_, hL, rfl, c, by rw [Array.toArray_toList]⟩ (strsAre_of e) (by have := congrArg List.length e; simp at this; simpa [this] using hlen) fun out ss' h1 h2 h3 => ?_
  obtain ⟨ep, he⟩ := sortedAll_at s.heap us.toList out
  have hk : ∀ b o, s.heap.get? b = some o → (sortedAll s.heap us.toList out).get? b = some o := fun b o hb => sortedAll_old hb
  have nD := none_at (h := s.heap) (Nat.le_succ s.heap.objs.size)
  refine ⟨σ.upd (s.heap.objs.size + 1) (.list ((srt xs).map sv)), ⟨_, s.toks, rfl⟩, Keep.grow hk nD, S.grow hk nD ⟨out, ep, he, ?_⟩, h _ (S.free nD)⟩
  rw [of_strsAre h1, srt_unique h2 (up_of_sorted h3)]

theorem keys_of {kvs : List (Str × Value)} {l : List Value} (hl : l.length = kvs.length) (h : ∀ (j : Nat) (v : Value), l[j]? = some v → ∃ k x, kvs[j]? = some (k, x) ∧ (strKind Γ.prog Γ.w).is k v = true) : l.map er = (kvs.map (·.1)).map sv := by
  refine List.ext_getElem? fun j => ?_
  rw [List.getElem?_map, List.map_map, List.getElem?_map]
  cases q : l[j]? with
  | none =>
    have : kvs[j]? = none := by rw [List.getElem?_eq_none_iff] at q ⊢; omega
    rw [this]; rfl
  | some v =>
    obtain ⟨k, x, hk, hi⟩ := h j v q
    obtain ⟨t, rfl⟩ := Value.isStrOf_shape hi
    rw [hk]; rfl
theorem TC_sorted_dict {d : Addr} {es : List (Str × Value)} (hd : σ d = some (.dict es)) (hlen : es.length < 64) (h : ∀ D, σ D = none → Q (.ref D) (σ.upd D (.list ((srt (es.map Prod.fst)).map sv)))) : TC Γ ql n (.builtin "sorted") [.ref d] σ Q := by
  intro A s E vs hl S hv
  obtain ⟨u, rfl, hu⟩ := args1 hv
  rw [er_ref hu]
  obtain ⟨kvs, D, e, na⟩ := dict_at S hd
  obtain ⟨ep, hat⟩ := D.dictAt
  have sz : kvs.length = es.length := by rw [← e]; simp
  refine call_function_entry kind_sorted plain_sorted entry_sorted (args_sorted1 _) ?_
  unfold Builtin.«sorted»
  refine wpAny_bind (m := checkCount "sorted" 1 1 _) (wpAny_pure ?_)
  refine wpAny_bind (kdu_collect (A := A.in1) (kdl_dict (knd := strKind Γ.prog Γ.w) (kvs := kvs) (ep := ep) (nm na)) (by exact hl.hand) hat (by rw [sizeLine_eq]; omega) fun h' tk acc hk hacc => ?_)
  have hkeys : acc.toList.map er = (kvs.map (·.1)).map sv := keys_of (Γ := Γ) (by simpa using hacc.1) fun j v hj => hacc.2 j v (by rw [← Array.getElem?_toList]; exact hj)
  have hal : acc.toList.length < 64 := by have := hacc.1; simp only [Array.length_toList]; omega
  have hS := strsAre_of hkeys
  refine wpAny_bind (wpAny_newList ?_ (by rw [sizeLine_eq]; omega))
  have hoL : (h'.push (seqObj "list" acc.toList.toArray 0)).get? h'.objs.size = some (seqObj "list" acc.toList.toArray 0) := Heap.get?_push_size _ rfl
  refine wpAny_bind (wpAny_holding (wpAny_call_entry (s := { s with heap := h'.push (seqObj "list" acc.toList.toArray 0), toks := tk }) slot_list_sort ⟨_, hoL, rfl⟩ entry_list_sort
    (list_sort_treeK strKind_oneLt hoL hS.keysOf (fun v₁ v₂ rest e => keyKind_strs (by rw [← e]; exact hS)) hal fun st' a1 a2 => ⟨_, rfl, ?_⟩) (args_list_sort _)))
  obtain ⟨ss', h1, h2, h3⟩ := sorted_out_str hS a1 a2
  obtain ⟨e2, he⟩ := sortedHeap_at (out := (arrOf st').map (·.2)) hoL
  have ltb : ∀ b o, s.heap.get? b = some o → b < h'.objs.size := fun b o hb => Heap.lt_size (hk b o hb)
  have hk2 : ∀ b o, s.heap.get? b = some o → (sortedHeap (h'.push (seqObj "list" acc.toList.toArray 0)) h'.objs.size acc.toList ((arrOf st').map (·.2))).get? b = some o := fun b o hb => by
    rw [sortedHeap_old (Nat.ne_of_lt (ltb b o hb)) (by rw [size_push']; exact Nat.lt_succ_of_lt (ltb b o hb))]
    exact Heap.get?_push_of_some _ (hk b o hb)
  have nD : s.heap.get? h'.objs.size = none := by
    cases q : s.heap.get? h'.objs.size with
    | none => rfl
    | some o => exact absurd (ltb _ _ q) (Nat.lt_irrefl _)
  refine wpAny_pure ⟨_, rfl, σ.upd h'.objs.size (.list ((srt (es.map Prod.fst)).map sv)), ⟨_, tk, rfl⟩, Keep.grow hk2 nD, S.grow hk2 nD ⟨_, e2, he, ?_⟩, h _ (S.free nD)⟩
  rw [of_strsAre h1, srt_unique h2 (up_of_sorted h3), ← e, List.map_map]; rfl

/-! a set of strs, all different -/
end
theorem set_loop {prog : Program} {w : World} {A : Around} {R : Result → Shared → Prop} {I : Addr} {fp wr : List Addr} {G : Array GenState → Array GenState → Prop} {n : Nat} {P : Nat → Value → Prop} {St : Nat → Shared → Prop}
    (W : WalksS prog w A.in1 I fp wr G n P St) (S : Addr) (hSf : S ∉ fp) {xs : List Str} (hn : xs.length = n) (nd : xs.Nodup) (hval : ∀ i v, P i v → ∃ t, v = .str (xs.getD i Str.empty) t) (hb : n + 1 < scanBound) :
    ∀ (k i : Nat) (s : Shared), n - i = k → i ≤ n → St i s → s.heap.SetOf (strKind prog w) S (fun k' => decide (k' ∈ xs.take i)) i →
      (∀ s', Moved (S :: wr) G s s' → (∃ F, s'.heap.SetOf (strKind prog w) S F n) → R (.ok (.ret .none)) s') →
      codeAny (model prog w) A (.builtin "set.update.loop" ⟨[.ref S, .ref I], []⟩) R s := by
  have hSw : S ∉ wr := fun h => hSf (W.sub _ h)
  have hsub : ∀ b ∈ wr, b ∈ S :: wr := fun b hb => List.mem_cons_of_mem _ hb
  intro k
  induction k with
  | zero =>
    intro i s hk hi hst hS hR
    have hin : i = n := by omega
    refine codeAny_builtin PyProof.Rows.F.entry_set_update_loop ?_
    rw [Around.under_plainId PyProof.Rows.F.plain_set_update_loop _]
    show wpAny _ A.in1 (pyNext (.ref I) >>= _) _ _ s
    subst hin
    refine wpAny_bind (W.done s _ _ hst fun s' hm => ?_)
    show wpAny _ A.in1 (ret Value.none) _ _ s'
    exact wpAny_pure (hR s' (hm.mono hsub) (by
      obtain ⟨o, es, ep, t, ho, rest⟩ := hS
      exact ⟨_, o, es, ep, t, hm.heap S _ hSw ho, rest⟩))
  | succ k ih =>
    intro i s hk hi hst hS hR
    have hlt : i < n := by omega
    refine codeAny_builtin PyProof.Rows.F.entry_set_update_loop ?_
    rw [Around.under_plainId PyProof.Rows.F.plain_set_update_loop _]
    show wpAny _ A.in1 (pyNext (.ref I) >>= _) _ _ s
    refine wpAny_bind (W.item i s _ _ hlt hst fun v s' hP hst' hm => ?_)
    obtain ⟨t, rfl⟩ := hval i v hP
    have hS' : s'.heap.SetOf (strKind prog w) S (fun k' => decide (k' ∈ xs.take i)) i := by
      obtain ⟨o, es, ep, tb, ho, rest⟩ := hS
      exact ⟨o, es, ep, tb, hm.heap S _ hSw ho, rest⟩
    show wpAny _ A.in1 (holding [Value.str (xs.getD i Str.empty) t] (setAdd S (.str (xs.getD i Str.empty) t)) >>= _) _ _ s'
    refine wpAny_bind (wpAny_holding ?_)
    unfold setAdd
    refine wpAny_holding ?_
    refine wpAny_bind ((strKind prog w).pyHash (k := xs.getD i Str.empty) (strKind_is _ _ _ _) ?_)
    refine wpAny_setAddHashed_of (knd := strKind prog w) (s := { s' with toks := s'.toks + 1 }) (strKind_is _ _ _ _) rfl hS' (by omega) fun h' hsb hS2 => ?_
    have hx : xs[i]? = some (xs.getD i Str.empty) := by
      rw [List.getD_eq_getElem?_getD, List.getElem?_eq_getElem (by omega)]; rfl
    have hin : xs.getD i Str.empty ∉ xs.take i := fun hm => by
      obtain ⟨j, hj, he⟩ := List.getElem_of_mem hm
      rw [List.length_take] at hj
      have e1 : xs[j]? = some (xs.getD i Str.empty) := by rw [List.getElem?_eq_getElem (by omega), ← he, List.getElem_take]
      have hj' : j < xs.length := by omega
      have := (List.getElem?_inj hj' nd).mp (e1.trans hx.symm)
      omega
    have hSi : h'.SetOf (strKind prog w) S (fun k' => decide (k' ∈ xs.take (i + 1))) (i + 1) :=
      SetOf_congr hS2 (fun k' => by rw [List.take_add_one, hx]; simp only [Option.toList_some, List.mem_append, List.mem_singleton]; rw [Bool.decide_or]) (by rw [if_neg (by simpa using hin)])
    refine wpAny_pure ⟨plainId_quiet PyProof.Rows.F.plain_set_update_loop _, ih (i + 1) _ (by omega) hlt (W.frame _ s' _ _ hst' (Nat.le_succ _) fun b hb o e => ?_) hSi fun s'' hm'' hS'' => ?_⟩
    · rw [hsb.2 b (fun h : b = S => hSf (by rw [← h]; exact hb))]; exact e
    · refine hR s'' (Moved.trans W.gtrans ((hm.mono hsub).then_heap (Nat.le_succ _) fun b o hb e => ?_) hm'') hS''
      rw [hsb.2 b (fun h : b = S => hb (by rw [h]; exact List.mem_cons_self))]; exact e

noncomputable section
variable {ql : Bool} {n : Nat} {σ : Store} {Q : Value → Store → Prop}
set_option maxRecDepth 100000 in
set_option maxHeartbeats 3200000 in
theorem set_go {prog : Program} {w : World} {A : Around} {E : Value → Shared → Prop} {s : Shared} {l : Addr} {items : Array Value} {xs : List Str} {Q : Value → Shared → Prop}
    (hh : A.handled = none) (hl : s.heap.IsList l items) (hi : items.toList.map er = xs.map sv) (nd : xs.Nodup) (hb : xs.length + 1 < scanBound)
    (h : ∀ (h' : Heap) (tk : Nat) (F : Str → Bool), h'.SetOf (strKind prog w) s.heap.objs.size F xs.length → (∀ b o, b < s.heap.objs.size → s.heap.get? b = some o → h'.get? b = some o) → Q (.ref s.heap.objs.size) { s with heap := h', toks := tk }) :
    wpAny (model prog w) A (call (.type "set") [.ref l]) Q E s := by
  have hn : xs.length = items.size := by have := congrArg List.length hi; simpa using this.symm
  obtain ⟨c, tl, hmro⟩ := F.called_set.mro
  have hmade := F.called_set.made
  have hsub := F.called_set.sub
  refine wpAny_call (codeAny_of_tree ?_)
  show wpAny _ _ (callAny (.type "set") _) _ _ _
  refine wpAny_pure ⟨Code.quiet_builtin _ (by decide +kernel), codeAny_builtin F.entry_type_call ?_⟩
  rw [Around.under_plain (weight_type_call_type "set" [.ref l] []) rfl]
  have h1 := F.called_set.notType
  have h2 := F.called_set.canCreate
  have hct := F.typeCall_set_1 (.ref l)
  repeat (any_goals (first | assumption | wp_step))
  refine codeAny_mono (code_set_new_1 (.ref l) (E := E) (Q₁ := fun obj s₁ => ∃ led : Bool, obj = .ref s.heap.objs.size ∧ s₁ = { s with heap := s.heap.push { cls := .type "set", dict := none, data := .set #[] 0 (.fresh 0 0 led) } }) fun led => ⟨led, rfl, rfl⟩) fun r s₁ hr => ?_
  cases r with
  | error e => exact hr
  | ok fl =>
  cases fl
  case ret obj =>
    obtain ⟨led, rfl, rfl⟩ := hr
    have hS : (s.heap.push { cls := .type "set", dict := none, data := .set #[] 0 (.fresh 0 0 led) }).get? s.heap.objs.size = some { cls := .type "set", dict := none, data := .set #[] 0 (.fresh 0 0 led) } := Heap.get?_push_size _ rfl
    have hT : Shared.TypeIs { s with heap := s.heap.push { cls := .type "set", dict := none, data := .set #[] 0 (.fresh 0 0 led) } } (.ref s.heap.objs.size) "set" := ⟨_, hS, rfl⟩
    have hli := F.called_set.init.lookup
    have hbi := F.called_set.init.bind (.ref s.heap.objs.size)
    repeat (any_goals (first | assumption | wp_step))
    refine codeAny_mono (codeAny_call_builtin (R := wants (fun r s₂ => r = .none ∧ ∃ h' tk, s₂ = { s with heap := h', toks := tk } ∧ (∃ F, h'.SetOf (strKind prog w) s.heap.objs.size F xs.length) ∧
        (∀ b o, b < s.heap.objs.size → s.heap.get? b = some o → h'.get? b = some o)) E) F.called_set.init.plain F.entry_set_init (check_set_init_1 hT ?_)) fun r₂ s₂ hr₂ => ?_
    · obtain ⟨ol, hol, hcl, nl, hdl⟩ := hl
      obtain ⟨ocls, odict, odata, oslots⟩ := ol
      simp only at hcl hdl
      subst hcl; subst hdl
      have hol' : (s.heap.push { cls := .type "set", dict := none, data := .set #[] 0 (.fresh 0 0 led) }).get? l = some { cls := .type "list", dict := odict, data := .seq items nl, slots := oslots } := Heap.get?_push_of_some _ hol
      have hsls := F.sub_list_set
      have hslf := F.sub_list_frozenset
      have hne : (Value.type "list" == Value.type "dict") = false := by decide
      have hl1 : (s.heap.push { cls := .type "set", dict := none, data := .set #[] 0 (.fresh 0 0 led) }).IsList l items := ⟨_, hol', rfl, nl, rfl⟩
      unfold Builtin.«set.__init__» noKeywords Builtin.Frozenset.updateFrom
      generalize hPI : pyIter = PI
      wp_walk
      subst hPI
      refine wpAny_pyIter_list hl1 ?_
      refine wpAny_bind (wpAny_runValue ?_)
      have hlS : l < s.heap.objs.size := Heap.lt_size hol
      have hh3 : A.in1.in1.in1.handled = none := by simp [hh]
      have hneI : l ≠ (s.heap.push { cls := .type "set", dict := none, data := .set #[] 0 (.fresh 0 0 led) }).objs.size := by
        rw [Heap.size_push]; exact Nat.ne_of_lt (Nat.lt_succ_of_lt hlS)
      have hSf : s.heap.objs.size ∉ [(s.heap.push { cls := .type "set", dict := none, data := .set #[] 0 (.fresh 0 0 led) }).objs.size, l] := by
        rw [Heap.size_push]; simp only [List.mem_cons, List.mem_singleton, List.not_mem_nil, or_false, not_or]
        exact ⟨Nat.ne_of_lt (Nat.lt_succ_self _), Nat.ne_of_gt hlS⟩
      have hval : ∀ (i : Nat) (v : Value), items[i]? = some v → ∃ t, v = .str (xs.getD i Str.empty) t := fun i v hv => by
        have a : (items.toList.map er)[i]? = some (er v) := by simp [hv]
        rw [hi, List.getElem?_map] at a
        cases p : xs[i]? with
        | none => rw [p] at a; cases a
        | some y =>
          rw [p] at a
          obtain ⟨t, ht⟩ := er_str (Option.some.inj a).symm
          exact ⟨t, by rw [ht, List.getD_eq_getElem?_getD, p]; rfl⟩
      refine set_loop ((Walks.list hh3 _ l hneI items).toS) s.heap.objs.size hSf hn nd hval (by omega) (items.size - 0) 0 _ (by omega) (Nat.zero_le _)
        ⟨⟨_, Heap.get?_push_size _ rfl, rfl, rfl⟩, (hl1.push _)⟩ ?hS0 ?hR
      case hS0 =>
        have hget : ((s.heap.push { cls := .type "set", dict := none, data := .set #[] 0 (.fresh 0 0 led) }).push { cls := .type "list_iterator", data := .fields #[.ref l, .int 0 0] }).get? s.heap.objs.size
            = some { cls := .type "set", dict := none, data := .set #[] 0 (.fresh 0 0 led) } := Heap.get?_push_of_some _ hS
        exact SetOf_congr ((setObjOf_fresh (knd := strKind prog w) led).setOf hget (by unfold scanBound; omega)) (fun _ => by simp) rfl
      case hR =>
        intro s' hm hS'
        obtain ⟨h', g', d', tk', os'⟩ := s'
        have eg : g' = s.gens := hm.gens
        have ed : d' = s.drawn := hm.drawn
        have eo : os' = s.os := hm.os
        subst eg; subst ed; subst eo
        show wpAny _ _ _ _ _ _
        refine wpAny_pure ?_
        show wpAny _ _ (ret Value.none) _ _ _
        refine wpAny_pure ⟨rfl, h', tk', rfl, by rw [hn]; exact hS', fun b o hb e => ?_⟩
        have hb1 : b ≠ s.heap.objs.size := Nat.ne_of_lt hb
        have hb2 : b ≠ (s.heap.push { cls := .type "set", dict := none, data := .set #[] 0 (.fresh 0 0 led) }).objs.size := by
          rw [Heap.size_push]; exact Nat.ne_of_lt (Nat.lt_succ_of_lt hb)
        exact hm.heap b o (by simp only [List.mem_cons, List.mem_singleton, List.not_mem_nil, or_false, not_or]; exact ⟨hb1, hb2⟩) (Heap.get?_push_of_some _ (Heap.get?_push_of_some _ e))
    · cases r₂ with
      | error e => exact hr₂
      | ok fl₂ =>
      cases fl₂
      case ret r =>
        obtain ⟨rfl, h', tk, rfl, ⟨F', hS'⟩, hk'⟩ := hr₂
        repeat (any_goals (first | assumption | wp_step))
        exact h _ _ _ hS' hk'
      all_goals exact hr₂.elim
  all_goals exact hr.elim
theorem TC_set {a : Addr} {xs : List Str} (ha : σ a = some (.list (xs.map sv))) (nd : xs.Nodup) (hlen : xs.length ≤ 1000) (h : ∀ D, σ D = none → Q (.ref D) (σ.upd D (.set xs.length))) : TC Γ ql n (.type "set") [.ref a] σ Q := by
  intro A s E vs hl S hv
  obtain ⟨u, rfl, hu⟩ := args1 hv
  rw [er_ref hu]
  obtain ⟨us, c, hL, e⟩ := list_at S ha
  have nD := none_at (h := s.heap) (Nat.le_refl s.heap.objs.size)
  refine set_go hl.hand ⟨_, hL, rfl, c, rfl⟩ e nd (by unfold scanBound; omega) fun h' tk F' hS hk => ?_
  have hk' : ∀ b o, s.heap.get? b = some o → h'.get? b = some o := fun b o hb => hk b o (Heap.lt_size hb) hb
  exact ⟨σ.upd s.heap.objs.size (.set xs.length), ⟨_, _, rfl⟩, Keep.grow hk' nD, S.grow hk' nD ⟨F', hS⟩, h _ (S.free nD)⟩
theorem intsAre_of : ∀ {vs : List Value} {ns : List Int}, vs.map er = ns.map (fun i => Value.int i 0) → IntsAre vs ns
  | [], [], _ => .nil
  | [], _ :: _, h => by cases h
  | _ :: _, [], h => by cases h
  | v :: vs, x :: ss, h => by
    simp only [List.map_cons, List.cons.injEq] at h
    obtain ⟨t, rfl⟩ := er_int h.1
    exact .cons x t (intsAre_of h.2)
theorem TC_sum {a : Addr} {ns : List Int} (ha : σ a = some (.list (ns.map fun i => .int i 0))) (h : Q (.int ns.sum 0) σ) : TC Γ ql n (.builtin "sum") [.ref a] σ Q := by
  intro A s E vs hl S hv
  obtain ⟨u, rfl, hu⟩ := args1 hv
  rw [er_ref hu]
  obtain ⟨us, c, hL, e⟩ := list_at S ha
  have hI := intsAre_of e
  obtain ⟨xs, hxs⟩ := hI.allInts.items
  have hus : us = intItems xs := by rw [← hxs, Array.toArray_toList]
  subst hus
  have hnums : numsOf (intItems xs).toList = ns := hI.numsOf
  rw [nums_intItems] at hnums
  refine sum_intListG hl.hand ⟨_, hL, rfl, c, rfl⟩ fun h' tk t' hk => ⟨σ, ⟨_, _, rfl⟩, Keep.same hk, S.same hk, ?_⟩
  show Q (.int _ 0) σ
  rw [preSum_eq, List.take_of_length_le (by simp), hnums]; exact h
end
end

set_option maxRecDepth 100000
def stAt (i : Nat) : Stmt := PySem.Challenge.rw_pb0349_01.row.prog.main.body.getD i (.Pass default)
def mSt (i j : Nat) : Stmt := match stAt i with
  | .ClassDef (body := b) .. => b.getD j (.Pass default)
  | s => s
def fPar : Stmt → Arguments
  | .FunctionDef (args := a) .. => a
  | _ => default
def fBody : Stmt → FuncBody
  | .FunctionDef (body := b) .. => .stmts b
  | _ => .stmts []
def fSc : Stmt → Scope
  | .FunctionDef (scope := s) .. => s
  | _ => default
def KK : Params → Frag := fun P => [
    (3, { cls := Value.type "dict", data := Data.dict #[{ hash := PyData.keyHash P (Str.ofString "__name__"), key := Value.str (Str.ofString "__name__") 165, val := Value.str (Str.ofString "law_pb0349_01") 645 }, { hash := PyData.keyHash P (Str.ofString "__doc__"), key := Value.str (Str.ofString "__doc__") 166, val := Value.none }, { hash := PyData.keyHash P (Str.ofString "__package__"), key := Value.str (Str.ofString "__package__") 167, val := Value.none }, { hash := PyData.keyHash P (Str.ofString "__loader__"), key := Value.str (Str.ofString "__loader__") 168, val := Value.builtin "__main__.__loader__#opaque" }, { hash := PyData.keyHash P (Str.ofString "__spec__"), key := Value.str (Str.ofString "__spec__") 169, val := Value.none }, { hash := PyData.keyHash P (Str.ofString "__annotations__"), key := Value.str (Str.ofString "__annotations__") 170, val := Value.ref 6 }, { hash := PyData.keyHash P (Str.ofString "__builtins__"), key := Value.str (Str.ofString "__builtins__") 171, val := Value.ref 4 }, { hash := PyData.keyHash P (Str.ofString "__file__"), key := Value.str (Str.ofString "__file__") 173, val := Value.str (Str.ofString "/claim/cut.py") 172 }, { hash := PyData.keyHash P (Str.ofString "__cached__"), key := Value.str (Str.ofString "__cached__") 174, val := Value.none }, { hash := PyData.keyHash P (Str.ofString "_wall"), key := Value.str (Str.ofString "_wall") 193, val := Value.ref 21 }, { hash := PyData.keyHash P (Str.ofString "ErrorList"), key := Value.str (Str.ofString "ErrorList") 247, val := Value.ref 59 }, { hash := PyData.keyHash P (Str.ofString "MOST_INTEGER"), key := Value.str (Str.ofString "MOST_INTEGER") 251, val := Value.int 2147483647 250 }, { hash := PyData.keyHash P (Str.ofString "MOST_WORD"), key := Value.str (Str.ofString "MOST_WORD") 253, val := Value.int 4294967295 252 }, { hash := PyData.keyHash P (Str.ofString "Token"), key := Value.str (Str.ofString "Token") 286, val := Value.ref 80 }, { hash := PyData.keyHash P (Str.ofString "keywords"), key := Value.str (Str.ofString "keywords") 292, val := Value.ref 91 }, { hash := PyData.keyHash P (Str.ofString "is_letter"), key := Value.str (Str.ofString "is_letter") 299, val := Value.ref 98 }, { hash := PyData.keyHash P (Str.ofString "is_digit"), key := Value.str (Str.ofString "is_digit") 306, val := Value.ref 105 }, { hash := PyData.keyHash P (Str.ofString "is_hex_digit"), key := Value.str (Str.ofString "is_hex_digit") 313, val := Value.ref 112 }, { hash := PyData.keyHash P (Str.ofString "digits_value"), key := Value.str (Str.ofString "digits_value") 324, val := Value.ref 119 }, { hash := PyData.keyHash P (Str.ofString "Scanner"), key := Value.str (Str.ofString "Scanner") 480, val := Value.ref 228 }, { hash := PyData.keyHash P (Str.ofString "Head"), key := Value.str (Str.ofString "Head") 513, val := Value.ref 249 }, { hash := PyData.keyHash P (Str.ofString "imported_name"), key := Value.str (Str.ofString "imported_name") 522, val := Value.ref 260 }, { hash := PyData.keyHash P (Str.ofString "import_names"), key := Value.str (Str.ofString "import_names") 533, val := Value.ref 267 }, { hash := PyData.keyHash P (Str.ofString "head_of"), key := Value.str (Str.ofString "head_of") 543, val := Value.ref 274 }, { hash := PyData.keyHash P (Str.ofString "ModuleSet"), key := Value.str (Str.ofString "ModuleSet") 616, val := Value.ref 325 }, { hash := PyData.keyHash P (Str.ofString "all_done"), key := Value.str (Str.ofString "all_done") 625, val := Value.ref 336 }, { hash := PyData.keyHash P (Str.ofString "turned"), key := Value.str (Str.ofString "turned") 633, val := Value.ref 343 }, { hash := PyData.keyHash P (Str.ofString "all_clients"), key := Value.str (Str.ofString "all_clients") 644, val := Value.ref 350 }, { hash := PyData.keyHash P (Str.ofString "_law_pick"), key := Value.str (Str.ofString "_law_pick") 656, val := Value.ref 357 }, { hash := PyData.keyHash P (Str.ofString "_law_sources"), key := Value.str (Str.ofString "_law_sources") 672, val := Value.ref 364 }, { hash := PyData.keyHash P (Str.ofString "_law_ordered"), key := Value.str (Str.ofString "_law_ordered") 678, val := Value.ref 369 }, { hash := PyData.keyHash P (Str.ofString "law"), key := Value.str (Str.ofString "law") 684, val := Value.ref 374 }] 32 }),
    (34, { cls := Value.type "code", data := Data.fields #[Value.str (Str.ofString "__init__") 208, Value.str (Str.ofString "ErrorList.__init__") 209, Value.str (Str.ofString "/claim/cut.py") 210, Value.int 7 0, Value.int 1 0, Value.int 0 0, Value.int 0 0, Value.int 3 0, Value.ref 29, Value.bool true, Value.int 181 0, Value.ref 30, Value.none, Value.ref 31, Value.ref 32, Value.ref 33, Value.int 212 0, Value.int 7 0, Value.str (Str.ofString "/claim/cut.py") 213] }),
    (35, { cls := Value.type "function", data := Data.func { name := Str.ofString "__init__", qualname := Str.ofString "ErrorList.__init__", params := fPar (mSt 2 0), body := fBody (mSt 2 0), scope := fSc (mSt 2 0), globals := 3, closure := [], defaults := Value.none, kwdefaults := Value.none, pyModule := Value.str (Str.ofString "moduleyard.errors") 194, code := Value.ref 34 } }),
    (58, { cls := Value.type "dict", data := Data.dict #[{ hash := PyData.keyHash P (Str.ofString "__module__"), key := Value.str (Str.ofString "__module__") 203, val := Value.str (Str.ofString "moduleyard.errors") 194 }, { hash := PyData.keyHash P (Str.ofString "__firstlineno__"), key := Value.str (Str.ofString "__firstlineno__") 207, val := Value.int 5 206 }, { hash := PyData.keyHash P (Str.ofString "__init__"), key := Value.str (Str.ofString "__init__") 214, val := Value.ref 35 }, { hash := PyData.keyHash P (Str.ofString "mark"), key := Value.str (Str.ofString "mark") 223, val := Value.ref 42 }, { hash := PyData.keyHash P (Str.ofString "first"), key := Value.str (Str.ofString "first") 230, val := Value.ref 49 }, { hash := PyData.keyHash P (Str.ofString "ok"), key := Value.str (Str.ofString "ok") 237, val := Value.ref 56 }, { hash := PyData.keyHash P (Str.ofString "__static_attributes__"), key := Value.str (Str.ofString "__static_attributes__") 240, val := Value.ref 57 }, { hash := PyData.keyHash P (Str.ofString "__dict__"), key := Value.str (Str.ofString "__dict__") 242, val := Value.ref 60 }, { hash := PyData.keyHash P (Str.ofString "__weakref__"), key := Value.str (Str.ofString "__weakref__") 244, val := Value.ref 61 }, { hash := PyData.keyHash P (Str.ofString "__doc__"), key := Value.str (Str.ofString "__doc__") 245, val := Value.none }] 4 }),
    (59, { cls := Value.type "type", data := Data.cls { name := Str.ofString "ErrorList", bases := [Value.type "object"], mro := [Value.ref 59, Value.type "object"], ns := 58, qualname := Str.ofString "ErrorList" }, slots := #[none, none, some (Value.str (Str.ofString "ErrorList") 196), some (Value.str (Str.ofString "ErrorList") 204), some (Value.builtin "object.__new__"), some (Value.bool true)] }),
    (76, { cls := Value.type "code", data := Data.fields #[Value.str (Str.ofString "__init__") 266, Value.str (Str.ofString "Token.__init__") 267, Value.str (Str.ofString "/claim/cut.py") 268, Value.int 26 0, Value.int 4 0, Value.int 0 0, Value.int 0 0, Value.int 3 0, Value.ref 71, Value.bool true, Value.int 181 0, Value.ref 72, Value.none, Value.ref 73, Value.ref 74, Value.ref 75, Value.int 273 0, Value.int 26 0, Value.str (Str.ofString "/claim/cut.py") 274] }),
    (77, { cls := Value.type "function", data := Data.func { name := Str.ofString "__init__", qualname := Str.ofString "Token.__init__", params := fPar (mSt 6 0), body := fBody (mSt 6 0), scope := fSc (mSt 6 0), globals := 3, closure := [], defaults := Value.none, kwdefaults := Value.none, pyModule := Value.str (Str.ofString "moduleyard.scanner") 248, code := Value.ref 76 } }),
    (79, { cls := Value.type "dict", data := Data.dict #[{ hash := PyData.keyHash P (Str.ofString "__module__"), key := Value.str (Str.ofString "__module__") 261, val := Value.str (Str.ofString "moduleyard.scanner") 248 }, { hash := PyData.keyHash P (Str.ofString "__firstlineno__"), key := Value.str (Str.ofString "__firstlineno__") 265, val := Value.int 24 264 }, { hash := PyData.keyHash P (Str.ofString "__init__"), key := Value.str (Str.ofString "__init__") 275, val := Value.ref 77 }, { hash := PyData.keyHash P (Str.ofString "__static_attributes__"), key := Value.str (Str.ofString "__static_attributes__") 279, val := Value.ref 78 }, { hash := PyData.keyHash P (Str.ofString "__dict__"), key := Value.str (Str.ofString "__dict__") 281, val := Value.ref 81 }, { hash := PyData.keyHash P (Str.ofString "__weakref__"), key := Value.str (Str.ofString "__weakref__") 283, val := Value.ref 82 }, { hash := PyData.keyHash P (Str.ofString "__doc__"), key := Value.str (Str.ofString "__doc__") 284, val := Value.none }] 4 }),
    (80, { cls := Value.type "type", data := Data.cls { name := Str.ofString "Token", bases := [Value.type "object"], mro := [Value.ref 80, Value.type "object"], ns := 79, qualname := Str.ofString "Token" }, slots := #[none, none, some (Value.str (Str.ofString "Token") 254), some (Value.str (Str.ofString "Token") 262), some (Value.builtin "object.__new__"), some (Value.bool true)] }),
    (90, { cls := Value.type "code", data := Data.fields #[Value.str (Str.ofString "keywords") 287, Value.str (Str.ofString "keywords") 288, Value.str (Str.ofString "/claim/cut.py") 289, Value.int 30 0, Value.int 0 0, Value.int 0 0, Value.int 0 0, Value.int 3 0, Value.ref 85, Value.bool true, Value.int 181 0, Value.ref 86, Value.none, Value.ref 87, Value.ref 88, Value.ref 89, Value.int 290 0, Value.int 30 0, Value.str (Str.ofString "/claim/cut.py") 291] }),
    (91, { cls := Value.type "function", data := Data.func { name := Str.ofString "keywords", qualname := Str.ofString "keywords", params := fPar (stAt 7), body := fBody (stAt 7), scope := fSc (stAt 7), globals := 3, closure := [], defaults := Value.none, kwdefaults := Value.none, pyModule := Value.str (Str.ofString "moduleyard.scanner") 248, code := Value.ref 90 } }),
    (97, { cls := Value.type "code", data := Data.fields #[Value.str (Str.ofString "is_letter") 293, Value.str (Str.ofString "is_letter") 294, Value.str (Str.ofString "/claim/cut.py") 295, Value.int 32 0, Value.int 1 0, Value.int 0 0, Value.int 0 0, Value.int 3 0, Value.ref 92, Value.bool true, Value.int 181 0, Value.ref 93, Value.none, Value.ref 94, Value.ref 95, Value.ref 96, Value.int 297 0, Value.int 32 0, Value.str (Str.ofString "/claim/cut.py") 298] }),
    (98, { cls := Value.type "function", data := Data.func { name := Str.ofString "is_letter", qualname := Str.ofString "is_letter", params := fPar (stAt 8), body := fBody (stAt 8), scope := fSc (stAt 8), globals := 3, closure := [], defaults := Value.none, kwdefaults := Value.none, pyModule := Value.str (Str.ofString "moduleyard.scanner") 248, code := Value.ref 97 } }),
    (104, { cls := Value.type "code", data := Data.fields #[Value.str (Str.ofString "is_digit") 300, Value.str (Str.ofString "is_digit") 301, Value.str (Str.ofString "/claim/cut.py") 302, Value.int 34 0, Value.int 1 0, Value.int 0 0, Value.int 0 0, Value.int 3 0, Value.ref 99, Value.bool true, Value.int 181 0, Value.ref 100, Value.none, Value.ref 101, Value.ref 102, Value.ref 103, Value.int 304 0, Value.int 34 0, Value.str (Str.ofString "/claim/cut.py") 305] }),
    (105, { cls := Value.type "function", data := Data.func { name := Str.ofString "is_digit", qualname := Str.ofString "is_digit", params := fPar (stAt 9), body := fBody (stAt 9), scope := fSc (stAt 9), globals := 3, closure := [], defaults := Value.none, kwdefaults := Value.none, pyModule := Value.str (Str.ofString "moduleyard.scanner") 248, code := Value.ref 104 } }),
    (132, { cls := Value.type "code", data := Data.fields #[Value.str (Str.ofString "__init__") 337, Value.str (Str.ofString "Scanner.__init__") 338, Value.str (Str.ofString "/claim/cut.py") 339, Value.int 47 0, Value.int 3 0, Value.int 0 0, Value.int 0 0, Value.int 3 0, Value.ref 127, Value.bool true, Value.int 181 0, Value.ref 128, Value.none, Value.ref 129, Value.ref 130, Value.ref 131, Value.int 343 0, Value.int 47 0, Value.str (Str.ofString "/claim/cut.py") 344] }),
    (133, { cls := Value.type "function", data := Data.func { name := Str.ofString "__init__", qualname := Str.ofString "Scanner.__init__", params := fPar (mSt 12 0), body := fBody (mSt 12 0), scope := fSc (mSt 12 0), globals := 3, closure := [], defaults := Value.none, kwdefaults := Value.none, pyModule := Value.str (Str.ofString "moduleyard.scanner") 248, code := Value.ref 132 } }),
    (134, { cls := Value.type "tuple", data := Data.seq #[Value.int 0 346] }),
    (140, { cls := Value.type "code", data := Data.fields #[Value.str (Str.ofString "char") 347, Value.str (Str.ofString "Scanner.char") 348, Value.str (Str.ofString "/claim/cut.py") 349, Value.int 53 0, Value.int 2 0, Value.int 0 0, Value.int 0 0, Value.int 3 0, Value.ref 135, Value.bool true, Value.int 181 0, Value.ref 136, Value.none, Value.ref 137, Value.ref 138, Value.ref 139, Value.int 352 0, Value.int 53 0, Value.str (Str.ofString "/claim/cut.py") 353] }),
    (141, { cls := Value.type "function", data := Data.func { name := Str.ofString "char", qualname := Str.ofString "Scanner.char", params := fPar (mSt 12 1), body := fBody (mSt 12 1), scope := fSc (mSt 12 1), globals := 3, closure := [], defaults := Value.ref 134, kwdefaults := Value.none, pyModule := Value.str (Str.ofString "moduleyard.scanner") 248, code := Value.ref 140 } }),
    (147, { cls := Value.type "code", data := Data.fields #[Value.str (Str.ofString "take") 355, Value.str (Str.ofString "Scanner.take") 356, Value.str (Str.ofString "/claim/cut.py") 357, Value.int 56 0, Value.int 1 0, Value.int 0 0, Value.int 0 0, Value.int 3 0, Value.ref 142, Value.bool true, Value.int 181 0, Value.ref 143, Value.none, Value.ref 144, Value.ref 145, Value.ref 146, Value.int 362 0, Value.int 56 0, Value.str (Str.ofString "/claim/cut.py") 363] }),
    (148, { cls := Value.type "function", data := Data.func { name := Str.ofString "take", qualname := Str.ofString "Scanner.take", params := fPar (mSt 12 2), body := fBody (mSt 12 2), scope := fSc (mSt 12 2), globals := 3, closure := [], defaults := Value.none, kwdefaults := Value.none, pyModule := Value.str (Str.ofString "moduleyard.scanner") 248, code := Value.ref 147 } }),
    (154, { cls := Value.type "code", data := Data.fields #[Value.str (Str.ofString "skip") 365, Value.str (Str.ofString "Scanner.skip") 366, Value.str (Str.ofString "/claim/cut.py") 367, Value.int 76 0, Value.int 1 0, Value.int 0 0, Value.int 0 0, Value.int 3 0, Value.ref 149, Value.bool true, Value.int 181 0, Value.ref 150, Value.none, Value.ref 151, Value.ref 152, Value.ref 153, Value.int 370 0, Value.int 76 0, Value.str (Str.ofString "/claim/cut.py") 371] }),
    (155, { cls := Value.type "function", data := Data.func { name := Str.ofString "skip", qualname := Str.ofString "Scanner.skip", params := fPar (mSt 12 3), body := fBody (mSt 12 3), scope := fSc (mSt 12 3), globals := 3, closure := [], defaults := Value.none, kwdefaults := Value.none, pyModule := Value.str (Str.ofString "moduleyard.scanner") 248, code := Value.ref 154 } }),
    (161, { cls := Value.type "code", data := Data.fields #[Value.str (Str.ofString "remark") 373, Value.str (Str.ofString "Scanner.remark") 374, Value.str (Str.ofString "/claim/cut.py") 375, Value.int 86 0, Value.int 1 0, Value.int 0 0, Value.int 0 0, Value.int 3 0, Value.ref 156, Value.bool true, Value.int 181 0, Value.ref 157, Value.none, Value.ref 158, Value.ref 159, Value.ref 160, Value.int 380 0, Value.int 86 0, Value.str (Str.ofString "/claim/cut.py") 381] }),
    (162, { cls := Value.type "function", data := Data.func { name := Str.ofString "remark", qualname := Str.ofString "Scanner.remark", params := fPar (mSt 12 4), body := fBody (mSt 12 4), scope := fSc (mSt 12 4), globals := 3, closure := [], defaults := Value.none, kwdefaults := Value.none, pyModule := Value.str (Str.ofString "moduleyard.scanner") 248, code := Value.ref 161 } }),
    (168, { cls := Value.type "code", data := Data.fields #[Value.str (Str.ofString "word") 383, Value.str (Str.ofString "Scanner.word") 384, Value.str (Str.ofString "/claim/cut.py") 385, Value.int 104 0, Value.int 2 0, Value.int 0 0, Value.int 0 0, Value.int 3 0, Value.ref 163, Value.bool true, Value.int 181 0, Value.ref 164, Value.none, Value.ref 165, Value.ref 166, Value.ref 167, Value.int 390 0, Value.int 104 0, Value.str (Str.ofString "/claim/cut.py") 391] }),
    (169, { cls := Value.type "function", data := Data.func { name := Str.ofString "word", qualname := Str.ofString "Scanner.word", params := fPar (mSt 12 5), body := fBody (mSt 12 5), scope := fSc (mSt 12 5), globals := 3, closure := [], defaults := Value.none, kwdefaults := Value.none, pyModule := Value.str (Str.ofString "moduleyard.scanner") 248, code := Value.ref 168 } }),
    (224, { cls := Value.type "code", data := Data.fields #[Value.str (Str.ofString "symbol") 461, Value.str (Str.ofString "Scanner.symbol") 462, Value.str (Str.ofString "/claim/cut.py") 463, Value.int 186 0, Value.int 1 0, Value.int 0 0, Value.int 0 0, Value.int 3 0, Value.ref 219, Value.bool true, Value.int 181 0, Value.ref 220, Value.none, Value.ref 221, Value.ref 222, Value.ref 223, Value.int 466 0, Value.int 186 0, Value.str (Str.ofString "/claim/cut.py") 467] }),
    (225, { cls := Value.type "function", data := Data.func { name := Str.ofString "symbol", qualname := Str.ofString "Scanner.symbol", params := fPar (mSt 12 13), body := fBody (mSt 12 13), scope := fSc (mSt 12 13), globals := 3, closure := [], defaults := Value.none, kwdefaults := Value.none, pyModule := Value.str (Str.ofString "moduleyard.scanner") 248, code := Value.ref 224 } }),
    (227, { cls := Value.type "dict", data := Data.dict #[{ hash := PyData.keyHash P (Str.ofString "__module__"), key := Value.str (Str.ofString "__module__") 332, val := Value.str (Str.ofString "moduleyard.scanner") 248 }, { hash := PyData.keyHash P (Str.ofString "__firstlineno__"), key := Value.str (Str.ofString "__firstlineno__") 336, val := Value.int 45 335 }, { hash := PyData.keyHash P (Str.ofString "__init__"), key := Value.str (Str.ofString "__init__") 345, val := Value.ref 133 }, { hash := PyData.keyHash P (Str.ofString "char"), key := Value.str (Str.ofString "char") 354, val := Value.ref 141 }, { hash := PyData.keyHash P (Str.ofString "take"), key := Value.str (Str.ofString "take") 364, val := Value.ref 148 }, { hash := PyData.keyHash P (Str.ofString "skip"), key := Value.str (Str.ofString "skip") 372, val := Value.ref 155 }, { hash := PyData.keyHash P (Str.ofString "remark"), key := Value.str (Str.ofString "remark") 382, val := Value.ref 162 }, { hash := PyData.keyHash P (Str.ofString "word"), key := Value.str (Str.ofString "word") 392, val := Value.ref 169 }, { hash := PyData.keyHash P (Str.ofString "numeral"), key := Value.str (Str.ofString "numeral") 404, val := Value.ref 176 }, { hash := PyData.keyHash P (Str.ofString "whole"), key := Value.str (Str.ofString "whole") 414, val := Value.ref 183 }, { hash := PyData.keyHash P (Str.ofString "hexadecimal"), key := Value.str (Str.ofString "hexadecimal") 424, val := Value.ref 190 }, { hash := PyData.keyHash P (Str.ofString "character"), key := Value.str (Str.ofString "character") 434, val := Value.ref 197 }, { hash := PyData.keyHash P (Str.ofString "real"), key := Value.str (Str.ofString "real") 443, val := Value.ref 204 }, { hash := PyData.keyHash P (Str.ofString "skip_digits"), key := Value.str (Str.ofString "skip_digits") 450, val := Value.ref 211 }, { hash := PyData.keyHash P (Str.ofString "string"), key := Value.str (Str.ofString "string") 460, val := Value.ref 218 }, { hash := PyData.keyHash P (Str.ofString "symbol"), key := Value.str (Str.ofString "symbol") 468, val := Value.ref 225 }, { hash := PyData.keyHash P (Str.ofString "__static_attributes__"), key := Value.str (Str.ofString "__static_attributes__") 473, val := Value.ref 226 }, { hash := PyData.keyHash P (Str.ofString "__dict__"), key := Value.str (Str.ofString "__dict__") 475, val := Value.ref 229 }, { hash := PyData.keyHash P (Str.ofString "__weakref__"), key := Value.str (Str.ofString "__weakref__") 477, val := Value.ref 230 }, { hash := PyData.keyHash P (Str.ofString "__doc__"), key := Value.str (Str.ofString "__doc__") 478, val := Value.none }] 4 }),
    (228, { cls := Value.type "type", data := Data.cls { name := Str.ofString "Scanner", bases := [Value.type "object"], mro := [Value.ref 228, Value.type "object"], ns := 227, qualname := Str.ofString "Scanner" }, slots := #[none, none, some (Value.str (Str.ofString "Scanner") 325), some (Value.str (Str.ofString "Scanner") 333), some (Value.builtin "object.__new__"), some (Value.bool true)] }),
    (245, { cls := Value.type "code", data := Data.fields #[Value.str (Str.ofString "__init__") 495, Value.str (Str.ofString "Head.__init__") 496, Value.str (Str.ofString "/claim/cut.py") 497, Value.int 196 0, Value.int 3 0, Value.int 0 0, Value.int 0 0, Value.int 3 0, Value.ref 240, Value.bool true, Value.int 181 0, Value.ref 241, Value.none, Value.ref 242, Value.ref 243, Value.ref 244, Value.int 501 0, Value.int 196 0, Value.str (Str.ofString "/claim/cut.py") 502] }),
    (246, { cls := Value.type "function", data := Data.func { name := Str.ofString "__init__", qualname := Str.ofString "Head.__init__", params := fPar (mSt 14 0), body := fBody (mSt 14 0), scope := fSc (mSt 14 0), globals := 3, closure := [], defaults := Value.none, kwdefaults := Value.none, pyModule := Value.str (Str.ofString "moduleyard.modset") 481, code := Value.ref 245 } }),
    (248, { cls := Value.type "dict", data := Data.dict #[{ hash := PyData.keyHash P (Str.ofString "__module__"), key := Value.str (Str.ofString "__module__") 490, val := Value.str (Str.ofString "moduleyard.modset") 481 }, { hash := PyData.keyHash P (Str.ofString "__firstlineno__"), key := Value.str (Str.ofString "__firstlineno__") 494, val := Value.int 194 493 }, { hash := PyData.keyHash P (Str.ofString "__init__"), key := Value.str (Str.ofString "__init__") 503, val := Value.ref 246 }, { hash := PyData.keyHash P (Str.ofString "__static_attributes__"), key := Value.str (Str.ofString "__static_attributes__") 506, val := Value.ref 247 }, { hash := PyData.keyHash P (Str.ofString "__dict__"), key := Value.str (Str.ofString "__dict__") 508, val := Value.ref 250 }, { hash := PyData.keyHash P (Str.ofString "__weakref__"), key := Value.str (Str.ofString "__weakref__") 510, val := Value.ref 251 }, { hash := PyData.keyHash P (Str.ofString "__doc__"), key := Value.str (Str.ofString "__doc__") 511, val := Value.none }] 4 }),
    (249, { cls := Value.type "type", data := Data.cls { name := Str.ofString "Head", bases := [Value.type "object"], mro := [Value.ref 249, Value.type "object"], ns := 248, qualname := Str.ofString "Head" }, slots := #[none, none, some (Value.str (Str.ofString "Head") 483), some (Value.str (Str.ofString "Head") 491), some (Value.builtin "object.__new__"), some (Value.bool true)] }),
    (259, { cls := Value.type "code", data := Data.fields #[Value.str (Str.ofString "imported_name") 514, Value.str (Str.ofString "imported_name") 515, Value.str (Str.ofString "/claim/cut.py") 516, Value.int 199 0, Value.int 2 0, Value.int 0 0, Value.int 0 0, Value.int 3 0, Value.ref 254, Value.bool true, Value.int 181 0, Value.ref 255, Value.none, Value.ref 256, Value.ref 257, Value.ref 258, Value.int 520 0, Value.int 199 0, Value.str (Str.ofString "/claim/cut.py") 521] }),
    (260, { cls := Value.type "function", data := Data.func { name := Str.ofString "imported_name", qualname := Str.ofString "imported_name", params := fPar (stAt 15), body := fBody (stAt 15), scope := fSc (stAt 15), globals := 3, closure := [], defaults := Value.none, kwdefaults := Value.none, pyModule := Value.str (Str.ofString "moduleyard.modset") 481, code := Value.ref 259 } }),
    (266, { cls := Value.type "code", data := Data.fields #[Value.str (Str.ofString "import_names") 523, Value.str (Str.ofString "import_names") 524, Value.str (Str.ofString "/claim/cut.py") 525, Value.int 211 0, Value.int 1 0, Value.int 0 0, Value.int 0 0, Value.int 3 0, Value.ref 261, Value.bool true, Value.int 181 0, Value.ref 262, Value.none, Value.ref 263, Value.ref 264, Value.ref 265, Value.int 531 0, Value.int 211 0, Value.str (Str.ofString "/claim/cut.py") 532] }),
    (267, { cls := Value.type "function", data := Data.func { name := Str.ofString "import_names", qualname := Str.ofString "import_names", params := fPar (stAt 16), body := fBody (stAt 16), scope := fSc (stAt 16), globals := 3, closure := [], defaults := Value.none, kwdefaults := Value.none, pyModule := Value.str (Str.ofString "moduleyard.modset") 481, code := Value.ref 266 } }),
    (273, { cls := Value.type "code", data := Data.fields #[Value.str (Str.ofString "head_of") 534, Value.str (Str.ofString "head_of") 535, Value.str (Str.ofString "/claim/cut.py") 536, Value.int 220 0, Value.int 1 0, Value.int 0 0, Value.int 0 0, Value.int 3 0, Value.ref 268, Value.bool true, Value.int 181 0, Value.ref 269, Value.none, Value.ref 270, Value.ref 271, Value.ref 272, Value.int 541 0, Value.int 220 0, Value.str (Str.ofString "/claim/cut.py") 542] }),
    (274, { cls := Value.type "function", data := Data.func { name := Str.ofString "head_of", qualname := Str.ofString "head_of", params := fPar (stAt 17), body := fBody (stAt 17), scope := fSc (stAt 17), globals := 3, closure := [], defaults := Value.none, kwdefaults := Value.none, pyModule := Value.str (Str.ofString "moduleyard.modset") 481, code := Value.ref 273 } }),
    (287, { cls := Value.type "code", data := Data.fields #[Value.str (Str.ofString "__init__") 556, Value.str (Str.ofString "ModuleSet.__init__") 557, Value.str (Str.ofString "/claim/cut.py") 558, Value.int 233 0, Value.int 2 0, Value.int 0 0, Value.int 0 0, Value.int 3 0, Value.ref 282, Value.bool true, Value.int 181 0, Value.ref 283, Value.none, Value.ref 284, Value.ref 285, Value.ref 286, Value.int 562 0, Value.int 233 0, Value.str (Str.ofString "/claim/cut.py") 563] }),
    (288, { cls := Value.type "function", data := Data.func { name := Str.ofString "__init__", qualname := Str.ofString "ModuleSet.__init__", params := fPar (mSt 18 0), body := fBody (mSt 18 0), scope := fSc (mSt 18 0), globals := 3, closure := [], defaults := Value.none, kwdefaults := Value.none, pyModule := Value.str (Str.ofString "moduleyard.modset") 481, code := Value.ref 287 } }),
    (294, { cls := Value.type "code", data := Data.fields #[Value.str (Str.ofString "names") 565, Value.str (Str.ofString "ModuleSet.names") 566, Value.str (Str.ofString "/claim/cut.py") 567, Value.int 239 0, Value.int 1 0, Value.int 0 0, Value.int 0 0, Value.int 3 0, Value.ref 289, Value.bool true, Value.int 181 0, Value.ref 290, Value.none, Value.ref 291, Value.ref 292, Value.ref 293, Value.int 569 0, Value.int 239 0, Value.str (Str.ofString "/claim/cut.py") 570] }),
    (295, { cls := Value.type "function", data := Data.func { name := Str.ofString "names", qualname := Str.ofString "ModuleSet.names", params := fPar (mSt 18 1), body := fBody (mSt 18 1), scope := fSc (mSt 18 1), globals := 3, closure := [], defaults := Value.none, kwdefaults := Value.none, pyModule := Value.str (Str.ofString "moduleyard.modset") 481, code := Value.ref 294 } }),
    (299, { cls := Value.type "code", data := Data.fields #[Value.str (Str.ofString "needed") 572, Value.str (Str.ofString "ModuleSet.needed") 573, Value.str (Str.ofString "/claim/cut.py") 574, Value.int 242 0, Value.int 2 0, Value.int 0 0, Value.int 0 0, Value.int 3 0, Value.ref 296, Value.bool true, Value.int 181 0, Value.ref 297, Value.none, Value.none, Value.none, Value.ref 298, Value.int 575 0, Value.int 242 0, Value.str (Str.ofString "/claim/cut.py") 576] }),
    (300, { cls := Value.type "function", data := Data.func { name := Str.ofString "needed", qualname := Str.ofString "ModuleSet.needed", params := fPar (mSt 18 2), body := fBody (mSt 18 2), scope := fSc (mSt 18 2), globals := 3, closure := [], defaults := Value.none, kwdefaults := Value.none, pyModule := Value.str (Str.ofString "moduleyard.modset") 481, code := Value.ref 299 } }),
    (304, { cls := Value.type "code", data := Data.fields #[Value.str (Str.ofString "clients") 578, Value.str (Str.ofString "ModuleSet.clients") 579, Value.str (Str.ofString "/claim/cut.py") 580, Value.int 245 0, Value.int 2 0, Value.int 0 0, Value.int 0 0, Value.int 3 0, Value.ref 301, Value.bool true, Value.int 181 0, Value.ref 302, Value.none, Value.none, Value.none, Value.ref 303, Value.int 581 0, Value.int 245 0, Value.str (Str.ofString "/claim/cut.py") 582] }),
    (305, { cls := Value.type "function", data := Data.func { name := Str.ofString "clients", qualname := Str.ofString "ModuleSet.clients", params := fPar (mSt 18 3), body := fBody (mSt 18 3), scope := fSc (mSt 18 3), globals := 3, closure := [], defaults := Value.none, kwdefaults := Value.none, pyModule := Value.str (Str.ofString "moduleyard.modset") 481, code := Value.ref 304 } }),
    (311, { cls := Value.type "code", data := Data.fields #[Value.str (Str.ofString "order") 584, Value.str (Str.ofString "ModuleSet.order") 585, Value.str (Str.ofString "/claim/cut.py") 586, Value.int 248 0, Value.int 1 0, Value.int 0 0, Value.int 0 0, Value.int 3 0, Value.ref 306, Value.bool true, Value.int 181 0, Value.ref 307, Value.none, Value.ref 308, Value.ref 309, Value.ref 310, Value.int 592 0, Value.int 248 0, Value.str (Str.ofString "/claim/cut.py") 593] }),
    (312, { cls := Value.type "function", data := Data.func { name := Str.ofString "order", qualname := Str.ofString "ModuleSet.order", params := fPar (mSt 18 4), body := fBody (mSt 18 4), scope := fSc (mSt 18 4), globals := 3, closure := [], defaults := Value.none, kwdefaults := Value.none, pyModule := Value.str (Str.ofString "moduleyard.modset") 481, code := Value.ref 311 } }),
    (316, { cls := Value.type "code", data := Data.fields #[Value.str (Str.ofString "unordered") 595, Value.str (Str.ofString "ModuleSet.unordered") 596, Value.str (Str.ofString "/claim/cut.py") 597, Value.int 262 0, Value.int 1 0, Value.int 0 0, Value.int 0 0, Value.int 3 0, Value.ref 313, Value.bool true, Value.int 181 0, Value.ref 314, Value.none, Value.none, Value.none, Value.ref 315, Value.int 598 0, Value.int 262 0, Value.str (Str.ofString "/claim/cut.py") 599] }),
    (317, { cls := Value.type "function", data := Data.func { name := Str.ofString "unordered", qualname := Str.ofString "ModuleSet.unordered", params := fPar (mSt 18 5), body := fBody (mSt 18 5), scope := fSc (mSt 18 5), globals := 3, closure := [], defaults := Value.none, kwdefaults := Value.none, pyModule := Value.str (Str.ofString "moduleyard.modset") 481, code := Value.ref 316 } }),
    (321, { cls := Value.type "code", data := Data.fields #[Value.str (Str.ofString "cycle") 601, Value.str (Str.ofString "ModuleSet.cycle") 602, Value.str (Str.ofString "/claim/cut.py") 603, Value.int 266 0, Value.int 1 0, Value.int 0 0, Value.int 0 0, Value.int 3 0, Value.ref 318, Value.bool true, Value.int 181 0, Value.ref 319, Value.none, Value.none, Value.none, Value.ref 320, Value.int 604 0, Value.int 266 0, Value.str (Str.ofString "/claim/cut.py") 605] }),
    (322, { cls := Value.type "function", data := Data.func { name := Str.ofString "cycle", qualname := Str.ofString "ModuleSet.cycle", params := fPar (mSt 18 6), body := fBody (mSt 18 6), scope := fSc (mSt 18 6), globals := 3, closure := [], defaults := Value.none, kwdefaults := Value.none, pyModule := Value.str (Str.ofString "moduleyard.modset") 481, code := Value.ref 321 } }),
    (324, { cls := Value.type "dict", data := Data.dict #[{ hash := PyData.keyHash P (Str.ofString "__module__"), key := Value.str (Str.ofString "__module__") 551, val := Value.str (Str.ofString "moduleyard.modset") 481 }, { hash := PyData.keyHash P (Str.ofString "__firstlineno__"), key := Value.str (Str.ofString "__firstlineno__") 555, val := Value.int 231 554 }, { hash := PyData.keyHash P (Str.ofString "__init__"), key := Value.str (Str.ofString "__init__") 564, val := Value.ref 288 }, { hash := PyData.keyHash P (Str.ofString "names"), key := Value.str (Str.ofString "names") 571, val := Value.ref 295 }, { hash := PyData.keyHash P (Str.ofString "needed"), key := Value.str (Str.ofString "needed") 577, val := Value.ref 300 }, { hash := PyData.keyHash P (Str.ofString "clients"), key := Value.str (Str.ofString "clients") 583, val := Value.ref 305 }, { hash := PyData.keyHash P (Str.ofString "order"), key := Value.str (Str.ofString "order") 594, val := Value.ref 312 }, { hash := PyData.keyHash P (Str.ofString "unordered"), key := Value.str (Str.ofString "unordered") 600, val := Value.ref 317 }, { hash := PyData.keyHash P (Str.ofString "cycle"), key := Value.str (Str.ofString "cycle") 606, val := Value.ref 322 }, { hash := PyData.keyHash P (Str.ofString "__static_attributes__"), key := Value.str (Str.ofString "__static_attributes__") 609, val := Value.ref 323 }, { hash := PyData.keyHash P (Str.ofString "__dict__"), key := Value.str (Str.ofString "__dict__") 611, val := Value.ref 326 }, { hash := PyData.keyHash P (Str.ofString "__weakref__"), key := Value.str (Str.ofString "__weakref__") 613, val := Value.ref 327 }, { hash := PyData.keyHash P (Str.ofString "__doc__"), key := Value.str (Str.ofString "__doc__") 614, val := Value.none }] 4 }),
    (325, { cls := Value.type "type", data := Data.cls { name := Str.ofString "ModuleSet", bases := [Value.type "object"], mro := [Value.ref 325, Value.type "object"], ns := 324, qualname := Str.ofString "ModuleSet" }, slots := #[none, none, some (Value.str (Str.ofString "ModuleSet") 544), some (Value.str (Str.ofString "ModuleSet") 552), some (Value.builtin "object.__new__"), some (Value.bool true)] }),
    (335, { cls := Value.type "code", data := Data.fields #[Value.str (Str.ofString "all_done") 617, Value.str (Str.ofString "all_done") 618, Value.str (Str.ofString "/claim/cut.py") 619, Value.int 276 0, Value.int 2 0, Value.int 0 0, Value.int 0 0, Value.int 3 0, Value.ref 330, Value.bool true, Value.int 181 0, Value.ref 331, Value.none, Value.ref 332, Value.ref 333, Value.ref 334, Value.int 623 0, Value.int 276 0, Value.str (Str.ofString "/claim/cut.py") 624] }),
    (336, { cls := Value.type "function", data := Data.func { name := Str.ofString "all_done", qualname := Str.ofString "all_done", params := fPar (stAt 19), body := fBody (stAt 19), scope := fSc (stAt 19), globals := 3, closure := [], defaults := Value.none, kwdefaults := Value.none, pyModule := Value.str (Str.ofString "moduleyard.modset") 481, code := Value.ref 335 } }),
    (342, { cls := Value.type "code", data := Data.fields #[Value.str (Str.ofString "turned") 626, Value.str (Str.ofString "turned") 627, Value.str (Str.ofString "/claim/cut.py") 628, Value.int 281 0, Value.int 1 0, Value.int 0 0, Value.int 0 0, Value.int 3 0, Value.ref 337, Value.bool true, Value.int 181 0, Value.ref 338, Value.none, Value.ref 339, Value.ref 340, Value.ref 341, Value.int 631 0, Value.int 281 0, Value.str (Str.ofString "/claim/cut.py") 632] }),
    (343, { cls := Value.type "function", data := Data.func { name := Str.ofString "turned", qualname := Str.ofString "turned", params := fPar (stAt 20), body := fBody (stAt 20), scope := fSc (stAt 20), globals := 3, closure := [], defaults := Value.none, kwdefaults := Value.none, pyModule := Value.str (Str.ofString "moduleyard.modset") 481, code := Value.ref 342 } }),
    (349, { cls := Value.type "code", data := Data.fields #[Value.str (Str.ofString "all_clients") 634, Value.str (Str.ofString "all_clients") 635, Value.str (Str.ofString "/claim/cut.py") 636, Value.int 284 0, Value.int 2 0, Value.int 0 0, Value.int 0 0, Value.int 3 0, Value.ref 344, Value.bool true, Value.int 181 0, Value.ref 345, Value.none, Value.ref 346, Value.ref 347, Value.ref 348, Value.int 642 0, Value.int 284 0, Value.str (Str.ofString "/claim/cut.py") 643] }),
    (350, { cls := Value.type "function", data := Data.func { name := Str.ofString "all_clients", qualname := Str.ofString "all_clients", params := fPar (stAt 21), body := fBody (stAt 21), scope := fSc (stAt 21), globals := 3, closure := [], defaults := Value.none, kwdefaults := Value.none, pyModule := Value.str (Str.ofString "moduleyard.modset") 481, code := Value.ref 349 } }),
    (356, { cls := Value.type "code", data := Data.fields #[Value.str (Str.ofString "_law_pick") 647, Value.str (Str.ofString "_law_pick") 648, Value.str (Str.ofString "/claim/cut.py") 649, Value.int 294 0, Value.int 2 0, Value.int 0 0, Value.int 0 0, Value.int 3 0, Value.ref 351, Value.bool true, Value.int 181 0, Value.ref 352, Value.none, Value.ref 353, Value.ref 354, Value.ref 355, Value.int 654 0, Value.int 294 0, Value.str (Str.ofString "/claim/cut.py") 655] }),
    (357, { cls := Value.type "function", data := Data.func { name := Str.ofString "_law_pick", qualname := Str.ofString "_law_pick", params := fPar (stAt 23), body := fBody (stAt 23), scope := fSc (stAt 23), globals := 3, closure := [], defaults := Value.none, kwdefaults := Value.none, pyModule := Value.str (Str.ofString "law_pb0349_01") 645, code := Value.ref 356 } }),
    (363, { cls := Value.type "code", data := Data.fields #[Value.str (Str.ofString "_law_sources") 657, Value.str (Str.ofString "_law_sources") 658, Value.str (Str.ofString "/claim/cut.py") 659, Value.int 305 0, Value.int 1 0, Value.int 0 0, Value.int 0 0, Value.int 3 0, Value.ref 358, Value.bool true, Value.int 181 0, Value.ref 359, Value.none, Value.ref 360, Value.ref 361, Value.ref 362, Value.int 670 0, Value.int 305 0, Value.str (Str.ofString "/claim/cut.py") 671] }),
    (364, { cls := Value.type "function", data := Data.func { name := Str.ofString "_law_sources", qualname := Str.ofString "_law_sources", params := fPar (stAt 24), body := fBody (stAt 24), scope := fSc (stAt 24), globals := 3, closure := [], defaults := Value.none, kwdefaults := Value.none, pyModule := Value.str (Str.ofString "law_pb0349_01") 645, code := Value.ref 363 } }),
    (368, { cls := Value.type "code", data := Data.fields #[Value.str (Str.ofString "_law_ordered") 673, Value.str (Str.ofString "_law_ordered") 674, Value.str (Str.ofString "/claim/cut.py") 675, Value.int 323 0, Value.int 2 0, Value.int 0 0, Value.int 0 0, Value.int 3 0, Value.ref 365, Value.bool true, Value.int 181 0, Value.ref 366, Value.none, Value.none, Value.none, Value.ref 367, Value.int 676 0, Value.int 323 0, Value.str (Str.ofString "/claim/cut.py") 677] }),
    (369, { cls := Value.type "function", data := Data.func { name := Str.ofString "_law_ordered", qualname := Str.ofString "_law_ordered", params := fPar (stAt 25), body := fBody (stAt 25), scope := fSc (stAt 25), globals := 3, closure := [], defaults := Value.none, kwdefaults := Value.none, pyModule := Value.str (Str.ofString "law_pb0349_01") 645, code := Value.ref 368 } }),
    (373, { cls := Value.type "code", data := Data.fields #[Value.str (Str.ofString "law") 679, Value.str (Str.ofString "law") 680, Value.str (Str.ofString "/claim/cut.py") 681, Value.int 330 0, Value.int 1 0, Value.int 0 0, Value.int 0 0, Value.int 3 0, Value.ref 370, Value.bool true, Value.int 181 0, Value.ref 371, Value.none, Value.none, Value.none, Value.ref 372, Value.int 682 0, Value.int 330 0, Value.str (Str.ofString "/claim/cut.py") 683] }),
    (374, { cls := Value.type "function", data := Data.func { name := Str.ofString "law", qualname := Str.ofString "law", params := fPar (stAt 26), body := fBody (stAt 26), scope := fSc (stAt 26), globals := 3, closure := [], defaults := Value.none, kwdefaults := Value.none, pyModule := Value.str (Str.ofString "law_pb0349_01") 645, code := Value.ref 373 } })]
def KA : List Addr := [3, 34, 35, 58, 59, 76, 77, 79, 80, 90, 91, 97, 98, 104, 105, 132, 133, 134, 140, 141, 147, 148, 154, 155, 161, 162, 168, 169, 224, 225, 227, 228, 245, 246, 248, 249, 259, 260, 266, 267, 273, 274, 287, 288, 294, 295, 299, 300, 304, 305, 311, 312, 316, 317, 321, 322, 324, 325, 335, 336, 342, 343, 349, 350, 356, 357, 363, 364, 368, 369, 373, 374]
theorem KA_is : ∀ P, KA = (KK P).map (·.1) := fun _ => rfl
def rr : OpenRow := PySem.Challenge.rw_pb0349_01.row
def qv : Program := view PySem.Challenge.rw_pb0349_01.row.prog [0, 2, 4, 5, 6, 7, 8, 9, 10, 11, 12, 14, 15, 16, 17, 18, 19, 20, 21, 23, 24, 25, 26]
def HK : Hook := kHook KK KA KA_is
noncomputable def FIN : Params → List Obj := fun P => [
    boot_o_0 P,
    boot_o_1 P,
    boot_o_2 P,
    { cls := Value.type "dict", data := Data.dict #[{ hash := PyData.keyHash P (Str.ofString "__name__"), key := Value.str (Str.ofString "__name__") 165, val := Value.str (Str.ofString "law_pb0349_01") 645 }, { hash := PyData.keyHash P (Str.ofString "__doc__"), key := Value.str (Str.ofString "__doc__") 166, val := Value.none }, { hash := PyData.keyHash P (Str.ofString "__package__"), key := Value.str (Str.ofString "__package__") 167, val := Value.none }, { hash := PyData.keyHash P (Str.ofString "__loader__"), key := Value.str (Str.ofString "__loader__") 168, val := Value.builtin "__main__.__loader__#opaque" }, { hash := PyData.keyHash P (Str.ofString "__spec__"), key := Value.str (Str.ofString "__spec__") 169, val := Value.none }, { hash := PyData.keyHash P (Str.ofString "__annotations__"), key := Value.str (Str.ofString "__annotations__") 170, val := Value.ref 6 }, { hash := PyData.keyHash P (Str.ofString "__builtins__"), key := Value.str (Str.ofString "__builtins__") 171, val := Value.ref 4 }, { hash := PyData.keyHash P (Str.ofString "__file__"), key := Value.str (Str.ofString "__file__") 173, val := Value.str (Str.ofString "/claim/cut.py") 172 }, { hash := PyData.keyHash P (Str.ofString "__cached__"), key := Value.str (Str.ofString "__cached__") 174, val := Value.none }, { hash := PyData.keyHash P (Str.ofString "_wall"), key := Value.str (Str.ofString "_wall") 193, val := Value.ref 21 }, { hash := PyData.keyHash P (Str.ofString "ErrorList"), key := Value.str (Str.ofString "ErrorList") 247, val := Value.ref 59 }, { hash := PyData.keyHash P (Str.ofString "MOST_INTEGER"), key := Value.str (Str.ofString "MOST_INTEGER") 251, val := Value.int 2147483647 250 }, { hash := PyData.keyHash P (Str.ofString "MOST_WORD"), key := Value.str (Str.ofString "MOST_WORD") 253, val := Value.int 4294967295 252 }, { hash := PyData.keyHash P (Str.ofString "Token"), key := Value.str (Str.ofString "Token") 286, val := Value.ref 80 }, { hash := PyData.keyHash P (Str.ofString "keywords"), key := Value.str (Str.ofString "keywords") 292, val := Value.ref 91 }, { hash := PyData.keyHash P (Str.ofString "is_letter"), key := Value.str (Str.ofString "is_letter") 299, val := Value.ref 98 }, { hash := PyData.keyHash P (Str.ofString "is_digit"), key := Value.str (Str.ofString "is_digit") 306, val := Value.ref 105 }, { hash := PyData.keyHash P (Str.ofString "is_hex_digit"), key := Value.str (Str.ofString "is_hex_digit") 313, val := Value.ref 112 }, { hash := PyData.keyHash P (Str.ofString "digits_value"), key := Value.str (Str.ofString "digits_value") 324, val := Value.ref 119 }, { hash := PyData.keyHash P (Str.ofString "Scanner"), key := Value.str (Str.ofString "Scanner") 480, val := Value.ref 228 }, { hash := PyData.keyHash P (Str.ofString "Head"), key := Value.str (Str.ofString "Head") 513, val := Value.ref 249 }, { hash := PyData.keyHash P (Str.ofString "imported_name"), key := Value.str (Str.ofString "imported_name") 522, val := Value.ref 260 }, { hash := PyData.keyHash P (Str.ofString "import_names"), key := Value.str (Str.ofString "import_names") 533, val := Value.ref 267 }, { hash := PyData.keyHash P (Str.ofString "head_of"), key := Value.str (Str.ofString "head_of") 543, val := Value.ref 274 }, { hash := PyData.keyHash P (Str.ofString "ModuleSet"), key := Value.str (Str.ofString "ModuleSet") 616, val := Value.ref 325 }, { hash := PyData.keyHash P (Str.ofString "all_done"), key := Value.str (Str.ofString "all_done") 625, val := Value.ref 336 }, { hash := PyData.keyHash P (Str.ofString "turned"), key := Value.str (Str.ofString "turned") 633, val := Value.ref 343 }, { hash := PyData.keyHash P (Str.ofString "all_clients"), key := Value.str (Str.ofString "all_clients") 644, val := Value.ref 350 }, { hash := PyData.keyHash P (Str.ofString "_law_pick"), key := Value.str (Str.ofString "_law_pick") 656, val := Value.ref 357 }, { hash := PyData.keyHash P (Str.ofString "_law_sources"), key := Value.str (Str.ofString "_law_sources") 672, val := Value.ref 364 }, { hash := PyData.keyHash P (Str.ofString "_law_ordered"), key := Value.str (Str.ofString "_law_ordered") 678, val := Value.ref 369 }, { hash := PyData.keyHash P (Str.ofString "law"), key := Value.str (Str.ofString "law") 684, val := Value.ref 374 }] 32 },
    boot_o_4 P,
    boot_o_5 P,
    boot_o_6 P,
    boot_o_7 P,
    boot_o_8 P,
    boot_o_9 P,
    boot_o_10 P,
    { cls := Value.type "tuple", data := Data.seq #[] },
    { cls := Value.none, data := Data.fields #[Value.int 1 0, Value.int 0 0, Value.ref 20, Value.int 5 0, Value.int 0 0, Value.ref 27, Value.int 24 0, Value.int 0 0, Value.ref 69, Value.int 30 0, Value.int 0 0, Value.ref 90, Value.int 32 0, Value.int 0 0, Value.ref 97, Value.int 34 0, Value.int 0 0, Value.ref 104, Value.int 36 0, Value.int 0 0, Value.ref 111, Value.int 38 0, Value.int 0 0, Value.ref 118, Value.int 45 0, Value.int 0 0, Value.ref 125, Value.int 194 0, Value.int 0 0, Value.ref 238, Value.int 199 0, Value.int 0 0, Value.ref 259, Value.int 211 0, Value.int 0 0, Value.ref 266, Value.int 220 0, Value.int 0 0, Value.ref 273, Value.int 231 0, Value.int 0 0, Value.ref 280, Value.int 276 0, Value.int 0 0, Value.ref 335, Value.int 281 0, Value.int 0 0, Value.ref 342, Value.int 284 0, Value.int 0 0, Value.ref 349, Value.int 294 0, Value.int 0 0, Value.ref 356, Value.int 305 0, Value.int 0 0, Value.ref 363, Value.int 323 0, Value.int 0 0, Value.ref 368, Value.int 330 0, Value.int 0 0, Value.ref 373] },
    { cls := Value.type "code", data := Data.fields #[Value.str (Str.ofString "<module>") 182, Value.str (Str.ofString "<module>") 183, Value.str (Str.ofString "/claim/cut.py") 184, Value.int 1 0, Value.int 0 0, Value.int 0 0, Value.int 0 0, Value.int 0 0, Value.ref 11, Value.bool false, Value.int 181 0, Value.ref 12, Value.none, Value.none, Value.none, Value.none, Value.int 185 0, Value.int 1 0, Value.str (Str.ofString "/claim/cut.py") 186] },
    { cls := Value.type "frame", slots := #[some (Value.ref 13), some (Value.ref 3), some (Value.ref 3), none, some (Value.str (Str.ofString "__main__") 164), none, some (Value.ref 0)] },
    { cls := Value.type "tuple", data := Data.seq #[] },
    { cls := Value.none, data := Data.fields #[] },
    { cls := Value.type "tuple", data := Data.seq #[Value.str (Str.ofString "k") 190] },
    { cls := Value.type "tuple", data := Data.seq #[] },
    { cls := Value.none, data := Data.func { name := Str.ofString "_wall", qualname := Str.ofString "_wall", params := fPar (stAt 0), body := fBody (stAt 0), scope := fSc (stAt 0), globals := 0, closure := [], defaults := Value.none, kwdefaults := Value.none } },
    { cls := Value.type "code", data := Data.fields #[Value.str (Str.ofString "_wall") 187, Value.str (Str.ofString "_wall") 188, Value.str (Str.ofString "/claim/cut.py") 189, Value.int 1 0, Value.int 1 0, Value.int 0 0, Value.int 0 0, Value.int 3 0, Value.ref 15, Value.bool true, Value.int 181 0, Value.ref 16, Value.none, Value.ref 17, Value.ref 18, Value.ref 19, Value.int 191 0, Value.int 1 0, Value.str (Str.ofString "/claim/cut.py") 192] },
    { cls := Value.type "function", data := Data.func { name := Str.ofString "_wall", qualname := Str.ofString "_wall", params := fPar (stAt 0), body := fBody (stAt 0), scope := fSc (stAt 0), globals := 3, closure := [], defaults := Value.none, kwdefaults := Value.none, pyModule := Value.str (Str.ofString "__main__") 164, code := Value.ref 20 } },
    { cls := Value.type "tuple", data := Data.seq #[] },
    { cls := Value.type "builtin_function_or_method", data := Data.fields #[Value.builtin "type.__prepare__", Value.type "type"] },
    { cls := Value.type "dict", data := Data.dict #[{ hash := PyData.keyHash P (Str.ofString "__module__"), key := Value.str (Str.ofString "__module__") 203, val := Value.str (Str.ofString "moduleyard.errors") 194 }, { hash := PyData.keyHash P (Str.ofString "__qualname__"), key := Value.str (Str.ofString "__qualname__") 205, val := Value.str (Str.ofString "ErrorList") 204 }, { hash := PyData.keyHash P (Str.ofString "__firstlineno__"), key := Value.str (Str.ofString "__firstlineno__") 207, val := Value.int 5 206 }, { hash := PyData.keyHash P (Str.ofString "__init__"), key := Value.str (Str.ofString "__init__") 214, val := Value.ref 35 }, { hash := PyData.keyHash P (Str.ofString "mark"), key := Value.str (Str.ofString "mark") 223, val := Value.ref 42 }, { hash := PyData.keyHash P (Str.ofString "first"), key := Value.str (Str.ofString "first") 230, val := Value.ref 49 }, { hash := PyData.keyHash P (Str.ofString "ok"), key := Value.str (Str.ofString "ok") 237, val := Value.ref 56 }, { hash := PyData.keyHash P (Str.ofString "__static_attributes__"), key := Value.str (Str.ofString "__static_attributes__") 240, val := Value.ref 57 }] 8 },
    { cls := Value.type "tuple", data := Data.seq #[] },
    { cls := Value.none, data := Data.fields #[Value.int 7 0, Value.int 4 0, Value.ref 34, Value.int 11 0, Value.int 4 0, Value.ref 41, Value.int 16 0, Value.int 4 0, Value.ref 48, Value.int 19 0, Value.int 4 0, Value.ref 55] },
    { cls := Value.type "code", data := Data.fields #[Value.str (Str.ofString "ErrorList") 198, Value.str (Str.ofString "ErrorList") 199, Value.str (Str.ofString "/claim/cut.py") 200, Value.int 5 0, Value.int 0 0, Value.int 0 0, Value.int 0 0, Value.int 0 0, Value.ref 25, Value.bool false, Value.int 181 0, Value.ref 26, Value.none, Value.none, Value.none, Value.none, Value.int 201 0, Value.int 5 0, Value.str (Str.ofString "/claim/cut.py") 202] },
    { cls := Value.type "frame", slots := #[some (Value.ref 27), some (Value.ref 3), some (Value.ref 24), none, some (Value.str (Str.ofString "moduleyard.errors") 194), none, some (Value.ref 0)] },
    { cls := Value.type "tuple", data := Data.seq #[] },
    { cls := Value.none, data := Data.fields #[] },
    { cls := Value.type "tuple", data := Data.seq #[Value.str (Str.ofString "self") 211] },
    { cls := Value.type "tuple", data := Data.seq #[] },
    { cls := Value.none, data := Data.func { name := Str.ofString "__init__", qualname := Str.ofString "ErrorList.__init__", params := fPar (mSt 2 0), body := fBody (mSt 2 0), scope := fSc (mSt 2 0), globals := 0, closure := [], defaults := Value.none, kwdefaults := Value.none } },
    { cls := Value.type "code", data := Data.fields #[Value.str (Str.ofString "__init__") 208, Value.str (Str.ofString "ErrorList.__init__") 209, Value.str (Str.ofString "/claim/cut.py") 210, Value.int 7 0, Value.int 1 0, Value.int 0 0, Value.int 0 0, Value.int 3 0, Value.ref 29, Value.bool true, Value.int 181 0, Value.ref 30, Value.none, Value.ref 31, Value.ref 32, Value.ref 33, Value.int 212 0, Value.int 7 0, Value.str (Str.ofString "/claim/cut.py") 213] },
    { cls := Value.type "function", data := Data.func { name := Str.ofString "__init__", qualname := Str.ofString "ErrorList.__init__", params := fPar (mSt 2 0), body := fBody (mSt 2 0), scope := fSc (mSt 2 0), globals := 3, closure := [], defaults := Value.none, kwdefaults := Value.none, pyModule := Value.str (Str.ofString "moduleyard.errors") 194, code := Value.ref 34 } },
    { cls := Value.type "tuple", data := Data.seq #[] },
    { cls := Value.none, data := Data.fields #[] },
    { cls := Value.type "tuple", data := Data.seq #[Value.str (Str.ofString "self") 218, Value.str (Str.ofString "place") 219, Value.str (Str.ofString "code") 220] },
    { cls := Value.type "tuple", data := Data.seq #[] },
    { cls := Value.none, data := Data.func { name := Str.ofString "mark", qualname := Str.ofString "ErrorList.mark", params := fPar (mSt 2 1), body := fBody (mSt 2 1), scope := fSc (mSt 2 1), globals := 0, closure := [], defaults := Value.none, kwdefaults := Value.none } },
    { cls := Value.type "code", data := Data.fields #[Value.str (Str.ofString "mark") 215, Value.str (Str.ofString "ErrorList.mark") 216, Value.str (Str.ofString "/claim/cut.py") 217, Value.int 11 0, Value.int 3 0, Value.int 0 0, Value.int 0 0, Value.int 3 0, Value.ref 36, Value.bool true, Value.int 181 0, Value.ref 37, Value.none, Value.ref 38, Value.ref 39, Value.ref 40, Value.int 221 0, Value.int 11 0, Value.str (Str.ofString "/claim/cut.py") 222] },
    { cls := Value.type "function", data := Data.func { name := Str.ofString "mark", qualname := Str.ofString "ErrorList.mark", params := fPar (mSt 2 1), body := fBody (mSt 2 1), scope := fSc (mSt 2 1), globals := 3, closure := [], defaults := Value.none, kwdefaults := Value.none, pyModule := Value.str (Str.ofString "moduleyard.errors") 194, code := Value.ref 41 } },
    { cls := Value.type "tuple", data := Data.seq #[] },
    { cls := Value.none, data := Data.fields #[] },
    { cls := Value.type "tuple", data := Data.seq #[Value.str (Str.ofString "self") 227] },
    { cls := Value.type "tuple", data := Data.seq #[] },
    { cls := Value.none, data := Data.func { name := Str.ofString "first", qualname := Str.ofString "ErrorList.first", params := fPar (mSt 2 2), body := fBody (mSt 2 2), scope := fSc (mSt 2 2), globals := 0, closure := [], defaults := Value.none, kwdefaults := Value.none } },
    { cls := Value.type "code", data := Data.fields #[Value.str (Str.ofString "first") 224, Value.str (Str.ofString "ErrorList.first") 225, Value.str (Str.ofString "/claim/cut.py") 226, Value.int 16 0, Value.int 1 0, Value.int 0 0, Value.int 0 0, Value.int 3 0, Value.ref 43, Value.bool true, Value.int 181 0, Value.ref 44, Value.none, Value.ref 45, Value.ref 46, Value.ref 47, Value.int 228 0, Value.int 16 0, Value.str (Str.ofString "/claim/cut.py") 229] },
    { cls := Value.type "function", data := Data.func { name := Str.ofString "first", qualname := Str.ofString "ErrorList.first", params := fPar (mSt 2 2), body := fBody (mSt 2 2), scope := fSc (mSt 2 2), globals := 3, closure := [], defaults := Value.none, kwdefaults := Value.none, pyModule := Value.str (Str.ofString "moduleyard.errors") 194, code := Value.ref 48 } },
    { cls := Value.type "tuple", data := Data.seq #[] },
    { cls := Value.none, data := Data.fields #[] },
    { cls := Value.type "tuple", data := Data.seq #[Value.str (Str.ofString "self") 234] },
    { cls := Value.type "tuple", data := Data.seq #[] },
    { cls := Value.none, data := Data.func { name := Str.ofString "ok", qualname := Str.ofString "ErrorList.ok", params := fPar (mSt 2 3), body := fBody (mSt 2 3), scope := fSc (mSt 2 3), globals := 0, closure := [], defaults := Value.none, kwdefaults := Value.none } },
    { cls := Value.type "code", data := Data.fields #[Value.str (Str.ofString "ok") 231, Value.str (Str.ofString "ErrorList.ok") 232, Value.str (Str.ofString "/claim/cut.py") 233, Value.int 19 0, Value.int 1 0, Value.int 0 0, Value.int 0 0, Value.int 3 0, Value.ref 50, Value.bool true, Value.int 181 0, Value.ref 51, Value.none, Value.ref 52, Value.ref 53, Value.ref 54, Value.int 235 0, Value.int 19 0, Value.str (Str.ofString "/claim/cut.py") 236] },
    { cls := Value.type "function", data := Data.func { name := Str.ofString "ok", qualname := Str.ofString "ErrorList.ok", params := fPar (mSt 2 3), body := fBody (mSt 2 3), scope := fSc (mSt 2 3), globals := 3, closure := [], defaults := Value.none, kwdefaults := Value.none, pyModule := Value.str (Str.ofString "moduleyard.errors") 194, code := Value.ref 55 } },
    { cls := Value.type "tuple", data := Data.seq #[Value.str (Str.ofString "places") 238, Value.str (Str.ofString "rows") 239] },
    { cls := Value.type "dict", data := Data.dict #[{ hash := PyData.keyHash P (Str.ofString "__module__"), key := Value.str (Str.ofString "__module__") 203, val := Value.str (Str.ofString "moduleyard.errors") 194 }, { hash := PyData.keyHash P (Str.ofString "__firstlineno__"), key := Value.str (Str.ofString "__firstlineno__") 207, val := Value.int 5 206 }, { hash := PyData.keyHash P (Str.ofString "__init__"), key := Value.str (Str.ofString "__init__") 214, val := Value.ref 35 }, { hash := PyData.keyHash P (Str.ofString "mark"), key := Value.str (Str.ofString "mark") 223, val := Value.ref 42 }, { hash := PyData.keyHash P (Str.ofString "first"), key := Value.str (Str.ofString "first") 230, val := Value.ref 49 }, { hash := PyData.keyHash P (Str.ofString "ok"), key := Value.str (Str.ofString "ok") 237, val := Value.ref 56 }, { hash := PyData.keyHash P (Str.ofString "__static_attributes__"), key := Value.str (Str.ofString "__static_attributes__") 240, val := Value.ref 57 }, { hash := PyData.keyHash P (Str.ofString "__dict__"), key := Value.str (Str.ofString "__dict__") 242, val := Value.ref 60 }, { hash := PyData.keyHash P (Str.ofString "__weakref__"), key := Value.str (Str.ofString "__weakref__") 244, val := Value.ref 61 }, { hash := PyData.keyHash P (Str.ofString "__doc__"), key := Value.str (Str.ofString "__doc__") 245, val := Value.none }] 4 },
    { cls := Value.type "type", data := Data.cls { name := Str.ofString "ErrorList", bases := [Value.type "object"], mro := [Value.ref 59, Value.type "object"], ns := 58, qualname := Str.ofString "ErrorList" }, slots := #[none, none, some (Value.str (Str.ofString "ErrorList") 196), some (Value.str (Str.ofString "ErrorList") 204), some (Value.builtin "object.__new__"), some (Value.bool true)] },
    { cls := Value.type "getset_descriptor", data := Data.fields #[Value.str (Str.ofString "__dict__") 241, Value.ref 59, Value.builtin "function.__dict__", Value.builtin "function.__dict__#set"] },
    { cls := Value.type "getset_descriptor", data := Data.fields #[Value.str (Str.ofString "__weakref__") 243, Value.ref 59, Value.builtin "ExceptionGroup.__weakref__", Value.none] },
    { cls := Value.type "super", data := Data.fields #[Value.ref 59, Value.ref 59, Value.ref 59] },
    { cls := Value.type "builtin_function_or_method", data := Data.fields #[Value.builtin "object.__init_subclass__", Value.ref 59] },
    { cls := Value.type "tuple", data := Data.seq #[] },
    { cls := Value.type "builtin_function_or_method", data := Data.fields #[Value.builtin "type.__prepare__", Value.type "type"] },
    { cls := Value.type "dict", data := Data.dict #[{ hash := PyData.keyHash P (Str.ofString "__module__"), key := Value.str (Str.ofString "__module__") 261, val := Value.str (Str.ofString "moduleyard.scanner") 248 }, { hash := PyData.keyHash P (Str.ofString "__qualname__"), key := Value.str (Str.ofString "__qualname__") 263, val := Value.str (Str.ofString "Token") 262 }, { hash := PyData.keyHash P (Str.ofString "__firstlineno__"), key := Value.str (Str.ofString "__firstlineno__") 265, val := Value.int 24 264 }, { hash := PyData.keyHash P (Str.ofString "__init__"), key := Value.str (Str.ofString "__init__") 275, val := Value.ref 77 }, { hash := PyData.keyHash P (Str.ofString "__static_attributes__"), key := Value.str (Str.ofString "__static_attributes__") 279, val := Value.ref 78 }] 5 },
    { cls := Value.type "tuple", data := Data.seq #[] },
    { cls := Value.none, data := Data.fields #[Value.int 26 0, Value.int 4 0, Value.ref 76] },
    { cls := Value.type "code", data := Data.fields #[Value.str (Str.ofString "Token") 256, Value.str (Str.ofString "Token") 257, Value.str (Str.ofString "/claim/cut.py") 258, Value.int 24 0, Value.int 0 0, Value.int 0 0, Value.int 0 0, Value.int 0 0, Value.ref 67, Value.bool false, Value.int 181 0, Value.ref 68, Value.none, Value.none, Value.none, Value.none, Value.int 259 0, Value.int 24 0, Value.str (Str.ofString "/claim/cut.py") 260] },
    { cls := Value.type "frame", slots := #[some (Value.ref 69), some (Value.ref 3), some (Value.ref 66), none, some (Value.str (Str.ofString "moduleyard.scanner") 248), none, some (Value.ref 0)] },
    { cls := Value.type "tuple", data := Data.seq #[] },
    { cls := Value.none, data := Data.fields #[] },
    { cls := Value.type "tuple", data := Data.seq #[Value.str (Str.ofString "self") 269, Value.str (Str.ofString "kind") 270, Value.str (Str.ofString "value") 271, Value.str (Str.ofString "place") 272] },
    { cls := Value.type "tuple", data := Data.seq #[] },
    { cls := Value.none, data := Data.func { name := Str.ofString "__init__", qualname := Str.ofString "Token.__init__", params := fPar (mSt 6 0), body := fBody (mSt 6 0), scope := fSc (mSt 6 0), globals := 0, closure := [], defaults := Value.none, kwdefaults := Value.none } },
    { cls := Value.type "code", data := Data.fields #[Value.str (Str.ofString "__init__") 266, Value.str (Str.ofString "Token.__init__") 267, Value.str (Str.ofString "/claim/cut.py") 268, Value.int 26 0, Value.int 4 0, Value.int 0 0, Value.int 0 0, Value.int 3 0, Value.ref 71, Value.bool true, Value.int 181 0, Value.ref 72, Value.none, Value.ref 73, Value.ref 74, Value.ref 75, Value.int 273 0, Value.int 26 0, Value.str (Str.ofString "/claim/cut.py") 274] },
    { cls := Value.type "function", data := Data.func { name := Str.ofString "__init__", qualname := Str.ofString "Token.__init__", params := fPar (mSt 6 0), body := fBody (mSt 6 0), scope := fSc (mSt 6 0), globals := 3, closure := [], defaults := Value.none, kwdefaults := Value.none, pyModule := Value.str (Str.ofString "moduleyard.scanner") 248, code := Value.ref 76 } },
    { cls := Value.type "tuple", data := Data.seq #[Value.str (Str.ofString "kind") 276, Value.str (Str.ofString "place") 277, Value.str (Str.ofString "value") 278] },
    { cls := Value.type "dict", data := Data.dict #[{ hash := PyData.keyHash P (Str.ofString "__module__"), key := Value.str (Str.ofString "__module__") 261, val := Value.str (Str.ofString "moduleyard.scanner") 248 }, { hash := PyData.keyHash P (Str.ofString "__firstlineno__"), key := Value.str (Str.ofString "__firstlineno__") 265, val := Value.int 24 264 }, { hash := PyData.keyHash P (Str.ofString "__init__"), key := Value.str (Str.ofString "__init__") 275, val := Value.ref 77 }, { hash := PyData.keyHash P (Str.ofString "__static_attributes__"), key := Value.str (Str.ofString "__static_attributes__") 279, val := Value.ref 78 }, { hash := PyData.keyHash P (Str.ofString "__dict__"), key := Value.str (Str.ofString "__dict__") 281, val := Value.ref 81 }, { hash := PyData.keyHash P (Str.ofString "__weakref__"), key := Value.str (Str.ofString "__weakref__") 283, val := Value.ref 82 }, { hash := PyData.keyHash P (Str.ofString "__doc__"), key := Value.str (Str.ofString "__doc__") 284, val := Value.none }] 4 },
    { cls := Value.type "type", data := Data.cls { name := Str.ofString "Token", bases := [Value.type "object"], mro := [Value.ref 80, Value.type "object"], ns := 79, qualname := Str.ofString "Token" }, slots := #[none, none, some (Value.str (Str.ofString "Token") 254), some (Value.str (Str.ofString "Token") 262), some (Value.builtin "object.__new__"), some (Value.bool true)] },
    { cls := Value.type "getset_descriptor", data := Data.fields #[Value.str (Str.ofString "__dict__") 280, Value.ref 80, Value.builtin "function.__dict__", Value.builtin "function.__dict__#set"] },
    { cls := Value.type "getset_descriptor", data := Data.fields #[Value.str (Str.ofString "__weakref__") 282, Value.ref 80, Value.builtin "ExceptionGroup.__weakref__", Value.none] },
    { cls := Value.type "super", data := Data.fields #[Value.ref 80, Value.ref 80, Value.ref 80] },
    { cls := Value.type "builtin_function_or_method", data := Data.fields #[Value.builtin "object.__init_subclass__", Value.ref 80] },
    { cls := Value.type "tuple", data := Data.seq #[] },
    { cls := Value.none, data := Data.fields #[] },
    { cls := Value.type "tuple", data := Data.seq #[] },
    { cls := Value.type "tuple", data := Data.seq #[] },
    { cls := Value.none, data := Data.func { name := Str.ofString "keywords", qualname := Str.ofString "keywords", params := fPar (stAt 7), body := fBody (stAt 7), scope := fSc (stAt 7), globals := 0, closure := [], defaults := Value.none, kwdefaults := Value.none } },
    { cls := Value.type "code", data := Data.fields #[Value.str (Str.ofString "keywords") 287, Value.str (Str.ofString "keywords") 288, Value.str (Str.ofString "/claim/cut.py") 289, Value.int 30 0, Value.int 0 0, Value.int 0 0, Value.int 0 0, Value.int 3 0, Value.ref 85, Value.bool true, Value.int 181 0, Value.ref 86, Value.none, Value.ref 87, Value.ref 88, Value.ref 89, Value.int 290 0, Value.int 30 0, Value.str (Str.ofString "/claim/cut.py") 291] },
    { cls := Value.type "function", data := Data.func { name := Str.ofString "keywords", qualname := Str.ofString "keywords", params := fPar (stAt 7), body := fBody (stAt 7), scope := fSc (stAt 7), globals := 3, closure := [], defaults := Value.none, kwdefaults := Value.none, pyModule := Value.str (Str.ofString "moduleyard.scanner") 248, code := Value.ref 90 } },
    { cls := Value.type "tuple", data := Data.seq #[] },
    { cls := Value.none, data := Data.fields #[] },
    { cls := Value.type "tuple", data := Data.seq #[Value.str (Str.ofString "char") 296] },
    { cls := Value.type "tuple", data := Data.seq #[] },
    { cls := Value.none, data := Data.func { name := Str.ofString "is_letter", qualname := Str.ofString "is_letter", params := fPar (stAt 8), body := fBody (stAt 8), scope := fSc (stAt 8), globals := 0, closure := [], defaults := Value.none, kwdefaults := Value.none } },
    { cls := Value.type "code", data := Data.fields #[Value.str (Str.ofString "is_letter") 293, Value.str (Str.ofString "is_letter") 294, Value.str (Str.ofString "/claim/cut.py") 295, Value.int 32 0, Value.int 1 0, Value.int 0 0, Value.int 0 0, Value.int 3 0, Value.ref 92, Value.bool true, Value.int 181 0, Value.ref 93, Value.none, Value.ref 94, Value.ref 95, Value.ref 96, Value.int 297 0, Value.int 32 0, Value.str (Str.ofString "/claim/cut.py") 298] },
    { cls := Value.type "function", data := Data.func { name := Str.ofString "is_letter", qualname := Str.ofString "is_letter", params := fPar (stAt 8), body := fBody (stAt 8), scope := fSc (stAt 8), globals := 3, closure := [], defaults := Value.none, kwdefaults := Value.none, pyModule := Value.str (Str.ofString "moduleyard.scanner") 248, code := Value.ref 97 } },
    { cls := Value.type "tuple", data := Data.seq #[] },
    { cls := Value.none, data := Data.fields #[] },
    { cls := Value.type "tuple", data := Data.seq #[Value.str (Str.ofString "char") 303] },
    { cls := Value.type "tuple", data := Data.seq #[] },
    { cls := Value.none, data := Data.func { name := Str.ofString "is_digit", qualname := Str.ofString "is_digit", params := fPar (stAt 9), body := fBody (stAt 9), scope := fSc (stAt 9), globals := 0, closure := [], defaults := Value.none, kwdefaults := Value.none } },
    { cls := Value.type "code", data := Data.fields #[Value.str (Str.ofString "is_digit") 300, Value.str (Str.ofString "is_digit") 301, Value.str (Str.ofString "/claim/cut.py") 302, Value.int 34 0, Value.int 1 0, Value.int 0 0, Value.int 0 0, Value.int 3 0, Value.ref 99, Value.bool true, Value.int 181 0, Value.ref 100, Value.none, Value.ref 101, Value.ref 102, Value.ref 103, Value.int 304 0, Value.int 34 0, Value.str (Str.ofString "/claim/cut.py") 305] },
    { cls := Value.type "function", data := Data.func { name := Str.ofString "is_digit", qualname := Str.ofString "is_digit", params := fPar (stAt 9), body := fBody (stAt 9), scope := fSc (stAt 9), globals := 3, closure := [], defaults := Value.none, kwdefaults := Value.none, pyModule := Value.str (Str.ofString "moduleyard.scanner") 248, code := Value.ref 104 } },
    { cls := Value.type "tuple", data := Data.seq #[] },
    { cls := Value.none, data := Data.fields #[] },
    { cls := Value.type "tuple", data := Data.seq #[Value.str (Str.ofString "char") 310] },
    { cls := Value.type "tuple", data := Data.seq #[] },
    { cls := Value.none, data := Data.func { name := Str.ofString "is_hex_digit", qualname := Str.ofString "is_hex_digit", params := fPar (stAt 10), body := fBody (stAt 10), scope := fSc (stAt 10), globals := 0, closure := [], defaults := Value.none, kwdefaults := Value.none } },
    { cls := Value.type "code", data := Data.fields #[Value.str (Str.ofString "is_hex_digit") 307, Value.str (Str.ofString "is_hex_digit") 308, Value.str (Str.ofString "/claim/cut.py") 309, Value.int 36 0, Value.int 1 0, Value.int 0 0, Value.int 0 0, Value.int 3 0, Value.ref 106, Value.bool true, Value.int 181 0, Value.ref 107, Value.none, Value.ref 108, Value.ref 109, Value.ref 110, Value.int 311 0, Value.int 36 0, Value.str (Str.ofString "/claim/cut.py") 312] },
    { cls := Value.type "function", data := Data.func { name := Str.ofString "is_hex_digit", qualname := Str.ofString "is_hex_digit", params := fPar (stAt 10), body := fBody (stAt 10), scope := fSc (stAt 10), globals := 3, closure := [], defaults := Value.none, kwdefaults := Value.none, pyModule := Value.str (Str.ofString "moduleyard.scanner") 248, code := Value.ref 111 } },
    { cls := Value.type "tuple", data := Data.seq #[] },
    { cls := Value.none, data := Data.fields #[] },
    { cls := Value.type "tuple", data := Data.seq #[Value.str (Str.ofString "digits") 317, Value.str (Str.ofString "base") 318, Value.str (Str.ofString "most") 319, Value.str (Str.ofString "value") 320, Value.str (Str.ofString "digit") 321] },
    { cls := Value.type "tuple", data := Data.seq #[] },
    { cls := Value.none, data := Data.func { name := Str.ofString "digits_value", qualname := Str.ofString "digits_value", params := fPar (stAt 11), body := fBody (stAt 11), scope := fSc (stAt 11), globals := 0, closure := [], defaults := Value.none, kwdefaults := Value.none } },
    { cls := Value.type "code", data := Data.fields #[Value.str (Str.ofString "digits_value") 314, Value.str (Str.ofString "digits_value") 315, Value.str (Str.ofString "/claim/cut.py") 316, Value.int 38 0, Value.int 3 0, Value.int 0 0, Value.int 0 0, Value.int 3 0, Value.ref 113, Value.bool true, Value.int 181 0, Value.ref 114, Value.none, Value.ref 115, Value.ref 116, Value.ref 117, Value.int 322 0, Value.int 38 0, Value.str (Str.ofString "/claim/cut.py") 323] },
    { cls := Value.type "function", data := Data.func { name := Str.ofString "digits_value", qualname := Str.ofString "digits_value", params := fPar (stAt 11), body := fBody (stAt 11), scope := fSc (stAt 11), globals := 3, closure := [], defaults := Value.none, kwdefaults := Value.none, pyModule := Value.str (Str.ofString "moduleyard.scanner") 248, code := Value.ref 118 } },
    { cls := Value.type "tuple", data := Data.seq #[] },
    { cls := Value.type "builtin_function_or_method", data := Data.fields #[Value.builtin "type.__prepare__", Value.type "type"] },
    { cls := Value.type "dict", data := Data.dict #[{ hash := PyData.keyHash P (Str.ofString "__module__"), key := Value.str (Str.ofString "__module__") 332, val := Value.str (Str.ofString "moduleyard.scanner") 248 }, { hash := PyData.keyHash P (Str.ofString "__qualname__"), key := Value.str (Str.ofString "__qualname__") 334, val := Value.str (Str.ofString "Scanner") 333 }, { hash := PyData.keyHash P (Str.ofString "__firstlineno__"), key := Value.str (Str.ofString "__firstlineno__") 336, val := Value.int 45 335 }, { hash := PyData.keyHash P (Str.ofString "__init__"), key := Value.str (Str.ofString "__init__") 345, val := Value.ref 133 }, { hash := PyData.keyHash P (Str.ofString "char"), key := Value.str (Str.ofString "char") 354, val := Value.ref 141 }, { hash := PyData.keyHash P (Str.ofString "take"), key := Value.str (Str.ofString "take") 364, val := Value.ref 148 }, { hash := PyData.keyHash P (Str.ofString "skip"), key := Value.str (Str.ofString "skip") 372, val := Value.ref 155 }, { hash := PyData.keyHash P (Str.ofString "remark"), key := Value.str (Str.ofString "remark") 382, val := Value.ref 162 }, { hash := PyData.keyHash P (Str.ofString "word"), key := Value.str (Str.ofString "word") 392, val := Value.ref 169 }, { hash := PyData.keyHash P (Str.ofString "numeral"), key := Value.str (Str.ofString "numeral") 404, val := Value.ref 176 }, { hash := PyData.keyHash P (Str.ofString "whole"), key := Value.str (Str.ofString "whole") 414, val := Value.ref 183 }, { hash := PyData.keyHash P (Str.ofString "hexadecimal"), key := Value.str (Str.ofString "hexadecimal") 424, val := Value.ref 190 }, { hash := PyData.keyHash P (Str.ofString "character"), key := Value.str (Str.ofString "character") 434, val := Value.ref 197 }, { hash := PyData.keyHash P (Str.ofString "real"), key := Value.str (Str.ofString "real") 443, val := Value.ref 204 }, { hash := PyData.keyHash P (Str.ofString "skip_digits"), key := Value.str (Str.ofString "skip_digits") 450, val := Value.ref 211 }, { hash := PyData.keyHash P (Str.ofString "string"), key := Value.str (Str.ofString "string") 460, val := Value.ref 218 }, { hash := PyData.keyHash P (Str.ofString "symbol"), key := Value.str (Str.ofString "symbol") 468, val := Value.ref 225 }, { hash := PyData.keyHash P (Str.ofString "__static_attributes__"), key := Value.str (Str.ofString "__static_attributes__") 473, val := Value.ref 226 }] 18 },
    { cls := Value.type "tuple", data := Data.seq #[] },
    { cls := Value.none, data := Data.fields #[Value.int 47 0, Value.int 4 0, Value.ref 132, Value.int 53 0, Value.int 4 0, Value.ref 140, Value.int 56 0, Value.int 4 0, Value.ref 147, Value.int 76 0, Value.int 4 0, Value.ref 154, Value.int 86 0, Value.int 4 0, Value.ref 161, Value.int 104 0, Value.int 4 0, Value.ref 168, Value.int 114 0, Value.int 4 0, Value.ref 175, Value.int 134 0, Value.int 4 0, Value.ref 182, Value.int 140 0, Value.int 4 0, Value.ref 189, Value.int 146 0, Value.int 4 0, Value.ref 196, Value.int 153 0, Value.int 4 0, Value.ref 203, Value.int 166 0, Value.int 4 0, Value.ref 210, Value.int 170 0, Value.int 4 0, Value.ref 217, Value.int 186 0, Value.int 4 0, Value.ref 224] },
    { cls := Value.type "code", data := Data.fields #[Value.str (Str.ofString "Scanner") 327, Value.str (Str.ofString "Scanner") 328, Value.str (Str.ofString "/claim/cut.py") 329, Value.int 45 0, Value.int 0 0, Value.int 0 0, Value.int 0 0, Value.int 0 0, Value.ref 123, Value.bool false, Value.int 181 0, Value.ref 124, Value.none, Value.none, Value.none, Value.none, Value.int 330 0, Value.int 45 0, Value.str (Str.ofString "/claim/cut.py") 331] },
    { cls := Value.type "frame", slots := #[some (Value.ref 125), some (Value.ref 3), some (Value.ref 122), none, some (Value.str (Str.ofString "moduleyard.scanner") 248), none, some (Value.ref 0)] },
    { cls := Value.type "tuple", data := Data.seq #[] },
    { cls := Value.none, data := Data.fields #[] },
    { cls := Value.type "tuple", data := Data.seq #[Value.str (Str.ofString "self") 340, Value.str (Str.ofString "source") 341, Value.str (Str.ofString "errors") 342] },
    { cls := Value.type "tuple", data := Data.seq #[] },
    { cls := Value.none, data := Data.func { name := Str.ofString "__init__", qualname := Str.ofString "Scanner.__init__", params := fPar (mSt 12 0), body := fBody (mSt 12 0), scope := fSc (mSt 12 0), globals := 0, closure := [], defaults := Value.none, kwdefaults := Value.none } },
    { cls := Value.type "code", data := Data.fields #[Value.str (Str.ofString "__init__") 337, Value.str (Str.ofString "Scanner.__init__") 338, Value.str (Str.ofString "/claim/cut.py") 339, Value.int 47 0, Value.int 3 0, Value.int 0 0, Value.int 0 0, Value.int 3 0, Value.ref 127, Value.bool true, Value.int 181 0, Value.ref 128, Value.none, Value.ref 129, Value.ref 130, Value.ref 131, Value.int 343 0, Value.int 47 0, Value.str (Str.ofString "/claim/cut.py") 344] },
    { cls := Value.type "function", data := Data.func { name := Str.ofString "__init__", qualname := Str.ofString "Scanner.__init__", params := fPar (mSt 12 0), body := fBody (mSt 12 0), scope := fSc (mSt 12 0), globals := 3, closure := [], defaults := Value.none, kwdefaults := Value.none, pyModule := Value.str (Str.ofString "moduleyard.scanner") 248, code := Value.ref 132 } },
    { cls := Value.type "tuple", data := Data.seq #[Value.int 0 346] },
    { cls := Value.type "tuple", data := Data.seq #[] },
    { cls := Value.none, data := Data.fields #[] },
    { cls := Value.type "tuple", data := Data.seq #[Value.str (Str.ofString "self") 350, Value.str (Str.ofString "ahead") 351] },
    { cls := Value.type "tuple", data := Data.seq #[] },
    { cls := Value.none, data := Data.func { name := Str.ofString "char", qualname := Str.ofString "Scanner.char", params := fPar (mSt 12 1), body := fBody (mSt 12 1), scope := fSc (mSt 12 1), globals := 0, closure := [], defaults := Value.none, kwdefaults := Value.none } },
    { cls := Value.type "code", data := Data.fields #[Value.str (Str.ofString "char") 347, Value.str (Str.ofString "Scanner.char") 348, Value.str (Str.ofString "/claim/cut.py") 349, Value.int 53 0, Value.int 2 0, Value.int 0 0, Value.int 0 0, Value.int 3 0, Value.ref 135, Value.bool true, Value.int 181 0, Value.ref 136, Value.none, Value.ref 137, Value.ref 138, Value.ref 139, Value.int 352 0, Value.int 53 0, Value.str (Str.ofString "/claim/cut.py") 353] },
    { cls := Value.type "function", data := Data.func { name := Str.ofString "char", qualname := Str.ofString "Scanner.char", params := fPar (mSt 12 1), body := fBody (mSt 12 1), scope := fSc (mSt 12 1), globals := 3, closure := [], defaults := Value.ref 134, kwdefaults := Value.none, pyModule := Value.str (Str.ofString "moduleyard.scanner") 248, code := Value.ref 140 } },
    { cls := Value.type "tuple", data := Data.seq #[] },
    { cls := Value.none, data := Data.fields #[] },
    { cls := Value.type "tuple", data := Data.seq #[Value.str (Str.ofString "self") 358, Value.str (Str.ofString "begun") 359, Value.str (Str.ofString "char") 360, Value.str (Str.ofString "symbol") 361] },
    { cls := Value.type "tuple", data := Data.seq #[] },
    { cls := Value.none, data := Data.func { name := Str.ofString "take", qualname := Str.ofString "Scanner.take", params := fPar (mSt 12 2), body := fBody (mSt 12 2), scope := fSc (mSt 12 2), globals := 0, closure := [], defaults := Value.none, kwdefaults := Value.none } },
    { cls := Value.type "code", data := Data.fields #[Value.str (Str.ofString "take") 355, Value.str (Str.ofString "Scanner.take") 356, Value.str (Str.ofString "/claim/cut.py") 357, Value.int 56 0, Value.int 1 0, Value.int 0 0, Value.int 0 0, Value.int 3 0, Value.ref 142, Value.bool true, Value.int 181 0, Value.ref 143, Value.none, Value.ref 144, Value.ref 145, Value.ref 146, Value.int 362 0, Value.int 56 0, Value.str (Str.ofString "/claim/cut.py") 363] },
    { cls := Value.type "function", data := Data.func { name := Str.ofString "take", qualname := Str.ofString "Scanner.take", params := fPar (mSt 12 2), body := fBody (mSt 12 2), scope := fSc (mSt 12 2), globals := 3, closure := [], defaults := Value.none, kwdefaults := Value.none, pyModule := Value.str (Str.ofString "moduleyard.scanner") 248, code := Value.ref 147 } },
    { cls := Value.type "tuple", data := Data.seq #[] },
    { cls := Value.none, data := Data.fields #[] },
    { cls := Value.type "tuple", data := Data.seq #[Value.str (Str.ofString "self") 368, Value.str (Str.ofString "char") 369] },
    { cls := Value.type "tuple", data := Data.seq #[] },
    { cls := Value.none, data := Data.func { name := Str.ofString "skip", qualname := Str.ofString "Scanner.skip", params := fPar (mSt 12 3), body := fBody (mSt 12 3), scope := fSc (mSt 12 3), globals := 0, closure := [], defaults := Value.none, kwdefaults := Value.none } },
    { cls := Value.type "code", data := Data.fields #[Value.str (Str.ofString "skip") 365, Value.str (Str.ofString "Scanner.skip") 366, Value.str (Str.ofString "/claim/cut.py") 367, Value.int 76 0, Value.int 1 0, Value.int 0 0, Value.int 0 0, Value.int 3 0, Value.ref 149, Value.bool true, Value.int 181 0, Value.ref 150, Value.none, Value.ref 151, Value.ref 152, Value.ref 153, Value.int 370 0, Value.int 76 0, Value.str (Str.ofString "/claim/cut.py") 371] },
    { cls := Value.type "function", data := Data.func { name := Str.ofString "skip", qualname := Str.ofString "Scanner.skip", params := fPar (mSt 12 3), body := fBody (mSt 12 3), scope := fSc (mSt 12 3), globals := 3, closure := [], defaults := Value.none, kwdefaults := Value.none, pyModule := Value.str (Str.ofString "moduleyard.scanner") 248, code := Value.ref 154 } },
    { cls := Value.type "tuple", data := Data.seq #[] },
    { cls := Value.none, data := Data.fields #[] },
    { cls := Value.type "tuple", data := Data.seq #[Value.str (Str.ofString "self") 376, Value.str (Str.ofString "begun") 377, Value.str (Str.ofString "depth") 378, Value.str (Str.ofString "pair") 379] },
    { cls := Value.type "tuple", data := Data.seq #[] },
    { cls := Value.none, data := Data.func { name := Str.ofString "remark", qualname := Str.ofString "Scanner.remark", params := fPar (mSt 12 4), body := fBody (mSt 12 4), scope := fSc (mSt 12 4), globals := 0, closure := [], defaults := Value.none, kwdefaults := Value.none } },
    { cls := Value.type "code", data := Data.fields #[Value.str (Str.ofString "remark") 373, Value.str (Str.ofString "Scanner.remark") 374, Value.str (Str.ofString "/claim/cut.py") 375, Value.int 86 0, Value.int 1 0, Value.int 0 0, Value.int 0 0, Value.int 3 0, Value.ref 156, Value.bool true, Value.int 181 0, Value.ref 157, Value.none, Value.ref 158, Value.ref 159, Value.ref 160, Value.int 380 0, Value.int 86 0, Value.str (Str.ofString "/claim/cut.py") 381] },
    { cls := Value.type "function", data := Data.func { name := Str.ofString "remark", qualname := Str.ofString "Scanner.remark", params := fPar (mSt 12 4), body := fBody (mSt 12 4), scope := fSc (mSt 12 4), globals := 3, closure := [], defaults := Value.none, kwdefaults := Value.none, pyModule := Value.str (Str.ofString "moduleyard.scanner") 248, code := Value.ref 161 } },
    { cls := Value.type "tuple", data := Data.seq #[] },
    { cls := Value.none, data := Data.fields #[] },
    { cls := Value.type "tuple", data := Data.seq #[Value.str (Str.ofString "self") 386, Value.str (Str.ofString "begun") 387, Value.str (Str.ofString "end") 388, Value.str (Str.ofString "name") 389] },
    { cls := Value.type "tuple", data := Data.seq #[] },
    { cls := Value.none, data := Data.func { name := Str.ofString "word", qualname := Str.ofString "Scanner.word", params := fPar (mSt 12 5), body := fBody (mSt 12 5), scope := fSc (mSt 12 5), globals := 0, closure := [], defaults := Value.none, kwdefaults := Value.none } },
    { cls := Value.type "code", data := Data.fields #[Value.str (Str.ofString "word") 383, Value.str (Str.ofString "Scanner.word") 384, Value.str (Str.ofString "/claim/cut.py") 385, Value.int 104 0, Value.int 2 0, Value.int 0 0, Value.int 0 0, Value.int 3 0, Value.ref 163, Value.bool true, Value.int 181 0, Value.ref 164, Value.none, Value.ref 165, Value.ref 166, Value.ref 167, Value.int 390 0, Value.int 104 0, Value.str (Str.ofString "/claim/cut.py") 391] },
    { cls := Value.type "function", data := Data.func { name := Str.ofString "word", qualname := Str.ofString "Scanner.word", params := fPar (mSt 12 5), body := fBody (mSt 12 5), scope := fSc (mSt 12 5), globals := 3, closure := [], defaults := Value.none, kwdefaults := Value.none, pyModule := Value.str (Str.ofString "moduleyard.scanner") 248, code := Value.ref 168 } },
    { cls := Value.type "tuple", data := Data.seq #[] },
    { cls := Value.none, data := Data.fields #[] },
    { cls := Value.type "tuple", data := Data.seq #[Value.str (Str.ofString "self") 396, Value.str (Str.ofString "begun") 397, Value.str (Str.ofString "end") 398, Value.str (Str.ofString "digits") 399, Value.str (Str.ofString "ending") 400, Value.str (Str.ofString "value") 401] },
    { cls := Value.type "tuple", data := Data.seq #[] },
    { cls := Value.none, data := Data.func { name := Str.ofString "numeral", qualname := Str.ofString "Scanner.numeral", params := fPar (mSt 12 6), body := fBody (mSt 12 6), scope := fSc (mSt 12 6), globals := 0, closure := [], defaults := Value.none, kwdefaults := Value.none } },
    { cls := Value.type "code", data := Data.fields #[Value.str (Str.ofString "numeral") 393, Value.str (Str.ofString "Scanner.numeral") 394, Value.str (Str.ofString "/claim/cut.py") 395, Value.int 114 0, Value.int 2 0, Value.int 0 0, Value.int 0 0, Value.int 3 0, Value.ref 170, Value.bool true, Value.int 181 0, Value.ref 171, Value.none, Value.ref 172, Value.ref 173, Value.ref 174, Value.int 402 0, Value.int 114 0, Value.str (Str.ofString "/claim/cut.py") 403] },
    { cls := Value.type "function", data := Data.func { name := Str.ofString "numeral", qualname := Str.ofString "Scanner.numeral", params := fPar (mSt 12 6), body := fBody (mSt 12 6), scope := fSc (mSt 12 6), globals := 3, closure := [], defaults := Value.none, kwdefaults := Value.none, pyModule := Value.str (Str.ofString "moduleyard.scanner") 248, code := Value.ref 175 } },
    { cls := Value.type "tuple", data := Data.seq #[] },
    { cls := Value.none, data := Data.fields #[] },
    { cls := Value.type "tuple", data := Data.seq #[Value.str (Str.ofString "self") 408, Value.str (Str.ofString "begun") 409, Value.str (Str.ofString "value") 410, Value.str (Str.ofString "most") 411] },
    { cls := Value.type "tuple", data := Data.seq #[] },
    { cls := Value.none, data := Data.func { name := Str.ofString "whole", qualname := Str.ofString "Scanner.whole", params := fPar (mSt 12 7), body := fBody (mSt 12 7), scope := fSc (mSt 12 7), globals := 0, closure := [], defaults := Value.none, kwdefaults := Value.none } },
    { cls := Value.type "code", data := Data.fields #[Value.str (Str.ofString "whole") 405, Value.str (Str.ofString "Scanner.whole") 406, Value.str (Str.ofString "/claim/cut.py") 407, Value.int 134 0, Value.int 4 0, Value.int 0 0, Value.int 0 0, Value.int 3 0, Value.ref 177, Value.bool true, Value.int 181 0, Value.ref 178, Value.none, Value.ref 179, Value.ref 180, Value.ref 181, Value.int 412 0, Value.int 134 0, Value.str (Str.ofString "/claim/cut.py") 413] },
    { cls := Value.type "function", data := Data.func { name := Str.ofString "whole", qualname := Str.ofString "Scanner.whole", params := fPar (mSt 12 7), body := fBody (mSt 12 7), scope := fSc (mSt 12 7), globals := 3, closure := [], defaults := Value.none, kwdefaults := Value.none, pyModule := Value.str (Str.ofString "moduleyard.scanner") 248, code := Value.ref 182 } },
    { cls := Value.type "tuple", data := Data.seq #[] },
    { cls := Value.none, data := Data.fields #[] },
    { cls := Value.type "tuple", data := Data.seq #[Value.str (Str.ofString "self") 418, Value.str (Str.ofString "begun") 419, Value.str (Str.ofString "digits") 420, Value.str (Str.ofString "token") 421] },
    { cls := Value.type "tuple", data := Data.seq #[] },
    { cls := Value.none, data := Data.func { name := Str.ofString "hexadecimal", qualname := Str.ofString "Scanner.hexadecimal", params := fPar (mSt 12 8), body := fBody (mSt 12 8), scope := fSc (mSt 12 8), globals := 0, closure := [], defaults := Value.none, kwdefaults := Value.none } },
    { cls := Value.type "code", data := Data.fields #[Value.str (Str.ofString "hexadecimal") 415, Value.str (Str.ofString "Scanner.hexadecimal") 416, Value.str (Str.ofString "/claim/cut.py") 417, Value.int 140 0, Value.int 3 0, Value.int 0 0, Value.int 0 0, Value.int 3 0, Value.ref 184, Value.bool true, Value.int 181 0, Value.ref 185, Value.none, Value.ref 186, Value.ref 187, Value.ref 188, Value.int 422 0, Value.int 140 0, Value.str (Str.ofString "/claim/cut.py") 423] },
    { cls := Value.type "function", data := Data.func { name := Str.ofString "hexadecimal", qualname := Str.ofString "Scanner.hexadecimal", params := fPar (mSt 12 8), body := fBody (mSt 12 8), scope := fSc (mSt 12 8), globals := 3, closure := [], defaults := Value.none, kwdefaults := Value.none, pyModule := Value.str (Str.ofString "moduleyard.scanner") 248, code := Value.ref 189 } },
    { cls := Value.type "tuple", data := Data.seq #[] },
    { cls := Value.none, data := Data.fields #[] },
    { cls := Value.type "tuple", data := Data.seq #[Value.str (Str.ofString "self") 428, Value.str (Str.ofString "begun") 429, Value.str (Str.ofString "digits") 430, Value.str (Str.ofString "value") 431] },
    { cls := Value.type "tuple", data := Data.seq #[] },
    { cls := Value.none, data := Data.func { name := Str.ofString "character", qualname := Str.ofString "Scanner.character", params := fPar (mSt 12 9), body := fBody (mSt 12 9), scope := fSc (mSt 12 9), globals := 0, closure := [], defaults := Value.none, kwdefaults := Value.none } },
    { cls := Value.type "code", data := Data.fields #[Value.str (Str.ofString "character") 425, Value.str (Str.ofString "Scanner.character") 426, Value.str (Str.ofString "/claim/cut.py") 427, Value.int 146 0, Value.int 3 0, Value.int 0 0, Value.int 0 0, Value.int 3 0, Value.ref 191, Value.bool true, Value.int 181 0, Value.ref 192, Value.none, Value.ref 193, Value.ref 194, Value.ref 195, Value.int 432 0, Value.int 146 0, Value.str (Str.ofString "/claim/cut.py") 433] },
    { cls := Value.type "function", data := Data.func { name := Str.ofString "character", qualname := Str.ofString "Scanner.character", params := fPar (mSt 12 9), body := fBody (mSt 12 9), scope := fSc (mSt 12 9), globals := 3, closure := [], defaults := Value.none, kwdefaults := Value.none, pyModule := Value.str (Str.ofString "moduleyard.scanner") 248, code := Value.ref 196 } },
    { cls := Value.type "tuple", data := Data.seq #[] },
    { cls := Value.none, data := Data.fields #[] },
    { cls := Value.type "tuple", data := Data.seq #[Value.str (Str.ofString "self") 438, Value.str (Str.ofString "begun") 439, Value.str (Str.ofString "sign") 440] },
    { cls := Value.type "tuple", data := Data.seq #[] },
    { cls := Value.none, data := Data.func { name := Str.ofString "real", qualname := Str.ofString "Scanner.real", params := fPar (mSt 12 10), body := fBody (mSt 12 10), scope := fSc (mSt 12 10), globals := 0, closure := [], defaults := Value.none, kwdefaults := Value.none } },
    { cls := Value.type "code", data := Data.fields #[Value.str (Str.ofString "real") 435, Value.str (Str.ofString "Scanner.real") 436, Value.str (Str.ofString "/claim/cut.py") 437, Value.int 153 0, Value.int 2 0, Value.int 0 0, Value.int 0 0, Value.int 3 0, Value.ref 198, Value.bool true, Value.int 181 0, Value.ref 199, Value.none, Value.ref 200, Value.ref 201, Value.ref 202, Value.int 441 0, Value.int 153 0, Value.str (Str.ofString "/claim/cut.py") 442] },
    { cls := Value.type "function", data := Data.func { name := Str.ofString "real", qualname := Str.ofString "Scanner.real", params := fPar (mSt 12 10), body := fBody (mSt 12 10), scope := fSc (mSt 12 10), globals := 3, closure := [], defaults := Value.none, kwdefaults := Value.none, pyModule := Value.str (Str.ofString "moduleyard.scanner") 248, code := Value.ref 203 } },
    { cls := Value.type "tuple", data := Data.seq #[] },
    { cls := Value.none, data := Data.fields #[] },
    { cls := Value.type "tuple", data := Data.seq #[Value.str (Str.ofString "self") 447] },
    { cls := Value.type "tuple", data := Data.seq #[] },
    { cls := Value.none, data := Data.func { name := Str.ofString "skip_digits", qualname := Str.ofString "Scanner.skip_digits", params := fPar (mSt 12 11), body := fBody (mSt 12 11), scope := fSc (mSt 12 11), globals := 0, closure := [], defaults := Value.none, kwdefaults := Value.none } },
    { cls := Value.type "code", data := Data.fields #[Value.str (Str.ofString "skip_digits") 444, Value.str (Str.ofString "Scanner.skip_digits") 445, Value.str (Str.ofString "/claim/cut.py") 446, Value.int 166 0, Value.int 1 0, Value.int 0 0, Value.int 0 0, Value.int 3 0, Value.ref 205, Value.bool true, Value.int 181 0, Value.ref 206, Value.none, Value.ref 207, Value.ref 208, Value.ref 209, Value.int 448 0, Value.int 166 0, Value.str (Str.ofString "/claim/cut.py") 449] },
    { cls := Value.type "function", data := Data.func { name := Str.ofString "skip_digits", qualname := Str.ofString "Scanner.skip_digits", params := fPar (mSt 12 11), body := fBody (mSt 12 11), scope := fSc (mSt 12 11), globals := 3, closure := [], defaults := Value.none, kwdefaults := Value.none, pyModule := Value.str (Str.ofString "moduleyard.scanner") 248, code := Value.ref 210 } },
    { cls := Value.type "tuple", data := Data.seq #[] },
    { cls := Value.none, data := Data.fields #[] },
    { cls := Value.type "tuple", data := Data.seq #[Value.str (Str.ofString "self") 454, Value.str (Str.ofString "begun") 455, Value.str (Str.ofString "chars") 456, Value.str (Str.ofString "char") 457] },
    { cls := Value.type "tuple", data := Data.seq #[] },
    { cls := Value.none, data := Data.func { name := Str.ofString "string", qualname := Str.ofString "Scanner.string", params := fPar (mSt 12 12), body := fBody (mSt 12 12), scope := fSc (mSt 12 12), globals := 0, closure := [], defaults := Value.none, kwdefaults := Value.none } },
    { cls := Value.type "code", data := Data.fields #[Value.str (Str.ofString "string") 451, Value.str (Str.ofString "Scanner.string") 452, Value.str (Str.ofString "/claim/cut.py") 453, Value.int 170 0, Value.int 2 0, Value.int 0 0, Value.int 0 0, Value.int 3 0, Value.ref 212, Value.bool true, Value.int 181 0, Value.ref 213, Value.none, Value.ref 214, Value.ref 215, Value.ref 216, Value.int 458 0, Value.int 170 0, Value.str (Str.ofString "/claim/cut.py") 459] },
    { cls := Value.type "function", data := Data.func { name := Str.ofString "string", qualname := Str.ofString "Scanner.string", params := fPar (mSt 12 12), body := fBody (mSt 12 12), scope := fSc (mSt 12 12), globals := 3, closure := [], defaults := Value.none, kwdefaults := Value.none, pyModule := Value.str (Str.ofString "moduleyard.scanner") 248, code := Value.ref 217 } },
    { cls := Value.type "tuple", data := Data.seq #[] },
    { cls := Value.none, data := Data.fields #[] },
    { cls := Value.type "tuple", data := Data.seq #[Value.str (Str.ofString "self") 464, Value.str (Str.ofString "pair") 465] },
    { cls := Value.type "tuple", data := Data.seq #[] },
    { cls := Value.none, data := Data.func { name := Str.ofString "symbol", qualname := Str.ofString "Scanner.symbol", params := fPar (mSt 12 13), body := fBody (mSt 12 13), scope := fSc (mSt 12 13), globals := 0, closure := [], defaults := Value.none, kwdefaults := Value.none } },
    { cls := Value.type "code", data := Data.fields #[Value.str (Str.ofString "symbol") 461, Value.str (Str.ofString "Scanner.symbol") 462, Value.str (Str.ofString "/claim/cut.py") 463, Value.int 186 0, Value.int 1 0, Value.int 0 0, Value.int 0 0, Value.int 3 0, Value.ref 219, Value.bool true, Value.int 181 0, Value.ref 220, Value.none, Value.ref 221, Value.ref 222, Value.ref 223, Value.int 466 0, Value.int 186 0, Value.str (Str.ofString "/claim/cut.py") 467] },
    { cls := Value.type "function", data := Data.func { name := Str.ofString "symbol", qualname := Str.ofString "Scanner.symbol", params := fPar (mSt 12 13), body := fBody (mSt 12 13), scope := fSc (mSt 12 13), globals := 3, closure := [], defaults := Value.none, kwdefaults := Value.none, pyModule := Value.str (Str.ofString "moduleyard.scanner") 248, code := Value.ref 224 } },
    { cls := Value.type "tuple", data := Data.seq #[Value.str (Str.ofString "errors") 469, Value.str (Str.ofString "place") 470, Value.str (Str.ofString "source") 471, Value.str (Str.ofString "words") 472] },
    { cls := Value.type "dict", data := Data.dict #[{ hash := PyData.keyHash P (Str.ofString "__module__"), key := Value.str (Str.ofString "__module__") 332, val := Value.str (Str.ofString "moduleyard.scanner") 248 }, { hash := PyData.keyHash P (Str.ofString "__firstlineno__"), key := Value.str (Str.ofString "__firstlineno__") 336, val := Value.int 45 335 }, { hash := PyData.keyHash P (Str.ofString "__init__"), key := Value.str (Str.ofString "__init__") 345, val := Value.ref 133 }, { hash := PyData.keyHash P (Str.ofString "char"), key := Value.str (Str.ofString "char") 354, val := Value.ref 141 }, { hash := PyData.keyHash P (Str.ofString "take"), key := Value.str (Str.ofString "take") 364, val := Value.ref 148 }, { hash := PyData.keyHash P (Str.ofString "skip"), key := Value.str (Str.ofString "skip") 372, val := Value.ref 155 }, { hash := PyData.keyHash P (Str.ofString "remark"), key := Value.str (Str.ofString "remark") 382, val := Value.ref 162 }, { hash := PyData.keyHash P (Str.ofString "word"), key := Value.str (Str.ofString "word") 392, val := Value.ref 169 }, { hash := PyData.keyHash P (Str.ofString "numeral"), key := Value.str (Str.ofString "numeral") 404, val := Value.ref 176 }, { hash := PyData.keyHash P (Str.ofString "whole"), key := Value.str (Str.ofString "whole") 414, val := Value.ref 183 }, { hash := PyData.keyHash P (Str.ofString "hexadecimal"), key := Value.str (Str.ofString "hexadecimal") 424, val := Value.ref 190 }, { hash := PyData.keyHash P (Str.ofString "character"), key := Value.str (Str.ofString "character") 434, val := Value.ref 197 }, { hash := PyData.keyHash P (Str.ofString "real"), key := Value.str (Str.ofString "real") 443, val := Value.ref 204 }, { hash := PyData.keyHash P (Str.ofString "skip_digits"), key := Value.str (Str.ofString "skip_digits") 450, val := Value.ref 211 }, { hash := PyData.keyHash P (Str.ofString "string"), key := Value.str (Str.ofString "string") 460, val := Value.ref 218 }, { hash := PyData.keyHash P (Str.ofString "symbol"), key := Value.str (Str.ofString "symbol") 468, val := Value.ref 225 }, { hash := PyData.keyHash P (Str.ofString "__static_attributes__"), key := Value.str (Str.ofString "__static_attributes__") 473, val := Value.ref 226 }, { hash := PyData.keyHash P (Str.ofString "__dict__"), key := Value.str (Str.ofString "__dict__") 475, val := Value.ref 229 }, { hash := PyData.keyHash P (Str.ofString "__weakref__"), key := Value.str (Str.ofString "__weakref__") 477, val := Value.ref 230 }, { hash := PyData.keyHash P (Str.ofString "__doc__"), key := Value.str (Str.ofString "__doc__") 478, val := Value.none }] 4 },
    { cls := Value.type "type", data := Data.cls { name := Str.ofString "Scanner", bases := [Value.type "object"], mro := [Value.ref 228, Value.type "object"], ns := 227, qualname := Str.ofString "Scanner" }, slots := #[none, none, some (Value.str (Str.ofString "Scanner") 325), some (Value.str (Str.ofString "Scanner") 333), some (Value.builtin "object.__new__"), some (Value.bool true)] },
    { cls := Value.type "getset_descriptor", data := Data.fields #[Value.str (Str.ofString "__dict__") 474, Value.ref 228, Value.builtin "function.__dict__", Value.builtin "function.__dict__#set"] },
    { cls := Value.type "getset_descriptor", data := Data.fields #[Value.str (Str.ofString "__weakref__") 476, Value.ref 228, Value.builtin "ExceptionGroup.__weakref__", Value.none] },
    { cls := Value.type "super", data := Data.fields #[Value.ref 228, Value.ref 228, Value.ref 228] },
    { cls := Value.type "builtin_function_or_method", data := Data.fields #[Value.builtin "object.__init_subclass__", Value.ref 228] },
    { cls := Value.type "tuple", data := Data.seq #[] },
    { cls := Value.type "builtin_function_or_method", data := Data.fields #[Value.builtin "type.__prepare__", Value.type "type"] },
    { cls := Value.type "dict", data := Data.dict #[{ hash := PyData.keyHash P (Str.ofString "__module__"), key := Value.str (Str.ofString "__module__") 490, val := Value.str (Str.ofString "moduleyard.modset") 481 }, { hash := PyData.keyHash P (Str.ofString "__qualname__"), key := Value.str (Str.ofString "__qualname__") 492, val := Value.str (Str.ofString "Head") 491 }, { hash := PyData.keyHash P (Str.ofString "__firstlineno__"), key := Value.str (Str.ofString "__firstlineno__") 494, val := Value.int 194 493 }, { hash := PyData.keyHash P (Str.ofString "__init__"), key := Value.str (Str.ofString "__init__") 503, val := Value.ref 246 }, { hash := PyData.keyHash P (Str.ofString "__static_attributes__"), key := Value.str (Str.ofString "__static_attributes__") 506, val := Value.ref 247 }] 5 },
    { cls := Value.type "tuple", data := Data.seq #[] },
    { cls := Value.none, data := Data.fields #[Value.int 196 0, Value.int 4 0, Value.ref 245] },
    { cls := Value.type "code", data := Data.fields #[Value.str (Str.ofString "Head") 485, Value.str (Str.ofString "Head") 486, Value.str (Str.ofString "/claim/cut.py") 487, Value.int 194 0, Value.int 0 0, Value.int 0 0, Value.int 0 0, Value.int 0 0, Value.ref 236, Value.bool false, Value.int 181 0, Value.ref 237, Value.none, Value.none, Value.none, Value.none, Value.int 488 0, Value.int 194 0, Value.str (Str.ofString "/claim/cut.py") 489] },
    { cls := Value.type "frame", slots := #[some (Value.ref 238), some (Value.ref 3), some (Value.ref 235), none, some (Value.str (Str.ofString "moduleyard.modset") 481), none, some (Value.ref 0)] },
    { cls := Value.type "tuple", data := Data.seq #[] },
    { cls := Value.none, data := Data.fields #[] },
    { cls := Value.type "tuple", data := Data.seq #[Value.str (Str.ofString "self") 498, Value.str (Str.ofString "name") 499, Value.str (Str.ofString "imports") 500] },
    { cls := Value.type "tuple", data := Data.seq #[] },
    { cls := Value.none, data := Data.func { name := Str.ofString "__init__", qualname := Str.ofString "Head.__init__", params := fPar (mSt 14 0), body := fBody (mSt 14 0), scope := fSc (mSt 14 0), globals := 0, closure := [], defaults := Value.none, kwdefaults := Value.none } },
    { cls := Value.type "code", data := Data.fields #[Value.str (Str.ofString "__init__") 495, Value.str (Str.ofString "Head.__init__") 496, Value.str (Str.ofString "/claim/cut.py") 497, Value.int 196 0, Value.int 3 0, Value.int 0 0, Value.int 0 0, Value.int 3 0, Value.ref 240, Value.bool true, Value.int 181 0, Value.ref 241, Value.none, Value.ref 242, Value.ref 243, Value.ref 244, Value.int 501 0, Value.int 196 0, Value.str (Str.ofString "/claim/cut.py") 502] },
    { cls := Value.type "function", data := Data.func { name := Str.ofString "__init__", qualname := Str.ofString "Head.__init__", params := fPar (mSt 14 0), body := fBody (mSt 14 0), scope := fSc (mSt 14 0), globals := 3, closure := [], defaults := Value.none, kwdefaults := Value.none, pyModule := Value.str (Str.ofString "moduleyard.modset") 481, code := Value.ref 245 } },
    { cls := Value.type "tuple", data := Data.seq #[Value.str (Str.ofString "imports") 504, Value.str (Str.ofString "name") 505] },
    { cls := Value.type "dict", data := Data.dict #[{ hash := PyData.keyHash P (Str.ofString "__module__"), key := Value.str (Str.ofString "__module__") 490, val := Value.str (Str.ofString "moduleyard.modset") 481 }, { hash := PyData.keyHash P (Str.ofString "__firstlineno__"), key := Value.str (Str.ofString "__firstlineno__") 494, val := Value.int 194 493 }, { hash := PyData.keyHash P (Str.ofString "__init__"), key := Value.str (Str.ofString "__init__") 503, val := Value.ref 246 }, { hash := PyData.keyHash P (Str.ofString "__static_attributes__"), key := Value.str (Str.ofString "__static_attributes__") 506, val := Value.ref 247 }, { hash := PyData.keyHash P (Str.ofString "__dict__"), key := Value.str (Str.ofString "__dict__") 508, val := Value.ref 250 }, { hash := PyData.keyHash P (Str.ofString "__weakref__"), key := Value.str (Str.ofString "__weakref__") 510, val := Value.ref 251 }, { hash := PyData.keyHash P (Str.ofString "__doc__"), key := Value.str (Str.ofString "__doc__") 511, val := Value.none }] 4 },
    { cls := Value.type "type", data := Data.cls { name := Str.ofString "Head", bases := [Value.type "object"], mro := [Value.ref 249, Value.type "object"], ns := 248, qualname := Str.ofString "Head" }, slots := #[none, none, some (Value.str (Str.ofString "Head") 483), some (Value.str (Str.ofString "Head") 491), some (Value.builtin "object.__new__"), some (Value.bool true)] },
    { cls := Value.type "getset_descriptor", data := Data.fields #[Value.str (Str.ofString "__dict__") 507, Value.ref 249, Value.builtin "function.__dict__", Value.builtin "function.__dict__#set"] },
    { cls := Value.type "getset_descriptor", data := Data.fields #[Value.str (Str.ofString "__weakref__") 509, Value.ref 249, Value.builtin "ExceptionGroup.__weakref__", Value.none] },
    { cls := Value.type "super", data := Data.fields #[Value.ref 249, Value.ref 249, Value.ref 249] },
    { cls := Value.type "builtin_function_or_method", data := Data.fields #[Value.builtin "object.__init_subclass__", Value.ref 249] },
    { cls := Value.type "tuple", data := Data.seq #[] },
    { cls := Value.none, data := Data.fields #[] },
    { cls := Value.type "tuple", data := Data.seq #[Value.str (Str.ofString "scanner") 517, Value.str (Str.ofString "token") 518, Value.str (Str.ofString "name") 519] },
    { cls := Value.type "tuple", data := Data.seq #[] },
    { cls := Value.none, data := Data.func { name := Str.ofString "imported_name", qualname := Str.ofString "imported_name", params := fPar (stAt 15), body := fBody (stAt 15), scope := fSc (stAt 15), globals := 0, closure := [], defaults := Value.none, kwdefaults := Value.none } },
    { cls := Value.type "code", data := Data.fields #[Value.str (Str.ofString "imported_name") 514, Value.str (Str.ofString "imported_name") 515, Value.str (Str.ofString "/claim/cut.py") 516, Value.int 199 0, Value.int 2 0, Value.int 0 0, Value.int 0 0, Value.int 3 0, Value.ref 254, Value.bool true, Value.int 181 0, Value.ref 255, Value.none, Value.ref 256, Value.ref 257, Value.ref 258, Value.int 520 0, Value.int 199 0, Value.str (Str.ofString "/claim/cut.py") 521] },
    { cls := Value.type "function", data := Data.func { name := Str.ofString "imported_name", qualname := Str.ofString "imported_name", params := fPar (stAt 15), body := fBody (stAt 15), scope := fSc (stAt 15), globals := 3, closure := [], defaults := Value.none, kwdefaults := Value.none, pyModule := Value.str (Str.ofString "moduleyard.modset") 481, code := Value.ref 259 } },
    { cls := Value.type "tuple", data := Data.seq #[] },
    { cls := Value.none, data := Data.fields #[] },
    { cls := Value.type "tuple", data := Data.seq #[Value.str (Str.ofString "scanner") 526, Value.str (Str.ofString "names") 527, Value.str (Str.ofString "more") 528, Value.str (Str.ofString "name") 529, Value.str (Str.ofString "token") 530] },
    { cls := Value.type "tuple", data := Data.seq #[] },
    { cls := Value.none, data := Data.func { name := Str.ofString "import_names", qualname := Str.ofString "import_names", params := fPar (stAt 16), body := fBody (stAt 16), scope := fSc (stAt 16), globals := 0, closure := [], defaults := Value.none, kwdefaults := Value.none } },
    { cls := Value.type "code", data := Data.fields #[Value.str (Str.ofString "import_names") 523, Value.str (Str.ofString "import_names") 524, Value.str (Str.ofString "/claim/cut.py") 525, Value.int 211 0, Value.int 1 0, Value.int 0 0, Value.int 0 0, Value.int 3 0, Value.ref 261, Value.bool true, Value.int 181 0, Value.ref 262, Value.none, Value.ref 263, Value.ref 264, Value.ref 265, Value.int 531 0, Value.int 211 0, Value.str (Str.ofString "/claim/cut.py") 532] },
    { cls := Value.type "function", data := Data.func { name := Str.ofString "import_names", qualname := Str.ofString "import_names", params := fPar (stAt 16), body := fBody (stAt 16), scope := fSc (stAt 16), globals := 3, closure := [], defaults := Value.none, kwdefaults := Value.none, pyModule := Value.str (Str.ofString "moduleyard.modset") 481, code := Value.ref 266 } },
    { cls := Value.type "tuple", data := Data.seq #[] },
    { cls := Value.none, data := Data.fields #[] },
    { cls := Value.type "tuple", data := Data.seq #[Value.str (Str.ofString "source") 537, Value.str (Str.ofString "scanner") 538, Value.str (Str.ofString "token") 539, Value.str (Str.ofString "name") 540] },
    { cls := Value.type "tuple", data := Data.seq #[] },
    { cls := Value.none, data := Data.func { name := Str.ofString "head_of", qualname := Str.ofString "head_of", params := fPar (stAt 17), body := fBody (stAt 17), scope := fSc (stAt 17), globals := 0, closure := [], defaults := Value.none, kwdefaults := Value.none } },
    { cls := Value.type "code", data := Data.fields #[Value.str (Str.ofString "head_of") 534, Value.str (Str.ofString "head_of") 535, Value.str (Str.ofString "/claim/cut.py") 536, Value.int 220 0, Value.int 1 0, Value.int 0 0, Value.int 0 0, Value.int 3 0, Value.ref 268, Value.bool true, Value.int 181 0, Value.ref 269, Value.none, Value.ref 270, Value.ref 271, Value.ref 272, Value.int 541 0, Value.int 220 0, Value.str (Str.ofString "/claim/cut.py") 542] },
    { cls := Value.type "function", data := Data.func { name := Str.ofString "head_of", qualname := Str.ofString "head_of", params := fPar (stAt 17), body := fBody (stAt 17), scope := fSc (stAt 17), globals := 3, closure := [], defaults := Value.none, kwdefaults := Value.none, pyModule := Value.str (Str.ofString "moduleyard.modset") 481, code := Value.ref 273 } },
    { cls := Value.type "tuple", data := Data.seq #[] },
    { cls := Value.type "builtin_function_or_method", data := Data.fields #[Value.builtin "type.__prepare__", Value.type "type"] },
    { cls := Value.type "dict", data := Data.dict #[{ hash := PyData.keyHash P (Str.ofString "__module__"), key := Value.str (Str.ofString "__module__") 551, val := Value.str (Str.ofString "moduleyard.modset") 481 }, { hash := PyData.keyHash P (Str.ofString "__qualname__"), key := Value.str (Str.ofString "__qualname__") 553, val := Value.str (Str.ofString "ModuleSet") 552 }, { hash := PyData.keyHash P (Str.ofString "__firstlineno__"), key := Value.str (Str.ofString "__firstlineno__") 555, val := Value.int 231 554 }, { hash := PyData.keyHash P (Str.ofString "__init__"), key := Value.str (Str.ofString "__init__") 564, val := Value.ref 288 }, { hash := PyData.keyHash P (Str.ofString "names"), key := Value.str (Str.ofString "names") 571, val := Value.ref 295 }, { hash := PyData.keyHash P (Str.ofString "needed"), key := Value.str (Str.ofString "needed") 577, val := Value.ref 300 }, { hash := PyData.keyHash P (Str.ofString "clients"), key := Value.str (Str.ofString "clients") 583, val := Value.ref 305 }, { hash := PyData.keyHash P (Str.ofString "order"), key := Value.str (Str.ofString "order") 594, val := Value.ref 312 }, { hash := PyData.keyHash P (Str.ofString "unordered"), key := Value.str (Str.ofString "unordered") 600, val := Value.ref 317 }, { hash := PyData.keyHash P (Str.ofString "cycle"), key := Value.str (Str.ofString "cycle") 606, val := Value.ref 322 }, { hash := PyData.keyHash P (Str.ofString "__static_attributes__"), key := Value.str (Str.ofString "__static_attributes__") 609, val := Value.ref 323 }] 11 },
    { cls := Value.type "tuple", data := Data.seq #[] },
    { cls := Value.none, data := Data.fields #[Value.int 233 0, Value.int 4 0, Value.ref 287, Value.int 239 0, Value.int 4 0, Value.ref 294, Value.int 242 0, Value.int 4 0, Value.ref 299, Value.int 245 0, Value.int 4 0, Value.ref 304, Value.int 248 0, Value.int 4 0, Value.ref 311, Value.int 262 0, Value.int 4 0, Value.ref 316, Value.int 266 0, Value.int 4 0, Value.ref 321] },
    { cls := Value.type "code", data := Data.fields #[Value.str (Str.ofString "ModuleSet") 546, Value.str (Str.ofString "ModuleSet") 547, Value.str (Str.ofString "/claim/cut.py") 548, Value.int 231 0, Value.int 0 0, Value.int 0 0, Value.int 0 0, Value.int 0 0, Value.ref 278, Value.bool false, Value.int 181 0, Value.ref 279, Value.none, Value.none, Value.none, Value.none, Value.int 549 0, Value.int 231 0, Value.str (Str.ofString "/claim/cut.py") 550] },
    { cls := Value.type "frame", slots := #[some (Value.ref 280), some (Value.ref 3), some (Value.ref 277), none, some (Value.str (Str.ofString "moduleyard.modset") 481), none, some (Value.ref 0)] },
    { cls := Value.type "tuple", data := Data.seq #[] },
    { cls := Value.none, data := Data.fields #[] },
    { cls := Value.type "tuple", data := Data.seq #[Value.str (Str.ofString "self") 559, Value.str (Str.ofString "sources") 560, Value.str (Str.ofString "name") 561] },
    { cls := Value.type "tuple", data := Data.seq #[] },
    { cls := Value.none, data := Data.func { name := Str.ofString "__init__", qualname := Str.ofString "ModuleSet.__init__", params := fPar (mSt 18 0), body := fBody (mSt 18 0), scope := fSc (mSt 18 0), globals := 0, closure := [], defaults := Value.none, kwdefaults := Value.none } },
    { cls := Value.type "code", data := Data.fields #[Value.str (Str.ofString "__init__") 556, Value.str (Str.ofString "ModuleSet.__init__") 557, Value.str (Str.ofString "/claim/cut.py") 558, Value.int 233 0, Value.int 2 0, Value.int 0 0, Value.int 0 0, Value.int 3 0, Value.ref 282, Value.bool true, Value.int 181 0, Value.ref 283, Value.none, Value.ref 284, Value.ref 285, Value.ref 286, Value.int 562 0, Value.int 233 0, Value.str (Str.ofString "/claim/cut.py") 563] },
    { cls := Value.type "function", data := Data.func { name := Str.ofString "__init__", qualname := Str.ofString "ModuleSet.__init__", params := fPar (mSt 18 0), body := fBody (mSt 18 0), scope := fSc (mSt 18 0), globals := 3, closure := [], defaults := Value.none, kwdefaults := Value.none, pyModule := Value.str (Str.ofString "moduleyard.modset") 481, code := Value.ref 287 } },
    { cls := Value.type "tuple", data := Data.seq #[] },
    { cls := Value.none, data := Data.fields #[] },
    { cls := Value.type "tuple", data := Data.seq #[Value.str (Str.ofString "self") 568] },
    { cls := Value.type "tuple", data := Data.seq #[] },
    { cls := Value.none, data := Data.func { name := Str.ofString "names", qualname := Str.ofString "ModuleSet.names", params := fPar (mSt 18 1), body := fBody (mSt 18 1), scope := fSc (mSt 18 1), globals := 0, closure := [], defaults := Value.none, kwdefaults := Value.none } },
    { cls := Value.type "code", data := Data.fields #[Value.str (Str.ofString "names") 565, Value.str (Str.ofString "ModuleSet.names") 566, Value.str (Str.ofString "/claim/cut.py") 567, Value.int 239 0, Value.int 1 0, Value.int 0 0, Value.int 0 0, Value.int 3 0, Value.ref 289, Value.bool true, Value.int 181 0, Value.ref 290, Value.none, Value.ref 291, Value.ref 292, Value.ref 293, Value.int 569 0, Value.int 239 0, Value.str (Str.ofString "/claim/cut.py") 570] },
    { cls := Value.type "function", data := Data.func { name := Str.ofString "names", qualname := Str.ofString "ModuleSet.names", params := fPar (mSt 18 1), body := fBody (mSt 18 1), scope := fSc (mSt 18 1), globals := 3, closure := [], defaults := Value.none, kwdefaults := Value.none, pyModule := Value.str (Str.ofString "moduleyard.modset") 481, code := Value.ref 294 } },
    { cls := Value.type "tuple", data := Data.seq #[] },
    { cls := Value.none, data := Data.fields #[] },
    { cls := Value.none, data := Data.func { name := Str.ofString "needed", qualname := Str.ofString "ModuleSet.needed", params := fPar (mSt 18 2), body := fBody (mSt 18 2), scope := fSc (mSt 18 2), globals := 0, closure := [], defaults := Value.none, kwdefaults := Value.none } },
    { cls := Value.type "code", data := Data.fields #[Value.str (Str.ofString "needed") 572, Value.str (Str.ofString "ModuleSet.needed") 573, Value.str (Str.ofString "/claim/cut.py") 574, Value.int 242 0, Value.int 2 0, Value.int 0 0, Value.int 0 0, Value.int 3 0, Value.ref 296, Value.bool true, Value.int 181 0, Value.ref 297, Value.none, Value.none, Value.none, Value.ref 298, Value.int 575 0, Value.int 242 0, Value.str (Str.ofString "/claim/cut.py") 576] },
    { cls := Value.type "function", data := Data.func { name := Str.ofString "needed", qualname := Str.ofString "ModuleSet.needed", params := fPar (mSt 18 2), body := fBody (mSt 18 2), scope := fSc (mSt 18 2), globals := 3, closure := [], defaults := Value.none, kwdefaults := Value.none, pyModule := Value.str (Str.ofString "moduleyard.modset") 481, code := Value.ref 299 } },
    { cls := Value.type "tuple", data := Data.seq #[] },
    { cls := Value.none, data := Data.fields #[] },
    { cls := Value.none, data := Data.func { name := Str.ofString "clients", qualname := Str.ofString "ModuleSet.clients", params := fPar (mSt 18 3), body := fBody (mSt 18 3), scope := fSc (mSt 18 3), globals := 0, closure := [], defaults := Value.none, kwdefaults := Value.none } },
    { cls := Value.type "code", data := Data.fields #[Value.str (Str.ofString "clients") 578, Value.str (Str.ofString "ModuleSet.clients") 579, Value.str (Str.ofString "/claim/cut.py") 580, Value.int 245 0, Value.int 2 0, Value.int 0 0, Value.int 0 0, Value.int 3 0, Value.ref 301, Value.bool true, Value.int 181 0, Value.ref 302, Value.none, Value.none, Value.none, Value.ref 303, Value.int 581 0, Value.int 245 0, Value.str (Str.ofString "/claim/cut.py") 582] },
    { cls := Value.type "function", data := Data.func { name := Str.ofString "clients", qualname := Str.ofString "ModuleSet.clients", params := fPar (mSt 18 3), body := fBody (mSt 18 3), scope := fSc (mSt 18 3), globals := 3, closure := [], defaults := Value.none, kwdefaults := Value.none, pyModule := Value.str (Str.ofString "moduleyard.modset") 481, code := Value.ref 304 } },
    { cls := Value.type "tuple", data := Data.seq #[] },
    { cls := Value.none, data := Data.fields #[] },
    { cls := Value.type "tuple", data := Data.seq #[Value.str (Str.ofString "self") 587, Value.str (Str.ofString "found") 588, Value.str (Str.ofString "done") 589, Value.str (Str.ofString "going") 590, Value.str (Str.ofString "name") 591] },
    { cls := Value.type "tuple", data := Data.seq #[] },
    { cls := Value.none, data := Data.func { name := Str.ofString "order", qualname := Str.ofString "ModuleSet.order", params := fPar (mSt 18 4), body := fBody (mSt 18 4), scope := fSc (mSt 18 4), globals := 0, closure := [], defaults := Value.none, kwdefaults := Value.none } },
    { cls := Value.type "code", data := Data.fields #[Value.str (Str.ofString "order") 584, Value.str (Str.ofString "ModuleSet.order") 585, Value.str (Str.ofString "/claim/cut.py") 586, Value.int 248 0, Value.int 1 0, Value.int 0 0, Value.int 0 0, Value.int 3 0, Value.ref 306, Value.bool true, Value.int 181 0, Value.ref 307, Value.none, Value.ref 308, Value.ref 309, Value.ref 310, Value.int 592 0, Value.int 248 0, Value.str (Str.ofString "/claim/cut.py") 593] },
    { cls := Value.type "function", data := Data.func { name := Str.ofString "order", qualname := Str.ofString "ModuleSet.order", params := fPar (mSt 18 4), body := fBody (mSt 18 4), scope := fSc (mSt 18 4), globals := 3, closure := [], defaults := Value.none, kwdefaults := Value.none, pyModule := Value.str (Str.ofString "moduleyard.modset") 481, code := Value.ref 311 } },
    { cls := Value.type "tuple", data := Data.seq #[] },
    { cls := Value.none, data := Data.fields #[] },
    { cls := Value.none, data := Data.func { name := Str.ofString "unordered", qualname := Str.ofString "ModuleSet.unordered", params := fPar (mSt 18 5), body := fBody (mSt 18 5), scope := fSc (mSt 18 5), globals := 0, closure := [], defaults := Value.none, kwdefaults := Value.none } },
    { cls := Value.type "code", data := Data.fields #[Value.str (Str.ofString "unordered") 595, Value.str (Str.ofString "ModuleSet.unordered") 596, Value.str (Str.ofString "/claim/cut.py") 597, Value.int 262 0, Value.int 1 0, Value.int 0 0, Value.int 0 0, Value.int 3 0, Value.ref 313, Value.bool true, Value.int 181 0, Value.ref 314, Value.none, Value.none, Value.none, Value.ref 315, Value.int 598 0, Value.int 262 0, Value.str (Str.ofString "/claim/cut.py") 599] },
    { cls := Value.type "function", data := Data.func { name := Str.ofString "unordered", qualname := Str.ofString "ModuleSet.unordered", params := fPar (mSt 18 5), body := fBody (mSt 18 5), scope := fSc (mSt 18 5), globals := 3, closure := [], defaults := Value.none, kwdefaults := Value.none, pyModule := Value.str (Str.ofString "moduleyard.modset") 481, code := Value.ref 316 } },
    { cls := Value.type "tuple", data := Data.seq #[] },
    { cls := Value.none, data := Data.fields #[] },
    { cls := Value.none, data := Data.func { name := Str.ofString "cycle", qualname := Str.ofString "ModuleSet.cycle", params := fPar (mSt 18 6), body := fBody (mSt 18 6), scope := fSc (mSt 18 6), globals := 0, closure := [], defaults := Value.none, kwdefaults := Value.none } },
    { cls := Value.type "code", data := Data.fields #[Value.str (Str.ofString "cycle") 601, Value.str (Str.ofString "ModuleSet.cycle") 602, Value.str (Str.ofString "/claim/cut.py") 603, Value.int 266 0, Value.int 1 0, Value.int 0 0, Value.int 0 0, Value.int 3 0, Value.ref 318, Value.bool true, Value.int 181 0, Value.ref 319, Value.none, Value.none, Value.none, Value.ref 320, Value.int 604 0, Value.int 266 0, Value.str (Str.ofString "/claim/cut.py") 605] },
    { cls := Value.type "function", data := Data.func { name := Str.ofString "cycle", qualname := Str.ofString "ModuleSet.cycle", params := fPar (mSt 18 6), body := fBody (mSt 18 6), scope := fSc (mSt 18 6), globals := 3, closure := [], defaults := Value.none, kwdefaults := Value.none, pyModule := Value.str (Str.ofString "moduleyard.modset") 481, code := Value.ref 321 } },
    { cls := Value.type "tuple", data := Data.seq #[Value.str (Str.ofString "imports") 607, Value.str (Str.ofString "sources") 608] },
    { cls := Value.type "dict", data := Data.dict #[{ hash := PyData.keyHash P (Str.ofString "__module__"), key := Value.str (Str.ofString "__module__") 551, val := Value.str (Str.ofString "moduleyard.modset") 481 }, { hash := PyData.keyHash P (Str.ofString "__firstlineno__"), key := Value.str (Str.ofString "__firstlineno__") 555, val := Value.int 231 554 }, { hash := PyData.keyHash P (Str.ofString "__init__"), key := Value.str (Str.ofString "__init__") 564, val := Value.ref 288 }, { hash := PyData.keyHash P (Str.ofString "names"), key := Value.str (Str.ofString "names") 571, val := Value.ref 295 }, { hash := PyData.keyHash P (Str.ofString "needed"), key := Value.str (Str.ofString "needed") 577, val := Value.ref 300 }, { hash := PyData.keyHash P (Str.ofString "clients"), key := Value.str (Str.ofString "clients") 583, val := Value.ref 305 }, { hash := PyData.keyHash P (Str.ofString "order"), key := Value.str (Str.ofString "order") 594, val := Value.ref 312 }, { hash := PyData.keyHash P (Str.ofString "unordered"), key := Value.str (Str.ofString "unordered") 600, val := Value.ref 317 }, { hash := PyData.keyHash P (Str.ofString "cycle"), key := Value.str (Str.ofString "cycle") 606, val := Value.ref 322 }, { hash := PyData.keyHash P (Str.ofString "__static_attributes__"), key := Value.str (Str.ofString "__static_attributes__") 609, val := Value.ref 323 }, { hash := PyData.keyHash P (Str.ofString "__dict__"), key := Value.str (Str.ofString "__dict__") 611, val := Value.ref 326 }, { hash := PyData.keyHash P (Str.ofString "__weakref__"), key := Value.str (Str.ofString "__weakref__") 613, val := Value.ref 327 }, { hash := PyData.keyHash P (Str.ofString "__doc__"), key := Value.str (Str.ofString "__doc__") 614, val := Value.none }] 4 },
    { cls := Value.type "type", data := Data.cls { name := Str.ofString "ModuleSet", bases := [Value.type "object"], mro := [Value.ref 325, Value.type "object"], ns := 324, qualname := Str.ofString "ModuleSet" }, slots := #[none, none, some (Value.str (Str.ofString "ModuleSet") 544), some (Value.str (Str.ofString "ModuleSet") 552), some (Value.builtin "object.__new__"), some (Value.bool true)] },
    { cls := Value.type "getset_descriptor", data := Data.fields #[Value.str (Str.ofString "__dict__") 610, Value.ref 325, Value.builtin "function.__dict__", Value.builtin "function.__dict__#set"] },
    { cls := Value.type "getset_descriptor", data := Data.fields #[Value.str (Str.ofString "__weakref__") 612, Value.ref 325, Value.builtin "ExceptionGroup.__weakref__", Value.none] },
    { cls := Value.type "super", data := Data.fields #[Value.ref 325, Value.ref 325, Value.ref 325] },
    { cls := Value.type "builtin_function_or_method", data := Data.fields #[Value.builtin "object.__init_subclass__", Value.ref 325] },
    { cls := Value.type "tuple", data := Data.seq #[] },
    { cls := Value.none, data := Data.fields #[] },
    { cls := Value.type "tuple", data := Data.seq #[Value.str (Str.ofString "names") 620, Value.str (Str.ofString "done") 621, Value.str (Str.ofString "name") 622] },
    { cls := Value.type "tuple", data := Data.seq #[] },
    { cls := Value.none, data := Data.func { name := Str.ofString "all_done", qualname := Str.ofString "all_done", params := fPar (stAt 19), body := fBody (stAt 19), scope := fSc (stAt 19), globals := 0, closure := [], defaults := Value.none, kwdefaults := Value.none } },
    { cls := Value.type "code", data := Data.fields #[Value.str (Str.ofString "all_done") 617, Value.str (Str.ofString "all_done") 618, Value.str (Str.ofString "/claim/cut.py") 619, Value.int 276 0, Value.int 2 0, Value.int 0 0, Value.int 0 0, Value.int 3 0, Value.ref 330, Value.bool true, Value.int 181 0, Value.ref 331, Value.none, Value.ref 332, Value.ref 333, Value.ref 334, Value.int 623 0, Value.int 276 0, Value.str (Str.ofString "/claim/cut.py") 624] },
    { cls := Value.type "function", data := Data.func { name := Str.ofString "all_done", qualname := Str.ofString "all_done", params := fPar (stAt 19), body := fBody (stAt 19), scope := fSc (stAt 19), globals := 3, closure := [], defaults := Value.none, kwdefaults := Value.none, pyModule := Value.str (Str.ofString "moduleyard.modset") 481, code := Value.ref 335 } },
    { cls := Value.type "tuple", data := Data.seq #[] },
    { cls := Value.none, data := Data.fields #[] },
    { cls := Value.type "tuple", data := Data.seq #[Value.str (Str.ofString "ring") 629, Value.str (Str.ofString "least") 630] },
    { cls := Value.type "tuple", data := Data.seq #[] },
    { cls := Value.none, data := Data.func { name := Str.ofString "turned", qualname := Str.ofString "turned", params := fPar (stAt 20), body := fBody (stAt 20), scope := fSc (stAt 20), globals := 0, closure := [], defaults := Value.none, kwdefaults := Value.none } },
    { cls := Value.type "code", data := Data.fields #[Value.str (Str.ofString "turned") 626, Value.str (Str.ofString "turned") 627, Value.str (Str.ofString "/claim/cut.py") 628, Value.int 281 0, Value.int 1 0, Value.int 0 0, Value.int 0 0, Value.int 3 0, Value.ref 337, Value.bool true, Value.int 181 0, Value.ref 338, Value.none, Value.ref 339, Value.ref 340, Value.ref 341, Value.int 631 0, Value.int 281 0, Value.str (Str.ofString "/claim/cut.py") 632] },
    { cls := Value.type "function", data := Data.func { name := Str.ofString "turned", qualname := Str.ofString "turned", params := fPar (stAt 20), body := fBody (stAt 20), scope := fSc (stAt 20), globals := 3, closure := [], defaults := Value.none, kwdefaults := Value.none, pyModule := Value.str (Str.ofString "moduleyard.modset") 481, code := Value.ref 342 } },
    { cls := Value.type "tuple", data := Data.seq #[] },
    { cls := Value.none, data := Data.fields #[] },
    { cls := Value.type "tuple", data := Data.seq #[Value.str (Str.ofString "modules") 637, Value.str (Str.ofString "name") 638, Value.str (Str.ofString "found") 639, Value.str (Str.ofString "work") 640, Value.str (Str.ofString "client") 641] },
    { cls := Value.type "tuple", data := Data.seq #[] },
    { cls := Value.none, data := Data.func { name := Str.ofString "all_clients", qualname := Str.ofString "all_clients", params := fPar (stAt 21), body := fBody (stAt 21), scope := fSc (stAt 21), globals := 0, closure := [], defaults := Value.none, kwdefaults := Value.none } },
    { cls := Value.type "code", data := Data.fields #[Value.str (Str.ofString "all_clients") 634, Value.str (Str.ofString "all_clients") 635, Value.str (Str.ofString "/claim/cut.py") 636, Value.int 284 0, Value.int 2 0, Value.int 0 0, Value.int 0 0, Value.int 3 0, Value.ref 344, Value.bool true, Value.int 181 0, Value.ref 345, Value.none, Value.ref 346, Value.ref 347, Value.ref 348, Value.int 642 0, Value.int 284 0, Value.str (Str.ofString "/claim/cut.py") 643] },
    { cls := Value.type "function", data := Data.func { name := Str.ofString "all_clients", qualname := Str.ofString "all_clients", params := fPar (stAt 21), body := fBody (stAt 21), scope := fSc (stAt 21), globals := 3, closure := [], defaults := Value.none, kwdefaults := Value.none, pyModule := Value.str (Str.ofString "moduleyard.modset") 481, code := Value.ref 349 } },
    { cls := Value.type "tuple", data := Data.seq #[] },
    { cls := Value.none, data := Data.fields #[] },
    { cls := Value.type "tuple", data := Data.seq #[Value.str (Str.ofString "hand") 650, Value.str (Str.ofString "limit") 651, Value.str (Str.ofString "figure") 652, Value.str (Str.ofString "digit") 653] },
    { cls := Value.type "tuple", data := Data.seq #[] },
    { cls := Value.none, data := Data.func { name := Str.ofString "_law_pick", qualname := Str.ofString "_law_pick", params := fPar (stAt 23), body := fBody (stAt 23), scope := fSc (stAt 23), globals := 0, closure := [], defaults := Value.none, kwdefaults := Value.none } },
    { cls := Value.type "code", data := Data.fields #[Value.str (Str.ofString "_law_pick") 647, Value.str (Str.ofString "_law_pick") 648, Value.str (Str.ofString "/claim/cut.py") 649, Value.int 294 0, Value.int 2 0, Value.int 0 0, Value.int 0 0, Value.int 3 0, Value.ref 351, Value.bool true, Value.int 181 0, Value.ref 352, Value.none, Value.ref 353, Value.ref 354, Value.ref 355, Value.int 654 0, Value.int 294 0, Value.str (Str.ofString "/claim/cut.py") 655] },
    { cls := Value.type "function", data := Data.func { name := Str.ofString "_law_pick", qualname := Str.ofString "_law_pick", params := fPar (stAt 23), body := fBody (stAt 23), scope := fSc (stAt 23), globals := 3, closure := [], defaults := Value.none, kwdefaults := Value.none, pyModule := Value.str (Str.ofString "law_pb0349_01") 645, code := Value.ref 356 } },
    { cls := Value.type "tuple", data := Data.seq #[] },
    { cls := Value.none, data := Data.fields #[] },
    { cls := Value.type "tuple", data := Data.seq #[Value.str (Str.ofString "hand") 660, Value.str (Str.ofString "names") 661, Value.str (Str.ofString "needs_by") 662, Value.str (Str.ofString "sources") 663, Value.str (Str.ofString "at") 664, Value.str (Str.ofString "row") 665, Value.str (Str.ofString "text_now") 666, Value.str (Str.ofString "_") 667, Value.str (Str.ofString "other") 668, Value.str (Str.ofString "head") 669] },
    { cls := Value.type "tuple", data := Data.seq #[] },
    { cls := Value.none, data := Data.func { name := Str.ofString "_law_sources", qualname := Str.ofString "_law_sources", params := fPar (stAt 24), body := fBody (stAt 24), scope := fSc (stAt 24), globals := 0, closure := [], defaults := Value.none, kwdefaults := Value.none } },
    { cls := Value.type "code", data := Data.fields #[Value.str (Str.ofString "_law_sources") 657, Value.str (Str.ofString "_law_sources") 658, Value.str (Str.ofString "/claim/cut.py") 659, Value.int 305 0, Value.int 1 0, Value.int 0 0, Value.int 0 0, Value.int 3 0, Value.ref 358, Value.bool true, Value.int 181 0, Value.ref 359, Value.none, Value.ref 360, Value.ref 361, Value.ref 362, Value.int 670 0, Value.int 305 0, Value.str (Str.ofString "/claim/cut.py") 671] },
    { cls := Value.type "function", data := Data.func { name := Str.ofString "_law_sources", qualname := Str.ofString "_law_sources", params := fPar (stAt 24), body := fBody (stAt 24), scope := fSc (stAt 24), globals := 3, closure := [], defaults := Value.none, kwdefaults := Value.none, pyModule := Value.str (Str.ofString "law_pb0349_01") 645, code := Value.ref 363 } },
    { cls := Value.type "tuple", data := Data.seq #[] },
    { cls := Value.none, data := Data.fields #[] },
    { cls := Value.none, data := Data.func { name := Str.ofString "_law_ordered", qualname := Str.ofString "_law_ordered", params := fPar (stAt 25), body := fBody (stAt 25), scope := fSc (stAt 25), globals := 0, closure := [], defaults := Value.none, kwdefaults := Value.none } },
    { cls := Value.type "code", data := Data.fields #[Value.str (Str.ofString "_law_ordered") 673, Value.str (Str.ofString "_law_ordered") 674, Value.str (Str.ofString "/claim/cut.py") 675, Value.int 323 0, Value.int 2 0, Value.int 0 0, Value.int 0 0, Value.int 3 0, Value.ref 365, Value.bool true, Value.int 181 0, Value.ref 366, Value.none, Value.none, Value.none, Value.ref 367, Value.int 676 0, Value.int 323 0, Value.str (Str.ofString "/claim/cut.py") 677] },
    { cls := Value.type "function", data := Data.func { name := Str.ofString "_law_ordered", qualname := Str.ofString "_law_ordered", params := fPar (stAt 25), body := fBody (stAt 25), scope := fSc (stAt 25), globals := 3, closure := [], defaults := Value.none, kwdefaults := Value.none, pyModule := Value.str (Str.ofString "law_pb0349_01") 645, code := Value.ref 368 } },
    { cls := Value.type "tuple", data := Data.seq #[] },
    { cls := Value.none, data := Data.fields #[] },
    { cls := Value.none, data := Data.func { name := Str.ofString "law", qualname := Str.ofString "law", params := fPar (stAt 26), body := fBody (stAt 26), scope := fSc (stAt 26), globals := 0, closure := [], defaults := Value.none, kwdefaults := Value.none } },
    { cls := Value.type "code", data := Data.fields #[Value.str (Str.ofString "law") 679, Value.str (Str.ofString "law") 680, Value.str (Str.ofString "/claim/cut.py") 681, Value.int 330 0, Value.int 1 0, Value.int 0 0, Value.int 0 0, Value.int 3 0, Value.ref 370, Value.bool true, Value.int 181 0, Value.ref 371, Value.none, Value.none, Value.none, Value.ref 372, Value.int 682 0, Value.int 330 0, Value.str (Str.ofString "/claim/cut.py") 683] },
    { cls := Value.type "function", data := Data.func { name := Str.ofString "law", qualname := Str.ofString "law", params := fPar (stAt 26), body := fBody (stAt 26), scope := fSc (stAt 26), globals := 3, closure := [], defaults := Value.none, kwdefaults := Value.none, pyModule := Value.str (Str.ofString "law_pb0349_01") 645, code := Value.ref 373 } }]
noncomputable def g157 : Params → Obj := fun P => { cls := Value.type "dict", data := Data.dict #[{ hash := PyData.keyHash P (Str.ofString "__name__"), key := Value.str (Str.ofString "__name__") 165, val := Value.str (Str.ofString "moduleyard.scanner") 248 }, { hash := PyData.keyHash P (Str.ofString "__doc__"), key := Value.str (Str.ofString "__doc__") 166, val := Value.none }, { hash := PyData.keyHash P (Str.ofString "__package__"), key := Value.str (Str.ofString "__package__") 167, val := Value.none }, { hash := PyData.keyHash P (Str.ofString "__loader__"), key := Value.str (Str.ofString "__loader__") 168, val := Value.builtin "__main__.__loader__#opaque" }, { hash := PyData.keyHash P (Str.ofString "__spec__"), key := Value.str (Str.ofString "__spec__") 169, val := Value.none }, { hash := PyData.keyHash P (Str.ofString "__annotations__"), key := Value.str (Str.ofString "__annotations__") 170, val := Value.ref 6 }, { hash := PyData.keyHash P (Str.ofString "__builtins__"), key := Value.str (Str.ofString "__builtins__") 171, val := Value.ref 4 }, { hash := PyData.keyHash P (Str.ofString "__file__"), key := Value.str (Str.ofString "__file__") 173, val := Value.str (Str.ofString "/claim/cut.py") 172 }, { hash := PyData.keyHash P (Str.ofString "__cached__"), key := Value.str (Str.ofString "__cached__") 174, val := Value.none }, { hash := PyData.keyHash P (Str.ofString "_wall"), key := Value.str (Str.ofString "_wall") 193, val := Value.ref 21 }, { hash := PyData.keyHash P (Str.ofString "ErrorList"), key := Value.str (Str.ofString "ErrorList") 247, val := Value.ref 59 }, { hash := PyData.keyHash P (Str.ofString "MOST_INTEGER"), key := Value.str (Str.ofString "MOST_INTEGER") 251, val := Value.int 2147483647 250 }, { hash := PyData.keyHash P (Str.ofString "MOST_WORD"), key := Value.str (Str.ofString "MOST_WORD") 253, val := Value.int 4294967295 252 }, { hash := PyData.keyHash P (Str.ofString "Token"), key := Value.str (Str.ofString "Token") 286, val := Value.ref 80 }, { hash := PyData.keyHash P (Str.ofString "keywords"), key := Value.str (Str.ofString "keywords") 292, val := Value.ref 91 }, { hash := PyData.keyHash P (Str.ofString "is_letter"), key := Value.str (Str.ofString "is_letter") 299, val := Value.ref 98 }, { hash := PyData.keyHash P (Str.ofString "is_digit"), key := Value.str (Str.ofString "is_digit") 306, val := Value.ref 105 }, { hash := PyData.keyHash P (Str.ofString "is_hex_digit"), key := Value.str (Str.ofString "is_hex_digit") 313, val := Value.ref 112 }, { hash := PyData.keyHash P (Str.ofString "digits_value"), key := Value.str (Str.ofString "digits_value") 324, val := Value.ref 119 }] 19 }
noncomputable def f157 : Params → Obj := fun P => { cls := Value.none, data := Data.fields #[Value.int 1 0, Value.int 0 0, Value.ref 20, Value.int 5 0, Value.int 0 0, Value.ref 27, Value.int 24 0, Value.int 0 0, Value.ref 69, Value.int 30 0, Value.int 0 0, Value.ref 90, Value.int 32 0, Value.int 0 0, Value.ref 97, Value.int 34 0, Value.int 0 0, Value.ref 104, Value.int 36 0, Value.int 0 0, Value.ref 111, Value.int 38 0, Value.int 0 0, Value.ref 118] }
noncomputable def g272 : Params → Obj := fun P => { cls := Value.type "dict", data := Data.dict #[{ hash := PyData.keyHash P (Str.ofString "__name__"), key := Value.str (Str.ofString "__name__") 165, val := Value.str (Str.ofString "moduleyard.scanner") 248 }, { hash := PyData.keyHash P (Str.ofString "__doc__"), key := Value.str (Str.ofString "__doc__") 166, val := Value.none }, { hash := PyData.keyHash P (Str.ofString "__package__"), key := Value.str (Str.ofString "__package__") 167, val := Value.none }, { hash := PyData.keyHash P (Str.ofString "__loader__"), key := Value.str (Str.ofString "__loader__") 168, val := Value.builtin "__main__.__loader__#opaque" }, { hash := PyData.keyHash P (Str.ofString "__spec__"), key := Value.str (Str.ofString "__spec__") 169, val := Value.none }, { hash := PyData.keyHash P (Str.ofString "__annotations__"), key := Value.str (Str.ofString "__annotations__") 170, val := Value.ref 6 }, { hash := PyData.keyHash P (Str.ofString "__builtins__"), key := Value.str (Str.ofString "__builtins__") 171, val := Value.ref 4 }, { hash := PyData.keyHash P (Str.ofString "__file__"), key := Value.str (Str.ofString "__file__") 173, val := Value.str (Str.ofString "/claim/cut.py") 172 }, { hash := PyData.keyHash P (Str.ofString "__cached__"), key := Value.str (Str.ofString "__cached__") 174, val := Value.none }, { hash := PyData.keyHash P (Str.ofString "_wall"), key := Value.str (Str.ofString "_wall") 193, val := Value.ref 21 }, { hash := PyData.keyHash P (Str.ofString "ErrorList"), key := Value.str (Str.ofString "ErrorList") 247, val := Value.ref 59 }, { hash := PyData.keyHash P (Str.ofString "MOST_INTEGER"), key := Value.str (Str.ofString "MOST_INTEGER") 251, val := Value.int 2147483647 250 }, { hash := PyData.keyHash P (Str.ofString "MOST_WORD"), key := Value.str (Str.ofString "MOST_WORD") 253, val := Value.int 4294967295 252 }, { hash := PyData.keyHash P (Str.ofString "Token"), key := Value.str (Str.ofString "Token") 286, val := Value.ref 80 }, { hash := PyData.keyHash P (Str.ofString "keywords"), key := Value.str (Str.ofString "keywords") 292, val := Value.ref 91 }, { hash := PyData.keyHash P (Str.ofString "is_letter"), key := Value.str (Str.ofString "is_letter") 299, val := Value.ref 98 }, { hash := PyData.keyHash P (Str.ofString "is_digit"), key := Value.str (Str.ofString "is_digit") 306, val := Value.ref 105 }, { hash := PyData.keyHash P (Str.ofString "is_hex_digit"), key := Value.str (Str.ofString "is_hex_digit") 313, val := Value.ref 112 }, { hash := PyData.keyHash P (Str.ofString "digits_value"), key := Value.str (Str.ofString "digits_value") 324, val := Value.ref 119 }, { hash := PyData.keyHash P (Str.ofString "Scanner"), key := Value.str (Str.ofString "Scanner") 480, val := Value.ref 228 }] 20 }
noncomputable def f272 : Params → Obj := fun P => { cls := Value.none, data := Data.fields #[Value.int 1 0, Value.int 0 0, Value.ref 20, Value.int 5 0, Value.int 0 0, Value.ref 27, Value.int 24 0, Value.int 0 0, Value.ref 69, Value.int 30 0, Value.int 0 0, Value.ref 90, Value.int 32 0, Value.int 0 0, Value.ref 97, Value.int 34 0, Value.int 0 0, Value.ref 104, Value.int 36 0, Value.int 0 0, Value.ref 111, Value.int 38 0, Value.int 0 0, Value.ref 118, Value.int 45 0, Value.int 0 0, Value.ref 125] }
noncomputable def g401 : Params → Obj := fun P => { cls := Value.type "dict", data := Data.dict #[{ hash := PyData.keyHash P (Str.ofString "__name__"), key := Value.str (Str.ofString "__name__") 165, val := Value.str (Str.ofString "moduleyard.modset") 481 }, { hash := PyData.keyHash P (Str.ofString "__doc__"), key := Value.str (Str.ofString "__doc__") 166, val := Value.none }, { hash := PyData.keyHash P (Str.ofString "__package__"), key := Value.str (Str.ofString "__package__") 167, val := Value.none }, { hash := PyData.keyHash P (Str.ofString "__loader__"), key := Value.str (Str.ofString "__loader__") 168, val := Value.builtin "__main__.__loader__#opaque" }, { hash := PyData.keyHash P (Str.ofString "__spec__"), key := Value.str (Str.ofString "__spec__") 169, val := Value.none }, { hash := PyData.keyHash P (Str.ofString "__annotations__"), key := Value.str (Str.ofString "__annotations__") 170, val := Value.ref 6 }, { hash := PyData.keyHash P (Str.ofString "__builtins__"), key := Value.str (Str.ofString "__builtins__") 171, val := Value.ref 4 }, { hash := PyData.keyHash P (Str.ofString "__file__"), key := Value.str (Str.ofString "__file__") 173, val := Value.str (Str.ofString "/claim/cut.py") 172 }, { hash := PyData.keyHash P (Str.ofString "__cached__"), key := Value.str (Str.ofString "__cached__") 174, val := Value.none }, { hash := PyData.keyHash P (Str.ofString "_wall"), key := Value.str (Str.ofString "_wall") 193, val := Value.ref 21 }, { hash := PyData.keyHash P (Str.ofString "ErrorList"), key := Value.str (Str.ofString "ErrorList") 247, val := Value.ref 59 }, { hash := PyData.keyHash P (Str.ofString "MOST_INTEGER"), key := Value.str (Str.ofString "MOST_INTEGER") 251, val := Value.int 2147483647 250 }, { hash := PyData.keyHash P (Str.ofString "MOST_WORD"), key := Value.str (Str.ofString "MOST_WORD") 253, val := Value.int 4294967295 252 }, { hash := PyData.keyHash P (Str.ofString "Token"), key := Value.str (Str.ofString "Token") 286, val := Value.ref 80 }, { hash := PyData.keyHash P (Str.ofString "keywords"), key := Value.str (Str.ofString "keywords") 292, val := Value.ref 91 }, { hash := PyData.keyHash P (Str.ofString "is_letter"), key := Value.str (Str.ofString "is_letter") 299, val := Value.ref 98 }, { hash := PyData.keyHash P (Str.ofString "is_digit"), key := Value.str (Str.ofString "is_digit") 306, val := Value.ref 105 }, { hash := PyData.keyHash P (Str.ofString "is_hex_digit"), key := Value.str (Str.ofString "is_hex_digit") 313, val := Value.ref 112 }, { hash := PyData.keyHash P (Str.ofString "digits_value"), key := Value.str (Str.ofString "digits_value") 324, val := Value.ref 119 }, { hash := PyData.keyHash P (Str.ofString "Scanner"), key := Value.str (Str.ofString "Scanner") 480, val := Value.ref 228 }, { hash := PyData.keyHash P (Str.ofString "Head"), key := Value.str (Str.ofString "Head") 513, val := Value.ref 249 }, { hash := PyData.keyHash P (Str.ofString "imported_name"), key := Value.str (Str.ofString "imported_name") 522, val := Value.ref 260 }, { hash := PyData.keyHash P (Str.ofString "import_names"), key := Value.str (Str.ofString "import_names") 533, val := Value.ref 267 }, { hash := PyData.keyHash P (Str.ofString "head_of"), key := Value.str (Str.ofString "head_of") 543, val := Value.ref 274 }] 24 }
noncomputable def f401 : Params → Obj := fun P => { cls := Value.none, data := Data.fields #[Value.int 1 0, Value.int 0 0, Value.ref 20, Value.int 5 0, Value.int 0 0, Value.ref 27, Value.int 24 0, Value.int 0 0, Value.ref 69, Value.int 30 0, Value.int 0 0, Value.ref 90, Value.int 32 0, Value.int 0 0, Value.ref 97, Value.int 34 0, Value.int 0 0, Value.ref 104, Value.int 36 0, Value.int 0 0, Value.ref 111, Value.int 38 0, Value.int 0 0, Value.ref 118, Value.int 45 0, Value.int 0 0, Value.ref 125, Value.int 194 0, Value.int 0 0, Value.ref 238, Value.int 199 0, Value.int 0 0, Value.ref 259, Value.int 211 0, Value.int 0 0, Value.ref 266, Value.int 220 0, Value.int 0 0, Value.ref 273] }
noncomputable def g99 : Params → Obj := fun P => { cls := Value.type "dict", data := Data.dict #[{ hash := PyData.keyHash P (Str.ofString "__name__"), key := Value.str (Str.ofString "__name__") 165, val := Value.str (Str.ofString "moduleyard.scanner") 248 }, { hash := PyData.keyHash P (Str.ofString "__doc__"), key := Value.str (Str.ofString "__doc__") 166, val := Value.none }, { hash := PyData.keyHash P (Str.ofString "__package__"), key := Value.str (Str.ofString "__package__") 167, val := Value.none }, { hash := PyData.keyHash P (Str.ofString "__loader__"), key := Value.str (Str.ofString "__loader__") 168, val := Value.builtin "__main__.__loader__#opaque" }, { hash := PyData.keyHash P (Str.ofString "__spec__"), key := Value.str (Str.ofString "__spec__") 169, val := Value.none }, { hash := PyData.keyHash P (Str.ofString "__annotations__"), key := Value.str (Str.ofString "__annotations__") 170, val := Value.ref 6 }, { hash := PyData.keyHash P (Str.ofString "__builtins__"), key := Value.str (Str.ofString "__builtins__") 171, val := Value.ref 4 }, { hash := PyData.keyHash P (Str.ofString "__file__"), key := Value.str (Str.ofString "__file__") 173, val := Value.str (Str.ofString "/claim/cut.py") 172 }, { hash := PyData.keyHash P (Str.ofString "__cached__"), key := Value.str (Str.ofString "__cached__") 174, val := Value.none }, { hash := PyData.keyHash P (Str.ofString "_wall"), key := Value.str (Str.ofString "_wall") 193, val := Value.ref 21 }, { hash := PyData.keyHash P (Str.ofString "ErrorList"), key := Value.str (Str.ofString "ErrorList") 247, val := Value.ref 59 }, { hash := PyData.keyHash P (Str.ofString "MOST_INTEGER"), key := Value.str (Str.ofString "MOST_INTEGER") 251, val := Value.int 2147483647 250 }, { hash := PyData.keyHash P (Str.ofString "MOST_WORD"), key := Value.str (Str.ofString "MOST_WORD") 253, val := Value.int 4294967295 252 }] 13 }
noncomputable def f99 : Params → Obj := fun P => { cls := Value.none, data := Data.fields #[Value.int 1 0, Value.int 0 0, Value.ref 20, Value.int 5 0, Value.int 0 0, Value.ref 27] }
noncomputable def g458 : Params → Obj := fun P => { cls := Value.type "dict", data := Data.dict #[{ hash := PyData.keyHash P (Str.ofString "__name__"), key := Value.str (Str.ofString "__name__") 165, val := Value.str (Str.ofString "moduleyard.modset") 481 }, { hash := PyData.keyHash P (Str.ofString "__doc__"), key := Value.str (Str.ofString "__doc__") 166, val := Value.none }, { hash := PyData.keyHash P (Str.ofString "__package__"), key := Value.str (Str.ofString "__package__") 167, val := Value.none }, { hash := PyData.keyHash P (Str.ofString "__loader__"), key := Value.str (Str.ofString "__loader__") 168, val := Value.builtin "__main__.__loader__#opaque" }, { hash := PyData.keyHash P (Str.ofString "__spec__"), key := Value.str (Str.ofString "__spec__") 169, val := Value.none }, { hash := PyData.keyHash P (Str.ofString "__annotations__"), key := Value.str (Str.ofString "__annotations__") 170, val := Value.ref 6 }, { hash := PyData.keyHash P (Str.ofString "__builtins__"), key := Value.str (Str.ofString "__builtins__") 171, val := Value.ref 4 }, { hash := PyData.keyHash P (Str.ofString "__file__"), key := Value.str (Str.ofString "__file__") 173, val := Value.str (Str.ofString "/claim/cut.py") 172 }, { hash := PyData.keyHash P (Str.ofString "__cached__"), key := Value.str (Str.ofString "__cached__") 174, val := Value.none }, { hash := PyData.keyHash P (Str.ofString "_wall"), key := Value.str (Str.ofString "_wall") 193, val := Value.ref 21 }, { hash := PyData.keyHash P (Str.ofString "ErrorList"), key := Value.str (Str.ofString "ErrorList") 247, val := Value.ref 59 }, { hash := PyData.keyHash P (Str.ofString "MOST_INTEGER"), key := Value.str (Str.ofString "MOST_INTEGER") 251, val := Value.int 2147483647 250 }, { hash := PyData.keyHash P (Str.ofString "MOST_WORD"), key := Value.str (Str.ofString "MOST_WORD") 253, val := Value.int 4294967295 252 }, { hash := PyData.keyHash P (Str.ofString "Token"), key := Value.str (Str.ofString "Token") 286, val := Value.ref 80 }, { hash := PyData.keyHash P (Str.ofString "keywords"), key := Value.str (Str.ofString "keywords") 292, val := Value.ref 91 }, { hash := PyData.keyHash P (Str.ofString "is_letter"), key := Value.str (Str.ofString "is_letter") 299, val := Value.ref 98 }, { hash := PyData.keyHash P (Str.ofString "is_digit"), key := Value.str (Str.ofString "is_digit") 306, val := Value.ref 105 }, { hash := PyData.keyHash P (Str.ofString "is_hex_digit"), key := Value.str (Str.ofString "is_hex_digit") 313, val := Value.ref 112 }, { hash := PyData.keyHash P (Str.ofString "digits_value"), key := Value.str (Str.ofString "digits_value") 324, val := Value.ref 119 }, { hash := PyData.keyHash P (Str.ofString "Scanner"), key := Value.str (Str.ofString "Scanner") 480, val := Value.ref 228 }, { hash := PyData.keyHash P (Str.ofString "Head"), key := Value.str (Str.ofString "Head") 513, val := Value.ref 249 }, { hash := PyData.keyHash P (Str.ofString "imported_name"), key := Value.str (Str.ofString "imported_name") 522, val := Value.ref 260 }, { hash := PyData.keyHash P (Str.ofString "import_names"), key := Value.str (Str.ofString "import_names") 533, val := Value.ref 267 }, { hash := PyData.keyHash P (Str.ofString "head_of"), key := Value.str (Str.ofString "head_of") 543, val := Value.ref 274 }, { hash := PyData.keyHash P (Str.ofString "ModuleSet"), key := Value.str (Str.ofString "ModuleSet") 616, val := Value.ref 325 }] 25 }
noncomputable def f458 : Params → Obj := fun P => { cls := Value.none, data := Data.fields #[Value.int 1 0, Value.int 0 0, Value.ref 20, Value.int 5 0, Value.int 0 0, Value.ref 27, Value.int 24 0, Value.int 0 0, Value.ref 69, Value.int 30 0, Value.int 0 0, Value.ref 90, Value.int 32 0, Value.int 0 0, Value.ref 97, Value.int 34 0, Value.int 0 0, Value.ref 104, Value.int 36 0, Value.int 0 0, Value.ref 111, Value.int 38 0, Value.int 0 0, Value.ref 118, Value.int 45 0, Value.int 0 0, Value.ref 125, Value.int 194 0, Value.int 0 0, Value.ref 238, Value.int 199 0, Value.int 0 0, Value.ref 259, Value.int 211 0, Value.int 0 0, Value.ref 266, Value.int 220 0, Value.int 0 0, Value.ref 273, Value.int 231 0, Value.int 0 0, Value.ref 280] }
namespace Hd
abbrev pr : Program := PySem.Challenge.rw_pb0349_01.row.prog
noncomputable def hCut (m : Nat) (g o : Params → Obj) : Params → Heap := fun P => { objs := Array.mk ((((FIN P).take m).set 3 (g P)).set 12 (o P)) }
noncomputable def hEnd : Params → Heap := fun P => { objs := Array.mk (FIN P) }
def envT : Env := { scope := pr.main.scope, locals := mainNs, globals := mainNs, cells := [], code := Value.ref 13, frame := some 14 }
def cT : Code := .body (behindTheImports pr) envT
def p0 : Pos := { line := 0, col := 0, endLine := 0, endCol := 0 }
def tfr : List Frame := [topFrame p0]
def f15 : Params → Obj := fun P => { cls := Value.none, data := Data.fields #[] }
set_option maxHeartbeats 0 in
theorem t0 : ∀ (w : World) (os : OsState), topGo treeTable pr w 11 (some (Value.ref 6)) 12 { heap := boot_heap w.params, gens := Array.mk [], drawn := boot_drawn, toks := boot_toks, os := os } (topStub pr) = some ({ heap := hCut 15 (fun P => boot_o_3 P) f15 w.params, toks := 187, os := os }, ⟨denote treeTable cT, cT, p0, tfr⟩) := fun w os => by kernel_rfl
set_option maxHeartbeats 0 in
theorem tb : ∀ (w : World) (os : OsState), segRun treeTable pr w 11 (some (Value.ref 6)) 1 1 { heap := hCut 15 (fun P => boot_o_3 P) f15 w.params, toks := 187, os := os } (blockOf (behindTheImports pr) envT cT p0 tfr) = some (.next, { heap := hCut 15 (fun P => boot_o_3 P) f15 w.params, toks := 187, os := os }, cT, p0) := fun w os => by kernel_rfl
set_option maxHeartbeats 0 in
theorem c1 : ∀ (w : World) (os : OsState), segRun treeTable pr w 11 (some (Value.ref 6)) 1 383 { heap := hCut 15 (fun P => boot_o_3 P) f15 w.params, toks := 187, os := os } (piecesOf (((behindTheImports pr).drop 0).take 6) envT cT { line := 0, col := 0, endLine := 0, endCol := 0 } tfr) = some (.next, { heap := hCut 64 g99 f99 w.params, toks := 254, os := os }, cT, { line := 23, col := 0, endLine := 23, endCol := 9 }) := fun w os => by kernel_rfl
set_option maxHeartbeats 0 in
theorem c2 : ∀ (w : World) (os : OsState), segRun treeTable pr w 11 (some (Value.ref 6)) 1 375 { heap := hCut 64 g99 f99 w.params, toks := 254, os := os } (piecesOf (((behindTheImports pr).drop 6).take 6) envT cT { line := 23, col := 0, endLine := 23, endCol := 9 } tfr) = some (.next, { heap := hCut 120 g157 f157 w.params, toks := 325, os := os }, cT, { line := 38, col := 0, endLine := 44, endCol := 16 }) := fun w os => by kernel_rfl
set_option maxHeartbeats 0 in
theorem c3 : ∀ (w : World) (os : OsState), segRun treeTable pr w 11 (some (Value.ref 6)) 1 663 { heap := hCut 120 g157 f157 w.params, toks := 325, os := os } (piecesOf (((behindTheImports pr).drop 12).take 1) envT cT { line := 38, col := 0, endLine := 44, endCol := 16 } tfr) = some (.next, { heap := hCut 233 g272 f272 w.params, toks := 481, os := os }, cT, { line := 45, col := 0, endLine := 192, endCol := 17 }) := fun w os => by kernel_rfl
set_option maxHeartbeats 0 in
theorem c4 : ∀ (w : World) (os : OsState), segRun treeTable pr w 11 (some (Value.ref 6)) 1 330 { heap := hCut 233 g272 f272 w.params, toks := 481, os := os } (piecesOf (((behindTheImports pr).drop 13).take 5) envT cT { line := 45, col := 0, endLine := 192, endCol := 17 } tfr) = some (.next, { heap := hCut 275 g401 f401 w.params, toks := 544, os := os }, cT, { line := 220, col := 0, endLine := 230, endCol := 44 }) := fun w os => by kernel_rfl
set_option maxHeartbeats 0 in
theorem c5 : ∀ (w : World) (os : OsState), segRun treeTable pr w 11 (some (Value.ref 6)) 1 403 { heap := hCut 275 g401 f401 w.params, toks := 544, os := os } (piecesOf (((behindTheImports pr).drop 18).take 1) envT cT { line := 220, col := 0, endLine := 230, endCol := 44 } tfr) = some (.next, { heap := hCut 330 g458 f458 w.params, toks := 617, os := os }, cT, { line := 231, col := 0, endLine := 275, endCol := 32 }) := fun w os => by kernel_rfl
set_option maxHeartbeats 0 in
theorem c6 : ∀ (w : World) (os : OsState), topRun treeTable pr w 11 (some (Value.ref 6)) 228 { heap := hCut 330 g458 f458 w.params, toks := 617, os := os } (restOf ((behindTheImports pr).drop 19) envT cT { line := 231, col := 0, endLine := 275, endCol := 32 } tfr) = some { heap := hEnd w.params, gens := #[], toks := 685, os := os } := fun w os => by kernel_rfl
theorem cutL {α : Type} (l : List α) (m n k : Nat) (h : m + n = k) : l.drop m = (l.drop m).take n ++ l.drop k := by
  rw [← h, ← List.drop_drop, List.take_append_drop]
theorem run1 (w : World) (os : OsState) : topRun treeTable pr w 11 (some (Value.ref 6)) 2395 { heap := boot_heap w.params, gens := Array.mk [], drawn := boot_drawn, toks := boot_toks, os := os } (topStub pr) = some { heap := hEnd w.params, gens := #[], toks := 685, os := os } := by
  refine go_top (n := 12) (N := 2383) (t0 w os) (piece_block (n := 1) (N := 2382) (tb w os) ?_)
  rw [show behindTheImports pr = (behindTheImports pr).drop 0 from rfl]
  have r0 := (show topRun treeTable pr w 11 (some (Value.ref 6)) 2382 { heap := hCut 15 (fun P => boot_o_3 P) f15 w.params, toks := 187, os := os } (restOf ((behindTheImports pr).drop 0) envT cT p0 tfr) = some { heap := hEnd w.params, gens := #[], toks := 685, os := os } from by rw [cutL (behindTheImports pr) 0 6 6 rfl]; exact piece_app (n := 383) (N := 1999) (c1 w os) (by rw [cutL (behindTheImports pr) 6 6 12 rfl]; exact piece_app (n := 375) (N := 1624) (c2 w os) (by rw [cutL (behindTheImports pr) 12 1 13 rfl]; exact piece_app (n := 663) (N := 961) (c3 w os) (by rw [cutL (behindTheImports pr) 13 5 18 rfl]; exact piece_app (n := 330) (N := 631) (c4 w os) (by rw [cutL (behindTheImports pr) 18 1 19 rfl]; exact piece_app (n := 403) (N := 228) (c5 w os) (c6 w os))))))
  exact r0
theorem size1 : ∀ w : World, ((boot_heap w.params).isNs mainGlobals && (Array.mk [] : Array GenState).size == 0, (boot_heap w.params).objs.size, (boot_heap w.params).nsMap mainGlobals "__annotations__") = (true, 11, some (Value.ref 6)) := fun w => by kernel_rfl
noncomputable def sE (w : World) (os : OsState) : Shared := { heap := hEnd w.params, gens := #[], toks := 685, os := os }
set_option maxHeartbeats 0 in
theorem l_a1 (w : World) : staticsOk (importedModules pr.main.body) (boot_heap w.params) (hEnd w.params) = true := by kernel_rfl
set_option maxHeartbeats 0 in
theorem l_a2 (w : World) : namesBound pr (hEnd w.params) = true := by kernel_rfl
set_option maxHeartbeats 0 in
theorem l_a3 (w : World) (os : OsState) : gensDone (sE w os) = true := by kernel_rfl
set_option maxHeartbeats 0 in
theorem l_a4 (w : World) : laidKept (boot_heap w.params) (hEnd w.params) = true := by kernel_rfl
set_option maxHeartbeats 0 in
theorem l_b1 (w : World) (os : OsState) : seen ((recsOf qv).map (·.name)) (ownsOf qv) [] { sE w os with gens := #[] } = expectedOf qv := by kernel_rfl
set_option maxHeartbeats 0 in
theorem l_b2 (w : World) (os : OsState) : (sE w os).heap.bltView = bltViewBooted := by kernel_rfl
set_option maxHeartbeats 0 in
theorem l_b3 (w : World) (os : OsState) : (sE w os).heap.keysOk (looseW qv []) ((recsOf qv).map (·.name)) ((litsOf qv).map (·.1)) ((clssOf qv (looseW qv [])).map (·.name)) = true := by kernel_rfl
set_option maxHeartbeats 0 in
theorem l_b4 (w : World) (os : OsState) : (sE w os).heap.accountedOkI (importedModules pr.main.body) = true := by kernel_rfl
set_option maxHeartbeats 0 in
theorem l_b5 (w : World) (os : OsState) : (sE w os).heap.isNs mainGlobals = true := by kernel_rfl
set_option maxHeartbeats 0 in
theorem l_b6 (w : World) (os : OsState) : (sE w os).heap.isNs builtinsNs = true := by kernel_rfl
set_option maxHeartbeats 0 in
theorem l_b7 (w : World) (os : OsState) : tablesOk qv (sE w os).heap = true := by kernel_rfl
set_option maxHeartbeats 0 in
theorem l_b8 (w : World) (os : OsState) : xlAt qv [] (sE w os) = true := by kernel_rfl
set_option maxHeartbeats 0 in
theorem l_b9 (w : World) (os : OsState) : recOk (RowW.records PySem.Challenge.rw_pb0349_01.row.toRowW) (sE w os) = true := by kernel_rfl
set_option maxHeartbeats 0 in
theorem l_d0 (w : World) (os : OsState) : tabsOk qv (sE w os) = true := by kernel_rfl
set_option maxHeartbeats 0 in
theorem l_d1 (w : World) (os : OsState) : pinSeenD qv (drecsOf qv) (sE w os) = pinGoodD (drecsOf qv) := by kernel_rfl
set_option maxHeartbeats 0 in
theorem l_d2 (w : World) (os : OsState) : plainSeenE qv (looseW qv []) (sE w os) = plainGoodE qv (looseW qv []) := by kernel_rfl
set_option maxHeartbeats 0 in
theorem l_d3 (w : World) (os : OsState) : plainSeenD qv [] (sE w os) = plainGoodD qv [] := by kernel_rfl
set_option maxHeartbeats 0 in
theorem l_d4 (w : World) (os : OsState) : wideSeen qv (sE w os) = wideGood qv := by kernel_rfl
set_option maxHeartbeats 0 in
theorem l_d5 (w : World) (os : OsState) : clsSeenW qv [] (sE w os) = clsGoodW qv [] := by kernel_rfl
set_option maxHeartbeats 0 in
theorem l_d6 (w : World) (os : OsState) : Hook.obs HK (sE w os) = Hook.val HK w := by kernel_rfl
theorem lookA (w : World) (os : OsState) : (staticsOk (importedModules pr.main.body) (boot_heap w.params) (hEnd w.params) && namesBound pr (hEnd w.params) && gensDone (sE w os) && laidKept (boot_heap w.params) (hEnd w.params)) = true := by
  rw [l_a1, l_a2, l_a3, l_a4]; rfl
theorem lookB (w : World) (os : OsState) : openSeen qv [] (importedModules pr.main.body) (fun s => xlAt qv [] s && recOk (RowW.records PySem.Challenge.rw_pb0349_01.row.toRowW) s) true (sE w os) = openGood qv [] := by
  unfold openSeen openGood
  rw [l_b1, l_b2, l_b3, l_b4, l_b5, l_b6, l_b7, l_d0, l_d1, l_d2, l_d3, l_d4, l_d5]
  rw [show (fun s => xlAt qv [] s && recOk (RowW.records PySem.Challenge.rw_pb0349_01.row.toRowW) s) (sE w os) = (xlAt qv [] (sE w os) && recOk (RowW.records PySem.Challenge.rw_pb0349_01.row.toRowW) (sE w os)) from rfl, l_b8, l_b9]
  rfl
theorem open1 : ∀ w : World, (fencedOpening treeTable pr w 4874).map (fun s => (s.heap, s.gens, s.drawn, s.toks)) = some (boot_heap w.params, Array.mk [], boot_drawn, boot_toks) := boot_open rfl (by decide) (fun s => rfl)
theorem left1 : LeftO PySem.Challenge.rw_pb0349_01.row.prog qv [] (fun s => xlAt qv [] s && recOk (RowW.records PySem.Challenge.rw_pb0349_01.row.toRowW) s) (Hook.obs HK) (Hook.val HK) 4874 :=
  LeftO.of_pieces (H₀ := boot_heap) (H₁ := hEnd) (gs₀ := Array.mk []) (gs₁ := #[]) (d₀ := boot_drawn) (k₀ := boot_toks) (k₁ := 685) (m₀ := 11) (ann := some (Value.ref 6)) (M := 2395) open1 size1 (fun w os => run1 w os) rfl
    (fun w => funext fun os => Prod.ext (lookA w os) (Prod.ext (lookB w os) (l_d6 w os)))
end Hd
theorem left1 : LeftO PySem.Challenge.rw_pb0349_01.row.prog qv [] (fun s => xlAt qv [] s && recOk (RowW.records PySem.Challenge.rw_pb0349_01.row.toRowW) s) (Hook.obs HK) (Hook.val HK) 4874 := Hd.left1

noncomputable section
structure Gx where
  w : World
  h₀ : Heap
  mg : Str → Option Value
  mb : Str → Option Value
  X : (KK w.params).In h₀
  g : h₀.Ns mainGlobals mg
  b : h₀.Ns builtinsNs mb
  nolimit : h₀.NoLimit
  bi : ∀ x : Str, x ≠ "__name__" → mb x = bootBuiltins x
noncomputable def Gx.gd (x : Gx) : Gd := { prog := PySem.Challenge.rw_pb0349_01.row.prog, w := x.w, K := KK x.w.params, h₀ := x.h₀, mg := x.mg, mb := x.mb, X := x.X, g := x.g, b := x.b, nolimit := x.nolimit, bi := x.bi }

theorem upd_hit {m : Loc} {x : Str} {v : Value} : (m.upd x v) x = some v := by simp [Loc.upd]
theorem upd_miss {m : Loc} {x y : Str} {v : Value} {r : Option Value} (h : (y == x) = false) (hr : m y = r) : (m.upd x v) y = r := by
  unfold Loc.upd
  rw [if_neg (beq_eq_false_iff_ne.mp h)]; exact hr

theorem b_len : bootBuiltins "len" = some (.builtin "len") := by decide +kernel
theorem b_sorted : bootBuiltins "sorted" = some (.builtin "sorted") := by decide +kernel
theorem b_sum : bootBuiltins "sum" = some (.builtin "sum") := by decide +kernel
theorem b_max : bootBuiltins "max" = some (.builtin "max") := by decide +kernel
theorem b_min : bootBuiltins "min" = some (.builtin "min") := by decide +kernel
theorem b_ord : bootBuiltins "ord" = some (.builtin "ord") := by decide +kernel
theorem b_range : bootBuiltins "range" = some (.type "range") := by decide +kernel
theorem b_dict : bootBuiltins "dict" = some (.type "dict") := by decide +kernel
theorem b_set : bootBuiltins "set" = some (.type "set") := by decide +kernel

theorem Store.upd_upd {σ : Store} {a : Addr} {o o' : AO} : (σ.upd a o).upd a o' = σ.upd a o' := by
  funext b; unfold Store.upd; split <;> rfl
theorem Store.upd_miss {σ : Store} {a b : Addr} {o : AO} {r : Option AO} (h : a ≠ b) (hr : σ a = r) : σ.upd b o a = r := by rw [Store.upd_ne _ _ h]; exact hr
theorem ne_of_none {σ : Store} {a b : Addr} {o : AO} (h : σ a = some o) (h' : σ b = none) : a ≠ b := fun e => by rw [e, h'] at h; cases h
theorem if_dec {c : Prop} [Decidable c] {A B : Prop} (h1 : c → A) (h2 : ¬ c → B) : if decide c = true then A else B := by
  by_cases h : c
  · rw [if_pos (decide_eq_true h)]; exact h1 h
  · rw [if_neg (by simpa using h)]; exact h2 h
theorem if_ndec {c : Prop} [Decidable c] {A B : Prop} (h1 : ¬ c → A) (h2 : c → B) : if (!decide c) = true then A else B := by
  by_cases h : c
  · rw [if_neg (by simpa using h)]; exact h2 h
  · rw [if_pos (by simpa using h)]; exact h1 h
theorem if_b {b : Bool} {A B : Prop} (h1 : b = true → A) (h2 : b = false → B) : if b = true then A else B := by
  cases b
  · exact h2 rfl
  · exact h1 rfl
noncomputable section
variable {Γ : Gd} {ql : Bool} {n : Nat} {sc : Scope} {m : Loc} {σ : Store} {Q : Value → Store → Prop}
theorem TE_ownR {x : Str} {pos : Pos} {a : Addr} (e : nsIn Γ.K mainGlobals x = some (some (.ref a))) (h : Q (.ref a) σ)
    (hk : sc.kind = .function) (hx : sc.names.lookup x = some .globalImplicit) (hd : (x == ("__debug__" : Str)) = false) : TE Γ ql n sc (.Name x pos) m σ Q := TE_own e h hk hx hd
theorem TE_builtinB {x : Str} {pos : Pos} {id : String} (e : nsIn Γ.K mainGlobals x = some none) (hb : bootBuiltins x = some (.builtin id)) (h : Q (.builtin id) σ)
    (hk : sc.kind = .function) (hx : sc.names.lookup x = some .globalImplicit) (hd : (x == ("__debug__" : Str)) = false ∧ x ≠ ("__name__" : Str)) : TE Γ ql n sc (.Name x pos) m σ Q := TE_builtin e hb h hk hx hd
theorem TE_builtinT {x : Str} {pos : Pos} {id : String} (e : nsIn Γ.K mainGlobals x = some none) (hb : bootBuiltins x = some (.type id)) (h : Q (.type id) σ)
    (hk : sc.kind = .function) (hx : sc.names.lookup x = some .globalImplicit) (hd : (x == ("__debug__" : Str)) = false ∧ x ≠ ("__name__" : Str)) : TE Γ ql n sc (.Name x pos) m σ Q := TE_builtin e hb h hk hx hd
end
noncomputable section
variable {Γ : Gd} {n : Nat} {σ : Store} {Q : Store → Prop} {H : Addr} {a b c d v : Value}
theorem P3_hand1 (hx : σ H = some (.list [a, b, c, d])) (h : Q (σ.upd H (.list [a, v, c, d]))) : P3 Γ n setItem (.ref H) (.int 1 0) v σ Q := P3_list hx (by decide) (by simp) (by decide) h
theorem P3_hand2 (hx : σ H = some (.list [a, b, c, d])) (h : Q (σ.upd H (.list [a, b, v, d]))) : P3 Γ n setItem (.ref H) (.int 2 0) v σ Q := P3_list hx (by decide) (by simp) (by decide) h
theorem P3_hand3 (hx : σ H = some (.list [a, b, c, d])) (h : Q (σ.upd H (.list [a, b, c, v]))) : P3 Γ n setItem (.ref H) (.int 3 0) v σ Q := P3_list hx (by decide) (by simp) (by decide) h
end
noncomputable section
variable {Γ : Gd} {ql : Bool} {n : Nat} {sc : Scope} {m : Loc} {σ : Store} {Q : Value → Store → Prop}
theorem CM_inst {a C d f : Addr} {name : Str} {g : List (Str × Value)} {args : List Expr} {oc : Value} {od : Option Addr} {fd : FuncData} {osl : Array (Option Value)} (hx : σ a = some (.inst C d)) (hd : σ d = some (.attrs g)) (hn : g.lookup name = none)
    (hf : findIn Γ.K (.ref C) name = some (some (.ref f))) (hg : plainGet Γ.K C name = true) (ht : isFn Γ.K (.ref f) = true) (ho : Γ.K.lookup f = some ⟨oc, od, .func fd, osl⟩)
    (h : TL Γ ql n sc args m σ fun vs σ₂ => TC Γ ql n (.ref f) (.ref a :: vs) σ₂ Q) :
    ∃ f first, isCal f = true ∧ Kept Γ f ∧ Meth Γ (.ref a) name σ f first ∧ TL Γ ql n sc args m σ fun vs σ₂ => TC Γ ql n f (first ++ vs) σ₂ Q :=
  ⟨_, _, rfl, Kept.fn ho, Meth.inst hx hd hn hg hf ht, h⟩
theorem CM_append {a : Addr} {xs : List Value} {args : List Expr} (hx : σ a = some (.list xs)) (h : TL Γ ql n sc args m σ fun vs σ₂ => TC Γ ql n (.builtin "list.append") (.ref a :: vs) σ₂ Q) :
    ∃ f first, isCal f = true ∧ Kept Γ f ∧ Meth Γ (.ref a) "append" σ f first ∧ TL Γ ql n sc args m σ fun vs σ₂ => TC Γ ql n f (first ++ vs) σ₂ Q :=
  ⟨.builtin "list.append", [.ref a], rfl, Kept.builtin, Meth.list hx F.slot_list_append, h⟩
theorem CM_pop {a : Addr} {xs : List Value} {args : List Expr} (hx : σ a = some (.list xs)) (h : TL Γ ql n sc args m σ fun vs σ₂ => TC Γ ql n (.builtin "list.pop") (.ref a :: vs) σ₂ Q) :
    ∃ f first, isCal f = true ∧ Kept Γ f ∧ Meth Γ (.ref a) "pop" σ f first ∧ TL Γ ql n sc args m σ fun vs σ₂ => TC Γ ql n f (first ++ vs) σ₂ Q :=
  ⟨.builtin "list.pop", [.ref a], rfl, Kept.builtin, Meth.list hx F.slot_list_pop, h⟩
theorem CM_index {a : Addr} {xs : List Value} {args : List Expr} (hx : σ a = some (.list xs)) (h : TL Γ ql n sc args m σ fun vs σ₂ => TC Γ ql n (.builtin "list.index") (.ref a :: vs) σ₂ Q) :
    ∃ f first, isCal f = true ∧ Kept Γ f ∧ Meth Γ (.ref a) "index" σ f first ∧ TL Γ ql n sc args m σ fun vs σ₂ => TC Γ ql n f (first ++ vs) σ₂ Q :=
  ⟨.builtin "list.index", [.ref a], rfl, Kept.builtin, Meth.list hx F.slot_list_index, h⟩
theorem TE_At {o : Expr} {attr : Str} {pos : Pos} (h : TE Γ ql n sc o m σ fun ov σ₁ => ∃ a C d g v cls, ov = .ref a ∧ σ₁ a = some (.inst C d) ∧ σ₁ d = some (.attrs g) ∧ g.lookup attr = some v ∧ handedIn v = true ∧ plainGet Γ.K C attr = true ∧ hasDictIn Γ.K C = true ∧
      findIn Γ.K (.ref C) attr = some cls ∧ noGet Γ.K cls = true ∧ Q v σ₁) (hb : plainBase o = true) : TE Γ ql n sc (.Attribute o attr pos) m σ Q := TE_Attr h hb
theorem AT {a C d : Addr} {attr : Str} {g : List (Str × Value)} {v : Value} {cls : Option Value} (hx : σ a = some (.inst C d)) (hd : σ d = some (.attrs g)) (hv : g.lookup attr = some v) (hh : handedIn v = true) (hg : plainGet Γ.K C attr = true) (hD : hasDictIn Γ.K C = true)
    (hc : findIn Γ.K (.ref C) attr = some cls) (hn : noGet Γ.K cls = true) {P : Value → Prop} (h : P v) : ∃ a' C d g v cls, Value.ref a = .ref a' ∧ σ a' = some (.inst C d) ∧ σ d = some (.attrs g) ∧ g.lookup attr = some v ∧ handedIn v = true ∧ plainGet Γ.K C attr = true ∧ hasDictIn Γ.K C = true ∧
      findIn Γ.K (.ref C) attr = some cls ∧ noGet Γ.K cls = true ∧ P v := ⟨a, C, d, g, v, cls, rfl, hx, hd, hv, hh, hg, hD, hc, hn, h⟩
end
/-! stores that say more -/
def Ex (X : List Addr) (σ τ : Store) : Prop := ∀ b o, b ∉ X → σ b = some o → τ b = some o
theorem Ex.refl {X : List Addr} {σ : Store} : Ex X σ σ := fun _ _ _ h => h
theorem Ex.trans {X : List Addr} {σ τ υ : Store} (h : Ex X σ τ) (h' : Ex X τ υ) : Ex X σ υ := fun b o hb e => h' b o hb (h b o hb e)
theorem Ex.nil {X : List Addr} {σ τ υ : Store} (h : Ex X σ τ) (h' : Ex [] τ υ) : Ex X σ υ := fun b o hb e => h' b o (fun z => nomatch z) (h b o hb e)
theorem Ex.upd_new {X : List Addr} {σ τ : Store} {D : Addr} {o : AO} (h : Ex X σ τ) (hD : τ D = none) : Ex X σ (τ.upd D o) := fun b q hb e => by
  have := h b q hb e
  have hne : b ≠ D := fun z => by rw [z, hD] at this; cases this
  rw [Store.upd_ne _ _ hne]; exact this
theorem Ex.upd_in {X : List Addr} {σ τ : Store} {D : Addr} {o : AO} (h : Ex X σ τ) (hD : D ∈ X) : Ex X σ (τ.upd D o) := fun b q hb e => by
  have hne : b ≠ D := fun z => hb (z ▸ hD)
  rw [Store.upd_ne _ _ hne]; exact h b q hb e
theorem Ex.upd_none {X : List Addr} {σ τ : Store} {D : Addr} {o : AO} (h : Ex X σ τ) (hX : D ∉ X) (hD : σ D = none) : Ex X σ (τ.upd D o) := fun b q hb e => by
  have hne : b ≠ D := fun z => by rw [z, hD] at e; cases e
  rw [Store.upd_ne _ _ hne]; exact h b q hb e
theorem Ex.noneOf {X : List Addr} {σ τ : Store} {D : Addr} (h : Ex X σ τ) (hD : τ D = none) (hX : D ∉ X) : σ D = none := by
  cases q : σ D with
  | none => rfl
  | some o => rw [h D o hX q] at hD; cases hD
theorem Ex.noneOf' {σ τ : Store} {D : Addr} (h : Ex [] σ τ) (hD : τ D = none) : σ D = none := h.noneOf hD (fun z => nomatch z)
theorem Ex.of {σ τ : Store} {b : Addr} {o : AO} (h : Ex [] σ τ) (e : σ b = some o) : τ b = some o := h b o (fun z => nomatch z) e
theorem Ex.of1 {σ τ : Store} {a b : Addr} {o : AO} (h : Ex [a] σ τ) (e : σ b = some o) (hne : b ≠ a) : τ b = some o := h b o (by simpa using hne) e
theorem Ex.narrow {σ τ : Store} {a : Addr} (h : Ex [a] σ τ) (ha : σ a = none) : Ex [] σ τ := fun b o _ e => h.of1 e fun z => by rw [z, ha] at e; cases e
theorem Ex.wide {X : List Addr} {σ τ : Store} (h : Ex [] σ τ) : Ex X σ τ := fun b o _ e => h.of e
def kd : AO → Nat
  | .list _ => 0
  | .tup _ => 1
  | .dict _ => 2
  | .inst .. => 3
  | .attrs _ => 4
  | .set _ => 5
  | .range _ => 6
theorem ne_kd {σ : Store} {a b : Addr} {o o' : AO} (h : σ a = some o) (h' : σ b = some o') (hk : (kd o == kd o') = false) : a ≠ b := fun z => by
  rw [z, h'] at h; cases h; rw [beq_self_eq_true] at hk; cases hk
theorem args3 {vs : List Value} {a b c : Value} (h : vs.map er = [a, b, c]) : ∃ u v w, vs = [u, v, w] ∧ er u = a ∧ er v = b ∧ er w = c := by
  match vs with
  | [] => cases h
  | [u] => simp at h
  | [u, v] => simp at h
  | [u, v, w] => exact ⟨u, v, w, rfl, by simpa using h⟩
  | _ :: _ :: _ :: _ :: _ => simp at h
theorem args4 {vs : List Value} {a b c d : Value} (h : vs.map er = [a, b, c, d]) : ∃ u v w y, vs = [u, v, w, y] ∧ er u = a ∧ er v = b ∧ er w = c ∧ er y = d := by
  match vs with
  | [] => cases h
  | [u] => simp at h
  | [u, v] => simp at h
  | [u, v, w] => simp at h
  | [u, v, w, y] => exact ⟨u, v, w, y, rfl, by simpa using h⟩
  | _ :: _ :: _ :: _ :: _ :: _ => simp at h
noncomputable section
variable {Γ : Gd} {ql : Bool} {n : Nat} {sc : Scope} {m : Loc} {σ : Store} {Q : Value → Store → Prop}
theorem TP_some {e : Expr} {Q : Option Int → Store → Prop} (h : TE Γ ql n sc e m σ fun v σ₁ => ∃ i, v = .int i 0 ∧ Q (some i) σ₁) : TP Γ ql n sc (some e) m σ Q := h
theorem TP_none {Q : Option Int → Store → Prop} (h : Q none σ) : TP Γ ql n sc none m σ Q := h
theorem PSl_strN {y : Str} {a b : Int} {i j : Nat} (ha : a = i) (hb : b = j) (hlen : y.length ≤ sizeLine) (h : Q (.str (sub y i j) 0) σ) : PSl Γ ql n (.str y 0) (some a) (some b) σ Q := by
  subst ha hb
  exact PSl_str (by omega) (by omega) hlen (by simpa using h)
end
theorem if_t {A B : Prop} (h : A) : if true = true then A else B := by rw [if_pos rfl]; exact h
theorem if_f {A B : Prop} (h : B) : if false = true then A else B := by rw [if_neg Bool.false_ne_true]; exact h
end

local macro_rules | `(tactic| wtm_at "nm") => `(tactic| first | assumption | with_unfolding_all rfl | ((with_reducible refine upd_miss ?a ?_); (case a => with_unfolding_all rfl); wtm_at "nm"))
local macro_rules | `(tactic| wtm_at "bb") => `(tactic| with_reducible first | exact b_len | exact b_sorted | exact b_sum | exact b_max | exact b_min | exact b_ord | exact b_range | exact b_dict | exact b_set)
local macro_rules | `(tactic| wtm_at "ne") => `(tactic| first | assumption | (apply Ne.symm; assumption))
local macro_rules | `(tactic| wtm_at "ex") => `(tactic| repeat (first | assumption | with_reducible exact Ex.refl | (refine Ex.upd_new ?_ (by assumption)) | (refine Ex.upd_in ?_ (by simp))))
local macro_rules | `(tactic| wtm_at "st") => `(tactic| first | assumption | with_reducible exact Store.upd_self _ _ _ | ((with_reducible refine Store.upd_miss ?a ?_); (case a => wtm_at "ne"); wtm_at "st"))
local macro_rules | `(tactic| wtm_at "kept") => `(tactic| with_reducible first | exact Kept.builtin | exact Kept.type | refine Kept.fn (by with_unfolding_all rfl) | refine Kept.cls (by with_unfolding_all rfl))
local macro_rules | `(tactic| wtm_at "TE") => `(tactic| first
  | with_reducible refine TE_int ?_ | with_reducible refine TE_str ?_ | with_reducible refine TE_bool ?_ | with_reducible refine TE_none ?_
  | ((with_reducible refine' TE_Name ?a ?_ ?c ?d ?e); (case a => wtm_at "nm"); (case c => rfl); (case d => decide); (case e => decide))
  | ((with_reducible refine' TE_ownR ?a ?_ ?c ?d ?e); (case a => with_unfolding_all rfl); (case c => rfl); (case d => decide); (case e => decide))
  | ((with_reducible refine' TE_builtinB ?a ?f ?_ ?c ?d ?e); (case a => with_unfolding_all rfl); (case f => wtm_at "bb"); (case c => rfl); (case d => decide); (case e => decide))
  | ((with_reducible refine' TE_builtinT ?a ?f ?_ ?c ?d ?e); (case a => with_unfolding_all rfl); (case f => wtm_at "bb"); (case c => rfl); (case d => decide); (case e => decide))
  | with_reducible refine TE_BinOp ?_ | ((with_reducible refine TE_Compare ?_ ?b); (case b => with_unfolding_all rfl)) | with_reducible refine TE_IfExp ?_ | with_reducible refine TE_Slice ?_ | ((with_reducible refine TE_Sub ?_ ?b); (case b => (intros; rfl))) | with_reducible refine TE_Unary ?_
  | with_reducible refine TE_List ?_ | with_reducible refine TE_Tuple ?_ | with_reducible refine TE_Dict0 ?_ | with_reducible refine TE_And2 ?_ | with_reducible refine TE_Or2 ?_
  | ((with_reducible refine TE_At ?_ ?b); (case b => rfl)) | ((with_reducible refine TE_CallM ?_ ?b ?c ?d ?e); (case b => rfl); (case c => rfl); (case d => decide); (case e => rfl))
  | ((with_reducible refine TE_Call ?_ ?b); (case b => rfl); wtm_at "te"; refine ⟨rfl, (by wtm_at "kept"), ?_⟩))
local macro_rules | `(tactic| wtm_at "TB") => `(tactic| first
  | ((with_reducible refine TB_Compare ?_ ?b); (case b => with_unfolding_all rfl)) | with_reducible refine TB_Not ?_ | with_reducible refine TB_BoolOp ?_ | ((with_reducible refine TB_value ?_ ?b); (case b => (intros; rfl))))
local macro_rules | `(tactic| wtm_at "TBs") => `(tactic| first | with_reducible refine TBs_And_nil ?_ | with_reducible refine TBs_Or_nil ?_ | with_reducible refine TBs_And ?_ | with_reducible refine TBs_Or ?_)
local macro_rules | `(tactic| wtm_at "TL") => `(tactic| first | with_reducible refine TL_nil ?_ | ((with_reducible refine TL_cons ?_ ?b); (case b => (intros; rfl))))
local macro_rules | `(tactic| wtm_at "TSs") => `(tactic| first | with_reducible refine TSs_nil ?_ | with_reducible refine TSs_cons ?_)
local macro_rules | `(tactic| wtm_at "TS") => `(tactic| first
  | with_reducible refine TS_Return ?_ | with_reducible refine TS_Return0 ?_ | with_reducible refine TS_If ?_ | ((with_reducible refine TS_Assign_Name ?_ ?b ?c); (case b => decide); (case c => rfl)) | ((with_reducible refine TS_Assign_Sub ?_ ?b); (case b => rfl))
  | ((with_reducible refine TS_Assign_Attr ?_ ?b); (case b => rfl)) | ((with_reducible refine' TS_AugAssign_Name ?a ?_ ?c); (case a => wtm_at "nm"); (case c => decide))
  | with_reducible refine TS_Break ?_ | ((with_reducible refine TS_Expr ?_ ?b ?c); (case b => rfl); (case c => rfl)))
local macro_rules | `(tactic| wtm_at "P2") => `(tactic| with_reducible first
  | refine P2_add_int ?_ | refine P2_sub_int ?_ | refine P2_eq_int ?_ | refine P2_ne_int ?_ | refine P2_lt_int ?_ | refine P2_le_int ?_ | refine P2_gt_int ?_ | refine P2_ge_int ?_ | refine P1_neg_int ?_
  | refine P2_eq_str ?_ | refine P2_ne_str ?_ | refine P2_lt_str ?_ | refine P2_le_str ?_ | refine P2_in_str ?_ | refine P2_iadd_int ?_)
local macro_rules | `(tactic| wtm_at "om") => `(tactic| first | decide | omega | assumption)
local macro_rules | `(tactic| wtm_at "PG") => `(tactic| first
  | ((with_reducible refine' PG_list ?a ?b ?c ?d ?_); (case a => wtm_at "st"); (case b => wtm_at "om"); (case c => wtm_at "om"); (case d => first | assumption | with_unfolding_all rfl))
  | ((with_reducible refine' PG_dict ?a ?b ?_); (case a => wtm_at "st"); (case b => assumption)))
local macro_rules | `(tactic| wtm_at "if") => `(tactic| with_reducible first | refine if_dec (fun hif => ?_) (fun hif => ?_) | refine if_ndec (fun hif => ?_) (fun hif => ?_) | refine if_b (fun hif => ?_) (fun hif => ?_))
local macro_rules | `(tactic| wtm_at "at") => `(tactic| ((with_reducible refine' AT ?a ?b ?c ?d ?e ?f ?g ?h ?_); (case a => wtm_at "st"); (case b => wtm_at "st"); (case c => with_unfolding_all rfl); (case d => with_unfolding_all rfl); (case e => with_unfolding_all rfl); (case f => with_unfolding_all rfl); (case g => with_unfolding_all rfl); (case h => with_unfolding_all rfl)))
local macro_rules | `(tactic| wtm_at "meth") => `(tactic| ((with_reducible refine' CM_inst ?a ?b ?c ?d ?e ?f ?g ?_); (case a => wtm_at "st"); (case b => wtm_at "st"); (case c => with_unfolding_all rfl); (case d => with_unfolding_all rfl); (case e => with_unfolding_all rfl); (case f => with_unfolding_all rfl); (case g => with_unfolding_all rfl)))
local macro_rules | `(tactic| wtm_at "sa") => `(tactic| ((with_reducible refine' P2s_setAttr ?a ?b ?c ?d ?e ?f ?g ?_); (case a => wtm_at "st"); (case b => wtm_at "st"); (case c => exact Nat.le_of_ble_eq_true (by with_unfolding_all rfl)); (case d => with_unfolding_all rfl); (case e => with_unfolding_all rfl); (case f => with_unfolding_all rfl); (case g => with_unfolding_all rfl)))
local macro_rules | `(tactic| wtm_at "tx") => `(tactic| ((first
  | ((with_reducible show TE _ _ _ _ _ _ _ _); wtm_at "TE")
  | ((with_reducible show TL _ _ _ _ _ _ _ _); wtm_at "TL")
  | ((with_reducible show TSs _ _ _ _ _ _ _); wtm_at "TSs")
  | ((with_reducible show TS _ _ _ _ _ _ _); wtm_at "TS")
  | ((with_reducible show P2 _ _ _ _ _ _ _ _); wtm_at "P2")
  | ((with_reducible show P1 _ _ _ _ _ _ _); wtm_at "P2")
  | ((with_reducible show PG _ _ _ _ _ _ _); wtm_at "PG")
  | ((with_reducible show P3 _ _ _ _ _ _ _ _); (with_reducible first | refine' P3_hand1 ?a ?_ | refine' P3_hand2 ?a ?_ | refine' P3_hand3 ?a ?_); (case a => wtm_at "st"))
  | ((with_reducible show P2s _ _ _ _ _ _ _); wtm_at "sa") | wtm_at "at" | wtm_at "meth"
  | ((with_reducible refine' CM_append ?a ?_); (case a => wtm_at "st")) | ((with_reducible refine' CM_pop ?a ?_); (case a => wtm_at "st")) | ((with_reducible refine' CM_index ?a ?_); (case a => wtm_at "st"))
  | with_reducible refine TP_some ?_ | with_reducible refine TP_none ?_ | (show ∃ i, Value.int _ _ = Value.int i 0 ∧ _; refine ⟨_, rfl, ?_⟩)
  | (show ∃ t, Value.bool _ = Value.bool t ∧ _; refine ⟨_, rfl, ?_⟩)); try dsimp only))
local macro_rules | `(tactic| wtm_at "te") => `(tactic| first
  | (((with_reducible show TB _ _ _ _ _ _ _ _); wtm_at "TB"); try dsimp only)
  | (((with_reducible show TBs _ _ _ _ _ _ _ _ _); wtm_at "TBs"); try dsimp only)
  | wtm_at "tx")
local macro_rules | `(tactic| wtm_at "ti") => `(tactic| first
  | wtm_at "te"
  | with_reducible refine if_t ?_ | with_reducible refine if_f ?_)

noncomputable section
noncomputable section
variable {x : Gx} {n : Nat}
/-- the hand of the law's own chooser -/
def Hand (σ : Store) (H C : Addr) : Prop := ∃ (ns : List Int) (i p r : Int), σ H = some (.list [.ref C, .int i 0, .int p 0, .int r 0]) ∧ σ C = some (.list (ns.map fun k => .int k 0)) ∧ 0 ≤ i ∧ i ≤ ns.length ∧ ns.length ≤ 63 ∧ 0 ≤ p ∧ 0 ≤ r

theorem pick_tc {σ : Store} {H C : Addr} {L : Int} {Q : Value → Store → Prop} (hH : Hand σ H C) (h1 : 1 ≤ L) (h2 : L ≤ 100) (h : ∀ d o, 0 ≤ d → d < L → Hand (σ.upd H o) H C → Q (.int d 0) (σ.upd H o)) : TCc x.gd 2 (.ref 357) [.ref H, .int L 0] σ Q := by
  obtain ⟨ns, i, p, r, hHl, hCl, hi0, hi1, hns, hp, hr⟩ := hH
  have hne : C ≠ H := fun e => by
    rw [e, hHl] at hCl
    cases ns with
    | nil => cases hCl
    | cons a t => simp only [List.map_cons, Option.some.injEq, AO.list.injEq, List.cons.injEq] at hCl; cases hCl.1
  refine TCc_fn (ps := [("hand", .ref H), ("limit", .int L 0)]) rfl rfl (fun vs hvs S => ?_) rfl ⟨rfl, rfl⟩ ?_
  · obtain ⟨u, v, rfl, hu, hv⟩ := args2 hvs
    exact ⟨_, rfl, by rw [← hu, ← hv]; rfl⟩
  have fin : ∀ i' p' r' : Int, 0 ≤ i' → i' ≤ ns.length → 0 ≤ p' → 0 ≤ r' → ∀ d, 0 ≤ d → d < L → Q (.int d 0) (σ.upd H (.list [.ref C, .int i' 0, .int p' 0, .int r' 0])) := fun i' p' r' a1 a2 a3 a4 d d1 d2 =>
    h d _ d1 d2 ⟨ns, i', p', r', Store.upd_self _ _ _, Store.upd_miss hne hCl, a1, a2, hns, a3, a4⟩
  have fmod_lo : ∀ a : Int, 0 ≤ a.fmod L := fun a => Int.fmod_nonneg_of_pos a (by omega)
  have fmod_hi : ∀ a : Int, a.fmod L < L := fun a => Int.fmod_lt_of_pos a (by omega)
  repeat wtm_at "te"
  refine if_dec (fun hp0 => ?_) (fun hp0 => ?_)
  · repeat wtm_at "te"
    refine TC_len_list (by wtm_at "st") (by rw [sizeLine_eq]; simp; omega) ?_
    repeat wtm_at "te"
    refine if_dec (fun hi => ?_) (fun hi => ?_)
    · repeat wtm_at "te"
      refine P2_mul_int (.inr (by decide)) ?_
      repeat wtm_at "te"
      refine P2_mod_int (by decide) ?_
      repeat wtm_at "te"
      refine P2_floordiv_int (by decide) (by decide) ?_
      repeat wtm_at "te"
      refine P2_mod_int (by omega) ?_
      repeat wtm_at "te"
      exact fin _ _ _ hi0 hi1 hp (Int.fmod_nonneg_of_pos _ (by decide)) _ (fmod_lo _) (fmod_hi _)
    · repeat wtm_at "te"
      rw [List.length_map] at hi
      have hilt : i.toNat < ns.length := by omega
      refine PG_list (by wtm_at "st") hi0 (by omega) (v := .int (ns.getD i.toNat 0) 0) (by rw [List.getElem?_map, List.getD_eq_getElem?_getD, List.getElem?_eq_getElem hilt]; rfl) ?_
      generalize ns.getD i.toNat 0 = fig
      repeat wtm_at "te"
      refine if_dec (fun hf => ?_) (fun hf => ?_)
      · repeat wtm_at "te"
        refine P2_mod_int (by omega) ?_
        repeat wtm_at "te"
        refine P2_floordiv_int (by omega) (by omega) ?_
        repeat wtm_at "te"
        rw [Store.upd_upd, Store.upd_upd]
        exact fin _ _ _ (by omega) (by omega) (Int.fdiv_nonneg (by omega) (by omega)) hr _ (fmod_lo _) (fmod_hi _)
      · repeat wtm_at "te"
        refine P2_mod_int (by omega) ?_
        repeat wtm_at "te"
        refine P2_floordiv_int (by omega) (by omega) ?_
        repeat wtm_at "te"
        rw [Store.upd_upd, Store.upd_upd]
        exact fin _ _ _ (by omega) (by omega) (Int.fdiv_nonneg (by omega) (by omega)) hr _ (fmod_lo _) (fmod_hi _)
  · repeat wtm_at "te"
    refine P2_mod_int (by omega) ?_
    repeat wtm_at "te"
    refine P2_floordiv_int (by omega) (by omega) ?_
    repeat wtm_at "te"
    exact fin _ _ _ hi0 hi1 (Int.fdiv_nonneg (by omega) (by omega)) hr _ (fmod_lo _) (fmod_hi _)
theorem Hand.ex {σ τ : Store} {H C : Addr} {X : List Addr} (h : Hand σ H C) (E : Ex X σ τ) (h1 : H ∉ X) (h2 : C ∉ X) : Hand τ H C := by
  obtain ⟨ns, i, p, r, a, b, c⟩ := h
  exact ⟨ns, i, p, r, E _ _ h1 a, E _ _ h2 b, c⟩
theorem Hand.at {σ : Store} {H C : Addr} (h : Hand σ H C) : ∃ xs, σ H = some (.list xs) := by
  obtain ⟨ns, i, p, r, a, b, c⟩ := h
  exact ⟨_, a⟩
theorem Hand.cells {σ : Store} {H C : Addr} (h : Hand σ H C) : ∃ xs, σ C = some (.list xs) := by
  obtain ⟨ns, i, p, r, a, b, c⟩ := h
  exact ⟨_, b⟩
end
end

noncomputable section
noncomputable section
variable {x : Gx} {n : Nat} {σ : Store} {Q : Value → Store → Prop}
def leS (a b : Str) : Bool := !decide (b.cps.toList < a.cps.toList)
def letS (c : Str) : Bool := (leS "a" c && leS c "z") || (leS "A" c && leS c "Z")
def digS (c : Str) : Bool := leS "0" c && leS c "9"
theorem is_letter_tc {c : Str} (h : Q (.bool (letS c)) σ) : TCc x.gd 1 (.ref 98) [sv c] σ Q := by
  refine TCc_fn (ps := [("char", sv c)]) rfl rfl (fun vs hvs S => ?_) rfl ⟨rfl, rfl⟩ ?_
  · obtain ⟨u, rfl, hu⟩ := args1 hvs
    exact ⟨_, rfl, by rw [← hu]; rfl⟩
  unfold letS leS at h
  repeat wtm_at "te"
  refine if_b (fun h1 => ?_) (fun h1 => ?_)
  · repeat wtm_at "te"
    refine if_b (fun h2 => ?_) (fun h2 => ?_)
    · rw [h1, h2] at h; exact h
    · repeat wtm_at "te"
      refine if_b (fun h3 => ?_) (fun h3 => ?_)
      · repeat wtm_at "te"
        rw [h1, h2, h3] at h; exact h
      · repeat wtm_at "te"
        rw [h1, h2, h3] at h; exact h
  · repeat wtm_at "te"
    show if false = true then _ else _
    rw [if_neg Bool.false_ne_true]
    repeat wtm_at "te"
    refine if_b (fun h3 => ?_) (fun h3 => ?_)
    · repeat wtm_at "te"
      rw [h1, h3] at h; exact h
    · repeat wtm_at "te"
      rw [h1, h3] at h; exact h
theorem is_digit_tc {c : Str} (h : Q (.bool (digS c)) σ) : TCc x.gd 1 (.ref 105) [sv c] σ Q := by
  refine TCc_fn (ps := [("char", sv c)]) rfl rfl (fun vs hvs S => ?_) rfl ⟨rfl, rfl⟩ ?_
  · obtain ⟨u, rfl, hu⟩ := args1 hvs
    exact ⟨_, rfl, by rw [← hu]; rfl⟩
  unfold digS leS at h
  repeat wtm_at "te"
  refine if_b (fun h1 => ?_) (fun h1 => ?_)
  · repeat wtm_at "te"
    rw [h1] at h; exact h
  · rw [h1] at h; exact h
theorem errors_tc {e d : Addr} (he : σ e = some (.inst 59 d)) (hd : σ d = some (.attrs [])) (h : ∀ τ, Ex [d] σ τ → Q .none τ) : TCc x.gd 1 (.ref 35) [.ref e] σ Q := by
  refine TCc_fn (ps := [("self", .ref e)]) rfl rfl (fun vs hvs S => ?_) rfl ⟨rfl, rfl⟩ ?_
  · obtain ⟨u, rfl, hu⟩ := args1 hvs
    exact ⟨_, rfl, by rw [← hu]; rfl⟩
  have hed := ne_kd he hd rfl
  repeat wtm_at "te"
  refine ⟨Nat.zero_le _, fun r hr => ?_⟩
  have h1 := ne_of_none he hr
  have h2 := ne_of_none hd hr
  repeat wtm_at "te"
  intro p hp
  have h5 : e ≠ p := fun z => by rw [← z, Store.upd_ne _ _ hed, Store.upd_ne _ _ h1, he] at hp; cases hp
  have h6 : d ≠ p := fun z => by rw [← z, Store.upd_self] at hp; cases hp
  repeat wtm_at "te"
  refine h _ ?_
  wtm_at "ex"
theorem token_tc {t d : Addr} {k v p : Value} (ht : σ t = some (.inst 80 d)) (hd : σ d = some (.attrs [])) (hk : handedIn k = true) (h : Q .none (σ.upd d (.attrs [("kind", k), ("value", v), ("place", p)]))) : TCc x.gd 1 (.ref 77) [.ref t, k, v, p] σ Q := by
  refine TCc_fn (ps := [("self", .ref t), ("kind", k), ("value", v), ("place", p)]) rfl rfl (fun vs hvs S => ?_) rfl ⟨rfl, rfl⟩ ?_
  · obtain ⟨a, b, c, e, rfl, ha, hb, hc, he⟩ := args4 hvs
    exact ⟨_, rfl, by rw [← ha, ← hb, ← hc, ← he]; rfl⟩
  have htd := ne_kd ht hd rfl
  repeat wtm_at "te"
  rw [Store.upd_upd, Store.upd_upd]
  exact h
theorem head_tc {t d : Addr} {k v : Value} (ht : σ t = some (.inst 249 d)) (hd : σ d = some (.attrs [])) (h : Q .none (σ.upd d (.attrs [("name", k), ("imports", v)]))) : TCc x.gd 1 (.ref 246) [.ref t, k, v] σ Q := by
  refine TCc_fn (ps := [("self", .ref t), ("name", k), ("imports", v)]) rfl rfl (fun vs hvs S => ?_) rfl ⟨rfl, rfl⟩ ?_
  · obtain ⟨a, b, c, rfl, ha, hb, hc⟩ := args3 hvs
    exact ⟨_, rfl, by rw [← ha, ← hb, ← hc]; rfl⟩
  have htd := ne_kd ht hd rfl
  repeat wtm_at "te"
  rw [Store.upd_upd]
  exact h
def kws : List Str := ["ARRAY", "BEGIN", "BY", "CASE", "CONST", "DIV", "DO", "ELSE", "ELSIF", "END", "FOR", "IF", "IMPORT", "IN", "IS", "MOD", "MODULE", "NIL", "OF", "OR", "POINTER", "PROCEDURE", "RECORD", "REPEAT", "RETURN", "THEN", "TO", "TYPE", "UNTIL", "VAR", "WHILE"]
theorem keywords_tc (h : ∀ a, σ a = none → Q (.ref a) (σ.upd a (.tup (kws.map sv)))) : TCc x.gd 1 (.ref 91) [] σ Q := by
  refine TCc_fn (ps := []) rfl rfl (fun vs hvs S => ?_) rfl ⟨rfl, rfl⟩ ?_
  · cases vs with
    | nil => exact ⟨_, rfl, rfl⟩
    | cons => cases hvs
  repeat wtm_at "te"
  exact ⟨by decide, fun a ha => h a ha⟩
/-- classes called -/
theorem Token_tc {k v p : Value} (hk : handedIn k = true) (h : ∀ t d, σ t = none → σ d = none → t ≠ d → Q (.ref t) (((σ.upd d (.attrs [])).upd t (.inst 80 d)).upd d (.attrs [("kind", k), ("value", v), ("place", p)]))) : TC x.gd false 2 (.ref 80) [k, v, p] σ Q := by
  refine TC_cls (fI := 77) rfl rfl rfl fun t d ht hd htd => ?_
  exact token_tc (Store.upd_self _ _ _) (by rw [Store.upd_ne _ _ htd.symm]; exact Store.upd_self _ _ _) hk ⟨rfl, h t d ht hd htd⟩
end
end

noncomputable section
/-! texts as lists of signs -/
def mk (l : List Nat) : Str := ⟨l.toArray⟩
def ch (l : List Nat) : Str := mk (l.take 1)
def pr (l : List Nat) : Str := mk (l.take 2)
theorem mk_inj {a b : List Nat} : mk a = mk b ↔ a = b := by
  unfold mk
  simp
theorem mk_add {a b : List Nat} : mk a ++ mk b = mk (a ++ b) := by
  show Str.mk (_ ++ _) = _
  unfold mk; simp
theorem mk_cps {a : List Nat} : (mk a).cps.toList = a := by unfold mk; simp
theorem mk_len {a : List Nat} : (mk a).length = a.length := by unfold mk Str.length; simp
theorem mk_of (x : Str) : mk x.cps.toList = x := by unfold mk; simp
theorem pr_is {l : List Nat} : ch l ++ ch (l.drop 1) = pr l := by
  unfold ch pr
  rw [mk_add, mk_inj]
  match l with
  | [] => rfl
  | [_] => rfl
  | _ :: _ :: _ => rfl
theorem sub_ch {S : Str} {p : Nat} : sub S p (p + 1) = ch (S.cps.toList.drop p) := by unfold sub ch mk; rw [Nat.add_sub_cancel_left]
theorem cps_a : ("a" : Str).cps.toList = [97] := by decide
theorem cps_z : ("z" : Str).cps.toList = [122] := by decide
theorem cps_A : ("A" : Str).cps.toList = [65] := by decide
theorem cps_Z : ("Z" : Str).cps.toList = [90] := by decide
theorem cps_0 : ("0" : Str).cps.toList = [48] := by decide
theorem cps_9 : ("9" : Str).cps.toList = [57] := by decide
def isLet (k : Nat) : Bool := (97 ≤ k && k ≤ 122) || (65 ≤ k && k ≤ 90)
def isDig (k : Nat) : Bool := 48 ≤ k && k ≤ 57
def isAln (k : Nat) : Bool := isLet k || isDig k
theorem lt_one {a b : Nat} : ([a] < [b]) ↔ a < b := by
  rw [List.cons_lt_cons_iff]; simp
theorem leS_one {y z : Str} {a b : Nat} (h : y.cps.toList = [a]) (h' : z.cps.toList = [b]) : leS y z = decide (a ≤ b) := by
  unfold leS
  rw [Bool.eq_iff_iff]
  simp only [Bool.not_eq_true', decide_eq_false_iff_not, decide_eq_true_eq]
  rw [h, h', lt_one]; omega
theorem ch_cps {k : Nat} {r : List Nat} : (ch (k :: r)).cps.toList = [k] := by unfold ch; rw [mk_cps]; rfl
theorem let_cons {k : Nat} {r : List Nat} : letS (ch (k :: r)) = isLet k := by
  unfold letS isLet
  rw [leS_one cps_a ch_cps, leS_one ch_cps cps_z, leS_one cps_A ch_cps, leS_one ch_cps cps_Z]
theorem dig_cons {k : Nat} {r : List Nat} : digS (ch (k :: r)) = isDig k := by
  unfold digS isDig
  rw [leS_one cps_0 ch_cps, leS_one ch_cps cps_9]
theorem let_nil : letS (ch []) = false := by decide
theorem dig_nil : digS (ch []) = false := by decide

/-! the scanner in plain words -/
noncomputable def rem : Nat → List Nat → Option (List Nat)
  | 0, l => some l
  | _ + 1, [] => none
  | _ + 1, [_] => none
  | d + 1, a :: b :: r => if a = 40 ∧ b = 42 then rem (d + 2) r else if a = 42 ∧ b = 41 then rem d r else rem (d + 1) (b :: r)
noncomputable def skipF : Nat → List Nat → Option (List Nat)
  | 0, _ => none
  | f + 1, l => if pr l = mk [40, 42] then (rem 1 (l.drop 2)).bind (skipF f) else match l with
    | [] => some []
    | k :: r => if k ≤ 32 then skipF f r else some (k :: r)
def tokOf : List Nat → Option (Str × Str × List Nat)
  | [] => none
  | k :: r => if isLet k then
      some (if mk ((k :: r).takeWhile isAln) ∈ kws then (mk ((k :: r).takeWhile isAln), "", (k :: r).dropWhile isAln) else ("ident", mk ((k :: r).takeWhile isAln), (k :: r).dropWhile isAln))
    else if k = 58 then (match r with | 61 :: r' => some (mk [58, 61], "", r') | _ => none)
    else if k = 44 ∨ k = 59 then some (mk [k], "", r) else none
def takeF (l : List Nat) : Option (Str × Str × List Nat) := (skipF 50 l).bind tokOf

def sg (S : Str) (e : Addr) (p : Nat) (w : Addr) : List (Str × Value) := [("source", sv S), ("errors", .ref e), ("place", .int p 0), ("words", .ref w)]
structure Scn (σ : Store) (s d e w : Addr) (S : Str) (p : Nat) : Prop where
  hs : σ s = some (.inst 228 d)
  hd : σ d = some (.attrs (sg S e p w))
  hw : σ w = some (.tup (kws.map sv))
  hlen : S.length ≤ 1000
  hp : p ≤ S.length
noncomputable section
variable {x : Gx} {n : Nat} {σ : Store} {Q : Value → Store → Prop} {s d e w : Addr} {S : Str} {p : Nat}
theorem Scn.size (h : Scn σ s d e w S p) : S.length ≤ sizeLine := Nat.le_trans h.hlen (by rw [sizeLine_eq]; decide)
theorem char_tc (hS : Scn σ s d e w S p) (h : Q (sv (ch (S.cps.toList.drop p))) σ) : TCc x.gd 1 (.ref 141) [.ref s] σ Q := by
  refine TCc_fn (ps := [("self", .ref s), ("ahead", .int 0 0)]) rfl rfl (fun vs hvs S => ?_) rfl ⟨rfl, rfl⟩ ?_
  · obtain ⟨u, rfl, hu⟩ := args1 hvs
    exact ⟨_, rfl, by rw [← hu]; rfl⟩
  have h1 := hS.hs
  have h2 := hS.hd
  unfold sg at h2
  repeat wtm_at "te"
  refine PSl_strN (i := p) (j := p + 1) ?_ ?_ hS.size ?_
  · omega
  · omega
  rw [sub_ch]; exact h
theorem char1_tc (hS : Scn σ s d e w S p) (h : Q (sv (ch ((S.cps.toList.drop p).drop 1))) σ) : TCc x.gd 1 (.ref 141) [.ref s, .int 1 0] σ Q := by
  refine TCc_fn (ps := [("self", .ref s), ("ahead", .int 1 0)]) rfl rfl (fun vs hvs S => ?_) rfl ⟨rfl, rfl⟩ ?_
  · obtain ⟨u, v, rfl, hu, hv⟩ := args2 hvs
    exact ⟨_, rfl, by rw [← hu, ← hv]; rfl⟩
  have h1 := hS.hs
  have h2 := hS.hd
  unfold sg at h2
  repeat wtm_at "te"
  refine PSl_strN (i := p + 1) (j := p + 1 + 1) ?_ ?_ hS.size ?_
  · omega
  · omega
  rw [sub_ch]; rw [List.drop_drop] at h; exact h
theorem Scn.put (h : Scn σ s d e w S p) {q : Nat} (hq : q ≤ S.length) {τ : Store} (E : Ex [d] σ τ) (hτ : τ d = some (.attrs (sg S e q w))) : Scn τ s d e w S q :=
  ⟨E.of1 h.hs (ne_kd h.hs h.hd rfl), hτ, E.of1 h.hw (ne_kd h.hw h.hd rfl), h.hlen, hq⟩
theorem Scn.ex (h : Scn σ s d e w S p) {τ : Store} (E : Ex [] σ τ) : Scn τ s d e w S p := ⟨E.of h.hs, E.of h.hd, E.of h.hw, h.hlen, h.hp⟩
theorem put_place {q : Int} {k : Nat} (h : q = k) : Mine.put (sg S e p w) "place" (.int q 0) = sg S e k w := by subst h; rfl
theorem drop_len {l : List Nat} {S : Str} {p : Nat} (h : S.cps.toList.drop p = l) (hp : p ≤ S.length) : S.length = p + l.length := by
  have := congrArg List.length h
  rw [List.length_drop] at this
  have e : S.cps.toList.length = S.length := by simp [Str.length]
  omega
theorem drop_add {l : List Nat} {S : Str} {p k : Nat} (h : S.cps.toList.drop p = l) : S.cps.toList.drop (p + k) = l.drop k := by rw [← List.drop_drop, h]
theorem rem_cons {d : Nat} {l r : List Nat} (h : rem (d + 1) l = some r) : l ≠ [] ∧ ((pr l = mk [40, 42] ∧ rem (d + 2) (l.drop 2) = some r ∧ 2 ≤ l.length) ∨ (pr l ≠ mk [40, 42] ∧ pr l = mk [42, 41] ∧ rem d (l.drop 2) = some r ∧ 2 ≤ l.length) ∨
    (pr l ≠ mk [40, 42] ∧ pr l ≠ mk [42, 41] ∧ rem (d + 1) (l.drop 1) = some r)) := by
  unfold pr
  simp only [ne_eq, mk_inj]
  match l with
  | [] => cases h
  | [k] => cases h
  | a :: b :: r' =>
    refine ⟨by simp, ?_⟩
    unfold rem at h
    by_cases h1 : a = 40 ∧ b = 42
    · rw [if_pos h1] at h
      obtain ⟨rfl, rfl⟩ := h1; exact .inl ⟨rfl, h, by simp⟩
    · rw [if_neg h1] at h
      by_cases h2 : a = 42 ∧ b = 41
      · rw [if_pos h2] at h
        obtain ⟨rfl, rfl⟩ := h2; exact .inr (.inl ⟨by simp, rfl, h, by simp⟩)
      · rw [if_neg h2] at h
        exact .inr (.inr ⟨by simpa using h1, by simpa using h2, h⟩)
theorem remark_tc {l r : List Nat} (hS : Scn σ s d e w S p) (hl : S.cps.toList.drop p = l) (h2 : 2 ≤ l.length) (hr : rem 1 (l.drop 2) = some r)
    (h : ∀ τ q, Ex [d] σ τ → Scn τ s d e w S q → S.cps.toList.drop q = r → p < q → Q .none τ) : TCc x.gd 3 (.ref 162) [.ref s] σ Q := by
  refine TCc_fn (ps := [("self", .ref s)]) rfl rfl (fun vs hvs S => ?_) rfl ⟨rfl, rfl⟩ ?_
  · obtain ⟨u, rfl, hu⟩ := args1 hvs
    exact ⟨_, rfl, by rw [← hu]; rfl⟩
  have h1 := hS.hs
  have hd := hS.hd
  have hsd := ne_kd h1 hd rfl
  have hlen := drop_len hl hS.hp
  repeat wtm_at "te"
  rw [put_place (k := p + 2) (by omega)]
  have E1 : Ex [d] σ (σ.upd d (.attrs (sg S e (p + 2) w))) := Ex.refl.upd_in (by simp)
  have S1 := hS.put (q := p + 2) (by omega) E1 (Store.upd_self _ _ _)
  refine TS_While (fun k m τ => ∃ q dp l', m "self" = some (.ref s) ∧ m "begun" = some (.int p 0) ∧ m "depth" = some (.int (dp : Nat) 0) ∧ Ex [d] σ τ ∧ Scn τ s d e w S q ∧ p < q ∧ S.cps.toList.drop q = l' ∧ rem dp l' = some r ∧ k = l'.length) (l.drop 2).length
    ⟨p + 2, 1, l.drop 2, by wtm_at "nm", by wtm_at "nm", by wtm_at "nm", E1, S1, by omega, drop_add hl, hr, rfl⟩ ?_
  rintro k m τ ⟨q, dp, l', m1, m2, m3, E, Sc, hpq, hq, hrem, rfl⟩
  repeat wtm_at "te"
  refine if_dec (fun hdp => ?_) (fun hdp => ?_)
  · obtain ⟨dp, rfl⟩ : ∃ k, dp = k + 1 := ⟨dp - 1, by omega⟩
    obtain ⟨hne, hcases⟩ := rem_cons hrem
    have h1' := Sc.hs
    have hd' := Sc.hd
    have hlen' := drop_len hq Sc.hp
    have hpos : 0 < l'.length := List.length_pos_iff.mpr hne
    repeat wtm_at "te"
    refine TC.le (TCc.tc (char_tc Sc ?_)) (by decide)
    repeat wtm_at "te"
    refine TC.le (TCc.tc (char1_tc Sc ?_)) (by decide)
    refine P2_add_str ?_ ?_
    · rw [hq, pr_is]; unfold pr; rw [mk_len, sizeLine_eq]; simp; omega
    rw [hq, pr_is]
    repeat wtm_at "te"
    refine if_dec (fun hz => ?_) (fun _ => ?_)
    · exfalso
      have : pr l' = mk [] := hz
      unfold pr at this
      rw [mk_inj] at this
      cases l' with
      | nil => exact hne rfl
      | cons => cases this
    repeat wtm_at "te"
    have lit1 : ("(*" : Str) = mk [40, 42] := by decide
    have lit2 : ("*)" : Str) = mk [42, 41] := by decide
    refine if_dec (fun hz1 => ?_) (fun hz1 => ?_)
    · rw [lit1] at hz1
      rcases hcases with ⟨_, hr', hl2⟩ | ⟨hz2, _⟩ | ⟨hz2, _⟩
      · repeat wtm_at "te"
        rw [put_place (k := q + 2) (by omega)]
        have E2 : Ex [d] σ (τ.upd d (.attrs (sg S e (q + 2) w))) := E.upd_in (by simp)
        exact ⟨(l'.drop 2).length, by rw [List.length_drop]; omega, q + 2, dp + 2, l'.drop 2, by wtm_at "nm", by wtm_at "nm", upd_hit, E2, Sc.put (by omega) (Ex.refl.upd_in (by simp)) (Store.upd_self _ _ _), by omega, drop_add hq, hr', rfl⟩
      · exact absurd hz1 hz2
      · exact absurd hz1 hz2
    · rw [lit1] at hz1
      repeat wtm_at "te"
      refine if_dec (fun hz3 => ?_) (fun hz3 => ?_)
      · rw [lit2] at hz3
        rcases hcases with ⟨hz2, _⟩ | ⟨_, _, hr', hl2⟩ | ⟨_, hz2, _⟩
        · exact absurd hz2 hz1
        · repeat wtm_at "te"
          rw [put_place (k := q + 2) (by omega)]
          have E2 : Ex [d] σ (τ.upd d (.attrs (sg S e (q + 2) w))) := E.upd_in (by simp)
          exact ⟨(l'.drop 2).length, by rw [List.length_drop]; omega, q + 2, dp, l'.drop 2, by wtm_at "nm", by wtm_at "nm", by rw [upd_hit]; congr 2; omega, E2, Sc.put (by omega) (Ex.refl.upd_in (by simp)) (Store.upd_self _ _ _), by omega, drop_add hq, hr', rfl⟩
        · exact absurd hz3 hz2
      · rw [lit2] at hz3
        rcases hcases with ⟨hz2, _⟩ | ⟨_, hz2, _⟩ | ⟨_, _, hr'⟩
        · exact absurd hz2 hz1
        · exact absurd hz2 hz3
        · repeat wtm_at "te"
          rw [put_place (k := q + 1) (by omega)]
          have E2 : Ex [d] σ (τ.upd d (.attrs (sg S e (q + 1) w))) := E.upd_in (by simp)
          exact ⟨(l'.drop 1).length, by rw [List.length_drop]; omega, q + 1, dp + 1, l'.drop 1, by wtm_at "nm", by wtm_at "nm", by wtm_at "nm", E2, Sc.put (by omega) (Ex.refl.upd_in (by simp)) (Store.upd_self _ _ _), by omega, drop_add hq, hr', rfl⟩
  · repeat wtm_at "te"
    have : dp = 0 := by omega
    subst this
    have hrl : l' = r := by unfold rem at hrem; exact Option.some.inj hrem
    exact h τ q E Sc (hq.trans hrl) hpq
theorem ch_eq {l : List Nat} {k : Nat} : ch l = mk [k] ↔ l.head? = some k := by
  unfold ch
  rw [mk_inj]
  cases l with
  | nil => simp
  | cons a r => simp
theorem skip_tc {f : Nat} {l r : List Nat} (hS : Scn σ s d e w S p) (hl : S.cps.toList.drop p = l) (hr : skipF f l = some r)
    (h : ∀ τ q, Ex [d] σ τ → Scn τ s d e w S q → S.cps.toList.drop q = r → Q .none τ) : TCc x.gd 4 (.ref 155) [.ref s] σ Q := by
  refine TCc_fn (ps := [("self", .ref s)]) rfl rfl (fun vs hvs S => ?_) rfl ⟨rfl, rfl⟩ ?_
  · obtain ⟨u, rfl, hu⟩ := args1 hvs
    exact ⟨_, rfl, by rw [← hu]; rfl⟩
  repeat wtm_at "te"
  refine TS_While (fun k m τ => ∃ q l', m "self" = some (.ref s) ∧ Ex [d] σ τ ∧ Scn τ s d e w S q ∧ S.cps.toList.drop q = l' ∧ skipF k l' = some r) f ⟨p, l, by wtm_at "nm", Ex.refl, hS, hl, hr⟩ ?_
  rintro k m τ ⟨q, l', m1, E, Sc, hq, hsk⟩
  have h1 := Sc.hs
  have hd := Sc.hd
  have hsd := ne_kd h1 hd rfl
  have hlen := drop_len hq Sc.hp
  obtain ⟨k, rfl⟩ : ∃ j, k = j + 1 := by
    cases k with
    | zero => cases hsk
    | succ k => exact ⟨k, rfl⟩
  unfold skipF at hsk
  repeat wtm_at "te"
  rw [if_pos rfl]
  repeat wtm_at "te"
  refine TC.le (TCc.tc (char_tc Sc ?_)) (by decide)
  repeat wtm_at "tx"
  rw [hq]
  have lit1 : ("(" : Str) = mk [40] := by decide
  have lit2 : ("*" : Str) = mk [42] := by decide
  refine TB.mono (Q := fun b τ' => τ' = τ ∧ b = decide (pr l' = mk [40, 42])) ?_ ?_
  · repeat wtm_at "te"
    refine if_dec (fun c1 => ?_) (fun c1 => ?_)
    · repeat wtm_at "te"
      refine TC.le (TCc.tc (char1_tc Sc ?_)) (by decide)
      repeat wtm_at "te"
      refine if_dec (fun c2 => ?_) (fun c2 => ?_)
      · repeat wtm_at "te"
        rw [lit1, ch_eq] at c1
        rw [lit2, hq, ch_eq] at c2
        refine ⟨rfl, (decide_eq_true ?_).symm⟩
        unfold pr; rw [mk_inj]
        match l', c1, c2 with
        | a :: b :: r', c1, c2 => cases c1; cases c2; rfl
      · refine ⟨rfl, (decide_eq_false fun z => c2 ?_).symm⟩
        rw [lit2, hq, ch_eq]
        unfold pr at z; rw [mk_inj] at z
        match l', z with
        | a :: b :: r', z => cases z; rfl
    · refine ⟨rfl, (decide_eq_false fun z => c1 ?_).symm⟩
      rw [lit1, ch_eq]
      unfold pr at z; rw [mk_inj] at z
      match l', z with
      | a :: b :: r', z => cases z; rfl
  · rintro b τ' ⟨rfl, rfl⟩
    refine if_dec (fun c => ?_) (fun c => ?_)
    · rw [if_pos c] at hsk
      have hl2 : 2 ≤ l'.length := by
        unfold pr at c; rw [mk_inj] at c
        match l', c with
        | a :: b :: r', c => simp
      cases hrem : rem 1 (l'.drop 2) with
      | none => rw [hrem] at hsk; cases hsk
      | some r1 =>
        rw [hrem] at hsk
        repeat wtm_at "te"
        refine TC.le (TCc.tc (remark_tc Sc hq hl2 hrem fun τ2 q2 E2 Sc2 hq2 _ => ?_)) (by decide)
        refine ⟨rfl, ?_⟩
        repeat wtm_at "te"
        exact ⟨k, Nat.lt_succ_self _, q2, r1, by wtm_at "nm", E.trans E2, Sc2, hq2, hsk⟩
    · rw [if_neg c] at hsk
      repeat wtm_at "te"
      refine if_ndec (fun c1 => ?_) (fun c1 => ?_)
      · have hne : l' ≠ [] := fun z => c1 (by rw [z]; rfl)
        obtain ⟨a, r', rfl⟩ : ∃ a r', l' = a :: r' := by
          cases l' with
          | nil => exact absurd rfl hne
          | cons a r' => exact ⟨a, r', rfl⟩
        repeat wtm_at "te"
        refine TC_ord (by unfold ch; rw [mk_len]; rfl) ?_
        repeat wtm_at "te"
        dsimp only at hsk
        have ea : (ch (a :: r')).cps.getD 0 0 = a := by unfold ch mk; rfl
        rw [ea]
        refine if_dec (fun c2 => ?_) (fun c2 => ?_)
        · repeat wtm_at "te"
          show if true = true then _ else _
          rw [if_pos rfl]
          repeat wtm_at "te"
          rw [put_place (k := q + 1) (by omega)]
          have hsk' : skipF k r' = some r := by rw [if_pos (by omega)] at hsk; exact hsk
          rw [List.length_cons] at hlen
          exact ⟨k, Nat.lt_succ_self _, q + 1, r', by wtm_at "nm", E.upd_in (by simp), Sc.put (by omega) (Ex.refl.upd_in (by simp)) (Store.upd_self _ _ _), drop_add hq, hsk'⟩
        · show if false = true then _ else _
          rw [if_neg Bool.false_ne_true]
          repeat wtm_at "te"
          rw [if_neg (by omega)] at hsk
          exact h _ q E Sc (hq.trans (Option.some.inj hsk))
      · show if false = true then _ else _
        rw [if_neg Bool.false_ne_true]
        repeat wtm_at "te"
        have hnil : l' = [] := by
          have e0 : ("" : Str) = mk [] := by decide
          rw [e0] at c1
          unfold ch at c1; rw [mk_inj] at c1
          cases l' with
          | nil => rfl
          | cons => cases c1
        subst hnil
        exact h _ q E Sc (hq.trans (Option.some.inj hsk))
theorem sub_mk {y : Str} {a b : Nat} : sub y a b = mk ((y.cps.toList.drop a).take (b - a)) := rfl
theorem take_while_len {p : Nat → Bool} {l : List Nat} : l.take (l.takeWhile p).length = l.takeWhile p := by
  induction l with
  | nil => rfl
  | cons a r ih =>
    rw [List.takeWhile_cons]
    split
    · simp [ih]
    · rfl
theorem drop_while_len {p : Nat → Bool} {l : List Nat} : l.drop (l.takeWhile p).length = l.dropWhile p := by
  induction l with
  | nil => rfl
  | cons a r ih =>
    rw [List.takeWhile_cons, List.dropWhile_cons]
    split
    · simpa using ih
    · rfl
theorem while_next {p : Nat → Bool} : ∀ {l : List Nat} {j : Nat}, j ≤ (l.takeWhile p).length → (j < (l.takeWhile p).length ∧ ∃ a r, l.drop j = a :: r ∧ p a = true) ∨ (j = (l.takeWhile p).length ∧ (l.drop j = [] ∨ ∃ a r, l.drop j = a :: r ∧ p a = false))
  | [], j, h => by
    have : j = 0 := by simpa using h
    subst this; exact .inr ⟨rfl, .inl rfl⟩
  | a :: r, j, h => by
    rw [List.takeWhile_cons] at h ⊢
    by_cases hp : p a = true
    · rw [if_pos hp] at h ⊢
      cases j with
      | zero => exact .inl ⟨by simp, a, r, rfl, hp⟩
      | succ j =>
        rcases while_next (l := r) (p := p) (j := j) (by simpa using h) with ⟨h1, h2⟩ | ⟨h1, h2⟩
        · exact .inl ⟨by simpa using h1, h2⟩
        · exact .inr ⟨by simpa using h1, h2⟩
    · rw [if_neg hp] at h ⊢
      have : j = 0 := by simpa using h
      subst this
      exact .inr ⟨rfl, .inr ⟨a, r, rfl, by simpa using hp⟩⟩
theorem sg_place {q : Nat} : Mine.put (sg S e p w) "place" (.int (q : Nat) 0) = sg S e q w := rfl
/-- a token made: what a call answers -/
def TokQ (σ : Store) (s d e w : Addr) (S : Str) (k v : Str) (r : List Nat) (Q : Value → Store → Prop) : Prop :=
  ∀ τ q t dt pl, Ex [d] σ τ → Scn τ s d e w S q → S.cps.toList.drop q = r → τ t = some (.inst 80 dt) → τ dt = some (.attrs [("kind", sv k), ("value", sv v), ("place", pl)]) → Q (.ref t) τ
theorem TokQ.make {τ : Store} {q : Nat} {k v : Str} {pl : Value} {r : List Nat} (h : TokQ σ s d e w S k v r Q) (E : Ex [d] σ τ) (Sc : Scn τ s d e w S q) (hq : S.cps.toList.drop q = r) : TC x.gd false 2 (.ref 80) [sv k, sv v, pl] τ Q := by
  refine Token_tc rfl fun t dt ht hdt hne => ?_
  have E1 : Ex [] τ (((τ.upd dt (.attrs [])).upd t (.inst 80 dt)).upd dt (.attrs [("kind", sv k), ("value", sv v), ("place", pl)])) := by
    refine Ex.upd_none (Ex.upd_none (Ex.upd_none Ex.refl (fun z => nomatch z) hdt) (fun z => nomatch z) ht) (fun z => nomatch z) hdt
  refine h _ q t dt pl (E.nil E1) (Sc.ex E1) hq ?_ (Store.upd_self _ _ _)
  rw [Store.upd_ne _ _ hne]; exact Store.upd_self _ _ _
end
end

noncomputable section
noncomputable section
variable {x : Gx} {n : Nat} {σ : Store} {Q : Value → Store → Prop} {s d e w : Addr} {S : Str} {p : Nat}
theorem word_tc {l : List Nat} (hS : Scn σ s d e w S p) (hl : S.cps.toList.drop p = l)
    (h1 : mk (l.takeWhile isAln) ∈ kws → TokQ σ s d e w S (mk (l.takeWhile isAln)) "" (l.dropWhile isAln) Q)
    (h2 : mk (l.takeWhile isAln) ∉ kws → TokQ σ s d e w S "ident" (mk (l.takeWhile isAln)) (l.dropWhile isAln) Q) : TCc x.gd 4 (.ref 169) [.ref s, .int p 0] σ Q := by
  refine TCc_fn (ps := [("self", .ref s), ("begun", .int p 0)]) rfl rfl (fun vs hvs S => ?_) rfl ⟨rfl, rfl⟩ ?_
  · obtain ⟨u, v, rfl, hu, hv⟩ := args2 hvs
    exact ⟨_, rfl, by rw [← hu, ← hv]; rfl⟩
  have hs1 := hS.hs
  have hd := hS.hd
  have hw := hS.hw
  have hsd := ne_kd hs1 hd rfl
  have hwd := ne_kd hw hd rfl
  have hlen := drop_len hl hS.hp
  have hW : (l.takeWhile isAln).length ≤ l.length := (List.takeWhile_sublist _).length_le
  repeat wtm_at "te"
  refine TS_While (fun k m τ => τ = σ ∧ ∃ q : Nat, m "self" = some (.ref s) ∧ m "begun" = some (.int p 0) ∧ m "end" = some (.int (q : Nat) 0) ∧ p ≤ q ∧ q - p ≤ (l.takeWhile isAln).length ∧ k = (l.takeWhile isAln).length - (q - p)) (l.takeWhile isAln).length
    ⟨rfl, p, by wtm_at "nm", by wtm_at "nm", by wtm_at "nm", Nat.le_refl _, by omega, by omega⟩ ?_
  rintro k m τ ⟨rfl, q, m1, m2, m3, hpq, hql, rfl⟩
  have hdq : S.cps.toList.drop q = l.drop (q - p) := by rw [← drop_add hl]; congr 1; omega
  have hsub : sub S q (q + 1) = ch (l.drop (q - p)) := by rw [sub_ch, hdq]
  refine TB.mono (Q := fun b τ' => τ' = τ ∧ b = decide (q - p < (l.takeWhile isAln).length)) ?_ ?_
  · repeat wtm_at "te"
    refine PSl_strN (i := q) (j := q + 1) ?_ ?_ hS.size ?_
    · omega
    · omega
    repeat wtm_at "te"
    rw [hsub]
    refine TC.le (TCc.tc (is_letter_tc ?_)) (by decide)
    rcases while_next (p := isAln) (l := l) (j := q - p) hql with ⟨hlt, a, r, hdr, ha⟩ | ⟨heq, hdr⟩
    · rw [hdr, let_cons]
      refine ⟨_, rfl, ?_⟩
      refine if_b (fun c1 => ?_) (fun c1 => ?_)
      · exact ⟨rfl, (decide_eq_true hlt).symm⟩
      · repeat wtm_at "te"
        refine PSl_strN (i := q) (j := q + 1) ?_ ?_ hS.size ?_
        · omega
        · omega
        repeat wtm_at "te"
        rw [hsub]
        refine TC.le (TCc.tc (is_digit_tc ?_)) (by decide)
        rw [hdr, dig_cons]
        refine ⟨_, rfl, ?_⟩
        unfold isAln at ha
        rw [c1, Bool.false_or] at ha
        rw [ha, if_pos rfl]
        exact ⟨rfl, (decide_eq_true hlt).symm⟩
    · have hf : ∀ f : Str → Bool, (f = letS ∨ f = digS) → f (ch (l.drop (q - p))) = false := by
        rintro f hf
        rcases hdr with hdr | ⟨a, r, hdr, ha⟩
        · rw [hdr]; rcases hf with rfl | rfl
          · exact let_nil
          · exact dig_nil
        · rw [hdr]
          unfold isAln at ha
          rw [Bool.or_eq_false_iff] at ha
          rcases hf with rfl | rfl
          · rw [let_cons]; exact ha.1
          · rw [dig_cons]; exact ha.2
      rw [hf letS (.inl rfl)]
      refine ⟨_, rfl, ?_⟩
      rw [if_neg Bool.false_ne_true]
      repeat wtm_at "te"
      refine PSl_strN (i := q) (j := q + 1) ?_ ?_ hS.size ?_
      · omega
      · omega
      repeat wtm_at "te"
      rw [hsub]
      refine TC.le (TCc.tc (is_digit_tc ?_)) (by decide)
      rw [hf digS (.inr rfl)]
      refine ⟨_, rfl, ?_⟩
      rw [if_neg Bool.false_ne_true]
      repeat wtm_at "te"
      exact ⟨rfl, (decide_eq_false (by omega)).symm⟩
  · rintro b τ' ⟨rfl, rfl⟩
    refine if_dec (fun hlt => ?_) (fun hge => ?_)
    · repeat wtm_at "te"
      exact ⟨(l.takeWhile isAln).length - (q + 1 - p), by omega, rfl, q + 1, by wtm_at "nm", by wtm_at "nm", by rw [upd_hit]; congr 2, by omega, by omega, rfl⟩
    · repeat wtm_at "te"
      rw [sg_place]
      have E1 : Ex [d] τ' (τ'.upd d (.attrs (sg S e q w))) := Ex.refl.upd_in (by simp)
      have S1 := hS.put (q := q) (by omega) E1 (Store.upd_self _ _ _)
      have hq : S.cps.toList.drop q = l.dropWhile isAln := by rw [hdq, ← drop_while_len]; congr 1; omega
      have hname : sub S p q = mk (l.takeWhile isAln) := by rw [sub_mk, hl, ← take_while_len (p := isAln)]; congr 2; omega
      repeat wtm_at "te"
      refine PSl_strN (i := p) (j := q) rfl rfl hS.size ?_
      rw [hname]
      repeat wtm_at "te"
      refine P2_in_tuple S1.hw ?_
      refine ⟨_, rfl, ?_⟩
      refine if_dec (fun c1 => ?_) (fun c1 => ?_)
      · repeat wtm_at "te"
        exact TC.le ((h1 c1).make E1 S1 hq) (by decide)
      · repeat wtm_at "te"
        exact TC.le ((h2 c1).make E1 S1 hq) (by decide)
end
end

noncomputable section
noncomputable section
variable {x : Gx} {n : Nat} {σ : Store} {Q : Value → Store → Prop} {s d e w : Addr} {S : Str} {p : Nat}
def Sym (l : List Nat) (v : Str) : Prop := (∃ r, l = 58 :: 61 :: r ∧ v = mk [58, 61]) ∨ (∃ k r, (k = 44 ∨ k = 59) ∧ l = k :: r ∧ v = mk [k])
theorem symbol_tc {l : List Nat} {v : Str} (hS : Scn σ s d e w S p) (hl : S.cps.toList.drop p = l) (hv : Sym l v) (h : ∀ τ, Ex [] σ τ → Q (sv v) τ) : TCc x.gd 4 (.ref 225) [.ref s] σ Q := by
  refine TCc_fn (ps := [("self", .ref s)]) rfl rfl (fun vs hvs S => ?_) rfl ⟨rfl, rfl⟩ ?_
  · obtain ⟨u, rfl, hu⟩ := args1 hvs
    exact ⟨_, rfl, by rw [← hu]; rfl⟩
  have hs1 := hS.hs
  have hd := hS.hd
  repeat wtm_at "te"
  refine TC.le (TCc.tc (char_tc hS ?_)) (by decide)
  repeat wtm_at "te"
  refine TC.le (TCc.tc (char1_tc hS ?_)) (by decide)
  refine P2_add_str ?_ ?_
  · rw [hl, pr_is]; unfold pr; rw [mk_len, sizeLine_eq]; simp; omega
  rw [hl, pr_is]
  repeat wtm_at "te"
  refine ⟨by decide, fun a ha => ?_⟩
  have E1 : Ex [] σ (σ.upd a (.tup [sv ":=", sv "<=", sv ">=", sv ".."])) := Ex.refl.upd_new ha
  have S1 := hS.ex E1
  refine P2_in_tuple (ys := [":=", "<=", ">=", ".."]) (Store.upd_self _ _ _) ?_
  refine ⟨_, rfl, ?_⟩
  have l1 : (":=" : Str) = mk [58, 61] := by decide
  have l2 : ("<=" : Str) = mk [60, 61] := by decide
  have l3 : (">=" : Str) = mk [62, 61] := by decide
  have l4 : (".." : Str) = mk [46, 46] := by decide
  rcases hv with ⟨r, rfl, rfl⟩ | ⟨k, r, hk, rfl, rfl⟩
  · have hm : (pr (58 :: 61 :: r) ∈ [(":=" : Str), "<=", ">=", ".."]) := by rw [l1]; exact List.mem_cons_self ..
    rw [decide_eq_true hm, if_pos rfl]
    repeat wtm_at "te"
    exact h _ E1
  · have hm : ¬ (pr (k :: r) ∈ [(":=" : Str), "<=", ">=", ".."]) := by
      rw [l1, l2, l3, l4]
      unfold pr
      simp only [List.mem_cons, List.not_mem_nil, or_false, mk_inj]
      intro z
      cases r with
      | nil => rcases z with z | z | z | z <;> cases z
      | cons b r => simp only [List.take_succ_cons, List.take_zero, List.cons.injEq, and_true] at z; omega
    rw [decide_eq_false hm, if_neg Bool.false_ne_true]
    have hs2 := S1.hs
    have hd2 := S1.hd
    repeat wtm_at "te"
    refine TC.le (TCc.tc (char_tc S1 ?_)) (by decide)
    rw [hl]
    repeat wtm_at "te"
    have hin : (!(Builtin.Str.occurrences "+-*/~&.,;|([{^=#<>:)]}" (ch (k :: r)) 0 (("+-*/~&.,;|([{^=#<>:)]}" : Str)).length 1).isEmpty) = true := by
      have : ch (k :: r) = mk [k] := rfl
      rw [this]
      rcases hk with rfl | rfl
      · decide +kernel
      · decide +kernel
    rw [hin, if_pos rfl]
    repeat wtm_at "te"
    refine TC.le (TCc.tc (char_tc S1 ?_)) (by decide)
    rw [hl]
    repeat wtm_at "te"
    exact h _ E1
theorem TokQ.back {τ : Store} {k v : Str} {r : List Nat} (h : TokQ σ s d e w S k v r Q) (E : Ex [d] σ τ) : TokQ τ s d e w S k v r Q := fun υ q t dt pl E' a b c f => h υ q t dt pl (E.trans E') a b c f
theorem take_tc {l : List Nat} {kv v : Str} {r : List Nat} (hS : Scn σ s d e w S p) (hl : S.cps.toList.drop p = l) (ht : takeF l = some (kv, v, r)) (h : TokQ σ s d e w S kv v r Q) : TCc x.gd 6 (.ref 148) [.ref s] σ Q := by
  refine TCc_fn (ps := [("self", .ref s)]) rfl rfl (fun vs hvs S => ?_) rfl ⟨rfl, rfl⟩ ?_
  · obtain ⟨u, rfl, hu⟩ := args1 hvs
    exact ⟨_, rfl, by rw [← hu]; rfl⟩
  have hs1 := hS.hs
  have hd := hS.hd
  unfold takeF at ht
  cases hsk : skipF 50 l with
  | none => rw [hsk] at ht; cases ht
  | some l1 =>
  rw [hsk] at ht
  have ht : tokOf l1 = some (kv, v, r) := ht
  repeat wtm_at "te"
  refine TS_While (fun k m τ => τ = σ ∧ m "self" = some (.ref s)) 0 ⟨rfl, by wtm_at "nm"⟩ ?_
  rintro k m τ ⟨rfl, m1⟩
  repeat wtm_at "te"
  rw [if_pos rfl]
  repeat wtm_at "te"
  refine TC.le (TCc.tc (skip_tc hS hl hsk fun τ2 q E2 S2 hq => ?_)) (by decide)
  have h2 := h.back E2
  have hs2 := S2.hs
  have hd2 := S2.hd
  refine ⟨rfl, ?_⟩
  repeat wtm_at "te"
  refine TC.le (TCc.tc (char_tc S2 ?_)) (by decide)
  rw [hq]
  repeat wtm_at "te"
  obtain ⟨a, r1, rfl⟩ : ∃ a r1, l1 = a :: r1 := by
    cases l1 with
    | nil => cases ht
    | cons a r1 => exact ⟨a, r1, rfl⟩
  have hne : ¬ ch (a :: r1) = "" := by
    have e0 : ("" : Str) = mk [] := by decide
    rw [e0]; unfold ch; rw [mk_inj]; exact fun z => nomatch z
  rw [decide_eq_false hne, if_neg Bool.false_ne_true]
  repeat wtm_at "te"
  refine TC.le (TCc.tc (is_letter_tc ?_)) (by decide)
  rw [let_cons]
  refine ⟨_, rfl, ?_⟩
  unfold tokOf at ht
  dsimp only at ht
  refine if_b (fun c1 => ?_) (fun c1 => ?_)
  · rw [if_pos c1] at ht
    repeat wtm_at "te"
    refine TC.le (TCc.tc (word_tc S2 hq (fun hk => ?_) (fun hk => ?_))) (by decide)
    · rw [if_pos hk] at ht
      cases ht
      exact h2
    · rw [if_neg hk] at ht
      cases ht
      exact h2
  · rw [if_neg (by rw [c1]; exact Bool.false_ne_true)] at ht
    repeat wtm_at "te"
    refine TC.le (TCc.tc (is_digit_tc ?_)) (by decide)
    rw [dig_cons]
    have hsym : Sym (a :: r1) kv ∧ v = "" ∧ r = (a :: r1).drop kv.length ∧ (a = 58 ∨ a = 44 ∨ a = 59) := by
      by_cases h58 : a = 58
      · rw [if_pos h58] at ht
        subst h58
        match r1, ht with
        | 61 :: r', ht => cases ht; exact ⟨.inl ⟨_, rfl, rfl⟩, rfl, rfl, .inl rfl⟩
      · rw [if_neg h58] at ht
        by_cases h44 : a = 44 ∨ a = 59
        · rw [if_pos h44] at ht
          cases ht
          exact ⟨.inr ⟨a, _, h44, rfl, rfl⟩, rfl, rfl, .inr h44⟩
        · rw [if_neg h44] at ht; cases ht
    obtain ⟨hsy, rfl, rfl, ha⟩ := hsym
    have hdg : isDig a = false := by rcases ha with rfl | rfl | rfl <;> rfl
    rw [hdg]
    refine ⟨_, rfl, ?_⟩
    rw [if_neg Bool.false_ne_true]
    repeat wtm_at "te"
    have hnq : ¬ ch (a :: r1) = "\"" := by
      have e0 : ("\"" : Str) = mk [34] := by decide
      rw [e0, ch_eq]
      intro z
      have : a = 34 := Option.some.inj z
      omega
    rw [decide_eq_false hnq, if_neg Bool.false_ne_true]
    repeat wtm_at "te"
    refine TC.le (TCc.tc (symbol_tc S2 hq hsy fun τ3 E3 => ?_)) (by decide)
    have S3 := S2.ex E3
    have hs3 := S3.hs
    have hd3 := S3.hd
    have hlen := drop_len hq S2.hp
    have hkl : 0 < kv.length ∧ kv.length ≤ (a :: r1).length := by
      rcases hsy with ⟨r, h1, rfl⟩ | ⟨k, r, _, h1, rfl⟩
      · rw [h1]; rw [mk_len]; simp
      · rw [h1]; rw [mk_len]; simp
    repeat wtm_at "te"
    have hkn : ¬ kv = "" := fun z => by rw [z] at hkl; exact absurd hkl.1 (by decide)
    rw [decide_eq_false hkn]
    show if true = true then _ else _
    rw [if_pos rfl]
    repeat wtm_at "te"
    refine TC_len_str (by have := hS.size; omega) ?_
    repeat wtm_at "te"
    rw [put_place (k := q + kv.length) (by omega)]
    repeat wtm_at "te"
    have E4 : Ex [d] τ3 (τ3.upd d (.attrs (sg S e (q + kv.length) w))) := Ex.refl.upd_in (by simp)
    refine TC.le (((h2.back E3.wide).back E4).make Ex.refl (S3.put (by omega) E4 (Store.upd_self _ _ _)) ?_) (by decide)
    exact drop_add hq
end
end

noncomputable section
def impF (v : Str) (r : List Nat) : Option (Str × Str × List Nat) :=
  match takeF r with
  | none => none
  | some (k2, v2, r2) => if k2 = ":=" then (match takeF r2 with
      | none => none
      | some (k3, v3, r3) => if k3 = "ident" then (match takeF r3 with
          | none => none
          | some (k4, _, r4) => some (v3, k4, r4)) else none)
    else some (v, k2, r2)
noncomputable def namesF : Nat → List Str → List Nat → Option (List Str)
  | 0, _, _ => none
  | f + 1, acc, l => match takeF l with
    | none => none
    | some (k, v, r) => if k = "ident" then (match impF v r with
        | none => none
        | some (nm, k', r') => if nm = "" then none else if k' = "," then namesF f (if nm ∈ acc then acc else acc ++ [nm]) r' else some (if nm ∈ acc then acc else acc ++ [nm])) else none
def headF (l : List Nat) : Option (List Str) := match takeF l with
  | none => none
  | some (k1, _, r1) => if k1 = "MODULE" then (match takeF r1 with
    | none => none
    | some (k2, _, r2) => if k2 = "ident" then (match takeF r2 with
      | none => none
      | some (k3, _, r3) => if k3 = ";" then (match takeF r3 with
        | none => none
        | some (k4, _, r4) => if k4 = "IMPORT" then namesF 10 [] r4 else some []) else none) else none) else none
noncomputable section
variable {x : Gx} {n : Nat} {σ : Store} {Q : Value → Store → Prop} {s d e w : Addr} {S : Str} {p : Nat}
theorem scanner_tc (hlen : S.length ≤ 1000) (h : ∀ τ s d w, σ d = none → Ex [] σ τ → Scn τ s d e w S 0 → Q (.ref s) τ) : TC x.gd false 3 (.ref 228) [sv S, .ref e] σ Q := by
  refine TC_cls (fI := 133) rfl rfl rfl fun s d hs hd hsd => ?_
  refine TCc_fn (ps := [("self", .ref s), ("source", sv S), ("errors", .ref e)]) rfl rfl (fun vs hvs S => ?_) rfl ⟨rfl, rfl⟩ ?_
  · obtain ⟨a, b, c, rfl, ha, hb, hc⟩ := args3 hvs
    exact ⟨_, rfl, by rw [← ha, ← hb, ← hc]; rfl⟩
  have h0 : Ex [d, s] σ ((σ.upd d (.attrs [])).upd s (.inst 228 d)) := (Ex.refl.upd_in (by simp)).upd_in (by simp)
  have h1 : ((σ.upd d (.attrs [])).upd s (.inst 228 d)) s = some (.inst 228 d) := Store.upd_self _ _ _
  have h2 : ((σ.upd d (.attrs [])).upd s (.inst 228 d)) d = some (.attrs []) := by rw [Store.upd_ne _ _ hsd.symm]; exact Store.upd_self _ _ _
  generalize (σ.upd d (.attrs [])).upd s (.inst 228 d) = σ₁ at h0 h1 h2
  repeat wtm_at "te"
  rw [Store.upd_upd, Store.upd_upd]
  refine TC.le (TCc.tc (keywords_tc fun w hw => ?_)) (by decide)
  have h3 : s ≠ w := fun z => by rw [← z, Store.upd_ne _ _ hsd, h1] at hw; cases hw
  have h4 : d ≠ w := fun z => by rw [← z, Store.upd_self] at hw; cases hw
  repeat wtm_at "te"
  have E : Ex [d, s] σ (((σ₁.upd d (.attrs (put (put (put [] "source" (sv S)) "errors" (.ref e)) "place" (.int 0 0)))).upd w (.tup (kws.map sv))).upd d (.attrs (sg S e 0 w))) := ((h0.upd_in (by simp)).upd_new hw).upd_in (by simp)
  refine ⟨rfl, h _ s d w hd (fun b o _ hb => E b o ?_ hb) ⟨?_, Store.upd_self _ _ _, ?_, hlen, Nat.zero_le _⟩⟩
  · simp only [List.mem_cons, List.not_mem_nil, or_false, not_or]
    exact ⟨ne_of_none hb hd, ne_of_none hb hs⟩
  · rw [Store.upd_ne _ _ hsd, Store.upd_ne _ _ h3, Store.upd_ne _ _ hsd]; exact h1
  · rw [Store.upd_ne _ _ h4.symm]; exact Store.upd_self _ _ _
/-- a tuple of a name and a token -/
theorem imported_tc {t dt : Addr} {v nm k' : Str} {r r' : List Nat} {pl : Value} (hS : Scn σ s d e w S p) (hl : S.cps.toList.drop p = r) (ht : σ t = some (.inst 80 dt)) (hdt : σ dt = some (.attrs [("kind", sv "ident"), ("value", sv v), ("place", pl)]))
    (hi : impF v r = some (nm, k', r'))
    (h : ∀ τ q t' dt' v' pl' tp, Ex [d] σ τ → Scn τ s d e w S q → S.cps.toList.drop q = r' → τ tp = some (.tup [sv nm, .ref t']) → τ t' = some (.inst 80 dt') → τ dt' = some (.attrs [("kind", sv k'), ("value", sv v'), ("place", pl')]) → Q (.ref tp) τ) :
    TCc x.gd 7 (.ref 260) [.ref s, .ref t] σ Q := by
  refine TCc_fn (ps := [("scanner", .ref s), ("token", .ref t)]) rfl rfl (fun vs hvs S => ?_) rfl ⟨rfl, rfl⟩ ?_
  · obtain ⟨u, v, rfl, hu, hv⟩ := args2 hvs
    exact ⟨_, rfl, by rw [← hu, ← hv]; rfl⟩
  have hs1 := hS.hs
  have hd1 := hS.hd
  unfold impF at hi
  cases h2 : takeF r with
  | none => rw [h2] at hi; cases hi
  | some y =>
  obtain ⟨k2, v2, r2⟩ := y
  rw [h2] at hi
  dsimp only at hi
  repeat wtm_at "te"
  rw [decide_eq_true rfl]
  show if false = true then _ else _
  rw [if_neg Bool.false_ne_true]
  repeat wtm_at "te"
  refine TC.le (TCc.tc (take_tc hS hl h2 fun τ2 q2 t2 dt2 pl2 E2 S2 hq2 ht2 hdt2 => ?_)) (by decide)
  have hs2 := S2.hs
  have hd2 := S2.hd
  repeat wtm_at "te"
  refine if_dec (fun c => ?_) (fun c => ?_)
  · rw [if_pos c] at hi
    cases h3 : takeF r2 with
    | none => rw [h3] at hi; cases hi
    | some y =>
    obtain ⟨k3, v3, r3⟩ := y
    rw [h3] at hi
    dsimp only at hi
    by_cases c3 : k3 = "ident"
    · rw [if_pos c3] at hi
      subst c3
      cases h4 : takeF r3 with
      | none => rw [h4] at hi; cases hi
      | some y =>
      obtain ⟨k4, v4, r4⟩ := y
      rw [h4] at hi
      cases hi
      repeat wtm_at "te"
      refine TC.le (TCc.tc (take_tc S2 hq2 h3 fun τ3 q3 t3 dt3 pl3 E3 S3 hq3 ht3 hdt3 => ?_)) (by decide)
      have hs3 := S3.hs
      have hd3 := S3.hd
      repeat wtm_at "te"
      rw [decide_eq_true rfl]
      show if false = true then _ else _
      rw [if_neg Bool.false_ne_true]
      repeat wtm_at "te"
      refine TC.le (TCc.tc (take_tc S3 hq3 h4 fun τ4 q4 t4 dt4 pl4 E4 S4 hq4 ht4 hdt4 => ?_)) (by decide)
      repeat wtm_at "te"
      refine ⟨(by decide : 2 ≤ sizeLine), fun a ha => ?_⟩
      have E5 : Ex [] τ4 (τ4.upd a (.tup [sv nm, .ref t4])) := Ex.refl.upd_new ha
      exact h _ q4 t4 dt4 v4 pl4 a (((E2.trans E3).trans E4).nil E5) (S4.ex E5) hq4 (Store.upd_self _ _ _) (E5.of ht4) (E5.of hdt4)
    · rw [if_neg c3] at hi; cases hi
  · rw [if_neg c] at hi
    cases hi
    repeat wtm_at "te"
    refine ⟨(by decide : 2 ≤ sizeLine), fun a ha => ?_⟩
    have E5 : Ex [] τ2 (τ2.upd a (.tup [sv v, .ref t2])) := Ex.refl.upd_new ha
    exact h _ q2 t2 dt2 v2 pl2 a (E2.nil E5) (S2.ex E5) hq2 (Store.upd_self _ _ _) (E5.of ht2) (E5.of hdt2)
/-- the names imported -/
theorem import_names_tc {l : List Nat} {ns : List Str} (hS : Scn σ s d e w S p) (hl : S.cps.toList.drop p = l) (hi : namesF 10 [] l = some ns)
    (h : ∀ τ L, Ex [d] σ τ → τ L = some (.list (ns.map sv)) → Q (.ref L) τ) : TCc x.gd 8 (.ref 267) [.ref s] σ Q := by
  refine TCc_fn (ps := [("scanner", .ref s)]) rfl rfl (fun vs hvs S => ?_) rfl ⟨rfl, rfl⟩ ?_
  · obtain ⟨u, rfl, hu⟩ := args1 hvs
    exact ⟨_, rfl, by rw [← hu]; rfl⟩
  repeat wtm_at "te"
  refine ⟨Nat.zero_le _, fun N hN => ?_⟩
  have hdN : d ≠ N := ne_of_none hS.hd hN
  repeat wtm_at "te"
  have E0 : Ex [] σ (σ.upd N (.list [])) := Ex.refl.upd_new hN
  refine TS_While (fun k m τ => m "scanner" = some (.ref s) ∧ m "names" = some (.ref N) ∧ Ex [d] σ τ ∧ ((∃ q acc, m "more" = some (.bool true) ∧ τ N = some (.list (acc.map sv)) ∧ acc.length + k ≤ 10 ∧ Scn τ s d e w S q ∧ namesF k acc (S.cps.toList.drop q) = some ns) ∨ (m "more" = some (.bool false) ∧ τ N = some (.list (ns.map sv)))))
    10 ⟨by wtm_at "nm", by wtm_at "nm", E0.wide, .inl ⟨p, [], by wtm_at "nm", Store.upd_self _ _ _, by decide, hS.ex E0, by rw [hl]; exact hi⟩⟩ ?_
  rintro k m τ ⟨m1, m2, E, ⟨q, acc, m3, hN', hk, S1, hf⟩ | ⟨m3, hN'⟩⟩
  · wtm_at "te"
    wtm_at "te"
    refine ⟨_, rfl, ?_⟩
    rw [if_pos rfl]
    obtain ⟨k, rfl⟩ : ∃ j, k = j + 1 := by
      cases k with
      | zero => cases hf
      | succ k => exact ⟨k, rfl⟩
    unfold namesF at hf
    cases h1 : takeF (S.cps.toList.drop q) with
    | none => rw [h1] at hf; cases hf
    | some y =>
    obtain ⟨k1, v1, r1⟩ := y
    rw [h1] at hf
    dsimp only at hf
    by_cases c1 : k1 = "ident"
    · subst c1
      rw [if_pos rfl] at hf
      cases h2 : impF v1 r1 with
      | none => rw [h2] at hf; cases hf
      | some y =>
      obtain ⟨nm, k', r'⟩ := y
      rw [h2] at hf
      dsimp only at hf
      by_cases c2 : nm = ""
      · rw [if_pos c2] at hf; cases hf
      rw [if_neg c2] at hf
      have hs1 := S1.hs
      have hd1 := S1.hd
      repeat wtm_at "te"
      refine TS_Assign_Tuple (ps := [("name", _), ("token", _)]) ?_ (by decide) rfl rfl rfl
      repeat wtm_at "te"
      refine TC.le (TCc.tc (take_tc S1 rfl h1 fun τ2 q2 t2 dt2 pl2 E2 S2 hq2 ht2 hdt2 => ?_)) (by decide)
      repeat wtm_at "te"
      refine TCc.tc (imported_tc S2 hq2 ht2 hdt2 h2 fun τ3 q3 t3 dt3 v3 pl3 tp E3 S3 hq3 htp ht3 hdt3 => ?_)
      refine ⟨tp, _, rfl, htp, rfl, ?_⟩
      dsimp only [setAll, List.map]
      have hNd : N ∉ [d] := by simpa using hdN.symm
      have E23 : Ex [d] τ τ3 := E2.trans E3
      have hN3 : τ3 N = some (.list (acc.map sv)) := E23 N _ hNd hN'
      have E03 := E.trans E23
      -- the test and the append, as one step
      have fin : ∀ (m' : Loc) (τ' : Store) (acc' : List Str) (b : Bool), acc' = (if nm ∈ acc then acc else acc ++ [nm]) → b = decide (k' = ",") → m' "scanner" = some (.ref s) → m' "names" = some (.ref N) → m' "more" = some (.bool b) → Ex [d] σ τ' → τ' N = some (.list (acc'.map sv)) → Scn τ' s d e w S q3 →
          ∃ k', k' < k + 1 ∧ m' "scanner" = some (.ref s) ∧ m' "names" = some (.ref N) ∧ Ex [d] σ τ' ∧ ((∃ q acc, m' "more" = some (.bool true) ∧ τ' N = some (.list (acc.map sv)) ∧ acc.length + k' ≤ 10 ∧ Scn τ' s d e w S q ∧ namesF k' acc (S.cps.toList.drop q) = some ns) ∨ (m' "more" = some (.bool false) ∧ τ' N = some (.list (ns.map sv)))) := by
        rintro m' τ' acc' b rfl rfl a1 a2 a3 a4 a5 a6
        refine ⟨k, Nat.lt_succ_self _, a1, a2, a4, ?_⟩
        by_cases hc : k' = ","
        · rw [if_pos hc] at hf
          rw [decide_eq_true hc] at a3
          refine .inl ⟨q3, _, a3, a5, ?_, a6, by rw [hq3]; exact hf⟩
          split
          · omega
          · rw [List.length_append]; simp only [List.length_singleton]; omega
        · rw [if_neg hc] at hf
          rw [decide_eq_false hc] at a3
          exact .inr ⟨a3, by rw [a5, Option.some.inj hf]⟩
      repeat wtm_at "tx"
      refine TB.mono (Q := fun b τ' => τ' = τ3 ∧ b = !decide (nm ∈ acc)) ?_ ?_
      · repeat wtm_at "te"
        rw [decide_eq_false c2]
        show if true = true then _ else _
        rw [if_pos rfl]
        repeat wtm_at "te"
        refine P2_notIn_list hN3 ?_
        refine ⟨_, rfl, ?_⟩
        refine if_ndec (fun c3 => ?_) (fun c3 => ?_)
        · repeat wtm_at "te"
          exact ⟨rfl, by rw [decide_eq_false c3]; rfl⟩
        · exact ⟨rfl, by rw [decide_eq_true c3]; rfl⟩
      · rintro b τ' ⟨rfl, rfl⟩
        refine if_ndec (fun c3 => ?_) (fun c3 => ?_)
        · repeat wtm_at "te"
          refine TC_append hN3 (by rw [List.length_map, sizeLine_eq]; omega) ?_
          refine ⟨rfl, ?_⟩
          have hdtN : dt3 ≠ N := (ne_kd hdt3 hN3 rfl)
          have htN : t3 ≠ N := (ne_kd ht3 hN3 rfl)
          have hsN : s ≠ N := ne_kd S3.hs hN3 rfl
          have hwN : w ≠ N := ne_kd S3.hw hN3 rfl
          have ht4 : (τ'.upd N (.list (acc.map sv ++ [sv nm]))) t3 = some (.inst 80 dt3) := by rw [Store.upd_ne _ _ htN]; exact ht3
          have hdt4 : (τ'.upd N (.list (acc.map sv ++ [sv nm]))) dt3 = some (.attrs [("kind", sv k'), ("value", sv v3), ("place", pl3)]) := by rw [Store.upd_ne _ _ hdtN]; exact hdt3
          have S4 : Scn (τ'.upd N (.list (acc.map sv ++ [sv nm]))) s d e w S q3 := ⟨by rw [Store.upd_ne _ _ hsN]; exact S3.hs, by rw [Store.upd_ne _ _ hdN]; exact S3.hd, by rw [Store.upd_ne _ _ hwN]; exact S3.hw, S3.hlen, S3.hp⟩
          have E4 : Ex [d] σ (τ'.upd N (.list (acc.map sv ++ [sv nm]))) := E03.upd_none hNd hN
          have hN4 : (τ'.upd N (.list (acc.map sv ++ [sv nm]))) N = some (.list ((acc ++ [nm]).map sv)) := by rw [Store.upd_self, List.map_append]; rfl
          generalize τ'.upd N (.list (acc.map sv ++ [sv nm])) = τ4 at ht4 hdt4 S4 E4 hN4
          repeat wtm_at "te"
          refine if_dec (fun c4 => ?_) (fun c4 => ?_)
          · repeat wtm_at "te"
            exact fin _ _ (acc ++ [nm]) _ (by rw [if_neg c3]) rfl (by wtm_at "nm") (by wtm_at "nm") (by rw [upd_hit]; rw [decide_eq_true c4, decide_eq_false c2]; rfl) E4 hN4 S4
          · repeat wtm_at "te"
            exact fin _ _ (acc ++ [nm]) _ (by rw [if_neg c3]) rfl (by wtm_at "nm") (by wtm_at "nm") (by rw [upd_hit]; rw [decide_eq_false c4]) E4 hN4 S4
        · repeat wtm_at "te"
          refine if_dec (fun c4 => ?_) (fun c4 => ?_)
          · repeat wtm_at "te"
            exact fin _ _ acc _ (by rw [if_pos c3]) rfl (by wtm_at "nm") (by wtm_at "nm") (by rw [upd_hit]; rw [decide_eq_true c4, decide_eq_false c2]; rfl) E03 hN3 S3
          · repeat wtm_at "te"
            exact fin _ _ acc _ (by rw [if_pos c3]) rfl (by wtm_at "nm") (by wtm_at "nm") (by rw [upd_hit]; rw [decide_eq_false c4]) E03 hN3 S3
    · rw [if_neg c1] at hf; cases hf
  · wtm_at "te"
    wtm_at "te"
    refine ⟨_, rfl, ?_⟩
    rw [if_neg Bool.false_ne_true]
    repeat wtm_at "te"
    exact h _ N E hN'
theorem Head_tc {k : Value} {L : Addr} (h : ∀ τ t d, Ex [] σ τ → τ t = some (.inst 249 d) → τ d = some (.attrs [("name", k), ("imports", .ref L)]) → Q (.ref t) τ) : TC x.gd false 2 (.ref 249) [k, .ref L] σ Q := by
  refine TC_cls (fI := 246) rfl rfl rfl fun t d ht hd htd => ?_
  refine head_tc (Store.upd_self _ _ _) (by rw [Store.upd_ne _ _ htd.symm]; exact Store.upd_self _ _ _) ⟨rfl, ?_⟩
  refine h _ t d (((Ex.refl.upd_none (by simp) hd).upd_none (by simp) ht).upd_none (by simp) hd) ?_ (Store.upd_self _ _ _)
  rw [Store.upd_ne _ _ htd]; exact Store.upd_self _ _ _
theorem errorlist_tc (h : ∀ τ e, Ex [] σ τ → Q (.ref e) τ) : TC x.gd false 2 (.ref 59) [] σ Q := by
  refine TC_cls (fI := 35) rfl rfl rfl fun t d ht hd htd => ?_
  refine errors_tc (Store.upd_self _ _ _) (by rw [Store.upd_ne _ _ htd.symm]; exact Store.upd_self _ _ _) fun τ E => ⟨rfl, h τ t fun b o _ hb => ?_⟩
  have h1 := ne_of_none hb hd
  have h2 := ne_of_none hb ht
  exact E b o (by simpa using h1) (by rw [Store.upd_ne _ _ h2, Store.upd_ne _ _ h1]; exact hb)
theorem head_of_tc {ns : List Str} (hlen : S.length ≤ 1000) (hh : headF S.cps.toList = some ns)
    (h : ∀ τ t d L nm, Ex [] σ τ → τ t = some (.inst 249 d) → τ d = some (.attrs [("name", nm), ("imports", .ref L)]) → τ L = some (.list (ns.map sv)) → Q (.ref t) τ) : TCc x.gd 9 (.ref 274) [sv S] σ Q := by
  refine TCc_fn (ps := [("source", sv S)]) rfl rfl (fun vs hvs S => ?_) rfl ⟨rfl, rfl⟩ ?_
  · obtain ⟨u, rfl, hu⟩ := args1 hvs
    exact ⟨_, rfl, by rw [← hu]; rfl⟩
  repeat wtm_at "te"
  refine TC.le (errorlist_tc fun τ0 e E0 => ?_) (by decide)
  repeat wtm_at "te"
  refine TC.le (scanner_tc hlen fun τ1 s d w hd0 E1 S1 => ?_) (by decide)
  have hd0 : σ d = none := E0.noneOf' hd0
  have E1 : Ex [d] σ τ1 := (E0.trans E1).wide
  unfold headF at hh
  cases h1 : takeF S.cps.toList with
  | none => rw [h1] at hh; cases hh
  | some y =>
  obtain ⟨k1, v1, r1⟩ := y
  rw [h1] at hh
  dsimp only at hh
  by_cases c1 : k1 = "MODULE"
  rotate_left
  · rw [if_neg c1] at hh; cases hh
  rw [if_pos c1] at hh
  cases h2 : takeF r1 with
  | none => rw [h2] at hh; cases hh
  | some y =>
  obtain ⟨k2, v2, r2⟩ := y
  rw [h2] at hh
  dsimp only at hh
  by_cases c2 : k2 = "ident"
  rotate_left
  · rw [if_neg c2] at hh; cases hh
  rw [if_pos c2] at hh
  cases h3 : takeF r2 with
  | none => rw [h3] at hh; cases hh
  | some y =>
  obtain ⟨k3, v3, r3⟩ := y
  rw [h3] at hh
  dsimp only at hh
  by_cases c3 : k3 = ";"
  rotate_left
  · rw [if_neg c3] at hh; cases hh
  rw [if_pos c3] at hh
  cases h4 : takeF r3 with
  | none => rw [h4] at hh; cases hh
  | some y =>
  obtain ⟨k4, v4, r4⟩ := y
  rw [h4] at hh
  dsimp only at hh
  subst c1 c2 c3
  have hs1 := S1.hs
  have hd1 := S1.hd
  repeat wtm_at "te"
  refine TC.le (TCc.tc (take_tc S1 (List.drop_zero ..) h1 fun τ2 q2 t2 dt2 pl2 E2 S2 hq2 ht2 hdt2 => ?_)) (by decide)
  have hs2 := S2.hs
  have hd2 := S2.hd
  repeat wtm_at "te"
  rw [decide_eq_true rfl]
  show if false = true then _ else _
  rw [if_neg Bool.false_ne_true]
  repeat wtm_at "te"
  refine TC.le (TCc.tc (take_tc S2 hq2 h2 fun τ3 q3 t3 dt3 pl3 E3 S3 hq3 ht3 hdt3 => ?_)) (by decide)
  have hs3 := S3.hs
  have hd3 := S3.hd
  repeat wtm_at "te"
  rw [decide_eq_true rfl]
  show if false = true then _ else _
  rw [if_neg Bool.false_ne_true]
  repeat wtm_at "te"
  refine TC.le (TCc.tc (take_tc S3 hq3 h3 fun τ4 q4 t4 dt4 pl4 E4 S4 hq4 ht4 hdt4 => ?_)) (by decide)
  have hs4 := S4.hs
  have hd4 := S4.hd
  repeat wtm_at "te"
  rw [decide_eq_true rfl]
  show if false = true then _ else _
  rw [if_neg Bool.false_ne_true]
  repeat wtm_at "te"
  refine TC.le (TCc.tc (take_tc S4 hq4 h4 fun τ5 q5 t5 dt5 pl5 E5 S5 hq5 ht5 hdt5 => ?_)) (by decide)
  have hs5 := S5.hs
  have hd5 := S5.hd
  have E05 : Ex [d] σ τ5 := (((E1.trans E2).trans E3).trans E4).trans E5
  repeat wtm_at "te"
  have fin : ∀ (τ6 : Store) (L : Addr), Ex [d] σ τ6 → τ6 L = some (.list (ns.map sv)) → TC x.gd false 8 (.ref 249) [sv v2, .ref L] τ6 Q := fun τ6 L E6 hL =>
    TC.le (Head_tc fun τ7 t dt E7 ht hdt => h τ7 t dt L (sv v2) ((E6.nil E7).narrow hd0) ht hdt (E7.of hL)) (by decide)
  refine if_ndec (fun c4 => ?_) (fun c4 => ?_)
  · rw [if_neg c4] at hh
    repeat wtm_at "ti"
    refine ⟨Nat.zero_le _, fun L hL => ?_⟩
    repeat wtm_at "ti"
    exact fin _ L (E05.upd_new hL) (by rw [Store.upd_self, ← Option.some.inj hh]; rfl)
  · rw [if_pos c4] at hh
    repeat wtm_at "ti"
    refine TCc.tc (import_names_tc S5 hq5 hh fun τ6 L E6 hL => ?_)
    repeat wtm_at "ti"
    exact fin τ6 L (E05.trans E6) hL
end
end

noncomputable section
/-- a set of modules as it lies in the store -/
structure Mod (σ : Store) (M dM sd I : Addr) (ns : List Str) (nd : Str → List Str) (ad : Str → Addr) : Prop where
  hM : σ M = some (.inst 325 dM)
  hd : σ dM = some (.attrs [("sources", .ref sd), ("imports", .ref I)])
  hI : σ I = some (.dict (ns.map fun k => (k, .ref (ad k))))
  hL : ∀ k ∈ ns, σ (ad k) = some (.list ((nd k).map sv))
  up : UpS ns
  nodup : ns.Nodup
  len : ns.length ≤ 5
  lens : ∀ k ∈ ns, (nd k).length ≤ 3
theorem Mod.ex {σ τ : Store} {M dM sd I : Addr} {ns : List Str} {nd : Str → List Str} {ad : Str → Addr} (h : Mod σ M dM sd I ns nd ad) (E : Ex [] σ τ) : Mod τ M dM sd I ns nd ad :=
  ⟨E.of h.hM, E.of h.hd, E.of h.hI, fun k hk => E.of (h.hL k hk), h.up, h.nodup, h.len, h.lens⟩
theorem lookup_keys {ns : List Str} {f : Str → Value} {k : Str} (h : k ∈ ns) : (ns.map fun k => (k, f k)).lookup k = some (f k) := by
  induction ns with
  | nil => cases h
  | cons a r ih =>
    rw [List.map_cons, List.lookup_cons]
    by_cases e : k = a
    · subst e; simp
    · rw [beq_eq_false_iff_ne.mpr e]
      exact ih ((List.mem_cons.mp h).resolve_left e)
theorem lookup_keys_iff {ns : List Str} {f : Str → Value} {k : Str} : ((ns.map fun k => (k, f k)).lookup k).isSome = decide (k ∈ ns) := by
  by_cases h : k ∈ ns
  · rw [lookup_keys h, decide_eq_true h]; rfl
  · rw [decide_eq_false h]
    induction ns with
    | nil => rfl
    | cons a r ih =>
      rw [List.map_cons, List.lookup_cons]
      have e : k ≠ a := fun z => h (z ▸ List.mem_cons_self ..)
      rw [beq_eq_false_iff_ne.mpr e]
      exact ih fun z => h (List.mem_cons_of_mem _ z)
theorem srt_of_up {l : List Str} (h : UpS l) : srt l = l := (srt_unique (List.Perm.refl _) h).symm
theorem fst_map {ns : List Str} {f : Str → Value} : (ns.map fun k => (k, f k)).map Prod.fst = ns := by
  rw [List.map_map]; exact (List.map_congr_left fun _ _ => rfl).trans (List.map_id _)
/-- a filter upon strs as values -/
def onS (p : Str → Bool) : Value → Bool
  | .str y _ => p y
  | _ => false
theorem filter_sv {p : Str → Bool} {l : List Str} : ((l.map sv).filter (onS p)).map id = (l.filter p).map sv := by
  rw [List.map_id]
  induction l with
  | nil => rfl
  | cons a r ih =>
    rw [List.map_cons, List.filter_cons, List.filter_cons]
    show (if p a = true then _ else _) = _
    split
    · rw [ih]; rfl
    · exact ih
theorem filter_len {α : Type} {p : α → Bool} {l : List α} : (l.filter p).length ≤ l.length := List.length_filter_le ..
noncomputable section
variable {x : Gx} {n : Nat} {σ : Store} {Q : Value → Store → Prop} {M dM sd I : Addr} {ns : List Str} {nd : Str → List Str} {ad : Str → Addr}
theorem names_tc (hM : Mod σ M dM sd I ns nd ad) (h : ∀ D, σ D = none → Q (.ref D) (σ.upd D (.list (ns.map sv)))) : TCc x.gd 1 (.ref 295) [.ref M] σ Q := by
  refine TCc_fn (ps := [("self", .ref M)]) rfl rfl (fun vs hvs S => ?_) rfl ⟨rfl, rfl⟩ ?_
  · obtain ⟨u, rfl, hu⟩ := args1 hvs
    exact ⟨_, rfl, by rw [← hu]; rfl⟩
  have h1 := hM.hM
  have h2 := hM.hd
  repeat wtm_at "te"
  refine TC_sorted_dict hM.hI (by rw [List.length_map]; have := hM.len; omega) fun D hD => ?_
  rw [fst_map, srt_of_up hM.up]
  exact h D hD
/-- what a module needs, of the set's own -/
def need (ns : List Str) (nd : Str → List Str) (k : Str) : List Str := srt ((nd k).filter fun one => decide (one ∈ ns))
theorem needed_tc {k : Str} (hM : Mod σ M dM sd I ns nd ad) (hk : k ∈ ns) (h : ∀ τ D, Ex [] σ τ → τ D = some (.list ((need ns nd k).map sv)) → σ D = none → Q (.ref D) τ) : TCc x.gd 1 (.ref 300) [.ref M, sv k] σ Q := by
  refine TCc_fn (ps := [("self", .ref M), ("name", sv k)]) rfl rfl (fun vs hvs S => ?_) rfl ⟨rfl, rfl⟩ ?_
  · obtain ⟨u, v, rfl, hu, hv⟩ := args2 hvs
    exact ⟨_, rfl, by rw [← hu, ← hv]; rfl⟩
  have h1 := hM.hM
  have h2 := hM.hd
  repeat wtm_at "te"
  refine TE_ListComp (onS fun one => decide (one ∈ ns)) id ?_ (by decide) (by intros; rfl)
  repeat wtm_at "te"
  refine PG_dict hM.hI (lookup_keys hk) ?_
  have hlen := hM.lens k hk
  refine ⟨ad k, _, rfl, hM.hL k hk, by rw [List.length_map, sizeLine_eq]; omega, ⟨?_, ?_⟩, ?_⟩
  · intro v hv m' In
    obtain ⟨one, _, rfl⟩ := List.mem_map.mp hv
    have t1 := In.targ
    have t2 : m' "self" = some (.ref M) := (In.rest _ (by decide)).trans (by wtm_at "nm")
    repeat wtm_at "te"
    refine P2_in_dict hM.hI ?_
    rw [lookup_keys_iff]
    exact ⟨_, rfl, rfl⟩
  · intro v hv hp m' In
    have t1 := In.targ
    repeat wtm_at "te"
    rfl
  · intro D hD
    rw [filter_sv]
    repeat wtm_at "te"
    refine TC_sorted_list (Store.upd_self _ _ _) (by have := filter_len (p := fun one => decide (one ∈ ns)) (l := nd k); omega) fun D2 hD2 => ?_
    exact h _ D2 ((Ex.refl.upd_new hD).upd_new hD2) (Store.upd_self _ _ _) ((Ex.refl.upd_new hD).noneOf' hD2)
theorem clients_tc {k : Str} (hM : Mod σ M dM sd I ns nd ad) (h : ∀ τ D, Ex [] σ τ → τ D = some (.list ((ns.filter fun one => decide (k ∈ nd one)).map sv)) → σ D = none → Q (.ref D) τ) : TCc x.gd 2 (.ref 305) [.ref M, sv k] σ Q := by
  refine TCc_fn (ps := [("self", .ref M), ("name", sv k)]) rfl rfl (fun vs hvs S => ?_) rfl ⟨rfl, rfl⟩ ?_
  · obtain ⟨u, v, rfl, hu, hv⟩ := args2 hvs
    exact ⟨_, rfl, by rw [← hu, ← hv]; rfl⟩
  have h1 := hM.hM
  have h2 := hM.hd
  repeat wtm_at "te"
  refine TE_ListComp (onS fun one => decide (k ∈ nd one)) id ?_ (by decide) (by intros; rfl)
  repeat wtm_at "te"
  refine TCc.tc (names_tc hM fun D hD => ?_)
  have E1 : Ex [] σ (σ.upd D (.list (ns.map sv))) := Ex.refl.upd_new hD
  have M1 := hM.ex E1
  have hlen := hM.len
  refine ⟨D, _, rfl, Store.upd_self _ _ _, by rw [List.length_map, sizeLine_eq]; omega, ⟨?_, ?_⟩, ?_⟩
  · intro v hv m' In
    obtain ⟨one, hone, rfl⟩ := List.mem_map.mp hv
    have t1 := In.targ
    have t2 : m' "self" = some (.ref M) := (In.rest _ (by decide)).trans (by wtm_at "nm")
    have t3 : m' "name" = some (sv k) := (In.rest _ (by decide)).trans (by wtm_at "nm")
    have h3 := M1.hM
    have h4 := M1.hd
    repeat wtm_at "te"
    refine PG_dict M1.hI (lookup_keys hone) ?_
    repeat wtm_at "te"
    refine P2_in_list (M1.hL one hone) ?_
    exact ⟨_, rfl, rfl⟩
  · intro v hv hp m' In
    have t1 := In.targ
    repeat wtm_at "te"
    rfl
  · intro D2 hD2
    rw [filter_sv]
    repeat wtm_at "te"
    exact h _ D2 (E1.upd_new hD2) (Store.upd_self _ _ _) (E1.noneOf' hD2)
theorem all_done_tc {L d : Addr} {l F : List Str} {n : Nat} (hL : σ L = some (.list (l.map sv))) (hd : σ d = some (.dict (F.map fun k => (k, .bool true)))) (h : Q (.bool (l.all fun k => decide (k ∈ F))) σ) : TCc x.gd (n + 1) (.ref 336) [.ref L, .ref d] σ Q := by
  refine TCc_fn (ps := [("names", .ref L), ("done", .ref d)]) rfl rfl (fun vs hvs S => ?_) rfl ⟨rfl, rfl⟩ ?_
  · obtain ⟨u, v, rfl, hu, hv⟩ := args2 hvs
    exact ⟨_, rfl, by rw [← hu, ← hv]; rfl⟩
  repeat wtm_at "te"
  refine TS_For_list (fun i a xs m τ => a = L ∧ xs = l.map sv ∧ τ = σ ∧ m "done" = some (.ref d) ∧ (l.take i).all (fun k => decide (k ∈ F)) = true) ?_ ?_ ?_ (by decide) (by intros; rfl)
  · repeat wtm_at "te"
    exact ⟨L, _, rfl, hL, rfl, rfl, rfl, by wtm_at "nm", by simp⟩
  · rintro i a xs m τ v ha ⟨rfl, rfl, rfl, m1, hall⟩ hv
    rw [List.getElem?_map] at hv
    cases hk : l[i]? with
    | none => rw [hk] at hv; cases hv
    | some k =>
    rw [hk] at hv
    obtain rfl := Option.some.inj hv
    repeat wtm_at "te"
    refine P2_notIn_dict hd ?_
    rw [lookup_keys_iff (f := fun _ => .bool true)]
    refine ⟨_, rfl, ?_⟩
    refine if_ndec (fun c => ?_) (fun c => ?_)
    · repeat wtm_at "te"
      have : (l.all fun k => decide (k ∈ F)) = false := by
        rw [List.all_eq_false]
        exact ⟨k, List.mem_of_getElem? hk, by simpa using c⟩
      rw [this] at h; exact h
    · repeat wtm_at "te"
      refine ⟨ha, rfl, rfl, rfl, by wtm_at "nm", ?_⟩
      rw [List.take_add_one, hk, List.all_append, hall]; simpa using c
  · rintro a xs m τ ha ⟨rfl, rfl, rfl, m1, hall⟩
    rw [List.length_map, List.take_length] at hall
    repeat wtm_at "te"
    rw [hall] at h; exact h
end
end

noncomputable section
def ready (ns : List Str) (nd : Str → List Str) (F : List Str) (k : Str) : Bool := !decide (k ∈ F) && (need ns nd k).all fun o => decide (o ∈ F)
def nxt (ns : List Str) (nd : Str → List Str) (F : List Str) : Option Str := ns.find? (ready ns nd F)
noncomputable def ordF (ns : List Str) (nd : Str → List Str) : Nat → List Str → List Str
  | 0, F => F
  | f + 1, F => match nxt ns nd F with
    | none => F
    | some k => ordF ns nd f (F ++ [k])
theorem sub_all {F ns : List Str} (nF : F.Nodup) (sF : ∀ k ∈ F, k ∈ ns) (hl : ns.length ≤ F.length) : ∀ k ∈ ns, k ∈ F := fun k hk => by
  refine Decidable.byContradiction fun hn => ?_
  have nd' : (k :: F).Nodup := List.nodup_cons.mpr ⟨hn, nF⟩
  have := nd'.length_le_of_subset (l₂ := ns) (fun y hy => by
    rcases List.mem_cons.mp hy with rfl | hy
    · exact hk
    · exact sF y hy)
  rw [List.length_cons] at this
  omega
theorem nxt_mem {ns : List Str} {nd : Str → List Str} {F : List Str} {k : Str} (h : nxt ns nd F = some k) : k ∈ ns ∧ k ∉ F ∧ ∀ o ∈ need ns nd k, o ∈ F := by
  have h1 := List.mem_of_find?_eq_some h
  have h2 := List.find?_some h
  unfold ready at h2
  rw [Bool.and_eq_true, List.all_eq_true] at h2
  exact ⟨h1, by simpa using h2.1, fun o ho => by simpa using h2.2 o ho⟩
theorem put_new {F : List Str} {f : Str → Value} {k : Str} (h : k ∉ F) : put (F.map fun k => (k, f k)) k (f k) = (F ++ [k]).map fun k => (k, f k) := by
  induction F with
  | nil => rfl
  | cons a r ih =>
    rw [List.map_cons]
    unfold put
    have hne : k ≠ a := fun z => h (z ▸ List.mem_cons_self ..)
    rw [if_neg hne, ih fun z => h (List.mem_cons_of_mem _ z)]
    rfl
theorem find_take {ns : List Str} {p : Str → Bool} {i : Nat} {k : Str} (h : ns[i]? = some k) (hb : ∀ j o, j < i → ns[j]? = some o → p o = false) (hk : p k = true) : ns.find? p = some k := by
  induction ns generalizing i with
  | nil => cases h
  | cons a r ih =>
    cases i with
    | zero =>
      cases h
      rw [List.find?_cons, hk]
    | succ i =>
      rw [List.find?_cons, hb 0 a (Nat.succ_pos _) rfl]
      exact ih h fun j o hj ho => hb (j + 1) o (Nat.succ_lt_succ hj) ho
noncomputable section
variable {x : Gx} {n : Nat} {σ : Store} {Q : Value → Store → Prop} {M dM sd I : Addr} {ns : List Str} {nd : Str → List Str} {ad : Str → Addr}
theorem order_tc (hM : Mod σ M dM sd I ns nd ad) (h : ∀ τ D, Ex [] σ τ → τ D = some (.list ((ordF ns nd ns.length []).map sv)) → σ D = none → Q (.ref D) τ) : TCc x.gd 3 (.ref 312) [.ref M] σ Q := by
  refine TCc_fn (ps := [("self", .ref M)]) rfl rfl (fun vs hvs S => ?_) rfl ⟨rfl, rfl⟩ ?_
  · obtain ⟨u, rfl, hu⟩ := args1 hvs
    exact ⟨_, rfl, by rw [← hu]; rfl⟩
  repeat wtm_at "te"
  refine ⟨Nat.zero_le _, fun Fd hFd => ?_⟩
  have E0 : Ex [] σ (σ.upd Fd (.list [])) := Ex.refl.upd_new hFd
  repeat wtm_at "te"
  intro Dn hDn
  have hDn0 : σ Dn = none := E0.noneOf' hDn
  have hne : Dn ≠ Fd := fun z => by rw [z, Store.upd_self] at hDn; cases hDn
  have E1 : Ex [] σ ((σ.upd Fd (.list [])).upd Dn (.dict [])) := E0.upd_new hDn
  repeat wtm_at "te"
  refine TS_While (fun k m τ => m "self" = some (.ref M) ∧ m "found" = some (.ref Fd) ∧ m "done" = some (.ref Dn) ∧ Ex [] σ τ ∧ ∃ F, τ Fd = some (.list (F.map sv)) ∧ τ Dn = some (.dict (F.map fun k => (k, .bool true))) ∧
      ((m "going" = some (.bool true) ∧ F.Nodup ∧ (∀ k ∈ F, k ∈ ns) ∧ F.length + k = ns.length + 2 ∧ F.length ≤ ns.length ∧ ordF ns nd (ns.length - F.length) F = ordF ns nd ns.length []) ∨ (m "going" = some (.bool false) ∧ F = ordF ns nd ns.length [])))
    (ns.length + 2) ⟨by wtm_at "nm", by wtm_at "nm", by wtm_at "nm", E1, [], by rw [Store.upd_ne _ _ hne.symm, Store.upd_self]; rfl, Store.upd_self _ _ _, .inl ⟨by wtm_at "nm", List.nodup_nil, fun _ z => (nomatch z), by simp, Nat.zero_le _, rfl⟩⟩ ?_
  rintro k m τ ⟨m1, m2, m3, E, F, hF, hD, ⟨m4, nF, sF, hk, hle, hR⟩ | ⟨m4, hR⟩⟩
  · wtm_at "te"
    wtm_at "te"
    refine ⟨_, rfl, ?_⟩
    rw [if_pos rfl]
    have M1 := hM.ex E
    have h1 := M1.hM
    have h2 := M1.hd
    have hlen := hM.len
    repeat wtm_at "te"
    refine TS_For_list (fun i a xs m' τ' => xs = ns.map sv ∧ m' "self" = some (.ref M) ∧ m' "found" = some (.ref Fd) ∧ m' "done" = some (.ref Dn) ∧ m' "going" = some (.bool false) ∧ Ex [] σ τ' ∧ τ' Fd = some (.list (F.map sv)) ∧ τ' Dn = some (.dict (F.map fun k => (k, .bool true))) ∧
      ∀ j o, j < i → ns[j]? = some o → ready ns nd F o = false) ?_ ?_ ?_ (by decide) (by intros; rfl)
    · repeat wtm_at "te"
      refine TC.le (TCc.tc (names_tc M1 fun D hDD => ?_)) (by decide)
      have E2 : Ex [] τ (τ.upd D (.list (ns.map sv))) := Ex.refl.upd_new hDD
      exact ⟨D, _, rfl, Store.upd_self _ _ _, rfl, by wtm_at "nm", by wtm_at "nm", by wtm_at "nm", by wtm_at "nm", E.trans E2, E2.of hF, E2.of hD, fun _ _ z => absurd z (Nat.not_lt_zero _)⟩
    · rintro i a xs m' τ' v ha ⟨rfl, n1, n2, n3, n4, E2, hF2, hD2, hno⟩ hv
      rw [List.getElem?_map] at hv
      cases hki : ns[i]? with
      | none => rw [hki] at hv; cases hv
      | some o =>
      rw [hki] at hv
      obtain rfl := Option.some.inj hv
      have ho : o ∈ ns := List.mem_of_getElem? hki
      have M2 := hM.ex E2
      have h3 := M2.hM
      have h4 := M2.hd
      repeat wtm_at "tx"
      refine TB.mono (Q := fun b τ2 => Ex [] τ' τ2 ∧ b = ready ns nd F o) ?_ ?_
      · repeat wtm_at "te"
        refine P2_notIn_dict hD2 ?_
        rw [lookup_keys_iff (f := fun _ => .bool true)]
        refine ⟨_, rfl, ?_⟩
        refine if_ndec (fun c => ?_) (fun c => ?_)
        · repeat wtm_at "te"
          refine TC.le (TCc.tc (needed_tc M2 ho fun τ2 L E3 hL _ => ?_)) (by decide)
          repeat wtm_at "te"
          refine TC.le (TCc.tc (all_done_tc (n := 0) hL (E3.of hD2) ?_)) (by decide)
          refine ⟨_, rfl, ?_⟩
          refine if_b (fun c2 => ?_) (fun c2 => ?_)
          · repeat wtm_at "te"
            refine ⟨E3, ?_⟩
            unfold ready; rw [decide_eq_false c, c2]; rfl
          · refine ⟨E3, ?_⟩
            unfold ready; rw [decide_eq_false c, c2]; rfl
        · refine ⟨Ex.refl, ?_⟩
          unfold ready; rw [decide_eq_true c]; rfl
      · rintro b τ2 ⟨E3, rfl⟩
        have hF3 := E3.of hF2
        have hD3 := E3.of hD2
        refine if_b (fun c => ?_) (fun c => ?_)
        · have hnx : nxt ns nd F = some o := find_take hki hno c
          obtain ⟨_, hoF, _⟩ := nxt_mem hnx
          have hlt : F.length < ns.length := by
            refine Nat.lt_of_not_le fun z => ?_
            exact hoF (sub_all nF sF z o ho)
          repeat wtm_at "te"
          refine P3_dict hD3 (by rw [List.length_map, sizeLine_eq]; omega) ?_
          rw [put_new (f := fun _ => .bool true) hoF]
          have hF4 : (τ2.upd Dn (.dict ((F ++ [o]).map fun k => (k, .bool true)))) Fd = some (.list (F.map sv)) := by rw [Store.upd_ne _ _ hne.symm]; exact hF3
          repeat wtm_at "te"
          refine TC_append hF4 (by rw [List.length_map, sizeLine_eq]; omega) ?_
          refine ⟨rfl, ?_⟩
          repeat wtm_at "te"
          refine ⟨k - 1, by omega, by wtm_at "nm", by wtm_at "nm", by wtm_at "nm", ((E2.trans E3).upd_none (by simp) hDn0).upd_none (by simp) hFd, F ++ [o], by rw [Store.upd_self, List.map_append]; rfl, by rw [Store.upd_ne _ _ hne, Store.upd_self], .inl ⟨upd_hit, ?_, ?_, ?_, ?_, ?_⟩⟩
          · exact List.nodup_append.mpr ⟨nF, List.nodup_cons.mpr ⟨by simp, List.nodup_nil⟩, fun a ha b hb => by rw [List.mem_singleton.mp hb]; exact fun z => hoF (z ▸ ha)⟩
          · intro k' hk'
            rcases List.mem_append.mp hk' with h | h
            · exact sF _ h
            · rw [List.mem_singleton.mp h]; exact ho
          · rw [List.length_append]; simp only [List.length_singleton]; omega
          · rw [List.length_append]; simp only [List.length_singleton]; omega
          · rw [← hR, List.length_append, List.length_singleton]
            obtain ⟨f, hf⟩ : ∃ f, ns.length - F.length = f + 1 := ⟨ns.length - F.length - 1, by omega⟩
            rw [hf, show ns.length - (F.length + 1) = f by omega]
            show _ = ordF ns nd (f + 1) F
            rw [ordF, hnx]
        · repeat wtm_at "te"
          refine ⟨E3.of ha, rfl, by wtm_at "nm", by wtm_at "nm", by wtm_at "nm", by wtm_at "nm", E2.trans E3, hF3, hD3, fun j y hj hy => ?_⟩
          rcases Nat.lt_or_eq_of_le (Nat.lt_succ_iff.mp hj) with hj | rfl
          · exact hno j y hj hy
          · rw [hki] at hy; cases hy; exact c
    · rintro a xs m' τ' ha ⟨rfl, n1, n2, n3, n4, E2, hF2, hD2, hno⟩
      repeat wtm_at "te"
      refine ⟨k - 1, by omega, n1, n2, n3, E2, F, hF2, hD2, .inr ⟨n4, ?_⟩⟩
      have hnx : nxt ns nd F = none := List.find?_eq_none.mpr fun y hy => by
        obtain ⟨j, hj⟩ := List.getElem?_of_mem hy
        have hjl : j < ns.length := (List.getElem?_eq_some_iff.mp hj).1
        rw [hno j y (by rw [List.length_map]; exact hjl) hj]; exact Bool.false_ne_true
      rw [← hR]
      cases ns.length - F.length with
      | zero => rfl
      | succ f => rw [ordF, hnx]
  · wtm_at "te"
    wtm_at "te"
    refine ⟨_, rfl, ?_⟩
    rw [if_neg Bool.false_ne_true]
    repeat wtm_at "te"
    exact h τ Fd E (by rw [hF, hR]) hFd
end
end

noncomputable section
def restF (ns : List Str) (nd : Str → List Str) : List Str := ns.filter fun k => !decide (k ∈ ordF ns nd ns.length [])
def gs (l : List Str) (i : Nat) : Str := l.getD i Str.empty
/-- a ring of names: nobody twice, each needs the next, the least first -/
structure Ring (nd : Str → List Str) (l : List Str) : Prop where
  nodup : l.Nodup
  next : ∀ i, i < l.length → gs l ((i + 1) % l.length) ∈ nd (gs l i)
theorem gs_some {l : List Str} {i : Nat} (h : i < l.length) : l[i]? = some (gs l i) := by
  unfold gs
  rw [List.getD_eq_getElem?_getD, List.getElem?_eq_getElem h]; rfl
theorem gs_of {l : List Str} {i : Nat} {a : Str} (h : l[i]? = some a) : gs l i = a := by
  unfold gs; rw [List.getD_eq_getElem?_getD, h]; rfl
theorem gs_mem {l : List Str} {i : Nat} (h : i < l.length) : gs l i ∈ l := List.mem_of_getElem? (gs_some h)
theorem rot_gs {l : List Str} {k i : Nat} (hk : k < l.length) (hi : i < l.length) : gs (l.drop k ++ l.take k) i = gs l ((i + k) % l.length) := by
  refine gs_of ?_
  by_cases h : i < l.length - k
  · rw [List.getElem?_append_left (by rw [List.length_drop]; exact h), List.getElem?_drop, Nat.mod_eq_of_lt (by omega), Nat.add_comm]
    exact gs_some (by omega)
  · rw [List.getElem?_append_right (by rw [List.length_drop]; omega), List.length_drop, List.getElem?_take_of_lt (by omega)]
    have : (i + k) % l.length = i - (l.length - k) := by
      rw [Nat.mod_eq_sub_mod (by omega), Nat.mod_eq_of_lt (by omega)]; omega
    rw [this]
    exact gs_some (by omega)
theorem Ring.rot {nd : Str → List Str} {l : List Str} {k : Nat} (h : Ring nd l) (hk : k < l.length) : Ring nd (l.drop k ++ l.take k) := by
  have hlen : (l.drop k ++ l.take k).length = l.length := by rw [List.length_append, List.length_drop, List.length_take]; omega
  refine ⟨?_, fun i hi => ?_⟩
  · have p : (l.drop k ++ l.take k).Perm l := by
      have := List.perm_append_comm (l₁ := l.drop k) (l₂ := l.take k)
      rwa [List.take_append_drop] at this
    exact p.nodup_iff.mpr h.nodup
  · rw [hlen] at hi ⊢
    rw [rot_gs hk hi, rot_gs hk (Nat.mod_lt _ (by omega))]
    have := h.next ((i + k) % l.length) (Nat.mod_lt _ (by omega))
    rw [Nat.mod_add_mod] at this ⊢
    rw [show i + 1 + k = i + k + 1 by omega]
    exact this
/-- turned -/
def turn (l : List Str) : List Str := l.drop (l.idxOf (gs (srt l) 0)) ++ l.take (l.idxOf (gs (srt l) 0))
theorem srt_len {l : List Str} : (srt l).length = l.length := srt_perm.length_eq
theorem least_mem {l : List Str} (h : 0 < l.length) : gs (srt l) 0 ∈ l := srt_perm.mem_iff.mp (gs_mem (by rw [srt_len]; exact h))
theorem least_le {l : List Str} {y : Str} (h : y ∈ l) : ltS y (gs (srt l) 0) = false := by
  have hy := srt_perm.mem_iff.mpr h
  have u := srt_up (l := l)
  unfold UpS at u
  cases hs : srt l with
  | nil => rw [hs] at hy; cases hy
  | cons a r =>
    rw [hs] at hy u
    have e : gs (a :: r) 0 = a := rfl
    rw [e]
    rcases List.mem_cons.mp hy with rfl | hy
    · unfold ltS; simp only [decide_eq_false_iff_not]; exact List.lt_irrefl _
    · exact (List.pairwise_cons.mp u).1 y hy
theorem turn_ring {nd : Str → List Str} {l : List Str} (h : Ring nd l) (hl : 0 < l.length) : Ring nd (turn l) ∧ (turn l).length = l.length ∧ ∀ i, i < l.length → ltS (gs (turn l) i) (gs (turn l) 0) = false := by
  have hi := List.idxOf_lt_length_iff.mpr (least_mem hl)
  have hlen : (turn l).length = l.length := by unfold turn; rw [List.length_append, List.length_drop, List.length_take]; omega
  refine ⟨h.rot hi, hlen, fun i hil => ?_⟩
  have e0 : gs (turn l) 0 = gs (srt l) 0 := by
    unfold turn
    rw [rot_gs hi hl, Nat.zero_add, Nat.mod_eq_of_lt hi]
    refine gs_of ?_
    rw [List.getElem?_eq_getElem hi]; simp
  rw [e0]
  refine least_le ?_
  have hm : gs (turn l) i ∈ turn l := gs_mem (by rw [hlen]; exact hil)
  unfold turn at hm
  rcases List.mem_append.mp hm with h | h
  · exact List.mem_of_mem_drop h
  · exact List.mem_of_mem_take h
noncomputable section
variable {x : Gx} {n : Nat} {σ : Store} {Q : Value → Store → Prop} {M dM sd I : Addr} {ns : List Str} {nd : Str → List Str} {ad : Str → Addr}
theorem unordered_tc (hM : Mod σ M dM sd I ns nd ad) (h : ∀ τ D, Ex [] σ τ → τ D = some (.list ((restF ns nd).map sv)) → σ D = none → Q (.ref D) τ) : TCc x.gd 4 (.ref 317) [.ref M] σ Q := by
  refine TCc_fn (ps := [("self", .ref M)]) rfl rfl (fun vs hvs S => ?_) rfl ⟨rfl, rfl⟩ ?_
  · obtain ⟨u, rfl, hu⟩ := args1 hvs
    exact ⟨_, rfl, by rw [← hu]; rfl⟩
  have h1 := hM.hM
  have h2 := hM.hd
  repeat wtm_at "te"
  refine TCc.tc (order_tc hM fun τ1 O E1 hO _ => ?_)
  have M1 := hM.ex E1
  have h3 := M1.hM
  have h4 := M1.hd
  have hlen := hM.len
  repeat wtm_at "te"
  refine TE_ListComp (onS fun k => !decide (k ∈ ordF ns nd ns.length [])) id ?_ (by decide) (by intros; rfl)
  repeat wtm_at "te"
  refine TC.le (TCc.tc (names_tc M1 fun D hD => ?_)) (by decide)
  have E2 : Ex [] τ1 (τ1.upd D (.list (ns.map sv))) := Ex.refl.upd_new hD
  refine ⟨D, _, rfl, Store.upd_self _ _ _, by rw [List.length_map, sizeLine_eq]; omega, ⟨?_, ?_⟩, ?_⟩
  · intro v hv m' In
    obtain ⟨one, hone, rfl⟩ := List.mem_map.mp hv
    have t1 := In.targ
    have t2 : m' "ordered" = some (.ref O) := (In.rest _ (by decide)).trans (by wtm_at "nm")
    repeat wtm_at "te"
    refine P2_notIn_list (E2.of hO) ?_
    exact ⟨_, rfl, rfl⟩
  · intro v hv hp m' In
    have t1 := In.targ
    repeat wtm_at "te"
    rfl
  · intro D2 hD2
    rw [filter_sv]
    repeat wtm_at "te"
    exact h _ D2 ((E1.trans E2).upd_new hD2) (Store.upd_self _ _ _) ((E1.trans E2).noneOf' hD2)
theorem turned_tc {L : Addr} {l : List Str} {n : Nat} (hL : σ L = some (.list (l.map sv))) (hpos : 0 < l.length) (hlen : l.length ≤ 10) (h : ∀ τ D, Ex [] σ τ → τ D = some (.list ((turn l).map sv)) → Q (.ref D) τ) : TCc x.gd (n + 1) (.ref 343) [.ref L] σ Q := by
  refine TCc_fn (ps := [("ring", .ref L)]) rfl rfl (fun vs hvs S => ?_) rfl ⟨rfl, rfl⟩ ?_
  · obtain ⟨u, rfl, hu⟩ := args1 hvs
    exact ⟨_, rfl, by rw [← hu]; rfl⟩
  have hsz : (l.map sv).length ≤ sizeLine := by rw [List.length_map, sizeLine_eq]; omega
  have hi := List.idxOf_lt_length_iff.mpr (least_mem hpos)
  repeat wtm_at "te"
  refine TC_sorted_list hL (by omega) fun D hD => ?_
  have E1 : Ex [] σ (σ.upd D (.list ((srt l).map sv))) := Ex.refl.upd_new hD
  have hL1 := E1.of hL
  repeat wtm_at "te"
  refine PG_list (Store.upd_self _ _ _) (by decide) (by decide) (v := sv (gs (srt l) 0)) ?_ ?_
  · rw [List.getElem?_map, show (Int.toNat 0) = 0 from rfl, gs_some (by rw [srt_len]; exact hpos)]; rfl
  repeat wtm_at "te"
  refine TC_index hL1 (least_mem hpos) (by rw [sizeLine_eq]; omega) ?_
  repeat wtm_at "te"
  refine PSl_from hL1 hsz fun D2 hD2 => ?_
  have E2 := E1.upd_new (o := .list ((l.map sv).drop (l.idxOf (gs (srt l) 0)))) hD2
  have hL2 := E2.of hL
  repeat wtm_at "te"
  refine PSl_upto hL2 hsz fun D3 hD3 => ?_
  have E3 := E2.upd_new (o := .list ((l.map sv).take (l.idxOf (gs (srt l) 0)))) hD3
  have hne : D2 ≠ D3 := fun z => by rw [← z, Store.upd_self] at hD3; cases hD3
  refine P2_add_list (Store.upd_miss hne (Store.upd_self _ _ _)) (Store.upd_self _ _ _) (by rw [List.length_drop, List.length_take, List.length_map, sizeLine_eq]; omega) fun D4 hD4 => ?_
  refine h _ D4 (E3.upd_new hD4) ?_
  rw [Store.upd_self, turn, List.map_append, List.map_drop, List.map_take]
end
end

noncomputable section
theorem ordF_done {ns : List Str} {nd : Str → List Str} : ∀ {f : Nat} {F : List Str}, F.Nodup → (∀ k ∈ F, k ∈ ns) → ns.length ≤ F.length + f → nxt ns nd (ordF ns nd f F) = none
  | 0, F, nF, sF, hl => by
    unfold ordF
    refine List.find?_eq_none.mpr fun y hy => ?_
    have := sub_all nF sF (by omega) y hy
    unfold ready; rw [decide_eq_true this]; exact Bool.false_ne_true
  | f + 1, F, nF, sF, hl => by
    unfold ordF
    cases h : nxt ns nd F with
    | none => exact h
    | some k =>
      obtain ⟨h1, h2, _⟩ := nxt_mem h
      refine ordF_done (List.nodup_append.mpr ⟨nF, List.nodup_cons.mpr ⟨by simp, List.nodup_nil⟩, fun a ha b hb => ?_⟩) (fun y hy => ?_) (by rw [List.length_append]; simp only [List.length_singleton]; omega)
      · rw [List.mem_singleton.mp hb]; exact fun z => h2 (z ▸ ha)
      · rcases List.mem_append.mp hy with h | h
        · exact sF y h
        · rw [List.mem_singleton.mp h]; exact h1
theorem need_mem {ns : List Str} {nd : Str → List Str} {k o : Str} (h : o ∈ need ns nd k) : o ∈ nd k ∧ o ∈ ns := by
  unfold need at h
  have := srt_perm.mem_iff.mp h
  rw [List.mem_filter] at this
  exact ⟨this.1, by simpa using this.2⟩
theorem rest_mem {ns : List Str} {nd : Str → List Str} {k : Str} : k ∈ restF ns nd ↔ k ∈ ns ∧ k ∉ ordF ns nd ns.length [] := by
  unfold restF; rw [List.mem_filter]; simp
/-- a follower in the rest -/
theorem rest_next {ns : List Str} {nd : Str → List Str} {k : Str} (h : k ∈ restF ns nd) : ∃ o r, (need ns nd k).filter (fun y => decide (y ∈ restF ns nd)) = o :: r ∧ o ∈ restF ns nd ∧ o ∈ nd k := by
  obtain ⟨h1, h2⟩ := rest_mem.mp h
  have hn := ordF_done (ns := ns) (nd := nd) (f := ns.length) (F := []) List.nodup_nil (fun _ z => nomatch z) (by simp)
  have hr := List.find?_eq_none.mp hn k h1
  unfold ready at hr
  rw [decide_eq_false h2] at hr
  simp only [Bool.not_false, Bool.true_and, List.all_eq_true, decide_eq_true_eq] at hr
  obtain ⟨o, ho, hno⟩ : ∃ o, o ∈ need ns nd k ∧ o ∉ ordF ns nd ns.length [] := by
    refine Decidable.byContradiction fun z => hr fun o ho => ?_
    exact Decidable.byContradiction fun hno => z ⟨o, ho, hno⟩
  have hor : o ∈ restF ns nd := rest_mem.mpr ⟨(need_mem ho).2, hno⟩
  have hm : o ∈ (need ns nd k).filter (fun y => decide (y ∈ restF ns nd)) := List.mem_filter.mpr ⟨ho, by simpa using hor⟩
  cases hf : (need ns nd k).filter (fun y => decide (y ∈ restF ns nd)) with
  | nil => rw [hf] at hm; cases hm
  | cons a r =>
    have ha : a ∈ (need ns nd k).filter (fun y => decide (y ∈ restF ns nd)) := by rw [hf]; exact List.mem_cons_self ..
    obtain ⟨h3, h4⟩ := List.mem_filter.mp ha
    exact ⟨a, r, rfl, by simpa using h4, (need_mem h3).1⟩
theorem gs_append_last {l : List Str} {a : Str} : gs (l ++ [a]) l.length = a := gs_of (by simp)
theorem gs_append_lt {l r : List Str} {i : Nat} (h : i < l.length) : gs (l ++ r) i = gs l i := gs_of (by rw [List.getElem?_append_left h]; exact gs_some h)
theorem seg_ring {nd : Str → List Str} {row : List Str} {fo : Str} (nr : row.Nodup) (hc : ∀ i, i + 1 < row.length → gs row (i + 1) ∈ nd (gs row i)) (hf : fo ∈ row) (hl : fo ∈ nd (gs row (row.length - 1))) : Ring nd (row.drop (row.idxOf fo)) := by
  have hj := List.idxOf_lt_length_iff.mpr hf
  have hg : ∀ i, i < row.length - row.idxOf fo → gs (row.drop (row.idxOf fo)) i = gs row (row.idxOf fo + i) := fun i hi => gs_of (by rw [List.getElem?_drop]; exact gs_some (by omega))
  refine ⟨nr.sublist (List.drop_sublist ..), fun i hi => ?_⟩
  rw [List.length_drop] at hi ⊢
  rw [hg i hi]
  by_cases h : i + 1 < row.length - row.idxOf fo
  · rw [Nat.mod_eq_of_lt h, hg _ h]
    exact hc _ (by omega)
  · have : i + 1 = row.length - row.idxOf fo := by omega
    rw [this, Nat.mod_self, hg 0 (by omega)]
    have e1 : gs row (row.idxOf fo + 0) = fo := by
      refine gs_of ?_
      rw [Nat.add_zero, List.getElem?_eq_getElem hj]; simp
    rw [e1, show row.idxOf fo + i = row.length - 1 by omega]
    exact hl
noncomputable section
variable {x : Gx} {n : Nat} {σ : Store} {Q : Value → Store → Prop} {M dM sd I : Addr} {ns : List Str} {nd : Str → List Str} {ad : Str → Addr}
theorem cycle_tc (hM : Mod σ M dM sd I ns nd ad) (h : ∀ τ D ring, Ex [] σ τ → τ D = some (.list (ring.map sv)) → (ring = [] ↔ restF ns nd = []) → Ring nd ring → (∀ i, i < ring.length → ltS (gs ring i) (gs ring 0) = false) → (∀ y ∈ ring, y ∈ ns) → ring.length ≤ 5 → Q (.ref D) τ) :
    TCc x.gd 5 (.ref 322) [.ref M] σ Q := by
  refine TCc_fn (ps := [("self", .ref M)]) rfl rfl (fun vs hvs S => ?_) rfl ⟨rfl, rfl⟩ ?_
  · obtain ⟨u, rfl, hu⟩ := args1 hvs
    exact ⟨_, rfl, by rw [← hu]; rfl⟩
  have h1 := hM.hM
  have h2 := hM.hd
  have hlen := hM.len
  have hrl : (restF ns nd).length ≤ ns.length := filter_len
  repeat wtm_at "te"
  refine TCc.tc (unordered_tc hM fun τ1 R0 E1 hR0 _ => ?_)
  have M1 := hM.ex E1
  have h3 := M1.hM
  have h4 := M1.hd
  repeat wtm_at "te"
  refine TC_len_list hR0 (by rw [List.length_map, sizeLine_eq]; omega) ?_
  repeat wtm_at "te"
  refine if_dec (fun c => ?_) (fun c => ?_)
  · have hnil : restF ns nd = [] := by rw [List.length_map] at c; exact List.length_eq_zero_iff.mp (by omega)
    repeat wtm_at "te"
    refine ⟨Nat.zero_le _, fun D hD => ?_⟩
    repeat wtm_at "te"
    exact h _ D [] (E1.upd_new hD) (Store.upd_self _ _ _) ⟨fun _ => hnil, fun _ => rfl⟩ ⟨List.nodup_nil, fun i hi => absurd hi (Nat.not_lt_zero _)⟩ (fun i hi => absurd hi (Nat.not_lt_zero _)) (fun _ z => nomatch z) (Nat.zero_le _)
  · rw [List.length_map] at c
    have hpos : 0 < (restF ns nd).length := by omega
    repeat wtm_at "te"
    refine PG_list hR0 (by decide) (by decide) (v := sv (gs (restF ns nd) 0)) ?_ ?_
    · rw [List.getElem?_map, show (Int.toNat 0) = 0 from rfl, gs_some hpos]; rfl
    repeat wtm_at "te"
    refine ⟨(by decide : 1 ≤ sizeLine), fun R hR => ?_⟩
    have E2 : Ex [] τ1 (τ1.upd R (.list [sv (gs (restF ns nd) 0)])) := Ex.refl.upd_new hR
    have hRσ : σ R = none := E1.noneOf' hR
    have hneR : R0 ≠ R := ne_of_none hR0 hR
    repeat wtm_at "te"
    refine TS_While (fun k m τ => m "self" = some (.ref M) ∧ m "rest" = some (.ref R0) ∧ m "row" = some (.ref R) ∧ Ex [] σ τ ∧ τ R0 = some (.list ((restF ns nd).map sv)) ∧ ∃ row, τ R = some (.list (row.map sv)) ∧ row.Nodup ∧ (∀ y ∈ row, y ∈ restF ns nd) ∧ 0 < row.length ∧
      (∀ i, i + 1 < row.length → gs row (i + 1) ∈ nd (gs row i)) ∧ row.length + k = (restF ns nd).length + 1)
      (restF ns nd).length ⟨by wtm_at "nm", by wtm_at "nm", by wtm_at "nm", E1.trans E2, E2.of hR0, [gs (restF ns nd) 0], Store.upd_self _ _ _, List.nodup_cons.mpr ⟨by simp, List.nodup_nil⟩, fun y hy => by rw [List.mem_singleton.mp hy]; exact gs_mem hpos, by simp, fun i hi => by simp at hi, by simp; omega⟩ ?_
    rintro k m τ ⟨m1, m2, m3, E, hR0', row, hrow, nr, sr, pr, hc, hk⟩
    wtm_at "te"
    wtm_at "te"
    refine ⟨_, rfl, ?_⟩
    rw [if_pos rfl]
    have M2 := hM.ex E
    have h5 := M2.hM
    have h6 := M2.hd
    have hrowle : row.length ≤ (restF ns nd).length := nr.length_le_of_subset sr
    have hlast : (row.map sv).getLast? = some (sv (gs row (row.length - 1))) := by
      rw [List.getLast?_eq_getElem?, List.length_map, List.getElem?_map, gs_some (by omega)]; rfl
    have hlm : gs row (row.length - 1) ∈ restF ns nd := sr _ (gs_mem (by omega))
    obtain ⟨fo, r, hff, hfr, hfn⟩ := rest_next hlm
    repeat wtm_at "te"
    refine TE_ListComp (onS fun y => decide (y ∈ restF ns nd)) id ?_ (by decide) (by intros; rfl)
    repeat wtm_at "te"
    refine PG_list_last hrow (by rw [List.length_map]; omega) hlast ?_
    repeat wtm_at "te"
    refine TC.le (TCc.tc (needed_tc M2 (rest_mem.mp hlm).1 fun τ2 D E3 hD _ => ?_)) (by decide)
    have hnl : (need ns nd (gs row (row.length - 1))).length ≤ 3 := by
      unfold need; rw [srt_len]
      exact Nat.le_trans filter_len (hM.lens _ (rest_mem.mp hlm).1)
    refine ⟨D, _, rfl, hD, by rw [List.length_map, sizeLine_eq]; omega, ⟨?_, ?_⟩, ?_⟩
    · intro v hv m' In
      obtain ⟨one, hone, rfl⟩ := List.mem_map.mp hv
      have t1 := In.targ
      have t2 : m' "rest" = some (.ref R0) := (In.rest _ (by decide)).trans (by wtm_at "nm")
      repeat wtm_at "te"
      refine P2_in_list (E3.of hR0') ?_
      exact ⟨_, rfl, rfl⟩
    · intro v hv hp m' In
      have t1 := In.targ
      repeat wtm_at "te"
      rfl
    · intro D2 hD2
      rw [filter_sv, hff]
      have E4 : Ex [] τ2 (τ2.upd D2 (.list ((fo :: r).map sv))) := Ex.refl.upd_new hD2
      have hrow4 := E4.of (E3.of hrow)
      have hR04 := E4.of (E3.of hR0')
      have E04 := (E.trans E3).trans E4
      repeat wtm_at "te"
      generalize τ2.upd D2 (.list ((fo :: r).map sv)) = τ4 at E4 hrow4 hR04 E04
      repeat wtm_at "te"
      refine P2_in_list hrow4 ?_
      refine ⟨_, rfl, ?_⟩
      refine if_dec (fun c => ?_) (fun c => ?_)
      · have hj := List.idxOf_lt_length_iff.mpr c
        repeat wtm_at "te"
        refine TC_index hrow4 c (by rw [sizeLine_eq]; omega) ?_
        refine ⟨_, rfl, ?_⟩
        repeat wtm_at "te"
        refine PSl_from hrow4 (by rw [List.length_map, sizeLine_eq]; omega) fun D5 hD5 => ?_
        have E5 : Ex [] τ4 (τ4.upd D5 (.list ((row.map sv).drop (row.idxOf fo)))) := Ex.refl.upd_new hD5
        have hring := seg_ring nr hc c hfn
        have hsl : 0 < (row.drop (row.idxOf fo)).length := by rw [List.length_drop]; omega
        obtain ⟨g1, g2, g3⟩ := turn_ring hring hsl
        repeat wtm_at "te"
        refine TC.le (TCc.tc (turned_tc (n := 0) (l := row.drop (row.idxOf fo)) (by rw [Store.upd_self, List.map_drop]) hsl (by rw [List.length_drop]; omega) fun τ6 D6 E6 hD6 => ?_)) (by decide)
        refine h τ6 D6 _ ((E04.trans E5).trans E6) hD6 ⟨fun z => ?_, fun z => ?_⟩ g1 (fun i hi => g3 i (by rw [← g2]; exact hi)) (fun y hy => ?_) ?_
        · rw [z] at g2; rw [← g2] at hsl; exact absurd hsl (Nat.lt_irrefl _)
        · rw [z] at hpos; exact absurd hpos (Nat.lt_irrefl _)
        · unfold turn at hy
          have : y ∈ row.drop (row.idxOf fo) := by
            rcases List.mem_append.mp hy with h | h
            · exact List.mem_of_mem_drop h
            · exact List.mem_of_mem_take h
          exact (rest_mem.mp (sr _ (List.mem_of_mem_drop this))).1
        · rw [g2, List.length_drop]; omega
      · repeat wtm_at "te"
        refine TC_append hrow4 (by rw [List.length_map, sizeLine_eq]; omega) ?_
        refine ⟨rfl, ?_⟩
        have nr' : (row ++ [fo]).Nodup := List.nodup_append.mpr ⟨nr, List.nodup_cons.mpr ⟨by simp, List.nodup_nil⟩, fun a ha b hb => by rw [List.mem_singleton.mp hb]; exact fun z => c (z ▸ ha)⟩
        have sr' : ∀ y ∈ row ++ [fo], y ∈ restF ns nd := fun y hy => by
          rcases List.mem_append.mp hy with h | h
          · exact sr y h
          · rw [List.mem_singleton.mp h]; exact hfr
        have hle' := nr'.length_le_of_subset sr'
        rw [List.length_append, List.length_singleton] at hle'
        repeat wtm_at "te"
        refine ⟨k - 1, by omega, by wtm_at "nm", by wtm_at "nm", by wtm_at "nm", E04.upd_none (by simp) hRσ, by rw [Store.upd_ne _ _ hneR]; exact hR04, row ++ [fo], by rw [Store.upd_self, List.map_append]; rfl, nr', sr', by simp, fun i hi => ?_, by rw [List.length_append, List.length_singleton]; omega⟩
        rw [List.length_append, List.length_singleton] at hi
        by_cases hi2 : i + 1 < row.length
        · rw [gs_append_lt hi2, gs_append_lt (by omega)]; exact hc i hi2
        · have : i + 1 = row.length := by omega
          rw [this, gs_append_last, gs_append_lt (by omega), show i = row.length - 1 by omega]; exact hfn
end
end

noncomputable section
theorem nodup_snoc {α : Type} {l : List α} {a : α} (h : l.Nodup) (ha : a ∉ l) : (l ++ [a]).Nodup :=
  List.nodup_append.mpr ⟨h, List.nodup_cons.mpr ⟨by simp, List.nodup_nil⟩, fun b hb c hc => by rw [List.mem_singleton.mp hc]; exact fun z => ha (z ▸ hb)⟩
noncomputable section
variable {x : Gx} {n : Nat} {σ : Store} {Q : Value → Store → Prop} {M dM sd I : Addr} {ns : List Str} {nd : Str → List Str} {ad : Str → Addr}
theorem all_clients_tc {k : Str} (hM : Mod σ M dM sd I ns nd ad)
    (h : ∀ τ D F, Ex [] σ τ → τ D = some (.list ((srt F).map sv)) → F.Nodup → (∀ o ∈ F, o ∈ ns) → (∀ P : Str → Prop, (∀ o ∈ ns, k ∈ nd o → P o) → (∀ z o, P z → o ∈ ns → z ∈ nd o → P o) → ∀ o ∈ F, P o) →
      (∀ o ∈ ns, k ∈ nd o → o ∈ F) → (∀ z ∈ F, ∀ o ∈ ns, z ∈ nd o → o ∈ F) → Q (.ref D) τ) : TCc x.gd 3 (.ref 350) [.ref M, sv k] σ Q := by
  refine TCc_fn (ps := [("modules", .ref M), ("name", sv k)]) rfl rfl (fun vs hvs S => ?_) rfl ⟨rfl, rfl⟩ ?_
  · obtain ⟨u, v, rfl, hu, hv⟩ := args2 hvs
    exact ⟨_, rfl, by rw [← hu, ← hv]; rfl⟩
  have hlen := hM.len
  repeat wtm_at "te"
  intro Fd hFd
  have E0 : Ex [] σ (σ.upd Fd (.dict [])) := Ex.refl.upd_new hFd
  repeat wtm_at "te"
  refine ⟨(by decide : 1 ≤ sizeLine), fun Wd hWd => ?_⟩
  have hWσ : σ Wd = none := E0.noneOf' hWd
  have hne : Fd ≠ Wd := fun z => by rw [← z, Store.upd_self] at hWd; cases hWd
  repeat wtm_at "te"
  refine TS_While (fun c m τ => m "modules" = some (.ref M) ∧ m "found" = some (.ref Fd) ∧ m "work" = some (.ref Wd) ∧ Ex [] σ τ ∧ ∃ (F W : List Str), τ Fd = some (.dict (F.map fun y => (y, .bool true))) ∧ τ Wd = some (.list (W.map sv)) ∧ F.Nodup ∧ (∀ o ∈ F, o ∈ ns) ∧
      (∀ P : Str → Prop, (∀ o ∈ ns, k ∈ nd o → P o) → (∀ z o, P z → o ∈ ns → z ∈ nd o → P o) → ∀ o ∈ F, P o) ∧ (∀ z ∈ W, z = k ∨ z ∈ F) ∧ (∀ z, (z = k ∨ z ∈ F) → z ∉ W → ∀ o ∈ ns, z ∈ nd o → o ∈ F) ∧ W.length + 2 * ns.length = c + 2 * F.length ∧ W.length ≤ 1 + F.length)
    (1 + 2 * ns.length) ⟨by wtm_at "nm", by wtm_at "nm", by wtm_at "nm", E0.upd_new hWd, [], [k], by rw [Store.upd_ne _ _ hne, Store.upd_self]; rfl, Store.upd_self _ _ _, List.nodup_nil, fun _ z => (nomatch z), fun _ _ _ _ z => (nomatch z), fun z hz => .inl (List.mem_singleton.mp hz), fun z hz hn => ?_, by simp, by simp⟩ ?_
  · exfalso
    rcases hz with rfl | hz
    · exact hn (List.mem_cons_self ..)
    · cases hz
  rintro c m τ ⟨m1, m2, m3, E, F, W, hF, hW, nF, sF, cF, wF, dF, hc, hWl⟩
  have hFl : F.length ≤ ns.length := nF.length_le_of_subset sF
  repeat wtm_at "te"
  refine TC_len_list hW (by rw [List.length_map, sizeLine_eq]; omega) ?_
  repeat wtm_at "te"
  refine if_dec (fun cw => ?_) (fun cw => ?_)
  · rw [List.length_map] at cw
    obtain ⟨W', z, rfl⟩ : ∃ W' z, W = W' ++ [z] := by
      have hne : W ≠ [] := fun e => by rw [e] at cw; exact absurd cw (by decide)
      exact ⟨W.dropLast, W.getLast hne, (List.dropLast_concat_getLast hne).symm⟩
    have M1 := hM.ex E
    have h1 := M1.hM
    have h2 := M1.hd
    rw [List.length_append, List.length_singleton] at hc hWl
    repeat wtm_at "te"
    refine TS_For_list (fun i a xs m' τ' => xs = (ns.filter fun o => decide (z ∈ nd o)).map sv ∧ a ≠ Wd ∧ m' "modules" = some (.ref M) ∧ m' "found" = some (.ref Fd) ∧ m' "work" = some (.ref Wd) ∧ Ex [] σ τ' ∧ ∃ (F' W2 : List Str), τ' Fd = some (.dict (F'.map fun y => (y, .bool true))) ∧ τ' Wd = some (.list (W2.map sv)) ∧ F'.Nodup ∧
      (∀ o ∈ F', o ∈ ns) ∧ (∀ P : Str → Prop, (∀ o ∈ ns, k ∈ nd o → P o) → (∀ z o, P z → o ∈ ns → z ∈ nd o → P o) → ∀ o ∈ F', P o) ∧ (∀ y ∈ W2, y = k ∨ y ∈ F') ∧ (∀ y ∈ F, y ∈ F') ∧ (∀ y ∈ W', y ∈ W2) ∧ (∀ y ∈ F', y ∈ F ∨ y ∈ W2) ∧
      (∀ o ∈ (ns.filter fun o => decide (z ∈ nd o)).take i, o ∈ F') ∧ W2.length + 2 * F.length ≤ W'.length + 2 * F'.length ∧ W2.length + F.length = W'.length + F'.length) ?_ ?_ ?_ (by decide) (by intros; rfl)
    · repeat wtm_at "te"
      have hWs : τ Wd = some (.list (W'.map sv ++ [sv z])) := by rw [hW, List.map_append]; rfl
      refine TC_pop hWs (by rw [List.length_map, sizeLine_eq]; omega) ?_
      have E2 : Ex [] σ (τ.upd Wd (.list (W'.map sv))) := E.upd_none (by simp) hWσ
      have M2 := hM.ex E2
      have hF2 : (τ.upd Wd (.list (W'.map sv))) Fd = some (.dict (F.map fun y => (y, .bool true))) := by rw [Store.upd_ne _ _ hne]; exact hF
      have hW2 : (τ.upd Wd (.list (W'.map sv))) Wd = some (.list (W'.map sv)) := Store.upd_self _ _ _
      generalize τ.upd Wd (.list (W'.map sv)) = τ2 at E2 M2 hF2 hW2
      repeat wtm_at "te"
      refine TCc.tc (clients_tc M2 fun τ3 D E3 hD hDn => ?_)
      exact ⟨D, _, rfl, hD, rfl, (ne_of_none hW2 hDn).symm, by wtm_at "nm", by wtm_at "nm", by wtm_at "nm", E2.trans E3, F, W', E3.of hF2, E3.of hW2, nF, sF, cF, fun y hy => wF y (List.mem_append_left _ hy), fun _ hy => hy, fun _ hy => hy, fun _ hy => .inl hy, fun _ hy => (by simp at hy), by omega, by omega⟩
    · rintro i a xs m' τ' v ha ⟨rfl, haW, n1, n2, n3, E2, F', W2, hF2, hW2, nF2, sF2, cF2, wF2, s1, s2, s3, s4, l1, l2⟩ hv
      rw [List.getElem?_map] at hv
      cases hki : (ns.filter fun o => decide (z ∈ nd o))[i]? with
      | none => rw [hki] at hv; cases hv
      | some o =>
      rw [hki] at hv
      obtain rfl := Option.some.inj hv
      obtain ⟨ho1, ho2⟩ := List.mem_filter.mp (List.mem_of_getElem? hki)
      have ho2 : z ∈ nd o := by simpa using ho2
      have hF2l : F'.length ≤ ns.length := nF2.length_le_of_subset sF2
      repeat wtm_at "te"
      refine P2_notIn_dict hF2 ?_
      rw [lookup_keys_iff (f := fun _ => .bool true)]
      refine ⟨_, rfl, ?_⟩
      refine if_ndec (fun c1 => ?_) (fun c1 => ?_)
      · repeat wtm_at "te"
        refine P3_dict hF2 (by rw [List.length_map, sizeLine_eq]; omega) ?_
        rw [put_new (f := fun _ => .bool true) c1]
        have hW3 : (τ'.upd Fd (.dict ((F' ++ [o]).map fun y => (y, .bool true)))) Wd = some (.list (W2.map sv)) := by rw [Store.upd_ne _ _ hne.symm]; exact hW2
        repeat wtm_at "te"
        refine TC_append hW3 (by rw [List.length_map, sizeLine_eq]; omega) ?_
        refine ⟨rfl, ?_⟩
        have haF : a ≠ Fd := ne_kd ha hF2 rfl
        repeat wtm_at "te"
        refine ⟨by rw [Store.upd_ne _ _ haW, Store.upd_ne _ _ haF]; exact ha, rfl, haW, by wtm_at "nm", by wtm_at "nm", by wtm_at "nm", (E2.upd_none (by simp) hFd).upd_none (by simp) hWσ, F' ++ [o], W2 ++ [o], by rw [Store.upd_ne _ _ hne, Store.upd_self], by rw [Store.upd_self, List.map_append]; rfl,
          nodup_snoc nF2 c1, fun y hy => ?_, fun P p1 p2 y hy => ?_, fun y hy => ?_, fun y hy => List.mem_append_left _ (s1 y hy), fun y hy => List.mem_append_left _ (s2 y hy), fun y hy => ?_, fun y hy => ?_, by simp only [List.length_append, List.length_singleton]; omega, by simp only [List.length_append, List.length_singleton]; omega⟩
        · rcases List.mem_append.mp hy with h | h
          · exact sF2 y h
          · rw [List.mem_singleton.mp h]; exact ho1
        · rcases List.mem_append.mp hy with h | h
          · exact cF2 P p1 p2 y h
          · rw [List.mem_singleton.mp h]
            rcases wF z (List.mem_append_right _ (List.mem_singleton_self _)) with rfl | hz
            · exact p1 o ho1 ho2
            · exact p2 z o (cF P p1 p2 z hz) ho1 ho2
        · rcases List.mem_append.mp hy with h | h
          · exact (wF2 y h).imp id (List.mem_append_left _)
          · exact .inr (List.mem_append_right _ h)
        · rcases List.mem_append.mp hy with h | h
          · exact (s3 y h).imp id (List.mem_append_left _)
          · exact .inr (List.mem_append_right _ h)
        · rw [List.take_add_one, hki] at hy
          rcases List.mem_append.mp hy with h | h
          · exact List.mem_append_left _ (s4 y h)
          · exact List.mem_append_right _ (by simpa using h)
      · repeat wtm_at "te"
        refine ⟨ha, rfl, haW, by wtm_at "nm", by wtm_at "nm", by wtm_at "nm", E2, F', W2, hF2, hW2, nF2, sF2, cF2, wF2, s1, s2, s3, fun y hy => ?_, l1, l2⟩
        rw [List.take_add_one, hki] at hy
        rcases List.mem_append.mp hy with h | h
        · exact s4 y h
        · rw [show y = o by simpa using h]; exact c1
    · rintro a xs m' τ' ha ⟨rfl, haW, n1, n2, n3, E2, F', W2, hF2, hW2, nF2, sF2, cF2, wF2, s1, s2, s3, s4, l1, l2⟩
      rw [List.length_map, List.take_length] at s4
      have hF2l : F'.length ≤ ns.length := nF2.length_le_of_subset sF2
      have hFF : F.length ≤ F'.length := nF.length_le_of_subset s1
      repeat wtm_at "te"
      refine ⟨W2.length + 2 * ns.length - 2 * F'.length, by omega, n1, n2, n3, E2, F', W2, hF2, hW2, nF2, sF2, cF2, wF2, fun y hy hn o ho1 ho2 => ?_, by omega, by omega⟩
      by_cases hyz : y = z
      · subst hyz
        exact s4 o (List.mem_filter.mpr ⟨ho1, by simpa using ho2⟩)
      · have hyF : y = k ∨ y ∈ F := by
          rcases hy with h | h
          · exact .inl h
          · exact (s3 y h).elim .inr fun h => absurd h hn
        refine s1 o (dF y hyF (fun hw => ?_) o ho1 ho2)
        rcases List.mem_append.mp hw with h | h
        · exact hn (s2 y h)
        · exact hyz (List.mem_singleton.mp h)
  · rw [List.length_map] at cw
    have hW0 : W = [] := List.length_eq_zero_iff.mp (by omega)
    subst hW0
    repeat wtm_at "te"
    refine TC_sorted_dict hF (by rw [List.length_map]; omega) fun D hD => ?_
    rw [fst_map]
    exact h _ D F (E.upd_new hD) (Store.upd_self _ _ _) nF sF cF (fun o h1 h2 => dF k (.inl rfl) (fun z => nomatch z) o h1 h2) (fun z hz o h1 h2 => dF z (.inr hz) (fun z => nomatch z) o h1 h2)
end
end

noncomputable section
theorem take_snoc {l : List Str} {i : Nat} {o : Str} (h : l[i]? = some o) : l.take (i + 1) = l.take i ++ [o] := by
  rw [List.take_add_one, h]; rfl
theorem not_in_take {l : List Str} {i : Nat} {o : Str} (nl : l.Nodup) (h : l[i]? = some o) : o ∉ l.take i := fun hm => by
  obtain ⟨j, hj, he⟩ := List.getElem_of_mem hm
  rw [List.length_take] at hj
  have hi : i < l.length := (List.getElem?_eq_some_iff.mp h).1
  have hj' : j < l.length := by omega
  have e1 : l[j]? = some o := by rw [List.getElem?_eq_getElem hj', ← he, List.getElem_take]
  have := (List.getElem?_inj hj' nl).mp (e1.trans h.symm)
  omega
noncomputable section
variable {x : Gx} {n : Nat} {σ : Store} {Q : Value → Store → Prop}
theorem modset_tc {sc : Addr} {ns : List Str} {nd : Str → List Str} {src : Str → Str} (hsc : σ sc = some (.dict (ns.map fun k => (k, sv (src k))))) (hup : UpS ns) (hnd : ns.Nodup) (hlen : ns.length ≤ 5) (hlens : ∀ k ∈ ns, (nd k).length ≤ 3)
    (hsrc : ∀ k ∈ ns, (src k).length ≤ 1000 ∧ headF (src k).cps.toList = some (nd k))
    (h : ∀ τ M dM sd I ad, Ex [] σ τ → Mod τ M dM sd I ns nd ad → Q (.ref M) τ) : TC x.gd false 11 (.ref 325) [.ref sc] σ Q := by
  refine TC_cls (fI := 288) rfl rfl rfl fun M d hM hd hMd => ?_
  refine TCc_fn (ps := [("self", .ref M), ("sources", .ref sc)]) rfl rfl (fun vs hvs S => ?_) rfl ⟨rfl, rfl⟩ ?_
  · obtain ⟨a, b, rfl, ha, hb⟩ := args2 hvs
    exact ⟨_, rfl, by rw [← ha, ← hb]; rfl⟩
  have E0 : Ex [] σ ((σ.upd d (.attrs [])).upd M (.inst 325 d)) := (Ex.refl.upd_none (by simp) hd).upd_none (by simp) hM
  have h1 : ((σ.upd d (.attrs [])).upd M (.inst 325 d)) M = some (.inst 325 d) := Store.upd_self _ _ _
  have h2 : ((σ.upd d (.attrs [])).upd M (.inst 325 d)) d = some (.attrs []) := by rw [Store.upd_ne _ _ hMd.symm]; exact Store.upd_self _ _ _
  generalize (σ.upd d (.attrs [])).upd M (.inst 325 d) = σ₁ at E0 h1 h2
  repeat wtm_at "te"
  refine TC_dict (E0.of hsc) (by rw [List.length_map, sizeLine_eq]; omega) fun sd hsd => ?_
  have E1 : Ex [] σ (σ₁.upd sd (.dict (ns.map fun k => (k, sv (src k))))) := E0.upd_new hsd
  have h3 : M ≠ sd := ne_of_none h1 hsd
  have h4 : d ≠ sd := ne_of_none h2 hsd
  have h1' : (σ₁.upd sd (.dict (ns.map fun k => (k, sv (src k))))) M = some (.inst 325 d) := by rw [Store.upd_ne _ _ h3]; exact h1
  have h2' : (σ₁.upd sd (.dict (ns.map fun k => (k, sv (src k))))) d = some (.attrs []) := by rw [Store.upd_ne _ _ h4]; exact h2
  generalize σ₁.upd sd (.dict (ns.map fun k => (k, sv (src k)))) = σ₂ at E1 h1' h2'
  repeat wtm_at "te"
  have E2 : Ex [] σ (σ₂.upd d (.attrs (put [] "sources" (.ref sd)))) := E1.upd_none (by simp) hd
  have h5 : (σ₂.upd d (.attrs (put [] "sources" (.ref sd)))) M = some (.inst 325 d) := by rw [Store.upd_ne _ _ hMd]; exact h1'
  have h6 : (σ₂.upd d (.attrs (put [] "sources" (.ref sd)))) d = some (.attrs [("sources", .ref sd)]) := Store.upd_self _ _ _
  generalize σ₂.upd d (.attrs (put [] "sources" (.ref sd))) = σ₃ at E2 h5 h6
  intro I hI
  have hIσ := E2.noneOf' hI
  have h7 : M ≠ I := ne_of_none h5 hI
  have h8 : d ≠ I := ne_of_none h6 hI
  repeat wtm_at "te"
  have E3 : Ex [] σ ((σ₃.upd I (.dict [])).upd d (.attrs (put [("sources", .ref sd)] "imports" (.ref I)))) := (E2.upd_new hI).upd_none (by simp) hd
  have h9 : ((σ₃.upd I (.dict [])).upd d (.attrs (put [("sources", .ref sd)] "imports" (.ref I)))) M = some (.inst 325 d) := by rw [Store.upd_ne _ _ hMd, Store.upd_ne _ _ h7]; exact h5
  have h10 : ((σ₃.upd I (.dict [])).upd d (.attrs (put [("sources", .ref sd)] "imports" (.ref I)))) d = some (.attrs [("sources", .ref sd), ("imports", .ref I)]) := Store.upd_self _ _ _
  have h11 : ((σ₃.upd I (.dict [])).upd d (.attrs (put [("sources", .ref sd)] "imports" (.ref I)))) I = some (.dict []) := by rw [Store.upd_ne _ _ h8.symm]; exact Store.upd_self _ _ _
  generalize (σ₃.upd I (.dict [])).upd d (.attrs (put [("sources", .ref sd)] "imports" (.ref I))) = σ₄ at E3 h9 h10 h11
  refine TS_For_list (fun i a xs m τ => xs = ns.map sv ∧ m "self" = some (.ref M) ∧ m "sources" = some (.ref sc) ∧ Ex [] σ τ ∧ τ M = some (.inst 325 d) ∧ τ d = some (.attrs [("sources", .ref sd), ("imports", .ref I)]) ∧
    ∃ ad : Str → Addr, τ I = some (.dict ((ns.take i).map fun k => (k, .ref (ad k)))) ∧ ∀ k ∈ ns.take i, τ (ad k) = some (.list ((nd k).map sv))) ?_ ?_ ?_ (by decide) (by intros; rfl)
  · repeat wtm_at "te"
    refine TC_sorted_dict (E3.of hsc) (by rw [List.length_map]; omega) fun D hD => ?_
    rw [fst_map, srt_of_up hup]
    have E4 : Ex [] σ₄ (σ₄.upd D (.list (ns.map sv))) := Ex.refl.upd_new hD
    exact ⟨D, _, rfl, Store.upd_self _ _ _, rfl, by wtm_at "nm", by wtm_at "nm", E3.trans E4, E4.of h9, E4.of h10, fun _ => 0, E4.of h11, fun _ z => nomatch z⟩
  · rintro i a xs m τ v ha ⟨rfl, m1, m2, E, e1, e2, ad, e3, e4⟩ hv
    rw [List.getElem?_map] at hv
    cases hki : ns[i]? with
    | none => rw [hki] at hv; cases hv
    | some o =>
    rw [hki] at hv
    obtain rfl := Option.some.inj hv
    have ho := List.mem_of_getElem? hki
    obtain ⟨g1, g2⟩ := hsrc o ho
    have hno := not_in_take hnd hki
    repeat wtm_at "te"
    refine PG_dict (E.of hsc) (lookup_keys ho) ?_
    repeat wtm_at "te"
    refine TC.le (TCc.tc (head_of_tc g1 g2 fun τ2 t dt L nm E2 ht hdt hL => ?_)) (by decide)
    have e1' := E2.of e1
    have e2' := E2.of e2
    repeat wtm_at "te"
    refine P3_dict (E2.of e3) (by rw [List.length_map, List.length_take, sizeLine_eq]; omega) ?_
    have hput : put ((ns.take i).map fun k => (k, Value.ref (ad k))) o (.ref L) = (ns.take (i + 1)).map fun k => (k, Value.ref (if k = o then L else ad k)) := by
      have e : ((ns.take i).map fun k => (k, Value.ref (ad k))) = (ns.take i).map fun k => (k, Value.ref (if k = o then L else ad k)) := List.map_congr_left fun k hk => by
        have hz : ¬ k = o := fun z => hno (z ▸ hk)
        rw [if_neg hz]
      rw [take_snoc hki, e]
      have := put_new (f := fun k => Value.ref (if k = o then L else ad k)) hno
      rw [if_pos rfl] at this
      exact this
    rw [hput]
    have hMI : M ≠ I := ne_kd e1 e3 rfl
    have hdI : d ≠ I := ne_kd e2 e3 rfl
    have haI : a ≠ I := ne_kd ha e3 rfl
    repeat wtm_at "te"
    refine ⟨by rw [Store.upd_ne _ _ haI]; exact E2.of ha, rfl, by wtm_at "nm", by wtm_at "nm", (E.trans E2).upd_none (by simp) hIσ, by rw [Store.upd_ne _ _ hMI]; exact e1', by rw [Store.upd_ne _ _ hdI]; exact e2', fun k => if k = o then L else ad k, Store.upd_self _ _ _, fun k hk => ?_⟩
    rw [take_snoc hki] at hk
    dsimp only
    by_cases hko : k = o
    · subst hko
      rw [if_pos rfl, Store.upd_ne _ _ (ne_kd hL (E2.of e3) rfl)]; exact hL
    · rw [if_neg hko]
      have hk' : k ∈ ns.take i := (List.mem_append.mp hk).resolve_right (by simpa using hko)
      rw [Store.upd_ne _ _ (ne_kd (e4 k hk') e3 rfl)]
      exact E2.of (e4 k hk')
  · rintro a xs m τ ha ⟨rfl, m1, m2, E, e1, e2, ad, e3, e4⟩
    rw [List.length_map, List.take_length] at e3 e4
    repeat wtm_at "te"
    exact ⟨rfl, h τ M d sd I ad E ⟨e1, e2, e3, e4, hup, hnd, hlen, hlens⟩⟩
end
end

noncomputable section
def stepF (ns : List Str) (nd : Str → List Str) (F : List Str) : List Str := match nxt ns nd F with
  | none => F
  | some k => F ++ [k]
noncomputable def itF (ns : List Str) (nd : Str → List Str) : Nat → List Str → List Str
  | 0, F => F
  | f + 1, F => itF ns nd f (stepF ns nd F)
theorem itF_none {ns : List Str} {nd : Str → List Str} {F : List Str} (h : nxt ns nd F = none) : ∀ f, itF ns nd f F = F
  | 0 => rfl
  | f + 1 => by
    have : stepF ns nd F = F := by unfold stepF; rw [h]
    unfold itF; rw [this]; exact itF_none h f
theorem ordF_it {ns : List Str} {nd : Str → List Str} : ∀ {f : Nat} {F : List Str}, ordF ns nd f F = itF ns nd f F
  | 0, F => rfl
  | f + 1, F => by
    unfold ordF
    cases h : nxt ns nd F with
    | none => rw [itF_none h]
    | some k =>
      have : stepF ns nd F = F ++ [k] := by unfold stepF; rw [h]
      unfold itF; rw [this]; exact ordF_it
def rdy (ns : List Str) (nd : Str → List Str) (F : List Str) (k : Str) : Bool := !decide (k ∈ F) && !decide (false ∈ (nd k).map fun one => decide (one ∈ F) || !decide (one ∈ ns))
theorem rdy_ready {ns : List Str} {nd : Str → List Str} {F : List Str} {k : Str} : rdy ns nd F k = ready ns nd F k := by
  unfold rdy ready
  congr 1
  rw [Bool.eq_iff_iff]
  simp only [Bool.not_eq_true', decide_eq_false_iff_not, List.all_eq_true, decide_eq_true_eq]
  constructor
  · intro h o ho
    obtain ⟨h1, h2⟩ := need_mem ho
    refine Decidable.byContradiction fun hn => h (List.mem_map.mpr ⟨o, h1, ?_⟩)
    rw [decide_eq_false hn, decide_eq_true h2]; rfl
  · intro h hm
    obtain ⟨o, h1, h2⟩ := List.mem_map.mp hm
    rw [Bool.or_eq_false_iff] at h2
    have ho : o ∈ ns := by simpa using h2.2
    have : o ∈ need ns nd k := by
      unfold need
      exact srt_perm.mem_iff.mpr (List.mem_filter.mpr ⟨h1, by simpa using ho⟩)
    have := h o this
    simp [this] at h2
theorem nxt_filter {ns : List Str} {nd : Str → List Str} {F : List Str} : nxt ns nd F = (ns.filter (rdy ns nd F)).head? := by
  unfold nxt
  rw [List.head?_filter, show rdy ns nd F = ready ns nd F from funext fun _ => rdy_ready]
/-- names, and the needs in a dict -/
structure Nb (σ : Store) (N B : Addr) (ns : List Str) (nd : Str → List Str) (bd : Str → Addr) : Prop where
  hN : σ N = some (.list (ns.map sv))
  hB : σ B = some (.dict (ns.map fun k => (k, .ref (bd k))))
  hL : ∀ k ∈ ns, σ (bd k) = some (.list ((nd k).map sv))
  up : UpS ns
  nodup : ns.Nodup
  len : ns.length ≤ 5
  lens : ∀ k ∈ ns, (nd k).length ≤ 3
theorem Nb.ex {σ τ : Store} {N B : Addr} {ns : List Str} {nd : Str → List Str} {bd : Str → Addr} (h : Nb σ N B ns nd bd) (E : Ex [] σ τ) : Nb τ N B ns nd bd :=
  ⟨E.of h.hN, E.of h.hB, fun k hk => E.of (h.hL k hk), h.up, h.nodup, h.len, h.lens⟩
def mapB (f : Str → Bool) : Value → Value
  | .str y _ => .bool (f y)
  | v => v
theorem map_mapB {f : Str → Bool} {l : List Str} : ((l.map sv).filter fun _ => true).map (mapB f) = (l.map f).map Value.bool := by
  rw [List.filter_eq_self.mpr (fun _ _ => rfl), List.map_map, List.map_map]; rfl
noncomputable section
variable {x : Gx} {n : Nat} {σ : Store} {Q : Value → Store → Prop} {N B : Addr} {ns : List Str} {nd : Str → List Str} {bd : Str → Addr}
theorem ordered_tc (hN : Nb σ N B ns nd bd) (h : ∀ τ D, Ex [] σ τ → τ D = some (.list ((ordF ns nd ns.length []).map sv)) → Q (.ref D) τ) : TCc x.gd 3 (.ref 369) [.ref N, .ref B] σ Q := by
  refine TCc_fn (ps := [("names", .ref N), ("needs_by", .ref B)]) rfl rfl (fun vs hvs S => ?_) rfl ⟨rfl, rfl⟩ ?_
  · obtain ⟨u, v, rfl, hu, hv⟩ := args2 hvs
    exact ⟨_, rfl, by rw [← hu, ← hv]; rfl⟩
  have hlen := hN.len
  have hsz : (ns.map sv).length ≤ sizeLine := by rw [List.length_map, sizeLine_eq]; omega
  repeat wtm_at "te"
  refine ⟨Nat.zero_le _, fun Fd hFd => ?_⟩
  have E0 : Ex [] σ (σ.upd Fd (.list [])) := Ex.refl.upd_new hFd
  repeat wtm_at "te"
  refine TS_For_range (fun i k m τ => k = ns.length ∧ m "names" = some (.ref N) ∧ m "needs_by" = some (.ref B) ∧ m "found" = some (.ref Fd) ∧ Ex [] σ τ ∧ ∃ F : List Str, τ Fd = some (.list (F.map sv)) ∧ F.Nodup ∧ (∀ o ∈ F, o ∈ ns) ∧ itF ns nd (ns.length - i) F = itF ns nd ns.length []) ?_ ?_ ?_ (by decide) (by intros; rfl)
  · repeat wtm_at "te"
    refine TC_len_list (E0.of hN.hN) hsz ?_
    repeat wtm_at "te"
    refine TC_range fun D hD => ?_
    have E1 : Ex [] (σ.upd Fd (.list [])) ((σ.upd Fd (.list [])).upd D (.range ((ns.map sv).length : Nat))) := Ex.refl.upd_new hD
    refine ⟨D, _, rfl, Store.upd_self _ _ _, by omega, by rw [List.length_map]; omega, by rw [List.length_map], by wtm_at "nm", by wtm_at "nm", by wtm_at "nm", E0.trans E1, [], E1.of (Store.upd_self _ _ _), List.nodup_nil, by simp, rfl⟩
  · rintro i k m τ hi ⟨rfl, m1, m2, m3, E, F, hF, nF, sF, hit⟩
    have N1 := hN.ex E
    have hFl : F.length ≤ ns.length := nF.length_le_of_subset sF
    repeat wtm_at "tx"
    refine TS_Assign_ListComp (onS (rdy ns nd F)) id ?_ (by decide) (by decide) (by decide) (by intros; rfl)
    repeat wtm_at "te"
    refine ⟨N, _, rfl, N1.hN, hsz, ⟨?_, ?_⟩, ?_⟩
    · intro v hv m' In
      obtain ⟨name, hname, rfl⟩ := List.mem_map.mp hv
      have t1 := In.targ
      have t2 : m' "found" = some (.ref Fd) := (In.rest _ (by decide)).trans (by wtm_at "nm")
      have t3 : m' "names" = some (.ref N) := (In.rest _ (by decide)).trans (by wtm_at "nm")
      have t4 : m' "needs_by" = some (.ref B) := (In.rest _ (by decide)).trans (by wtm_at "nm")
      repeat wtm_at "te"
      refine P2_notIn_list hF ?_
      refine ⟨_, rfl, ?_⟩
      refine if_ndec (fun c => ?_) (fun c => ?_)
      · repeat wtm_at "te"
        refine TE_ListComp (fun _ => true) (mapB fun one => decide (one ∈ F) || !decide (one ∈ ns)) ?_ (by decide) (by intros; rfl)
        repeat wtm_at "te"
        refine PG_dict N1.hB (lookup_keys hname) ?_
        have hlk := N1.lens name hname
        refine ⟨_, _, rfl, N1.hL name hname, by rw [List.length_map, sizeLine_eq]; omega, ⟨?_, ?_⟩, ?_⟩
        · intro v hv m'' In2; rfl
        · intro v hv hp m'' In2
          obtain ⟨one, hone, rfl⟩ := List.mem_map.mp hv
          have u1 := In2.targ
          have u2 : m'' "found" = some (.ref Fd) := (In2.rest _ (by decide)).trans (by wtm_at "nm")
          have u3 : m'' "names" = some (.ref N) := (In2.rest _ (by decide)).trans (by wtm_at "nm")
          repeat wtm_at "te"
          refine P2_in_list hF ?_
          refine ⟨_, rfl, ?_⟩
          refine if_dec (fun c1 => ?_) (fun c1 => ?_)
          · show _ = Value.bool (decide (one ∈ F) || !decide (one ∈ ns))
            rw [decide_eq_true c1]; rfl
          · repeat wtm_at "te"
            refine P2_notIn_list N1.hN ?_
            show _ = Value.bool (decide (one ∈ F) || !decide (one ∈ ns))
            rw [decide_eq_false c1]; rfl
        · intro D hD
          rw [map_mapB]
          refine P2_notIn_bools (Store.upd_self _ _ _) ?_
          refine ⟨_, rfl, ?_⟩
          refine if_b (fun c2 => ?_) (fun c2 => ?_)
          · repeat wtm_at "te"
            show _ = rdy ns nd F name
            unfold rdy
            rw [decide_eq_false c, c2]; rfl
          · show _ = rdy ns nd F name
            unfold rdy
            rw [decide_eq_false c, c2]; rfl
      · show _ = rdy ns nd F name
        unfold rdy
        rw [decide_eq_true c]; rfl
    · intro v hv hp m' In
      have t1 := In.targ
      repeat wtm_at "te"
      rfl
    · intro D hD
      rw [filter_sv]
      have E2 : Ex [] τ (τ.upd D (.list ((ns.filter (rdy ns nd F)).map sv))) := Ex.refl.upd_new hD
      have hnx := nxt_filter (ns := ns) (nd := nd) (F := F)
      have hF2 := E2.of hF
      have hstep : ns.length - i = (ns.length - (i + 1)) + 1 := by omega
      rw [hstep, itF] at hit
      have hDl : (τ.upd D (.list ((ns.filter (rdy ns nd F)).map sv))) D = some (.list ((ns.filter (rdy ns nd F)).map sv)) := Store.upd_self _ _ _
      have E02 := E.trans E2
      generalize τ.upd D (.list ((ns.filter (rdy ns nd F)).map sv)) = τ2 at E2 hF2 hDl E02
      repeat wtm_at "te"
      refine ⟨Nat.zero_le _, fun D2 hD2 => ?_⟩
      have E3 : Ex [] τ2 (τ2.upd D2 (.list [])) := Ex.refl.upd_new hD2
      refine P2_ne_list (xs := ns.filter (rdy ns nd F)) (ys := []) (E3.of hDl) (Store.upd_self _ _ _) ?_
      refine ⟨_, rfl, ?_⟩
      have hF3 := E3.of hF2
      have hD3 := E3.of hDl
      have E03 := E02.trans E3
      generalize τ2.upd D2 (.list []) = τ3 at E3 hF3 hD3 E03
      refine if_ndec (fun c => ?_) (fun c => ?_)
      · obtain ⟨o, r, hor⟩ : ∃ o r, ns.filter (rdy ns nd F) = o :: r := by
          cases hf : ns.filter (rdy ns nd F) with
          | nil => exact absurd hf c
          | cons o r => exact ⟨o, r, rfl⟩
        rw [hor] at hnx hD3
        have hnx : nxt ns nd F = some o := hnx
        obtain ⟨ho1, ho2, _⟩ := nxt_mem hnx
        repeat wtm_at "te"
        refine TC_append hF3 (by rw [List.length_map, sizeLine_eq]; omega) ?_
        refine ⟨rfl, ?_⟩
        repeat wtm_at "te"
        refine ⟨rfl, by wtm_at "nm", by wtm_at "nm", by wtm_at "nm", E03.upd_none (by simp) hFd, F ++ [o], by rw [Store.upd_self, List.map_append]; rfl, nodup_snoc nF ho2, fun y hy => ?_, ?_⟩
        · rcases List.mem_append.mp hy with h | h
          · exact sF y h
          · rw [List.mem_singleton.mp h]; exact ho1
        · rw [← hit]; unfold stepF; rw [hnx]
      · rw [c] at hnx
        have hnx : nxt ns nd F = none := hnx
        repeat wtm_at "te"
        refine ⟨rfl, by wtm_at "nm", by wtm_at "nm", by wtm_at "nm", E03, F, hF3, nF, sF, ?_⟩
        rw [← hit]; unfold stepF; rw [hnx]
  · rintro k m τ ⟨rfl, m1, m2, m3, E, F, hF, nF, sF, hit⟩
    repeat wtm_at "te"
    refine h τ Fd E ?_
    rw [hF, ordF_it, ← hit]
    have : ns.length - (ns.length : Int).toNat = 0 := by omega
    rw [this]; rfl
end
end

noncomputable section
/-! the texts that the law writes, scanned -/
def lst (x : Str) : List Nat := x.cps.toList
theorem lst_add {a b : Str} : lst (a ++ b) = lst a ++ lst b := by
  unfold lst
  show (a.cps ++ b.cps).toList = _
  rw [Array.toList_append]
theorem mk_lst {a : Str} : mk (lst a) = a := mk_of a
/-- X goes on with no sign of a word -/
def Off (X : List Nat) : Prop := ∃ k r, X = k :: r ∧ isAln k = false
structure Word (w : Str) : Prop where
  aln : (lst w).all isAln = true
  head : ∃ k r, lst w = k :: r ∧ isLet k = true
theorem word_take {l X : List Nat} (h : l.all isAln = true) (hX : Off X) : (l ++ X).takeWhile isAln = l ∧ (l ++ X).dropWhile isAln = X := by
  obtain ⟨k, r, rfl, hk⟩ := hX
  induction l with
  | nil => simp [hk]
  | cons a l ih =>
    rw [List.all_cons, Bool.and_eq_true] at h
    obtain ⟨h1, h2⟩ := ih h.2
    simp [List.takeWhile_cons, List.dropWhile_cons, h.1, h1, h2]
theorem let_props {k : Nat} (h : isLet k = true) : 32 < k ∧ k ≠ 40 := by
  unfold isLet at h
  simp only [Bool.or_eq_true, Bool.and_eq_true, decide_eq_true_eq] at h
  omega
theorem skip_stop {f k : Nat} {r : List Nat} (h : 32 < k ∧ k ≠ 40) : skipF (f + 1) (k :: r) = some (k :: r) := by
  unfold skipF
  have : ¬ pr (k :: r) = mk [40, 42] := by
    unfold pr; rw [mk_inj]
    intro z
    cases r with
    | nil => cases z
    | cons b r => simp only [List.take_succ_cons, List.take_zero, List.cons.injEq] at z; exact h.2 z.1
  rw [if_neg this]
  dsimp only
  rw [if_neg (by omega)]
/-- a stretch that is skipped whole -/
def Skips (s : List Nat) (c : Nat) : Prop := ∀ f Y, skipF (f + c) (s ++ Y) = skipF f Y
theorem Skips.nil : Skips [] 0 := fun _ _ => rfl
theorem Skips.one {k : Nat} (h : k ≤ 32) : Skips [k] 1 := fun f Y => by
  show skipF (f + 1) (k :: Y) = _
  rw [skipF]
  have : ¬ pr (k :: Y) = mk [40, 42] := by
    unfold pr; rw [mk_inj]
    intro z
    cases Y with
    | nil => cases z
    | cons b r => simp only [List.take_succ_cons, List.take_zero, List.cons.injEq] at z; omega
  rw [if_neg this]
  exact if_pos h
theorem Skips.app {s t : List Nat} {c d : Nat} (h : Skips s c) (h' : Skips t d) : Skips (s ++ t) (d + c) := fun f Y => by
  rw [List.append_assoc, ← Nat.add_assoc, h, h']
theorem Skips.rem {s : List Nat} (h : ∀ Y, Mine.rem 1 (s ++ Y) = some Y) : Skips (40 :: 42 :: s) 1 := fun f Y => by
  show skipF (f + 1) (40 :: 42 :: (s ++ Y)) = _
  rw [skipF, if_pos (by unfold pr; rfl)]
  show (Mine.rem 1 (s ++ Y)).bind _ = _
  rw [h]; rfl
theorem take_skip {s Y : List Nat} {c : Nat} (h : Skips s c) (hc : c ≤ 49) (hY : ∃ k r, Y = k :: r ∧ 32 < k ∧ k ≠ 40) : takeF (s ++ Y) = tokOf Y := by
  unfold takeF
  have := h (50 - c) Y
  rw [show 50 - c + c = 50 by omega] at this
  obtain ⟨k, r, rfl, hk⟩ := hY
  rw [this, show 50 - c = (49 - c) + 1 by omega, skip_stop hk]; rfl
theorem take_word {s X : List Nat} {c : Nat} {w : Str} (h : Skips s c) (hc : c ≤ 49) (hw : Word w) (hX : Off X) : takeF (s ++ (lst w ++ X)) = some (if w ∈ kws then (w, ("" : Str), X) else (("ident" : Str), w, X)) := by
  obtain ⟨k, r, hk, hl⟩ := hw.head
  obtain ⟨h1, h2⟩ := word_take hw.aln hX
  have hcons : lst w ++ X = k :: (r ++ X) := by rw [hk]; rfl
  rw [take_skip h hc ⟨k, r ++ X, hcons, let_props hl⟩]
  rw [hcons] at h1 h2 ⊢
  unfold tokOf
  dsimp only
  rw [if_pos hl, h1, h2, mk_lst]
theorem take_ident {s X : List Nat} {c : Nat} {w : Str} (h : Skips s c) (hc : c ≤ 49) (hw : Word w) (hk : w ∉ kws) (hX : Off X) : takeF (s ++ (lst w ++ X)) = some (("ident" : Str), w, X) := by
  rw [take_word h hc hw hX, if_neg hk]
theorem take_key {s X : List Nat} {c : Nat} {w : Str} (h : Skips s c) (hc : c ≤ 49) (hw : Word w) (hk : w ∈ kws) (hX : Off X) : takeF (s ++ (lst w ++ X)) = some (w, ("" : Str), X) := by
  rw [take_word h hc hw hX, if_pos hk]
theorem take_comma {s X : List Nat} {c : Nat} (h : Skips s c) (hc : c ≤ 49) : takeF (s ++ 44 :: X) = some (("," : Str), ("" : Str), X) := by
  rw [take_skip h hc ⟨44, X, rfl, by decide⟩]; rfl
theorem take_semi {s X : List Nat} {c : Nat} (h : Skips s c) (hc : c ≤ 49) : takeF (s ++ 59 :: X) = some ((";" : Str), ("" : Str), X) := by
  rw [take_skip h hc ⟨59, X, rfl, by decide⟩]; rfl
theorem take_gets {s X : List Nat} {c : Nat} (h : Skips s c) (hc : c ≤ 49) : takeF (s ++ 58 :: 61 :: X) = some ((":=" : Str), ("" : Str), X) := by
  rw [take_skip h hc ⟨58, 61 :: X, rfl, by decide⟩]; rfl
/-- a name that may be imported -/
structure Name (w : Str) : Prop where
  word : Word w
  nk : w ∉ kws
  ne : w ≠ ""
  len : w.length ≤ 3
theorem Name.mk' {w : Str} (h : ((lst w).all isAln && (match lst w with | k :: _ => isLet k | [] => false) && !decide (w ∈ kws) && !decide (w = "") && decide (w.length ≤ 3)) = true) : Name w := by
  simp only [Bool.and_eq_true, decide_eq_true_eq, Bool.not_eq_true', decide_eq_false_iff_not] at h
  obtain ⟨⟨⟨⟨h1, h2⟩, h3⟩, h4⟩, h5⟩ := h
  refine ⟨⟨h1, ?_⟩, h3, h4, h5⟩
  cases hl : lst w with
  | nil => rw [hl] at h2; cases h2
  | cons k r => rw [hl] at h2; exact ⟨k, r, rfl, h2⟩
theorem name_A : Name "A" := .mk' (by decide +kernel)
theorem name_B : Name "B" := .mk' (by decide +kernel)
theorem name_C : Name "C" := .mk' (by decide +kernel)
theorem name_D : Name "D" := .mk' (by decide +kernel)
theorem name_E : Name "E" := .mk' (by decide +kernel)
theorem name_Out : Name "Out" := .mk' (by decide +kernel)
theorem name_Q : Name "Q" := .mk' (by decide +kernel)
theorem name_al : Name "al" := .mk' (by decide +kernel)
theorem name_b1 : Name "b1" := .mk' (by decide +kernel)
theorem gets_ne : ¬ ((":=" : Str) = ",") := by decide
/-- one item read: an alias or none, and the name -/
theorem item_read {s X r' : List Nat} {c f : Nat} {al w k' v' : Str} {acc : List Str} (h : Skips s c) (hc : c ≤ 49) (ha : al = "" ∨ al = "al := " ∨ al = "b1:=") (hw : Name w) (hX : Off X) (ht : takeF X = some (k', v', r')) (hk : k' ≠ ":=") :
    namesF (f + 1) acc (s ++ (lst al ++ (lst w ++ X))) = if k' = "," then namesF f (if w ∈ acc then acc else acc ++ [w]) r' else some (if w ∈ acc then acc else acc ++ [w]) := by
  rcases ha with rfl | rfl | rfl
  · have e1 : takeF (s ++ (lst ("" : Str) ++ (lst w ++ X))) = some (("ident" : Str), w, X) := take_ident h hc hw.word hw.nk hX
    have e2 : impF w X = some (w, k', r') := by unfold impF; rw [ht]; dsimp only; rw [if_neg hk]
    rw [namesF]
    rw [e1]; dsimp only
    rw [if_pos rfl, e2]; dsimp only
    rw [if_neg hw.ne]
  · have l0 : lst ("al := " : Str) = lst "al" ++ [32, 58, 61, 32] := by decide
    have e1 : takeF (s ++ (lst ("al := " : Str) ++ (lst w ++ X))) = some (("ident" : Str), ("al" : Str), [32, 58, 61, 32] ++ (lst w ++ X)) := by
      rw [l0, List.append_assoc]
      exact take_ident h hc name_al.word name_al.nk ⟨32, _, rfl, rfl⟩
    have e3 : takeF ([32, 58, 61, 32] ++ (lst w ++ X)) = some ((":=" : Str), ("" : Str), [32] ++ (lst w ++ X)) := take_gets (s := [32]) (Skips.one (by decide)) (by decide)
    have e4 : takeF ([32] ++ (lst w ++ X)) = some (("ident" : Str), w, X) := take_ident (Skips.one (by decide)) (by decide) hw.word hw.nk hX
    have e2 : impF "al" ([32, 58, 61, 32] ++ (lst w ++ X)) = some (w, k', r') := by
      unfold impF; rw [e3]; dsimp only
      rw [if_pos rfl, e4]; dsimp only
      rw [if_pos rfl, ht]
    rw [namesF]
    rw [e1]; dsimp only
    rw [if_pos rfl, e2]; dsimp only
    rw [if_neg hw.ne]
  · have l0 : lst ("b1:=" : Str) = lst "b1" ++ [58, 61] := by decide
    have e1 : takeF (s ++ (lst ("b1:=" : Str) ++ (lst w ++ X))) = some (("ident" : Str), ("b1" : Str), [58, 61] ++ (lst w ++ X)) := by
      rw [l0, List.append_assoc]
      exact take_ident h hc name_b1.word name_b1.nk ⟨58, _, rfl, rfl⟩
    have e3 : takeF ([58, 61] ++ (lst w ++ X)) = some ((":=" : Str), ("" : Str), [] ++ (lst w ++ X)) := take_gets (s := []) Skips.nil (by decide)
    have e4 : takeF ([] ++ (lst w ++ X)) = some (("ident" : Str), w, X) := take_ident Skips.nil (by decide) hw.word hw.nk hX
    have e2 : impF "b1" ([58, 61] ++ (lst w ++ X)) = some (w, k', r') := by
      unfold impF; rw [e3]; dsimp only
      rw [if_pos rfl, e4]; dsimp only
      rw [if_pos rfl, ht]
    rw [namesF]
    rw [e1]; dsimp only
    rw [if_pos rfl, e2]; dsimp only
    rw [if_neg hw.ne]
/-- a text of j items that reads as the row -/
def Reads' (T : List Nat) (R : List Str) (j : Nat) : Prop := ∀ s c X k' v' r' f, Skips s c → c ≤ 40 → Off X → takeF X = some (k', v', r') → k' ≠ ":=" → namesF (f + j) [] (s ++ (T ++ X)) = if k' = "," then namesF f R r' else some R
def rowAdd (R : List Str) (w : Str) : List Str := if w ∈ R then R else R ++ [w]
theorem Reads'.first {al w : Str} (ha : al = "" ∨ al = "al := " ∨ al = "b1:=") (hw : Name w) : Reads' (lst al ++ lst w) (rowAdd [] w) 1 := fun s c X k' v' r' f h hc hX ht hk => by
  rw [List.append_assoc]
  exact item_read h (by omega) ha hw hX ht hk
theorem Reads'.more {T : List Nat} {R : List Str} {j : Nat} {sep al w : Str} (hT : Reads' T R j) (hs : sep = "," ∨ sep = " , " ∨ sep = ",(* x, y *)") (ha : al = "" ∨ al = "al := " ∨ al = "b1:=") (hw : Name w) :
    Reads' (T ++ (lst sep ++ lst al ++ lst w)) (rowAdd R w) (j + 1) := fun s c X k' v' r' f h hc hX ht hk => by
  obtain ⟨t, d, hd1, hd2, hsep, hoff⟩ : ∃ t d, Skips t d ∧ d ≤ 40 ∧ (∀ Y, takeF (lst sep ++ Y) = some (("," : Str), ("" : Str), t ++ Y)) ∧ ∀ Y, Off (lst sep ++ Y) := by
    rcases hs with rfl | rfl | rfl
    · exact ⟨[], 0, Skips.nil, by decide, fun Y => take_comma (s := []) Skips.nil (by decide), fun Y => ⟨44, Y, rfl, rfl⟩⟩
    · exact ⟨[32], 1, Skips.one (by decide), by decide, fun Y => take_comma (s := [32]) (X := 32 :: Y) (Skips.one (by decide)) (by decide), fun Y => ⟨32, _, rfl, rfl⟩⟩
    · have l0 : lst (",(* x, y *)" : Str) = 44 :: 40 :: 42 :: [32, 120, 44, 32, 121, 32, 42, 41] := by decide
      refine ⟨40 :: 42 :: [32, 120, 44, 32, 121, 32, 42, 41], 1, Skips.rem fun Y => by simp [Mine.rem], by decide, fun Y => ?_, fun Y => ?_⟩
      · rw [l0]; exact take_comma (s := []) Skips.nil (by decide)
      · rw [l0]; exact ⟨44, _, rfl, rfl⟩
  have e1 := hT s c (lst sep ++ (lst al ++ (lst w ++ X))) "," "" (t ++ (lst al ++ (lst w ++ X))) (f + 1) h hc (hoff _) (hsep _) (by decide)
  rw [if_pos rfl] at e1
  have e2 : T ++ (lst sep ++ lst al ++ lst w) ++ X = T ++ (lst sep ++ (lst al ++ (lst w ++ X))) := by simp only [List.append_assoc]
  rw [e2, show f + (j + 1) = f + 1 + j by omega, e1]
  exact item_read hd1 (by omega) ha hw hX ht hk
def preC : List Nat := (40 :: 42 :: [32, 77, 79, 68, 85, 76, 69, 32, 90, 59, 32, 73, 77, 80, 79, 82, 84, 32, 65, 59, 32, 42, 41]) ++ [32]
theorem preC_skips : Skips preC 2 := by
  have h1 : Skips (40 :: 42 :: [32, 77, 79, 68, 85, 76, 69, 32, 90, 59, 32, 73, 77, 80, 79, 82, 84, 32, 65, 59, 32, 42, 41]) 1 := Skips.rem fun Y => by simp [Mine.rem]
  exact h1.app (Skips.one (k := 32) (by decide))
theorem preC_is : lst ("(* MODULE Z; IMPORT A; *) MODULE\n" : Str) = preC ++ (lst "MODULE" ++ [10]) := by decide +kernel
/-- the whole texts -/
theorem head_start {hk nm : Str} {Y : List Nat} (h : hk = "MODULE " ∨ hk = "(* MODULE Z; IMPORT A; *) MODULE\n" ∨ hk = "MODULE  ") (hn : Name nm) :
    headF (lst hk ++ (lst nm ++ 59 :: Y)) = match takeF Y with | none => none | some (k4, _, r4) => if k4 = "IMPORT" then namesF 10 [] r4 else some [] := by
  have wM : Word "MODULE" := ⟨by decide, 77, _, rfl, rfl⟩
  have kM : ("MODULE" : Str) ∈ kws := by decide
  obtain ⟨t, d, hd1, hd2, ht⟩ : ∃ t d, Skips t d ∧ d ≤ 40 ∧ ∀ Z, takeF (lst hk ++ Z) = some (("MODULE" : Str), ("" : Str), t ++ Z) := by
    rcases h with rfl | rfl | rfl
    · have l0 : lst ("MODULE " : Str) = lst "MODULE" ++ [32] := by decide
      refine ⟨[32], 1, Skips.one (by decide), by decide, fun Z => ?_⟩
      rw [l0, List.append_assoc]
      exact take_key (s := []) Skips.nil (by decide) wM kM ⟨32, _, rfl, rfl⟩
    · refine ⟨[10], 1, Skips.one (by decide), by decide, fun Z => ?_⟩
      rw [preC_is, List.append_assoc, List.append_assoc]
      exact take_key preC_skips (by decide) wM kM ⟨10, _, rfl, rfl⟩
    · have l0 : lst ("MODULE  " : Str) = lst "MODULE" ++ [32, 32] := by decide
      refine ⟨[32] ++ [32], 2, (Skips.one (by decide)).app (Skips.one (by decide)), by decide, fun Z => ?_⟩
      rw [l0, List.append_assoc]
      exact take_key (s := []) Skips.nil (by decide) wM kM ⟨32, _, rfl, rfl⟩
  unfold headF
  rw [ht]; dsimp only
  rw [if_pos rfl, take_ident hd1 (by omega) hn.word hn.nk ⟨59, _, rfl, rfl⟩]; dsimp only
  rw [if_pos rfl, show takeF (59 :: Y) = some ((";" : Str), ("" : Str), Y) from take_semi (s := []) Skips.nil (by decide)]; dsimp only
  rw [if_pos rfl]
  all_goals rfl
theorem head_plain {hk nm : Str} {Y : List Nat} (h : hk = "MODULE " ∨ hk = "(* MODULE Z; IMPORT A; *) MODULE\n" ∨ hk = "MODULE  ") (hn : Name nm) : headF (lst hk ++ (lst nm ++ 59 :: (lst " BEGIN END " ++ Y))) = some [] := by
  have wB : Word "BEGIN" := ⟨by decide, 66, _, rfl, rfl⟩
  have kB : ("BEGIN" : Str) ∈ kws := by decide
  have l0 : lst (" BEGIN END " : Str) = [32] ++ (lst "BEGIN" ++ [32, 69, 78, 68, 32]) := by decide
  rw [head_start h hn, l0, List.append_assoc, List.append_assoc, take_key (X := [32, 69, 78, 68, 32] ++ Y) (Skips.one (by decide)) (by decide) wB kB ⟨32, _, rfl, rfl⟩]
  dsimp only
  rw [if_neg (by decide)]
theorem head_imports {hk nm ik : Str} {T Y : List Nat} {R : List Str} {j : Nat} (h : hk = "MODULE " ∨ hk = "(* MODULE Z; IMPORT A; *) MODULE\n" ∨ hk = "MODULE  ") (hn : Name nm) (hi : ik = "\n IMPORT " ∨ ik = "IMPORT\n" ∨ ik = " IMPORT ") (hT : Reads' T R j) (hj : j ≤ 10) :
    headF (lst hk ++ (lst nm ++ 59 :: (lst ik ++ (T ++ 59 :: Y)))) = some R := by
  have wI : Word "IMPORT" := ⟨by decide, 73, _, rfl, rfl⟩
  have kI : ("IMPORT" : Str) ∈ kws := by decide
  obtain ⟨t, d, hd1, hd2, ht⟩ : ∃ t d, Skips t d ∧ d ≤ 40 ∧ ∀ Z, takeF (lst ik ++ Z) = some (("IMPORT" : Str), ("" : Str), t ++ Z) := by
    rcases hi with rfl | rfl | rfl
    · have l0 : lst ("\n IMPORT " : Str) = ([10] ++ [32]) ++ (lst "IMPORT" ++ [32]) := by decide
      refine ⟨[32], 1, Skips.one (by decide), by decide, fun Z => ?_⟩
      rw [l0, List.append_assoc, List.append_assoc]
      exact take_key ((Skips.one (by decide)).app (Skips.one (by decide))) (by decide) wI kI ⟨32, _, rfl, rfl⟩
    · have l0 : lst ("IMPORT\n" : Str) = lst "IMPORT" ++ [10] := by decide
      refine ⟨[10], 1, Skips.one (by decide), by decide, fun Z => ?_⟩
      rw [l0, List.append_assoc]
      exact take_key (s := []) Skips.nil (by decide) wI kI ⟨10, _, rfl, rfl⟩
    · have l0 : lst (" IMPORT " : Str) = [32] ++ (lst "IMPORT" ++ [32]) := by decide
      refine ⟨[32], 1, Skips.one (by decide), by decide, fun Z => ?_⟩
      rw [l0, List.append_assoc, List.append_assoc]
      exact take_key (Skips.one (by decide)) (by decide) wI kI ⟨32, _, rfl, rfl⟩
  rw [head_start h hn, ht]
  dsimp only
  rw [if_pos rfl]
  have := hT t d (59 :: Y) ";" "" Y (10 - j) hd1 hd2 ⟨59, _, rfl, rfl⟩ (take_semi (s := []) Skips.nil (by decide)) (by decide)
  rw [show 10 - j + j = 10 by omega] at this
  rw [this, if_neg (by decide)]
end

noncomputable section
def five : List Str := ["A", "B", "C", "D", "E"]
structure LS (σ : Store) (H C N B Sc : Addr) (ns : List Str) (i : Nat) (nd : Str → List Str) (bd : Str → Addr) (src : Str → Str) (τ : Store) : Prop where
  E : Ex [H] σ τ
  hand : Hand τ H C
  hN : τ N = some (.list (ns.map sv))
  hB : τ B = some (.dict ((ns.take i).map fun k => (k, .ref (bd k))))
  hSc : τ Sc = some (.dict ((ns.take i).map fun k => (k, sv (src k))))
  hL : ∀ k ∈ ns.take i, τ (bd k) = some (.list ((nd k).map sv))
  ok : ∀ k ∈ ns.take i, (nd k).length ≤ 3 ∧ (src k).length ≤ 1000 ∧ headF (lst (src k)) = some (nd k)
  nB : σ B = none
  nSc : σ Sc = none
  BSc : B ≠ Sc
  NH : N ≠ H
  bH : ∀ k ∈ ns.take i, bd k ≠ H
  len : ns.length ≤ 5
structure IS (σ : Store) (H C N B Sc : Addr) (ns : List Str) (i : Nat) (nd : Str → List Str) (bd : Str → Addr) (src : Str → Str) (R : Addr) (Rw : List Str) (τ : Store) : Prop where
  ls : LS σ H C N B Sc ns i nd bd src τ
  hR : τ R = some (.list (Rw.map sv))
  nR : σ R = none
  RN : R ≠ N
  RH : R ≠ H
  RC : R ≠ C
  Rb : ∀ k ∈ ns.take i, R ≠ bd k
noncomputable section
variable {σ : Store} {H C N B Sc R : Addr} {ns : List Str} {i : Nat} {nd : Str → List Str} {bd : Str → Addr} {src : Str → Str} {Rw : List Str} {τ τ' : Store}
theorem LS.keep {X : List Addr} (h : LS σ H C N B Sc ns i nd bd src τ) (E' : Ex X τ τ') (hand' : Hand τ' H C) (hX : ∀ a ∈ X, (a = H ∨ σ a = none) ∧ a ≠ N ∧ a ≠ B ∧ a ≠ Sc ∧ ∀ k ∈ ns.take i, a ≠ bd k) : LS σ H C N B Sc ns i nd bd src τ' := by
  refine ⟨fun b o hb e => ?_, hand', E' _ _ (fun z => (hX _ z).2.1 rfl) h.hN, E' _ _ (fun z => (hX _ z).2.2.1 rfl) h.hB, E' _ _ (fun z => (hX _ z).2.2.2.1 rfl) h.hSc, fun k hk => E' _ _ (fun z => (hX _ z).2.2.2.2 k hk rfl) (h.hL k hk), h.ok, h.nB, h.nSc, h.BSc, h.NH, h.bH, h.len⟩
  refine E' b o (fun z => ?_) (h.E b o hb e)
  rcases (hX b z).1 with rfl | hn
  · exact hb (List.mem_singleton_self _)
  · rw [hn] at e; cases e
theorem LS.grow (h : LS σ H C N B Sc ns i nd bd src τ) (E' : Ex [] τ τ') : LS σ H C N B Sc ns i nd bd src τ' :=
  h.keep E' (h.hand.ex E' (by simp) (by simp)) (fun _ z => nomatch z)
theorem LS.pick {o : AO} (h : LS σ H C N B Sc ns i nd bd src τ) (hand' : Hand (τ.upd H o) H C) : LS σ H C N B Sc ns i nd bd src (τ.upd H o) := by
  obtain ⟨xs, hH⟩ := h.hand.at
  refine h.keep (X := [H]) (Ex.refl.upd_in (by simp)) hand' fun a ha => ?_
  rw [List.mem_singleton.mp ha]
  exact ⟨.inl rfl, h.NH.symm, ne_kd hH h.hB rfl, ne_kd hH h.hSc rfl, fun k hk => (h.bH k hk).symm⟩
theorem IS.grow (h : IS σ H C N B Sc ns i nd bd src R Rw τ) (E' : Ex [] τ τ') : IS σ H C N B Sc ns i nd bd src R Rw τ' := ⟨h.ls.grow E', E'.of h.hR, h.nR, h.RN, h.RH, h.RC, h.Rb⟩
theorem IS.pick {o : AO} (h : IS σ H C N B Sc ns i nd bd src R Rw τ) (hand' : Hand (τ.upd H o) H C) : IS σ H C N B Sc ns i nd bd src R Rw (τ.upd H o) :=
  ⟨h.ls.pick hand', by rw [Store.upd_ne _ _ h.RH]; exact h.hR, h.nR, h.RN, h.RH, h.RC, h.Rb⟩
theorem IS.row {Rw' : List Str} (h : IS σ H C N B Sc ns i nd bd src R Rw τ) : IS σ H C N B Sc ns i nd bd src R Rw' (τ.upd R (.list (Rw'.map sv))) := by
  have E' : Ex [R] τ (τ.upd R (.list (Rw'.map sv))) := Ex.refl.upd_in (by simp)
  refine ⟨h.ls.keep E' (h.ls.hand.ex E' (by simpa using h.RH.symm) (by simpa using h.RC.symm)) fun a ha => ?_, Store.upd_self _ _ _, h.nR, h.RN, h.RH, h.RC, h.Rb⟩
  rw [List.mem_singleton.mp ha]
  exact ⟨.inr h.nR, h.RN, ne_kd h.hR h.ls.hB rfl, ne_kd h.hR h.ls.hSc rfl, h.Rb⟩
end
noncomputable section
variable {x : Gx} {n : Nat} {σ : Store} {Q : Value → Store → Prop} {H C N B Sc R : Addr} {ns : List Str} {i : Nat} {nd : Str → List Str} {bd : Str → Addr} {src : Str → Str} {Rw : List Str} {τ : Store}
theorem pick_ls {L : Int} (h : LS σ H C N B Sc ns i nd bd src τ) (h1 : 1 ≤ L) (h2 : L ≤ 100) (k : ∀ (d : Nat) τ', (d : Int) < L → Ex [H] τ τ' → LS σ H C N B Sc ns i nd bd src τ' → Q (.int (d : Nat) 0) τ') : TC x.gd false 2 (.ref 357) [.ref H, .int L 0] τ Q :=
  TCc.tc (pick_tc h.hand h1 h2 fun d o d1 d2 hd => by
    obtain ⟨e, rfl⟩ := Int.eq_ofNat_of_zero_le d1
    exact k e _ d2 (Ex.refl.upd_in (by simp)) (h.pick hd))
theorem pick_is {L : Int} (h : IS σ H C N B Sc ns i nd bd src R Rw τ) (h1 : 1 ≤ L) (h2 : L ≤ 100) (k : ∀ (d : Nat) τ', (d : Int) < L → Ex [H] τ τ' → IS σ H C N B Sc ns i nd bd src R Rw τ' → Q (.int (d : Nat) 0) τ') : TC x.gd false 2 (.ref 357) [.ref H, .int L 0] τ Q :=
  TCc.tc (pick_tc h.ls.hand h1 h2 fun d o d1 d2 hd => by
    obtain ⟨e, rfl⟩ := Int.eq_ofNat_of_zero_le d1
    exact k e _ d2 (Ex.refl.upd_in (by simp)) (h.pick hd))
theorem PG_strs {a : Addr} {l : List Str} {d n : Nat} (ha : τ a = some (.list (l.map sv))) (hd : d < l.length) (hl : l.length ≤ 1000) (h : Q (sv (gs l d)) τ) : PG x.gd false n (.ref a) (.int (d : Nat) 0) τ Q := by
  refine PG_list ha (by omega) (by omega) (v := sv (gs l d)) ?_ h
  rw [List.getElem?_map, show ((d : Int)).toNat = d by omega, gs_some hd]; rfl
theorem str_add {a b : Str} : (a ++ b).length = a.length + b.length := by
  have h : ∀ y : Str, y.length = (lst y).length := fun y => by unfold lst Str.length; simp
  rw [h, h a, h b, lst_add, List.length_append]
theorem str_ne {a : Str} (h : 0 < a.length) : a ≠ "" := fun z => by rw [z] at h; exact absurd h (by decide)
theorem str_pos {a : Str} (h : a ≠ "") : 0 < a.length := by
  refine Nat.pos_of_ne_zero fun z => h ?_
  have : lst a = [] := List.length_eq_zero_iff.mp (by have e : a.length = (lst a).length := by unfold lst Str.length; simp
                                                      omega)
  rw [← mk_lst (a := a), this]; decide
theorem rowAdd_len {R : List Str} {w : Str} : (rowAdd R w).length ≤ R.length + 1 := by
  unfold rowAdd
  split
  · omega
  · rw [List.length_append]; exact Nat.le_refl _
theorem five_names : ∀ w ∈ five, Name w := by
  intro w hw
  simp only [five, List.mem_cons, List.not_mem_nil, or_false] at hw
  rcases hw with rfl | rfl | rfl | rfl | rfl
  · exact name_A
  · exact name_B
  · exact name_C
  · exact name_D
  · exact name_E
/-- the other name chosen -/
theorem sources_tc (hH : Hand σ H C) (hCH : C ≠ H) (h : ∀ τ T N B Sc ns nd bd (src : Str → Str), Ex [H] σ τ → τ T = some (.tup [.ref N, .ref B, .ref Sc]) → Nb τ N B ns nd bd → τ Sc = some (.dict (ns.map fun k => (k, sv (src k)))) →
    (∀ k ∈ ns, (src k).length ≤ 1000 ∧ headF (src k).cps.toList = some (nd k)) → Q (.ref T) τ) : TCc x.gd 3 (.ref 364) [.ref H] σ Q := by
  refine TCc_fn (ps := [("hand", .ref H)]) rfl rfl (fun vs hvs S => ?_) rfl ⟨rfl, rfl⟩ ?_
  · obtain ⟨u, rfl, hu⟩ := args1 hvs
    exact ⟨_, rfl, by rw [← hu]; rfl⟩
  obtain ⟨xs, hHl⟩ := hH.at
  obtain ⟨ys, hCl⟩ := hH.cells
  repeat wtm_at "te"
  refine ⟨(by decide : 5 ≤ sizeLine), fun a ha => ?_⟩
  rw [show ([sv "A", sv "B", sv "C", sv "D", sv "E"] : List Value) = five.map sv from rfl]
  have E1 : Ex [] σ (σ.upd a (.list (five.map sv))) := Ex.refl.upd_new ha
  have haH : a ≠ H := (ne_of_none hHl ha).symm
  have hH1 := hH.ex E1 (by simp) (by simp)
  repeat wtm_at "te"
  refine TCc.tc (pick_tc hH1 (by decide) (by decide) fun d o d1 d2 hH2 => ?_)
  obtain ⟨d, rfl⟩ := Int.eq_ofNat_of_zero_le d1
  have E2 : Ex [H] σ ((σ.upd a (.list (five.map sv))).upd H o) := E1.wide.upd_in (by simp)
  have ha2 : ((σ.upd a (.list (five.map sv))).upd H o) a = some (.list (five.map sv)) := by rw [Store.upd_ne _ _ haH]; exact Store.upd_self _ _ _
  generalize (σ.upd a (.list (five.map sv))).upd H o = τ2 at E2 ha2 hH2
  repeat wtm_at "te"
  rw [show (1 + ((d : Nat) : Int)) = ((1 + d : Nat) : Int) by omega]
  refine PSl_upto ha2 (by decide) fun N hN => ?_
  rw [← List.map_take]
  have hns5 : (five.take (1 + d)).length = 1 + d := by rw [List.length_take]; show min _ 5 = _; omega
  have hup : UpS (five.take (1 + d)) := by
    have : UpS five := by unfold UpS; decide
    exact this.sublist (List.take_sublist ..)
  have hnod : (five.take (1 + d)).Nodup := by
    have : five.Nodup := by decide
    exact this.sublist (List.take_sublist ..)
  have hnm : ∀ w ∈ five.take (1 + d), Name w := fun w hw => five_names w (List.mem_of_mem_take hw)
  generalize five.take (1 + d) = ns at hns5 hup hnod hnm
  have hH3' := hH2.at
  obtain ⟨xs2, hHl2⟩ := hH3'
  have hNH : N ≠ H := (ne_of_none hHl2 hN).symm
  have E3 : Ex [H] σ (τ2.upd N (.list (ns.map sv))) := E2.upd_new hN
  have hH3 := hH2.ex (Ex.refl.upd_new (X := []) (o := .list (ns.map sv)) hN) (by simp) (by simp)
  have hN3 : (τ2.upd N (.list (ns.map sv))) N = some (.list (ns.map sv)) := Store.upd_self _ _ _
  generalize τ2.upd N (.list (ns.map sv)) = τ3 at E3 hH3 hN3
  repeat wtm_at "te"
  intro B hB
  repeat wtm_at "te"
  intro Sc hSc
  have hBH : ∀ {b : Addr} {υ : Store}, υ b = none → Hand υ H C → b ≠ H := fun hb hh => by
    obtain ⟨zs, hz⟩ := hh.at
    exact (ne_of_none hz hb).symm
  have nB : σ B = none := E3.noneOf hB (by simpa using hBH hB hH3)
  have E4 : Ex [H] σ (τ3.upd B (.dict [])) := E3.upd_new hB
  have hH4 := hH3.ex (Ex.refl.upd_new (X := []) (o := .dict []) hB) (by simp) (by simp)
  have nSc : σ Sc = none := E4.noneOf hSc (by simpa using hBH hSc hH4)
  have hBS : B ≠ Sc := fun z => by rw [← z, Store.upd_self] at hSc; cases hSc
  have hNB : N ≠ B := ne_of_none hN3 hB
  have L0 : LS σ H C N B Sc ns 0 (fun _ => []) (fun _ => 0) (fun _ => "") ((τ3.upd B (.dict [])).upd Sc (.dict [])) := by
    refine ⟨E4.upd_new hSc, hH4.ex (Ex.refl.upd_new (X := []) (o := .dict []) hSc) (by simp) (by simp), ?_, ?_, Store.upd_self _ _ _, by simp, by simp, nB, nSc, hBS, hNH, by simp, by omega⟩
    · exact (Ex.refl.upd_new (X := []) (o := .dict []) hSc).of ((Ex.refl.upd_new (X := []) (o := .dict []) hB).of hN3)
    · rw [Store.upd_ne _ _ hBS]; exact Store.upd_self _ _ _
  generalize (τ3.upd B (.dict [])).upd Sc (.dict []) = τ4 at L0
  repeat wtm_at "te"
  refine TS_For_range (fun i k m τ => k = ns.length ∧ m "hand" = some (.ref H) ∧ m "names" = some (.ref N) ∧ m "needs_by" = some (.ref B) ∧ m "sources" = some (.ref Sc) ∧ ∃ nd bd src, LS σ H C N B Sc ns i nd bd src τ) ?_ ?_ ?_ (by decide) (by intros; rfl)
  · repeat wtm_at "te"
    refine TC_len_list L0.hN (by rw [List.length_map, sizeLine_eq]; omega) ?_
    repeat wtm_at "te"
    refine TC_range fun D hD => ?_
    rw [List.length_map]
    exact ⟨D, _, rfl, Store.upd_self _ _ _, by omega, by omega, rfl, by wtm_at "nm", by wtm_at "nm", by wtm_at "nm", by wtm_at "nm", _, _, _, L0.grow (Ex.refl.upd_new hD)⟩
  · rintro i k m τ hi ⟨rfl, m1, m2, m3, m4, nd, bd, src, L⟩
    have hil : i < ns.length := by omega
    have hnmi : Name (gs ns i) := hnm _ (gs_mem hil)
    have hnm3 : (gs ns i).length ≤ 3 := hnmi.len
    repeat wtm_at "te"
    refine ⟨Nat.zero_le _, fun R hR => ?_⟩
    have nR : σ R = none := L.E.noneOf hR (by simpa using hBH hR L.hand)
    have I0 : IS σ H C N B Sc ns i nd bd src R [] (τ.upd R (.list [])) := by
      obtain ⟨zs, hz⟩ := L.hand.cells
      exact ⟨L.grow (Ex.refl.upd_new hR), Store.upd_self _ _ _, nR, (ne_of_none L.hN hR).symm, hBH hR L.hand, (ne_of_none hz hR).symm, fun k hk => (ne_of_none (L.hL k hk) hR).symm⟩
    generalize τ.upd R (.list []) = τ1 at I0
    repeat wtm_at "te"
    refine TS_For_range (fun j c m' υ => c ≤ 3 ∧ m' "hand" = some (.ref H) ∧ m' "names" = some (.ref N) ∧ m' "needs_by" = some (.ref B) ∧ m' "sources" = some (.ref Sc) ∧ m' "at" = some (.int (i : Nat) 0) ∧ m' "row" = some (.ref R) ∧
      ∃ (Rw : List Str) (Tx : Str), m' "text_now" = some (sv Tx) ∧ IS σ H C N B Sc ns i nd bd src R Rw υ ∧ Rw.length ≤ j ∧ Tx.length ≤ 40 * j ∧ (j = 0 → Tx = "" ∧ Rw = []) ∧ (0 < j → Tx ≠ "" ∧ Reads' (lst Tx) Rw j)) ?_ ?_ ?_ (by decide) (by intros; rfl)
    · repeat wtm_at "te"
      refine pick_is I0 (by decide) (by decide) fun d2 υ hd2 E6 I1 => ?_
      repeat wtm_at "te"
      refine TC_range fun D hD => ?_
      exact ⟨D, _, rfl, Store.upd_self _ _ _, by omega, by omega, by omega, by wtm_at "nm", by wtm_at "nm", by wtm_at "nm", by wtm_at "nm", by wtm_at "nm", by wtm_at "nm", [], "", by wtm_at "nm", I1.grow (Ex.refl.upd_new hD), Nat.le_refl _, by decide, fun _ => ⟨rfl, rfl⟩, fun z => absurd z (Nat.lt_irrefl _)⟩
    · rintro j c m' υ hj ⟨hc, n1, n2, n3, n4, n5, n6, Rw, Tx, n7, I1, r1, r2, r3, r4⟩
      have hj3 : j ≤ 2 := by omega
      have hszN : (ns.map sv).length ≤ sizeLine := by rw [List.length_map, sizeLine_eq]; omega
      with_reducible refine TSs_cons ?_
      refine TS_Assign_Name ?_ (by decide) rfl
      refine TE_Sub ?_ (by intros; rfl)
      refine TE.mono (Q := fun v υ' => ∃ (a : Addr) (l : List Str), v = .ref a ∧ υ' a = some (.list (l.map sv)) ∧ a ≠ H ∧ (∀ w ∈ l, Name w) ∧ (l.length = i + 2 ∨ l.length = ns.length) ∧ IS σ H C N B Sc ns i nd bd src R Rw υ') ?_ ?_
      · repeat wtm_at "te"
        refine pick_is I1 (by decide) (by decide) fun d2 υ2 hd2 E6 I2 => ?_
        repeat wtm_at "te"
        refine if_dec (fun c5 => ?_) (fun c5 => ?_)
        · repeat wtm_at "te"
          refine PSl_upto I2.ls.hN hszN fun D hD => ?_
          have E7 : Ex [] υ2 (υ2.upd D (.list ((ns.map sv).take i))) := Ex.refl.upd_new hD
          repeat wtm_at "te"
          refine ⟨(by decide : 2 ≤ sizeLine), fun D2 hD2 => ?_⟩
          have E8 : Ex [] (υ2.upd D (.list ((ns.map sv).take i))) ((υ2.upd D (.list ((ns.map sv).take i))).upd D2 (.list [sv "Out", sv "Q"])) := Ex.refl.upd_new hD2
          refine P2_add_list (E8.of (Store.upd_self _ _ _)) (Store.upd_self _ _ _) (by rw [List.length_take, List.length_map, sizeLine_eq]; simp only [List.length_cons, List.length_nil]; omega) fun D3 hD3 => ?_
          have I3 := (I2.grow E7).grow E8
          refine ⟨D3, ns.take i ++ [("Out" : Str), ("Q" : Str)], rfl, by rw [Store.upd_self, List.map_append, List.map_take]; rfl, hBH hD3 I3.ls.hand, fun w hw => ?_, .inl ?_, I3.grow (Ex.refl.upd_new hD3)⟩
          · rcases List.mem_append.mp hw with h | h
            · exact hnm w (List.mem_of_mem_take h)
            · simp only [List.mem_cons, List.not_mem_nil, or_false] at h
              rcases h with rfl | rfl
              · exact name_Out
              · exact name_Q
          · rw [List.length_append, List.length_take]; simp only [List.length_cons, List.length_nil]; omega
        · repeat wtm_at "te"
          exact ⟨N, ns, rfl, I2.ls.hN, hNH, hnm, .inr rfl, I2⟩
      rintro v υ2 ⟨a2, l, rfl, hl, haH2, hlN, hll, I2⟩
      repeat wtm_at "te"
      refine TC_len_list I2.ls.hN hszN ?_
      rw [List.length_map]
      repeat wtm_at "te"
      refine TC_min2 ?_
      repeat wtm_at "te"
      refine TC_max2 ?_
      repeat wtm_at "te"
      refine pick_is I2 (by split <;> (try split) <;> omega) (by split <;> (try split) <;> omega) fun d3 υ3 hd3 E7 I3 => ?_
      have hd3l : d3 < l.length := by
        revert hd3
        split <;> (try split) <;> omega
      refine PG_strs (E7.of1 hl haH2) hd3l (by omega) ?_
      have hw : Name (gs l d3) := hlN _ (gs_mem hd3l)
      have hw3 := hw.len
      have hwp := str_pos hw.ne
      generalize gs l d3 = w at hw hw3 hwp
      have q1 : ((m'.upd "_" (.int (j : Nat) 0)).upd "other" (sv w)) "hand" = some (.ref H) := by wtm_at "nm"
      have q2 : ((m'.upd "_" (.int (j : Nat) 0)).upd "other" (sv w)) "names" = some (.ref N) := by wtm_at "nm"
      have q3 : ((m'.upd "_" (.int (j : Nat) 0)).upd "other" (sv w)) "needs_by" = some (.ref B) := by wtm_at "nm"
      have q4 : ((m'.upd "_" (.int (j : Nat) 0)).upd "other" (sv w)) "sources" = some (.ref Sc) := by wtm_at "nm"
      have q5 : ((m'.upd "_" (.int (j : Nat) 0)).upd "other" (sv w)) "at" = some (.int (i : Nat) 0) := by wtm_at "nm"
      have q6 : ((m'.upd "_" (.int (j : Nat) 0)).upd "other" (sv w)) "row" = some (.ref R) := by wtm_at "nm"
      have q7 : ((m'.upd "_" (.int (j : Nat) 0)).upd "other" (sv w)) "text_now" = some (sv Tx) := by wtm_at "nm"
      have q8 : ((m'.upd "_" (.int (j : Nat) 0)).upd "other" (sv w)) "other" = some (sv w) := upd_hit
      generalize (m'.upd "_" (.int (j : Nat) 0)).upd "other" (sv w) = m2 at q1 q2 q3 q4 q5 q6 q7 q8
      try dsimp only
      with_reducible refine TSs_cons ?_
      refine TS.mono (Q := fun f m3 υ4 => f = .next ∧ m3 = m2 ∧ IS σ H C N B Sc ns i nd bd src R (rowAdd Rw w) υ4) ?_ ?_
      · have hRR := I3.hR
        repeat wtm_at "te"
        refine P2_notIn_list I3.hR ?_
        refine ⟨_, rfl, ?_⟩
        refine if_ndec (fun c6 => ?_) (fun c6 => ?_)
        · repeat wtm_at "te"
          refine TC_append I3.hR (by rw [List.length_map, sizeLine_eq]; omega) ?_
          refine ⟨rfl, ?_⟩
          rw [show Rw.map sv ++ [sv w] = (Rw ++ [w]).map sv by rw [List.map_append]; rfl]
          repeat wtm_at "te"
          refine ⟨rfl, rfl, ?_⟩
          have : rowAdd Rw w = Rw ++ [w] := by unfold rowAdd; rw [if_neg c6]
          rw [this]; exact I3.row
        · repeat wtm_at "te"
          refine ⟨rfl, rfl, ?_⟩
          have : rowAdd Rw w = Rw := by unfold rowAdd; rw [if_pos c6]
          rw [this]; exact I3
      rintro f m3 υ4 ⟨rfl, rfl, I4⟩
      try dsimp only
      with_reducible refine TSs_cons ?_
      refine TS_AugAssign_Name q7 ?_ (by decide)
      with_reducible refine TE_BinOp ?_
      with_reducible refine TE_BinOp ?_
      refine TE.mono (Q := fun v υ5 => ∃ sep : Str, v = sv sep ∧ sep.length ≤ 15 ∧ ((j = 0 ∧ sep = "") ∨ (0 < j ∧ (sep = "," ∨ sep = " , " ∨ sep = ",(* x, y *)"))) ∧ IS σ H C N B Sc ns i nd bd src R (rowAdd Rw w) υ5) ?_ ?_
      · repeat wtm_at "te"
        refine if_dec (fun c7 => ?_) (fun c7 => ?_)
        · repeat wtm_at "te"
          have hj0 : j = 0 := Nat.eq_zero_of_not_pos fun z => (r4 z).1 c7
          exact ⟨"", rfl, by decide, .inl ⟨hj0, rfl⟩, I4⟩
        · have hj0 : 0 < j := Nat.pos_of_ne_zero fun z => c7 (r3 z).1
          repeat wtm_at "te"
          refine ⟨(by decide : 3 ≤ sizeLine), fun D hD => ?_⟩
          have E8 : Ex [] υ4 (υ4.upd D (.list [sv ",", sv " , ", sv ",(* x, y *)"])) := Ex.refl.upd_new hD
          repeat wtm_at "te"
          refine pick_is (I4.grow E8) (by decide) (by decide) fun d4 υ5 hd4 E9 I5 => ?_
          have hds : d4 < ([",", " , ", ",(* x, y *)"] : List Str).length := by show d4 < 3; omega
          refine PG_strs (l := [",", " , ", ",(* x, y *)"]) (E9.of1 (Store.upd_self _ _ _) (hBH hD I4.ls.hand)) hds (by decide) ?_
          have hm := gs_mem hds
          generalize gs ([",", " , ", ",(* x, y *)"] : List Str) d4 = sep at hm
          simp only [List.mem_cons, List.not_mem_nil, or_false] at hm
          refine ⟨sep, rfl, ?_, .inr ⟨hj0, hm⟩, I5⟩
          rcases hm with rfl | rfl | rfl <;> decide
      rintro v υ5 ⟨sep, rfl, hsepl, hsep, I5⟩
      repeat wtm_at "te"
      refine ⟨(by decide : 3 ≤ sizeLine), fun D hD => ?_⟩
      have E8 : Ex [] υ5 (υ5.upd D (.list [sv "", sv "al := ", sv "b1:="])) := Ex.refl.upd_new hD
      repeat wtm_at "te"
      refine pick_is (I5.grow E8) (by decide) (by decide) fun d4 υ6 hd4 E9 I6 => ?_
      have hds : d4 < (["", "al := ", "b1:="] : List Str).length := by show d4 < 3; omega
      refine PG_strs (l := ["", "al := ", "b1:="]) (E9.of1 (Store.upd_self _ _ _) (hBH hD I5.ls.hand)) hds (by decide) ?_
      have hal := gs_mem hds
      generalize gs (["", "al := ", "b1:="] : List Str) d4 = al at hal
      simp only [List.mem_cons, List.not_mem_nil, or_false] at hal
      have hall : al.length ≤ 8 := by rcases hal with rfl | rfl | rfl <;> decide
      refine P2_add_str (by rw [str_add, sizeLine_eq]; omega) ?_
      repeat wtm_at "te"
      refine P2_add_str (by rw [str_add, str_add, sizeLine_eq]; omega) ?_
      refine P2_iadd_str (by rw [str_add, str_add, str_add, sizeLine_eq]; omega) ?_
      try dsimp only
      repeat wtm_at "te"
      have hrl := rowAdd_len (R := Rw) (w := w)
      refine ⟨hc, by wtm_at "nm", by wtm_at "nm", by wtm_at "nm", by wtm_at "nm", by wtm_at "nm", by wtm_at "nm", rowAdd Rw w, Tx ++ ((sep ++ al) ++ w), upd_hit, I6, by omega, by rw [str_add, str_add, str_add]; omega, fun z => absurd z (Nat.succ_ne_zero _), fun _ => ⟨str_ne (by rw [str_add, str_add, str_add]; omega), ?_⟩⟩
      rw [lst_add, lst_add, lst_add]
      rcases hsep with ⟨rfl, rfl⟩ | ⟨hj0, hsep⟩
      · obtain ⟨rfl, rfl⟩ := r3 rfl
        exact Reads'.first hal hw
      · exact (r4 hj0).2.more hsep hal hw
    · rintro c m' υ ⟨hc, n1, n2, n3, n4, n5, n6, Rw, Tx, n7, I1, r1, r2, r3, r4⟩
      have hni : ns[i]? = some (gs ns i) := gs_some hil
      have hnot := not_in_take hnod hni
      have hsnoc := take_snoc hni
      have ls1 : lst (";" : Str) = [59] := by decide
      repeat wtm_at "te"
      refine ⟨(by decide : 3 ≤ sizeLine), fun D hD => ?_⟩
      have E8 : Ex [] υ (υ.upd D (.list [sv "MODULE ", sv "(* MODULE Z; IMPORT A; *) MODULE\n", sv "MODULE  "])) := Ex.refl.upd_new hD
      repeat wtm_at "te"
      refine pick_is (I1.grow E8) (by decide) (by decide) fun d4 υ2 hd4 E9 I2 => ?_
      have hds : d4 < (["MODULE ", "(* MODULE Z; IMPORT A; *) MODULE\n", "MODULE  "] : List Str).length := by show d4 < 3; omega
      refine PG_strs (l := ["MODULE ", "(* MODULE Z; IMPORT A; *) MODULE\n", "MODULE  "]) (E9.of1 (Store.upd_self _ _ _) (hBH hD I1.ls.hand)) hds (by decide) ?_
      have hhk := gs_mem hds
      generalize gs (["MODULE ", "(* MODULE Z; IMPORT A; *) MODULE\n", "MODULE  "] : List Str) d4 = hk at hhk
      simp only [List.mem_cons, List.not_mem_nil, or_false] at hhk
      have hhkl : hk.length ≤ 40 := by rcases hhk with rfl | rfl | rfl <;> decide
      repeat wtm_at "te"
      refine PG_strs I2.ls.hN hil (by omega) ?_
      refine P2_add_str (by rw [str_add, sizeLine_eq]; omega) ?_
      repeat wtm_at "te"
      refine P2_add_str (by rw [str_add, str_add, sizeLine_eq]; show _ + 1 ≤ _; omega) ?_
      have q1 : (m'.upd "head" (sv ((hk ++ gs ns i) ++ ";"))) "hand" = some (.ref H) := by wtm_at "nm"
      have q2 : (m'.upd "head" (sv ((hk ++ gs ns i) ++ ";"))) "names" = some (.ref N) := by wtm_at "nm"
      have q3 : (m'.upd "head" (sv ((hk ++ gs ns i) ++ ";"))) "needs_by" = some (.ref B) := by wtm_at "nm"
      have q4 : (m'.upd "head" (sv ((hk ++ gs ns i) ++ ";"))) "sources" = some (.ref Sc) := by wtm_at "nm"
      have q5 : (m'.upd "head" (sv ((hk ++ gs ns i) ++ ";"))) "at" = some (.int (i : Nat) 0) := by wtm_at "nm"
      have q6 : (m'.upd "head" (sv ((hk ++ gs ns i) ++ ";"))) "row" = some (.ref R) := by wtm_at "nm"
      have q7 : (m'.upd "head" (sv ((hk ++ gs ns i) ++ ";"))) "text_now" = some (sv Tx) := by wtm_at "nm"
      have q8 : (m'.upd "head" (sv ((hk ++ gs ns i) ++ ";"))) "head" = some (sv ((hk ++ gs ns i) ++ ";")) := upd_hit
      generalize m'.upd "head" (sv ((hk ++ gs ns i) ++ ";")) = m2 at q1 q2 q3 q4 q5 q6 q7 q8
      have hTl : Tx.length ≤ 120 := by omega
      try dsimp only
      with_reducible refine TSs_cons ?_
      refine TS.mono (Q := fun f m3 υ4 => f = .next ∧ m3 "hand" = some (.ref H) ∧ m3 "names" = some (.ref N) ∧ m3 "needs_by" = some (.ref B) ∧ m3 "sources" = some (.ref Sc) ∧ m3 "at" = some (.int (i : Nat) 0) ∧ m3 "row" = some (.ref R) ∧ IS σ H C N B Sc ns i nd bd src R Rw υ4 ∧
        ∃ hd : Str, m3 "head" = some (sv hd) ∧ hd.length ≤ 300 ∧ ∀ Y, headF (lst hd ++ (lst " BEGIN END " ++ Y)) = some Rw) ?_ ?_
      · repeat wtm_at "te"
        refine if_ndec (fun c7 => ?_) (fun c7 => ?_)
        · have hc0 : 0 < c.toNat := Nat.pos_of_ne_zero fun z => c7 (r3 z).1
          repeat wtm_at "te"
          refine ⟨(by decide : 3 ≤ sizeLine), fun D2 hD2 => ?_⟩
          have E10 : Ex [] υ2 (υ2.upd D2 (.list [sv "\n IMPORT ", sv "IMPORT\n", sv " IMPORT "])) := Ex.refl.upd_new hD2
          repeat wtm_at "te"
          refine pick_is (I2.grow E10) (by decide) (by decide) fun d5 υ3 hd5 E11 I3 => ?_
          have hds2 : d5 < (["\n IMPORT ", "IMPORT\n", " IMPORT "] : List Str).length := by show d5 < 3; omega
          refine PG_strs (l := ["\n IMPORT ", "IMPORT\n", " IMPORT "]) (E11.of1 (Store.upd_self _ _ _) (hBH hD2 I2.ls.hand)) hds2 (by decide) ?_
          have hik := gs_mem hds2
          generalize gs (["\n IMPORT ", "IMPORT\n", " IMPORT "] : List Str) d5 = ik at hik
          simp only [List.mem_cons, List.not_mem_nil, or_false] at hik
          have hikl : ik.length ≤ 40 := by rcases hik with rfl | rfl | rfl <;> decide
          repeat wtm_at "te"
          refine P2_add_str (by rw [str_add, sizeLine_eq]; omega) ?_
          repeat wtm_at "te"
          refine P2_add_str (by rw [str_add, str_add, sizeLine_eq]; show _ + 1 ≤ _; omega) ?_
          refine P2_iadd_str (by rw [str_add, str_add, str_add, str_add, str_add, sizeLine_eq]; show _ + 1 + (_ + 1) ≤ _; omega) ?_
          try dsimp only
          repeat wtm_at "te"
          refine ⟨rfl, by wtm_at "nm", by wtm_at "nm", by wtm_at "nm", by wtm_at "nm", by wtm_at "nm", by wtm_at "nm", I3, _, upd_hit, by rw [str_add, str_add, str_add, str_add, str_add]; show _ + 1 + (_ + 1) ≤ _; omega, fun Y => ?_⟩
          have := head_imports (Y := lst " BEGIN END " ++ Y) hhk hnmi hik (r4 hc0).2 (by omega)
          rw [lst_add, lst_add, lst_add, lst_add, lst_add, ls1]
          simp only [List.append_assoc, List.cons_append, List.nil_append] at this ⊢
          exact this
        · have hc0 : c.toNat = 0 := Nat.eq_zero_of_not_pos fun z => (r4 z).1 c7
          obtain ⟨_, rfl⟩ := r3 hc0
          repeat wtm_at "te"
          refine ⟨rfl, q1, q2, q3, q4, q5, q6, I2, _, q8, by rw [str_add, str_add]; show _ + 1 ≤ _; omega, fun Y => ?_⟩
          have := head_plain (Y := Y) hhk hnmi
          rw [lst_add, lst_add, ls1]
          simp only [List.append_assoc, List.cons_append, List.nil_append] at this ⊢
          exact this
      rintro f m3 υ4 ⟨rfl, s1, s2, s3, s4, s5, s6, I4, hd, s7, hdl, hhd⟩
      try dsimp only
      have L4 := I4.ls
      repeat wtm_at "te"
      refine PG_strs L4.hN hil (by omega) ?_
      have hput : put ((ns.take i).map fun k => (k, Value.ref (bd k))) (gs ns i) (.ref R) = (ns.take (i + 1)).map fun k => (k, Value.ref (if k = gs ns i then R else bd k)) := by
        have e : ((ns.take i).map fun k => (k, Value.ref (bd k))) = (ns.take i).map fun k => (k, Value.ref (if k = gs ns i then R else bd k)) := List.map_congr_left fun k hk => by
          have hz : ¬ k = gs ns i := fun z => hnot (z ▸ hk)
          rw [if_neg hz]
        rw [hsnoc, e]
        have := put_new (f := fun k => Value.ref (if k = gs ns i then R else bd k)) hnot
        rw [if_pos rfl] at this
        exact this
      refine P3_dict L4.hB (by rw [List.length_map, List.length_take, sizeLine_eq]; omega) ?_
      rw [hput]
      obtain ⟨zs, hz⟩ := L4.hand.at
      obtain ⟨ws, hw⟩ := L4.hand.cells
      have HB : H ≠ B := ne_kd hz L4.hB rfl
      have HS : H ≠ Sc := ne_kd hz L4.hSc rfl
      have CB : C ≠ B := ne_kd hw L4.hB rfl
      have CS : C ≠ Sc := ne_kd hw L4.hSc rfl
      have NB' : N ≠ B := ne_kd L4.hN L4.hB rfl
      have NS : N ≠ Sc := ne_kd L4.hN L4.hSc rfl
      have RB : R ≠ B := ne_kd I4.hR L4.hB rfl
      have RS : R ≠ Sc := ne_kd I4.hR L4.hSc rfl
      have hN5 : (υ4.upd B (.dict ((ns.take (i + 1)).map fun k => (k, Value.ref (if k = gs ns i then R else bd k))))) N = some (.list (ns.map sv)) := by rw [Store.upd_ne _ _ NB']; exact L4.hN
      repeat wtm_at "te"
      refine P2_add_str (by rw [str_add, sizeLine_eq]; show _ + 11 ≤ _; omega) ?_
      repeat wtm_at "te"
      refine PG_strs hN5 hil (by omega) ?_
      refine P2_add_str (by rw [str_add, str_add, sizeLine_eq]; show _ + 11 + _ ≤ _; omega) ?_
      repeat wtm_at "te"
      refine P2_add_str (by rw [str_add, str_add, str_add, sizeLine_eq]; show _ + 11 + _ + 1 ≤ _; omega) ?_
      repeat wtm_at "te"
      refine PG_strs hN5 hil (by omega) ?_
      have hput2 : put ((ns.take i).map fun k => (k, sv (src k))) (gs ns i) (sv (((hd ++ " BEGIN END ") ++ gs ns i) ++ ".")) = (ns.take (i + 1)).map fun k => (k, sv (if k = gs ns i then ((hd ++ " BEGIN END ") ++ gs ns i) ++ "." else src k)) := by
        have e : ((ns.take i).map fun k => (k, sv (src k))) = (ns.take i).map fun k => (k, sv (if k = gs ns i then ((hd ++ " BEGIN END ") ++ gs ns i) ++ "." else src k)) := List.map_congr_left fun k hk => by
          have hz : ¬ k = gs ns i := fun z => hnot (z ▸ hk)
          rw [if_neg hz]
        rw [hsnoc, e]
        have := put_new (f := fun k => sv (if k = gs ns i then ((hd ++ " BEGIN END ") ++ gs ns i) ++ "." else src k)) hnot
        rw [if_pos rfl] at this
        exact this
      refine P3_dict (by rw [Store.upd_ne _ _ hBS.symm]; exact L4.hSc) (by rw [List.length_map, List.length_take, sizeLine_eq]; omega) ?_
      rw [hput2]
      repeat wtm_at "te"
      have hbH : ∀ k ∈ ns.take i, bd k ≠ B ∧ bd k ≠ Sc := fun k hk => ⟨ne_kd (L4.hL k hk) L4.hB rfl, ne_kd (L4.hL k hk) L4.hSc rfl⟩
      refine ⟨rfl, s1, s2, s3, s4, fun k => if k = gs ns i then Rw else nd k, fun k => if k = gs ns i then R else bd k, fun k => if k = gs ns i then ((hd ++ " BEGIN END ") ++ gs ns i) ++ "." else src k,
        (L4.E.upd_none (by simpa using HB.symm) L4.nB).upd_none (by simpa using HS.symm) L4.nSc, L4.hand.ex (X := [B, Sc]) ((Ex.refl.upd_in (by simp)).upd_in (by simp)) (by simp [HB, HS]) (by simp [CB, CS]),
        by rw [Store.upd_ne _ _ NS]; exact hN5, by rw [Store.upd_ne _ _ hBS]; exact Store.upd_self _ _ _, Store.upd_self _ _ _, fun k hk => ?_, fun k hk => ?_, L4.nB, L4.nSc, hBS, hNH, fun k hk => ?_, L4.len⟩
      · try dsimp only
        by_cases hkn : k = gs ns i
        · rw [if_pos hkn, if_pos hkn, Store.upd_ne _ _ RS, Store.upd_ne _ _ RB]; exact I4.hR
        · have hk' : k ∈ ns.take i := by rw [hsnoc] at hk; exact (List.mem_append.mp hk).resolve_right (by simpa using hkn)
          rw [if_neg hkn, if_neg hkn, Store.upd_ne _ _ (hbH k hk').2, Store.upd_ne _ _ (hbH k hk').1]; exact L4.hL k hk'
      · try dsimp only
        by_cases hkn : k = gs ns i
        · rw [if_pos hkn, if_pos hkn]
          refine ⟨by omega, ?_, ?_⟩
          · rw [str_add, str_add, str_add]; show _ + 11 + _ + 1 ≤ _; omega
          · rw [lst_add, lst_add, lst_add]
            have := hhd (lst (gs ns i) ++ lst ".")
            simp only [List.append_assoc] at this ⊢
            exact this
        · have hk' : k ∈ ns.take i := by rw [hsnoc] at hk; exact (List.mem_append.mp hk).resolve_right (by simpa using hkn)
          rw [if_neg hkn, if_neg hkn]; exact L4.ok k hk'
      · try dsimp only
        by_cases hkn : k = gs ns i
        · rw [if_pos hkn]; exact I4.RH
        · have hk' : k ∈ ns.take i := by rw [hsnoc] at hk; exact (List.mem_append.mp hk).resolve_right (by simpa using hkn)
          rw [if_neg hkn]; exact L4.bH k hk'
  · rintro k m τ ⟨rfl, m1, m2, m3, m4, nd, bd, src, L⟩
    have htk : ns.take ((ns.length : Int).toNat) = ns := by rw [show ((ns.length : Int).toNat) = ns.length by omega, List.take_length]
    repeat wtm_at "te"
    refine ⟨(by decide : 3 ≤ sizeLine), fun T hT => ?_⟩
    have E5 : Ex [] τ (τ.upd T (.tup [.ref N, .ref B, .ref Sc])) := Ex.refl.upd_new hT
    have L5 := L.grow E5
    have hB5 := L5.hB
    have hS5 := L5.hSc
    have hL5 := L5.hL
    have hok := L5.ok
    rw [htk] at hB5 hS5 hL5 hok
    exact h _ T N B Sc ns nd bd src L5.E (Store.upd_self _ _ _) ⟨L5.hN, hB5, hL5, hup, hnod, L5.len, fun k hk => (hok k hk).1⟩ hS5 fun k hk => (hok k hk).2
end
end

noncomputable section
/-! the closure of clients, both ways -/
def clS (ns : List Str) (nd : Str → List Str) (c : List Str) : List Str := ns.filter fun one => decide (one ∈ c) || !decide ((nd one).filter (fun o => decide (o ∈ c)) = [])
noncomputable def clI (ns : List Str) (nd : Str → List Str) (k : Str) : Nat → List Str
  | 0 => ns.filter fun one => decide (k ∈ nd one)
  | i + 1 => clS ns nd (clI ns nd k i)
theorem clS_mem {ns : List Str} {nd : Str → List Str} {c : List Str} {o : Str} : o ∈ clS ns nd c ↔ o ∈ ns ∧ (o ∈ c ∨ ∃ z, z ∈ nd o ∧ z ∈ c) := by
  unfold clS
  rw [List.mem_filter]
  simp only [Bool.or_eq_true, decide_eq_true_eq, Bool.not_eq_true', decide_eq_false_iff_not]
  constructor
  · rintro ⟨h, h1 | h1⟩
    · exact ⟨h, .inl h1⟩
    · cases hf : (nd o).filter (fun o => decide (o ∈ c)) with
      | nil => exact absurd hf h1
      | cons a r =>
        have : a ∈ (nd o).filter (fun o => decide (o ∈ c)) := by rw [hf]; exact List.mem_cons_self ..
        obtain ⟨h2, h3⟩ := List.mem_filter.mp this
        exact ⟨h, .inr ⟨a, h2, by simpa using h3⟩⟩
  · rintro ⟨h, h1 | ⟨z, h1, h2⟩⟩
    · exact ⟨h, .inl h1⟩
    · refine ⟨h, .inr fun hn => ?_⟩
      have : z ∈ (nd o).filter (fun o => decide (o ∈ c)) := List.mem_filter.mpr ⟨h1, by simpa using h2⟩
      rw [hn] at this; cases this
theorem clI_sub {ns : List Str} {nd : Str → List Str} {k : Str} : ∀ i, (clI ns nd k i).Sublist ns
  | 0 => List.filter_sublist
  | _ + 1 => List.filter_sublist
theorem filter_sub {α : Type} {p q : α → Bool} {l : List α} (h : ∀ a ∈ l, p a = true → q a = true) : (l.filter p).Sublist (l.filter q) := by
  induction l with
  | nil => exact List.Sublist.refl _
  | cons a r ih =>
    have ih := ih fun b hb => h b (List.mem_cons_of_mem _ hb)
    rw [List.filter_cons, List.filter_cons]
    by_cases hp : p a = true
    · rw [if_pos hp, if_pos (h a (List.mem_cons_self ..) hp)]
      exact ih.cons_cons a
    · rw [if_neg hp]
      split
      · exact ih.cons a
      · exact ih
theorem clI_step {ns : List Str} {nd : Str → List Str} {k : Str} (i : Nat) : (clI ns nd k i).Sublist (clI ns nd k (i + 1)) := by
  cases i with
  | zero =>
    refine filter_sub fun o ho hp => ?_
    have : o ∈ clI ns nd k 0 := List.mem_filter.mpr ⟨ho, hp⟩
    rw [decide_eq_true this]; rfl
  | succ i =>
    refine filter_sub fun o ho hp => ?_
    have : o ∈ clI ns nd k (i + 1) := List.mem_filter.mpr ⟨ho, hp⟩
    rw [decide_eq_true this]; rfl
theorem clI_grow {ns : List Str} {nd : Str → List Str} {k : Str} : ∀ i, clI ns nd k (i + 1) = clI ns nd k i ∨ i < (clI ns nd k (i + 1)).length
  | 0 => by
    by_cases h : clI ns nd k 1 = clI ns nd k 0
    · exact .inl h
    · refine .inr (Nat.pos_of_ne_zero fun z => h ?_)
      have h1 := (clI_step (ns := ns) (nd := nd) (k := k) 0)
      exact (h1.eq_of_length (by have := h1.length_le; omega)).symm
  | i + 1 => by
    rcases clI_grow i with h | h
    · refine .inl ?_
      show clS ns nd (clI ns nd k (i + 1)) = clS ns nd (clI ns nd k i)
      rw [h]
    · by_cases h' : clI ns nd k (i + 2) = clI ns nd k (i + 1)
      · exact .inl h'
      · refine .inr (Nat.lt_of_not_le fun hle => h' ?_)
        have h1 := (clI_step (ns := ns) (nd := nd) (k := k) (i + 1))
        exact (h1.eq_of_length (by have := h1.length_le; omega)).symm
theorem clI_stable {ns : List Str} {nd : Str → List Str} {k : Str} : clI ns nd k (ns.length + 1) = clI ns nd k ns.length := by
  rcases clI_grow (ns := ns) (nd := nd) (k := k) ns.length with h | h
  · exact h
  · have := (clI_sub (ns := ns) (nd := nd) (k := k) (ns.length + 1)).length_le
    omega
theorem clI_mono {ns : List Str} {nd : Str → List Str} {k : Str} : ∀ i, (clI ns nd k 0).Sublist (clI ns nd k i)
  | 0 => List.Sublist.refl _
  | i + 1 => (clI_mono i).trans (clI_step i)
theorem closure_eq {ns : List Str} {nd : Str → List Str} {k : Str} {F : List Str} (up : UpS ns) (nn : ns.Nodup) (nF : F.Nodup)
    (c1 : ∀ P : Str → Prop, (∀ o ∈ ns, k ∈ nd o → P o) → (∀ z o, P z → o ∈ ns → z ∈ nd o → P o) → ∀ o ∈ F, P o)
    (c2 : ∀ o ∈ ns, k ∈ nd o → o ∈ F) (c3 : ∀ z ∈ F, ∀ o ∈ ns, z ∈ nd o → o ∈ F) : srt F = clI ns nd k ns.length := by
  have h1 : ∀ i, ∀ o ∈ clI ns nd k i, o ∈ F := by
    intro i
    induction i with
    | zero =>
      intro o ho
      obtain ⟨a, b⟩ := List.mem_filter.mp ho
      exact c2 o a (by simpa using b)
    | succ i ih =>
      intro o ho
      obtain ⟨a, b | ⟨z, b1, b2⟩⟩ := clS_mem.mp ho
      · exact ih o b
      · exact c3 z (ih z b2) o a b1
  have h2 : ∀ o ∈ F, o ∈ clI ns nd k ns.length := by
    refine c1 _ (fun o ho hk => ?_) (fun z o hz ho hk => ?_)
    · exact (clI_mono ns.length).subset (List.mem_filter.mpr ⟨ho, by simpa using hk⟩)
    · have : o ∈ clI ns nd k (ns.length + 1) := clS_mem.mpr ⟨ho, .inr ⟨z, hk, hz⟩⟩
      rw [clI_stable] at this; exact this
  have p : (clI ns nd k ns.length).Perm F := (List.perm_ext_iff_of_nodup (nn.sublist (clI_sub _)) nF).mpr fun o => ⟨h1 _ o, h2 o⟩
  exact (srt_unique p (List.Pairwise.sublist (clI_sub _) up)).symm
noncomputable section
variable {x : Gx} {n : Nat} {σ : Store} {Q : Value → Store → Prop}
theorem PSl_old {a : Addr} {vs : Array Value} {k : Nat} (ha : x.h₀.IsList a vs) (hlen : vs.size ≤ 1000) (h : ∀ D, σ D = none → Q (.ref D) (σ.upd D (.list ((vs.toList.take k).map er)))) : PSl x.gd ql n (.ref a) none (some (k : Int)) σ Q := by
  intro A s E vo sl l u hl S ho hs hlo hhi
  rw [er_ref ho]
  obtain ⟨o, ho', hc, c, hd⟩ := ha
  have hL : s.heap.IsList a vs := ⟨o, S.keep a o ho', hc, c, hd⟩
  refine ⟨⟨"list", _, hL.typeIs, slot_list_getitem.lookup⟩, ?_⟩
  have e1 : l.map (·.1) = none := hlo
  have e2 : u.map (·.1) = some (k : Int) := hhi
  refine wpAny_getItem_list_slice (lo := none) (hi := some (k : Int)) (st := none) hL hs (e1 ▸ part_is l) (e2 ▸ part_is u) .none (fun z => nomatch z) ?_ (by rw [sizeLine_eq]; omega)
  exact ⟨σ.upd s.heap.objs.size (.list ((vs.toList.take k).map er)), ⟨_, s.toks, rfl⟩, Keep.push, S.push ⟨_, 0, Heap.get?_push_size _ rfl, by rw [slicePick_upto']⟩, h _ S.newNone⟩
end
end

noncomputable section
noncomputable section
variable {x : Gx} {n : Nat} {σ : Store} {Q : Value → Store → Prop}
theorem law_tc {a : Addr} {vs : Array Value} {is : List Int} (ha : x.h₀.IsList a vs) (hi : vs.toList.map er = is.map fun k => .int k 0) (hlen : vs.size ≤ 63) (h : ∀ τ, Q (.bool true) τ) : TCc x.gd 13 (.ref 374) [.ref a] σ Q := by
  refine TCc_fn (ps := [("script", .ref a)]) rfl rfl (fun vs hvs S => ?_) rfl ⟨rfl, rfl⟩ ?_
  · obtain ⟨u, rfl, hu⟩ := args1 hvs
    exact ⟨_, rfl, by rw [← hu]; rfl⟩
  have hlen' : is.length ≤ 63 := by have := congrArg List.length hi; simp at this; omega
  repeat wtm_at "te"
  refine PSl_old (k := 63) ha (by omega) fun C hC => ?_
  rw [List.map_take, hi, ← List.map_take]
  have hisl : (is.take 63).length ≤ 63 := by rw [List.length_take]; omega
  generalize is.take 63 = js at hisl
  have hCl : (σ.upd C (.list (js.map fun k => .int k 0))) C = some (.list (js.map fun k => .int k 0)) := Store.upd_self _ _ _
  generalize σ.upd C (.list (js.map fun k => .int k 0)) = σ1 at hCl
  repeat wtm_at "te"
  refine TC_sum hCl ?_
  repeat wtm_at "te"
  refine P2_mod_int (by decide) ?_
  repeat wtm_at "te"
  refine P2_mul_int (.inr (by decide)) ?_
  have hr0 : 0 ≤ (js.sum.fmod 100003) * 7 := Int.mul_nonneg (Int.fmod_nonneg_of_pos _ (by decide)) (by decide)
  generalize (js.sum.fmod 100003) * 7 = r at hr0
  repeat wtm_at "te"
  refine ⟨(by decide : 4 ≤ sizeLine), fun H hH => ?_⟩
  have hCH : C ≠ H := ne_of_none hCl hH
  have hand : Hand (σ1.upd H (.list [.ref C, .int 0 0, .int 0 0, .int r 0])) H C := ⟨js, 0, 0, r, Store.upd_self _ _ _, by rw [Store.upd_ne _ _ hCH]; exact hCl, by decide, by omega, hisl, by decide, hr0⟩
  generalize σ1.upd H (.list [.ref C, .int 0 0, .int 0 0, .int r 0]) = σ2 at hand
  repeat wtm_at "te"
  refine TS_Assign_Tuple (ps := [("names", _), ("needs_by", _), ("sources", _)]) ?_ (by decide) rfl rfl rfl
  repeat wtm_at "te"
  refine TC.le (TCc.tc (sources_tc hand hCH fun τ T N B Sc ns nd bd src E hT nb hSc hsrc => ?_)) (by decide)
  refine ⟨T, _, rfl, hT, rfl, ?_⟩
  dsimp only [setAll, List.map]
  clear hT E hand hCH hCl
  have hnl := nb.len
  have hszN : (ns.map sv).length ≤ sizeLine := by rw [List.length_map, sizeLine_eq]; omega
  repeat wtm_at "te"
  refine TC.le (modset_tc hSc nb.up nb.nodup nb.len nb.lens hsrc fun τ1 M dM sd I ad E1 M1 => ?_) (by decide)
  have nb1 := nb.ex E1
  repeat wtm_at "te"
  refine TC.le (TCc.tc (ordered_tc nb1 fun τ2 Du E2 hDu => ?_)) (by decide)
  have nb2 := nb1.ex E2
  have M2 := M1.ex E2
  repeat wtm_at "te"
  refine TS_Assign_ListComp (onS fun k => !decide (k ∈ ordF ns nd ns.length [])) id ?_ (by decide) (by decide) (by decide) (by intros; rfl)
  repeat wtm_at "te"
  refine ⟨N, _, rfl, nb2.hN, hszN, ⟨?_, ?_⟩, ?_⟩
  · intro v hv m' In
    obtain ⟨one, hone, rfl⟩ := List.mem_map.mp hv
    have t1 := In.targ
    have t2 : m' "due" = some (.ref Du) := (In.rest _ (by decide)).trans (by wtm_at "nm")
    repeat wtm_at "te"
    refine P2_notIn_list hDu ?_
    exact ⟨_, rfl, rfl⟩
  · intro v hv hp m' In
    have t1 := In.targ
    repeat wtm_at "te"
    rfl
  intro Rs hRs
  rw [filter_sv]
  rw [show (ns.filter fun k => !decide (k ∈ ordF ns nd ns.length [])) = restF ns nd from rfl]
  have E3 : Ex [] τ2 (τ2.upd Rs (.list ((restF ns nd).map sv))) := Ex.refl.upd_new hRs
  have hRs3 : (τ2.upd Rs (.list ((restF ns nd).map sv))) Rs = some (.list ((restF ns nd).map sv)) := Store.upd_self _ _ _
  have nb3 := nb2.ex E3
  have M3 := M2.ex E3
  have hDu3 := E3.of hDu
  generalize τ2.upd Rs (.list ((restF ns nd).map sv)) = τ3 at E3 hRs3 nb3 M3 hDu3
  clear E1 E2 E3 hDu nb nb1 nb2 M1 M2 hSc hsrc
  have h1 := M3.hM
  have h2 := M3.hd
  repeat wtm_at "te"
  refine TC.le (TCc.tc (names_tc M3 fun D hD => ?_)) (by decide)
  have E4 : Ex [] τ3 (τ3.upd D (.list (ns.map sv))) := Ex.refl.upd_new hD
  have hD4 : (τ3.upd D (.list (ns.map sv))) D = some (.list (ns.map sv)) := Store.upd_self _ _ _
  have nb4 := nb3.ex E4
  have M4 := M3.ex E4
  generalize τ3.upd D (.list (ns.map sv)) = τ4 at E4 hD4 nb4 M4
  repeat wtm_at "ti"
  refine P2_ne_list hD4 nb4.hN ?_
  rw [decide_eq_true rfl]
  refine ⟨_, rfl, ?_⟩
  show if false = true then _ else _
  rw [if_neg Bool.false_ne_true]
  have h3 := M4.hM
  have h4 := M4.hd
  repeat wtm_at "ti"
  refine P2_ne_dict (n := 11) M4.hI nb4.hB (by rw [List.length_map, List.length_map]) (fun p hp => ?_) ?_
  · obtain ⟨k, hk, rfl⟩ := List.mem_map.mp hp
    exact ⟨ad k, bd k, nd k, rfl, lookup_keys hk, M4.hL k hk, nb4.hL k hk⟩
  refine ⟨_, rfl, ?_⟩
  rw [if_neg Bool.false_ne_true]
  repeat wtm_at "ti"
  refine TC.le (TCc.tc (order_tc M4 fun τ5 D5 E5 hD5 _ => ?_)) (by decide)
  have nb5 := nb4.ex E5
  have M5 := M4.ex E5
  have hDu5 := E5.of (E4.of hDu3)
  repeat wtm_at "ti"
  refine P2_ne_list hD5 hDu5 ?_
  rw [decide_eq_true rfl]
  refine ⟨_, rfl, ?_⟩
  show if false = true then _ else _
  rw [if_neg Bool.false_ne_true]
  have h5 := M5.hM
  have h6 := M5.hd
  repeat wtm_at "ti"
  refine TC.le (TCc.tc (unordered_tc M5 fun τ6 D6 E6 hD6 _ => ?_)) (by decide)
  have nb6 := nb5.ex E6
  have M6 := M5.ex E6
  have hRs6 := E6.of (E5.of (E4.of hRs3))
  repeat wtm_at "ti"
  refine P2_ne_list hD6 hRs6 ?_
  rw [decide_eq_true rfl]
  refine ⟨_, rfl, ?_⟩
  show if false = true then _ else _
  rw [if_neg Bool.false_ne_true]
  clear h1 h2 h3 h4 h5 h6 E4 hD4 nb4 M4 E5 hD5 nb5 M5 hDu5 E6 hD6 hRs3 nb3 M3 hDu3
  repeat wtm_at "ti"
  refine TS_For_list (fun i a xs m υ => a = N ∧ xs = ns.map sv ∧ m "names" = some (.ref N) ∧ m "needs_by" = some (.ref B) ∧ m "modules" = some (.ref M) ∧ m "rest" = some (.ref Rs) ∧ Ex [] τ6 υ) ?_ ?_ ?_ (by decide) (by intros; rfl)
  · repeat wtm_at "te"
    exact ⟨N, _, rfl, nb6.hN, rfl, rfl, by wtm_at "nm", by wtm_at "nm", by wtm_at "nm", by wtm_at "nm", Ex.refl⟩
  · rintro i a xs m υ v haN ⟨rfl, rfl, m1, m2, m3, m4, E⟩ hv
    rw [List.getElem?_map] at hv
    cases hki : ns[i]? with
    | none => rw [hki] at hv; cases hv
    | some k =>
    rw [hki] at hv
    obtain rfl := Option.some.inj hv
    have hk : k ∈ ns := List.mem_of_getElem? hki
    have nb7 := nb6.ex E
    have M7 := M6.ex E
    have g1 := M7.hM
    have g2 := M7.hd
    have hlk := nb7.lens k hk
    repeat wtm_at "te"
    refine TC.le (TCc.tc (needed_tc M7 hk fun υ1 D1 E1 hD1 _ => ?_)) (by decide)
    have nb8 := nb7.ex E1
    repeat wtm_at "te"
    refine TE_ListComp (onS fun one => decide (one ∈ ns)) id ?_ (by decide) (by intros; rfl)
    repeat wtm_at "te"
    refine PG_dict nb8.hB (lookup_keys hk) ?_
    refine ⟨_, _, rfl, nb8.hL k hk, by rw [List.length_map, sizeLine_eq]; omega, ⟨?_, ?_⟩, ?_⟩
    · intro v hv m' In
      obtain ⟨one, _, rfl⟩ := List.mem_map.mp hv
      have t1 := In.targ
      have t2 : m' "names" = some (.ref a) := (In.rest _ (by decide)).trans (by wtm_at "nm")
      repeat wtm_at "te"
      refine P2_in_list nb8.hN ?_
      exact ⟨_, rfl, rfl⟩
    · intro v hv hp m' In
      have t1 := In.targ
      repeat wtm_at "te"
      rfl
    intro D2 hD2
    rw [filter_sv]
    repeat wtm_at "te"
    refine TC_sorted_list (Store.upd_self _ _ _) (by have := filter_len (p := fun one => decide (one ∈ ns)) (l := nd k); omega) fun D3 hD3 => ?_
    have E3 := (Ex.refl.upd_new (X := []) (o := .list (((nd k).filter fun one => decide (one ∈ ns)).map sv)) hD2).upd_new (o := .list ((srt ((nd k).filter fun one => decide (one ∈ ns))).map sv)) hD3
    refine P2_ne_list (E3.of hD1) (Store.upd_self _ _ _) ?_
    rw [show decide (need ns nd k = srt ((nd k).filter fun one => decide (one ∈ ns))) = true from decide_eq_true rfl]
    refine ⟨_, rfl, ?_⟩
    show if false = true then _ else _
    rw [if_neg Bool.false_ne_true]
    have E13 := E1.trans E3
    generalize (υ1.upd D2 (.list (((nd k).filter fun one => decide (one ∈ ns)).map sv))).upd D3 (.list ((srt ((nd k).filter fun one => decide (one ∈ ns))).map sv)) = υ3 at E3 E13
    have nb9 := nb7.ex E13
    have M9 := M7.ex E13
    clear E1 E3 hD1 hD2 hD3 nb8
    repeat wtm_at "te"
    refine TS_Assign_Cell ?_ (by decide) (by decide)
    refine TE_ListComp (onS fun one => decide (k ∈ nd one)) id ?_ (by decide) (by intros; rfl)
    repeat wtm_at "te"
    refine ⟨a, _, rfl, nb9.hN, hszN, ⟨?_, ?_⟩, ?_⟩
    · intro v hv m' In
      obtain ⟨one, hone, rfl⟩ := List.mem_map.mp hv
      have t1 := In.targ
      have t2 : m' "name" = some (sv k) := (In.rest _ (by decide)).trans (by wtm_at "nm")
      have t3 : m' "needs_by" = some (.ref B) := (In.rest _ (by decide)).trans (by wtm_at "nm")
      repeat wtm_at "te"
      refine PG_dict nb9.hB (lookup_keys hone) ?_
      refine P2_in_list (nb9.hL one hone) ?_
      exact ⟨_, rfl, rfl⟩
    · intro v hv hp m' In
      have t1 := In.targ
      repeat wtm_at "te"
      rfl
    intro D4 hD4
    rw [filter_sv]
    have E4 : Ex [] υ3 (υ3.upd D4 (.list ((clI ns nd k 0).map sv))) := Ex.refl.upd_new hD4
    have hD4' : (υ3.upd D4 (.list ((clI ns nd k 0).map sv))) D4 = some (.list ((clI ns nd k 0).map sv)) := Store.upd_self _ _ _
    show TSs _ _ _ _ _ (υ3.upd D4 (.list ((clI ns nd k 0).map sv))) _
    generalize υ3.upd D4 (.list ((clI ns nd k 0).map sv)) = υ4 at E4 hD4'
    have M10 := M9.ex E4
    have g3 := M10.hM
    have g4 := M10.hd
    repeat wtm_at "te"
    refine TC.le (TCc.tc (clients_tc M10 fun υ5 D5 E5 hD5 _ => ?_)) (by decide)
    repeat wtm_at "te"
    refine P2_ne_list hD5 (E5.of hD4') ?_
    rw [show decide ((ns.filter fun one => decide (k ∈ nd one)) = clI ns nd k 0) = true from decide_eq_true rfl]
    refine ⟨_, rfl, ?_⟩
    show if false = true then _ else _
    rw [if_neg Bool.false_ne_true]
    have E45 := E4.trans E5
    have nb11 := nb9.ex E45
    have M11 := M9.ex E45
    have hD6 := E5.of hD4'
    clear hD5 E4 E5
    repeat wtm_at "te"
    have E5all := E13.trans E45
    refine TS_For_range (fun j c m' υ' => c = ns.length ∧ m' "names" = some (.ref a) ∧ m' "needs_by" = some (.ref B) ∧ m' "modules" = some (.ref M) ∧ m' "rest" = some (.ref Rs) ∧ m' "name" = some (sv k) ∧ Ex [] υ υ' ∧
      ∃ Dc, m' "clients" = some (.ref Dc) ∧ υ' Dc = some (.list ((clI ns nd k j).map sv))) ?_ ?_ ?_ (by decide) (by intros; rfl)
    · repeat wtm_at "te"
      refine TC_len_list nb11.hN hszN ?_
      repeat wtm_at "te"
      refine TC_range fun D7 hD7 => ?_
      rw [List.length_map]
      have E7 : Ex [] υ5 (υ5.upd D7 (.range (ns.length : Nat))) := Ex.refl.upd_new hD7
      exact ⟨D7, _, rfl, Store.upd_self _ _ _, by omega, by omega, rfl, by wtm_at "nm", by wtm_at "nm", by wtm_at "nm", by wtm_at "nm", by wtm_at "nm", E5all.trans E7, D4, by wtm_at "nm", E7.of hD6⟩
    · rintro j c m' υ' hj ⟨rfl, n1, n2, n3, n4, n5, E6, Dc, n6, hDc⟩
      have nb12 := nb7.ex E6
      repeat wtm_at "te"
      refine TS_Assign_Cell ?_ (by decide) (by decide)
      refine TE_ListComp (onS fun one => decide (one ∈ clI ns nd k j) || !decide ((nd one).filter (fun o => decide (o ∈ clI ns nd k j)) = [])) id ?_ (by decide) (by intros; rfl)
      repeat wtm_at "te"
      refine ⟨a, _, rfl, nb12.hN, hszN, ⟨?_, ?_⟩, ?_⟩
      · intro v hv m2 In
        obtain ⟨one, hone, rfl⟩ := List.mem_map.mp hv
        have t1 := In.targ
        have t2 : m2 "clients" = some (.ref Dc) := (In.rest _ (by decide)).trans (by wtm_at "nm")
        have t3 : m2 "needs_by" = some (.ref B) := (In.rest _ (by decide)).trans (by wtm_at "nm")
        repeat wtm_at "te"
        refine P2_in_list hDc ?_
        refine ⟨_, rfl, ?_⟩
        refine if_dec (fun c1 => ?_) (fun c1 => ?_)
        · show true = (decide (one ∈ clI ns nd k j) || _)
          rw [decide_eq_true c1]; rfl
        · repeat wtm_at "te"
          refine TE_ListComp (onS fun o => decide (o ∈ clI ns nd k j)) id ?_ (by decide) (by intros; rfl)
          repeat wtm_at "te"
          refine PG_dict nb12.hB (lookup_keys hone) ?_
          have hlo := nb12.lens one hone
          refine ⟨_, _, rfl, nb12.hL one hone, by rw [List.length_map, sizeLine_eq]; omega, ⟨?_, ?_⟩, ?_⟩
          · intro v hv m3 In2
            obtain ⟨o, _, rfl⟩ := List.mem_map.mp hv
            have u1 := In2.targ
            have u2 : m3 "clients" = some (.ref Dc) := (In2.rest _ (by decide)).trans (by wtm_at "nm")
            repeat wtm_at "te"
            refine P2_in_list hDc ?_
            exact ⟨_, rfl, rfl⟩
          · intro v hv hp m3 In2
            have u1 := In2.targ
            repeat wtm_at "te"
            rfl
          intro D8 hD8
          rw [filter_sv]
          repeat wtm_at "te"
          refine ⟨Nat.zero_le _, fun D9 hD9 => ?_⟩
          refine P2_ne_list (xs := (nd one).filter fun o => decide (o ∈ clI ns nd k j)) (ys := []) ((Ex.refl.upd_new (X := []) hD9).of (Store.upd_self _ _ _)) (Store.upd_self _ _ _) ?_
          refine ⟨_, rfl, ?_⟩
          refine if_ndec (fun c2 => ?_) (fun c2 => ?_)
          · show true = (decide (one ∈ clI ns nd k j) || !decide ((nd one).filter (fun o => decide (o ∈ clI ns nd k j)) = []))
            rw [decide_eq_false c1, decide_eq_false c2]; rfl
          · repeat wtm_at "te"
            show false = (decide (one ∈ clI ns nd k j) || !decide ((nd one).filter (fun o => decide (o ∈ clI ns nd k j)) = []))
            rw [decide_eq_false c1, decide_eq_true c2]; rfl
      · intro v hv hp m2 In
        have t1 := In.targ
        repeat wtm_at "te"
        rfl
      intro D8 hD8
      rw [filter_sv]
      repeat wtm_at "te"
      exact ⟨rfl, by wtm_at "nm", by wtm_at "nm", by wtm_at "nm", by wtm_at "nm", by wtm_at "nm", E6.upd_new hD8, D8, upd_hit, Store.upd_self _ _ _⟩
    · rintro c m' υ' ⟨rfl, n1, n2, n3, n4, n5, E6, Dc, n6, hDc⟩
      rw [show ((ns.length : Int).toNat) = ns.length by omega] at hDc
      have M12 := M7.ex E6
      have g5 := M12.hM
      have g6 := M12.hd
      repeat wtm_at "te"
      refine TC.le (TCc.tc (all_clients_tc (k := k) M12 fun υ7 D7 F E7 hD7 nF _ c1 c2 c3 => ?_)) (by decide)
      repeat wtm_at "te"
      refine P2_ne_list hD7 (E7.of hDc) ?_
      rw [show decide (srt F = clI ns nd k ns.length) = true from decide_eq_true (closure_eq M12.up M12.nodup nF c1 c2 c3)]
      refine ⟨_, rfl, ?_⟩
      show if false = true then _ else _
      rw [if_neg Bool.false_ne_true]
      repeat wtm_at "te"
      exact ⟨(E6.trans E7).of haN, rfl, rfl, n1, n2, n3, n4, E.trans (E6.trans E7)⟩
  · rintro a xs m υ haN ⟨rfl, rfl, m1, m2, m3, m4, E⟩
    have nb7 := nb6.ex E
    have M7 := M6.ex E
    have g1 := M7.hM
    have g2 := M7.hd
    have hRs7 := E.of hRs6
    repeat wtm_at "te"
    refine TC.le (TCc.tc (cycle_tc M7 fun υ1 D1 ring E1 hD1 hempty hring hleast hmem hrl => ?_)) (by decide)
    have nb8 := nb7.ex E1
    have hRs8 := E1.of hRs7
    have hszR : (ring.map sv).length ≤ sizeLine := by rw [List.length_map, sizeLine_eq]; omega
    repeat wtm_at "te"
    refine ⟨Nat.zero_le _, fun D2 hD2 => ?_⟩
    have E2 : Ex [] υ1 (υ1.upd D2 (.list [])) := Ex.refl.upd_new hD2
    refine P2_eq_list (xs := ring) (ys := []) (E2.of hD1) (Store.upd_self _ _ _) ?_
    repeat wtm_at "te"
    refine ⟨Nat.zero_le _, fun D3 hD3 => ?_⟩
    have E3 : Ex [] (υ1.upd D2 (.list [])) ((υ1.upd D2 (.list [])).upd D3 (.list [])) := Ex.refl.upd_new hD3
    refine P2_eq_list (xs := restF ns nd) (ys := []) (E3.of (E2.of hRs8)) (Store.upd_self _ _ _) ?_
    refine P2_ne_bool ?_
    have hb : (decide (ring = []) != decide (restF ns nd = [])) = false := by
      by_cases hr : ring = []
      · rw [decide_eq_true hr, decide_eq_true (hempty.mp hr)]; rfl
      · rw [decide_eq_false hr, decide_eq_false fun z => hr (hempty.mpr z)]; rfl
    rw [hb]
    refine ⟨_, rfl, ?_⟩
    rw [if_neg Bool.false_ne_true]
    have nb9 := (nb8.ex E2).ex E3
    have hD4 := E3.of (E2.of hD1)
    generalize (υ1.upd D2 (.list [])).upd D3 (.list []) = υ3 at E3 nb9 hD4
    repeat wtm_at "ti"
    refine TC_set hD4 hring.nodup (by omega) fun D5 hD5 => ?_
    have E5 : Ex [] υ3 (υ3.upd D5 (.set ring.length)) := Ex.refl.upd_new hD5
    repeat wtm_at "ti"
    refine TC_len_set (Store.upd_self _ _ _) (by rw [sizeLine_eq]; omega) ?_
    repeat wtm_at "ti"
    refine TC_len_list (E5.of hD4) hszR ?_
    rw [List.length_map]
    repeat wtm_at "ti"
    rw [decide_eq_false (show ¬ ((ring.length : Int) < (ring.length : Int)) by omega)]
    rw [if_neg Bool.false_ne_true]
    have nb10 := nb9.ex E5
    have hD6 := E5.of hD4
    generalize υ3.upd D5 (.set ring.length) = υ5 at E5 nb10 hD6
    repeat wtm_at "ti"
    refine TS_For_range (fun j c m' υ' => c = ring.length ∧ m' "ring" = some (.ref D1) ∧ m' "needs_by" = some (.ref B) ∧ Ex [] υ5 υ') ?_ ?_ ?_ (by decide) (by intros; rfl)
    · repeat wtm_at "te"
      refine TC_len_list hD6 hszR ?_
      repeat wtm_at "te"
      refine TC_range fun D7 hD7 => ?_
      rw [List.length_map]
      exact ⟨D7, _, rfl, Store.upd_self _ _ _, by omega, by omega, rfl, by wtm_at "nm", by wtm_at "nm", Ex.refl.upd_new hD7⟩
    · rintro j c m' υ' hj ⟨rfl, n1, n2, E6⟩
      have hjl : j < ring.length := by omega
      have hD8 := E6.of hD6
      have nb12 := nb10.ex E6
      have hnx := hring.next j hjl
      have hjm := hmem _ (gs_mem hjl)
      repeat wtm_at "te"
      refine TC_len_list hD8 hszR ?_
      rw [List.length_map]
      refine P2_mod_int (by omega) ?_
      have hmod : ((j : Int) + 1).fmod (ring.length : Int) = (((j + 1) % ring.length : Nat) : Int) := by
        rw [Int.fmod_eq_emod_of_nonneg _ (by omega), Int.natCast_emod, Int.natCast_add]; rfl
      rw [hmod]
      refine PG_strs hD8 (Nat.mod_lt _ (by omega)) (by omega) ?_
      repeat wtm_at "te"
      refine PG_strs hD8 hjl (by omega) ?_
      refine PG_dict nb12.hB (lookup_keys hjm) ?_
      refine P2_notIn_list (nb12.hL _ hjm) ?_
      rw [decide_eq_true hnx]
      refine ⟨_, rfl, ?_⟩
      show if false = true then _ else _
      rw [if_neg Bool.false_ne_true]
      repeat wtm_at "te"
      refine PG_strs hD8 hjl (by omega) ?_
      repeat wtm_at "te"
      refine PG_strs (d := 0) hD8 (by omega) (by omega) ?_
      repeat wtm_at "te"
      have hlt : decide ((gs ring j).cps.toList < (gs ring 0).cps.toList) = false := hleast j hjl
      rw [hlt]
      rw [if_neg Bool.false_ne_true]
      repeat wtm_at "ti"
      exact ⟨rfl, by wtm_at "nm", by wtm_at "nm", E6⟩
    · rintro c m' υ' ⟨rfl, n1, n2, E6⟩
      repeat wtm_at "te"
      exact h _
end
end

noncomputable section
theorem ints_er : ∀ {vs : List Value} {ns : List Int}, IntsAre vs ns → vs.map er = ns.map fun k => .int k 0
  | _, _, .nil => rfl
  | _, _, .cons i t h => by rw [List.map_cons, List.map_cons, ints_er h]; rfl
theorem caller_lv : Lv 13 callerA := ⟨by decide, by decide, rfl⟩
theorem law_at {P : Params} : nsIn (KK P) mainGlobals "law" = some (some (.ref 374)) := rfl
theorem finish {w : World} {s₁ : Shared} {mg mb : Str → Option Value} {fa a : Addr} {vs : List Value} {ns : List Int} {Q E : Value → Shared → Prop}
    (X : (KK w.params).In s₁.heap) (g : s₁.heap.Ns mainGlobals mg) (b : s₁.heap.Ns builtinsNs mb) (nl : s₁.heap.NoLimit) (bi : ∀ x : Str, x ≠ "__name__" → mb x = bootBuiltins x)
    (hmg : mg "law" = some (.ref fa)) (hL : s₁.heap.IsList a vs.toArray) (hI : IntsAre vs ns) (hlen : ns.length ≤ 63)
    (h : ∀ h' tk, (∀ b o, s₁.heap.get? b = some o → h'.get? b = some o) → Q (.bool true) { s₁ with heap := h', toks := tk }) :
    wpAny (model PySem.Challenge.rw_pb0349_01.row.prog w) callerA (call (.ref fa) [.ref a]) Q E s₁ := by
  have e := mg_of X g law_at
  rw [hmg] at e
  obtain rfl : fa = 374 := Value.ref.inj (Option.some.inj e)
  have hl := IntsAre.length hI
  have L := law_tc (x := ⟨w, s₁.heap, mg, mb, X, g, b, nl, bi⟩) (σ := fun _ => none) (Q := fun v _ => v = .bool true) (a := a) (vs := vs.toArray) (is := ns) hL (ints_er hI) (by rw [List.size_toArray]; omega) fun _ => rfl
  refine (L.tc callerA s₁ E [.ref a] caller_lv ⟨fun _ _ e => ⟨e, rfl⟩, fun _ _ e => nomatch e⟩ rfl).then fun v s' σ' sm _ S hv => ?_
  obtain ⟨h', tk, rfl⟩ := sm
  rw [er_bool hv]
  exact h h' tk S.keep
namespace Sd
abbrev ll : OpenLaw := PySem.Challenge.rw_pb0349_01
abbrev pp : Program := ll.row.prog
theorem o1 : sreFenced pp.main = true := by kernel_rfl
theorem o2 : ((moduleNames pp.main.body).isEmpty || lookedIntoSs (moduleNames pp.main.body) pp.main.body) = true := by kernel_rfl
theorem o3 : namesResolve pp = true := by kernel_rfl
theorem o4 : pp.boundNames.all (fun n => !worldNames.contains n) = true := by kernel_rfl
theorem o5 : noRoadLSs { strict := !(importedModules pp.main.body).all cThrough.contains, foot := none, bare := (["vars", "dir", "locals"] : List Str).filter (readsOut pp pp.main.body) } pp.main.body = true := by kernel_rfl
theorem o6 : (namesMeet pp pp.main.body fun _ n => attrL n) = true := by kernel_rfl
theorem o7 : looksOpen pp = true := by
  unfold looksOpen
  rw [o1, o2, o3, o4, o5, o6]; rfl
theorem r1 : ll.row.wellSaid = true := by
  unfold OpenRow.wellSaid OpenRow.partSaid
  rw [o7]
  kernel_rfl
theorem m1 : (decide (ll.foot ≤ (behindTheImports ll.prog).length) && ll.footing.all footLine && noClassBlock ll.prog ll.footing &&
  ll.most.all (fun n => decide (63 ≤ n)) && ll.bound.all (fun n => decide (2 ^ 63 ≤ n))) = true := by kernel_rfl
theorem m2 : noRoadLSs { strict := true, foot := some ll.bound', writes := ll.writes, may := ll.may } ll.footing = true := by kernel_rfl
theorem m3 : defStands ll.about ll.above = true := by kernel_rfl
theorem m4 : ll.namesIt = true := by kernel_rfl
theorem m5 : ((["type", "isinstance", "issubclass", "getattr", "hasattr"] : List Str).all (fun n => ll.about != [n]) && ll.bound'.all (fun n => !builtinNamed n || ll.about == [n] || !ll.reads n)) = true := by kernel_rfl
theorem m6 : ((!ll.writes || (ll.prog.main.body.flatMap importedNames).all fun n => !ll.reads n) && (ll.prog.main.body.flatMap importedNames).all (fun n => !ll.reads n || (drawsOf n ll.prog.main.body).all fun mn => mn.2 != ("attrgetter" : Str) && mn.2 != ("methodcaller" : Str))) = true := by kernel_rfl
theorem m7 : (namesMeet ll.prog ll.footing (fun sc n => (!(["type", "isinstance", "issubclass", "getattr", "hasattr"] : List Str).contains n || sc.names.lookup n == some .globalImplicit) &&
    (ll.may != some n || sc.kind == .module || sc.names.lookup n == some .globalImplicit))) = true := by kernel_rfl
theorem m8 : (ll.own.contains ll.name && ll.own.eraseDups.length == ll.own.length && ll.own.all (fun n => !builtinNamed n)) = true := by kernel_rfl
theorem m9 : namesMeet ll.prog ll.above (fun _ n => !ll.own.contains n) = true := by kernel_rfl
theorem m10 : (namesMeet ll.prog ll.footing fun sc n => sc.kind == .module || sc.names.lookup n != some .globalExplicit) = true := by kernel_rfl
end Sd
theorem said0 : OpenLaw.wellSaid PySem.Challenge.rw_pb0349_01 = true := by
  have a1 := Sd.m1
  have a5 := Sd.m5
  have a6 := Sd.m6
  have a8 := Sd.m8
  simp only [Bool.and_eq_true] at a1 a5 a6 a8
  obtain ⟨⟨⟨⟨x1, x2⟩, x3⟩, x4⟩, x5⟩ := a1
  obtain ⟨y1, y2⟩ := a5
  obtain ⟨z1, z2⟩ := a6
  obtain ⟨⟨u1, u2⟩, u3⟩ := a8
  unfold OpenLaw.wellSaid
  simp only [Bool.and_eq_true, and_assoc]
  exact ⟨Sd.r1, x1, x2, x3, x4, x5, Sd.m2, Sd.m3, Sd.m4, y1, y2, z1, z2, Sd.m7, u1, u2, u3, Sd.m9, Sd.m10⟩
end

end Mine

set_option maxRecDepth 100000 in
set_option maxHeartbeats 0 in
theorem PySem.Challenge.cw_pb0349_01_holds : PySem.Challenge.rw_pb0349_01.Holds := by
  refine holds_law Mine.said0 fun said => ?_
  refine holds_open (q := Mine.qv) (loose := []) (Xt := fun s => xlAt Mine.qv [] s && recOk (RowW.records PySem.Challenge.rw_pb0349_01.row.toRowW) s) (XP := XL Mine.qv []) (Yf := Hook.obs Mine.HK) (Ya := Hook.val Mine.HK) (YP := Hook.says Mine.HK) (N := 4874) Mine.left1
    (Hook.of Mine.HK) (Hook.keeps Mine.HK) (fun s e => xl_of s (Bool.and_eq_true_iff.mp e).1) XL.keeps (by rfl) (by rfl) (by rfl) (fun s e => recFacts_of (Bool.and_eq_true_iff.mp e).2) (by rfl) (by first | assumption | decide +kernel) (by decide +kernel) ⟨rfl, rfl, rfl, rfl, rfl, by decide +kernel⟩ ?hw ?hc
  case hw => w_witness2
  case hc =>
    intro w s₀ s₁ mg mb G Y fa o pm cd doc dV kV ho hd' hcd hD hmg hg args vals as hpre hlay hrd hwl hlo
    have KX : (Mine.KK w.params).In s₁.heap := kIn_of Y
    clear ho hd' hcd hD
    refine Ground.open G ?_
    intro T B D TE TW
    wrow_args hpre hlay hrd hwl hlo
    rename_i ns hs hlay0 hL1 hr1 hl2 as4 as3 a vs asx hL ra wl r0 hI hr hcond ht
    refine Mine.finish KX T.g T.b T.nolimit T.builtins hmg hL hI (by omega) fun h' tk hk => ?_
    exact ⟨.inl ⟨_, _, [], rfl, fun _ => rfl, ReadsW.bool true, by first | kernel_rfl | wrow_post, fun _ => ⟨List.nodup_nil, fun _ hm => (nomatch hm)⟩⟩, .of_keep hk, rfl, hg ▸ AllBare.empty⟩
