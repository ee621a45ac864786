import PyProof.Rows.All
import Wide.All
import OpenK.AllK
import Wide.FinOn
import PySem.Challenge.RW_xm0165_01
open PySem PySem.W PyProof.Rows PySem.Calls PySem.Spec PySem.SeqAt
set_option Elab.async false
set_option maxRecDepth 100000
set_option maxHeartbeats 8000000
set_option linter.unusedVariables false
namespace Mine

/-! data without lists -/
mutual
def lf : PyData → Bool
  | .none => true
  | .bool _ => true
  | .int _ => true
  | .str _ => true
  | .list _ => false
  | .tuple xs => lfs xs
  | .dict _ => false
def lfs : List PyData → Bool
  | [] => true
  | x :: r => lf x && lfs r
end

theorem lfs_all {xs : List PyData} (h : lfs xs = true) : ∀ x ∈ xs, lf x = true := by
  induction xs with
  | nil => intro x hx; cases hx
  | cons a r ih =>
    rw [lfs, Bool.and_eq_true] at h
    intro x hx
    rcases List.mem_cons.mp hx with rfl | hx
    · exact h.1
    · exact ih h.2 x hx
theorem lfs_of {xs : List PyData} (h : ∀ x ∈ xs, lf x = true) : lfs xs = true := by
  induction xs with
  | nil => rfl
  | cons a r ih => rw [lfs, h a (.head _), ih fun x hx => h x (.tail _ hx)]; rfl
theorem lfs_append {xs ys : List PyData} (h : lfs xs = true) (k : lfs ys = true) : lfs (xs ++ ys) = true :=
  lfs_of fun x hx => (List.mem_append.mp hx).elim (lfs_all h x) (lfs_all k x)

mutual
theorem lf_keep {h h' : Heap} (hk : ∀ b o, h.get? b = some o → o.cls = .type "tuple" → (∃ vs n, o.data = .seq vs n) → h'.get? b = some o) :
    ∀ {v : Value} {d : PyData} {as : List Addr}, Reads h v d as → lf d = true → Reads h' v d []
  | _, _, _, .none, _ => .none
  | _, _, _, .bool b, _ => .bool b
  | _, _, _, .int i t, _ => .int i t
  | _, _, _, .str x t, _ => .str x t
  | _, _, _, .list _ _ _ _, e => nomatch e
  | _, _, _, .tuple h1 h2 h3 h4, e => .tuple (hk _ _ h1 h2 ⟨_, _, h3⟩) h2 h3 (lfs_keep hk h4 (by rw [lf] at e; exact e))
  | _, _, _, .dict _ _ _ _ _, e => nomatch e
theorem lfs_keep {h h' : Heap} (hk : ∀ b o, h.get? b = some o → o.cls = .type "tuple" → (∃ vs n, o.data = .seq vs n) → h'.get? b = some o) :
    ∀ {vs : List Value} {ds : List PyData} {as : List Addr}, ReadsAll h vs ds as → lfs ds = true → ReadsAll h' vs ds []
  | _, _, _, .nil, _ => .nil
  | _, _, _, .cons h1 h2, e => by
    rw [lfs, Bool.and_eq_true] at e
    exact ReadsAll.cons (as := []) (bs := []) (lf_keep hk h1 e.1) (lfs_keep hk h2 e.2)
end

theorem ReadsAll.len {h : Heap} : ∀ {vs : List Value} {ds : List PyData} {as : List Addr}, ReadsAll h vs ds as → vs.length = ds.length
  | _, _, _, .nil => rfl
  | _, _, _, .cons _ h2 => by rw [List.length_cons, List.length_cons, ReadsAll.len h2]

theorem readsAll_cons {h : Heap} {v : Value} {d : PyData} {vs : List Value} {ds : List PyData} (a : Reads h v d []) (b : ReadsAll h vs ds []) : ReadsAll h (v :: vs) (d :: ds) [] :=
  ReadsAll.cons (as := []) (bs := []) a b
theorem readsAll_uncons {h : Heap} {d : PyData} {vs : List Value} {ds : List PyData} (a : ReadsAll h vs (d :: ds) []) : ∃ v r, vs = v :: r ∧ Reads h v d [] ∧ ReadsAll h r ds [] := by
  generalize e : ([] : List Addr) = as at a
  cases a with
  | cons h1 h2 =>
    rename_i v vs' as bs
    have e' := (List.append_eq_nil_iff.mp e.symm)
    rw [e'.1] at h1
    rw [e'.2] at h2
    exact ⟨v, vs', rfl, e ▸ h1, e ▸ h2⟩
theorem readsAll_append {h : Heap} : ∀ {vs : List Value} {ds : List PyData} {vs' : List Value} {ds' : List PyData}, ReadsAll h vs ds [] → ReadsAll h vs' ds' [] → ReadsAll h (vs ++ vs') (ds ++ ds') []
  | vs, [], vs', ds', a, b => by
    have := ReadsAll.len a
    cases vs with
    | nil => exact b
    | cons => cases this
  | vs, d :: ds, vs', ds', a, b => by
    obtain ⟨v, r, rfl, h1, h2⟩ := readsAll_uncons a
    exact readsAll_cons h1 (readsAll_append h2 b)
theorem readsAll_get {h : Heap} : ∀ {vs : List Value} {ds : List PyData} {i : Nat} {d : PyData}, ReadsAll h vs ds [] → ds[i]? = some d → ∃ v, vs[i]? = some v ∧ Reads h v d []
  | vs, [], i, d, _, e => by simp at e
  | vs, x :: ds, i, d, a, e => by
    obtain ⟨v, r, rfl, h1, h2⟩ := readsAll_uncons a
    cases i with
    | zero => cases e; exact ⟨v, rfl, h1⟩
    | succ i => obtain ⟨w, e1, e2⟩ := readsAll_get h2 (i := i) (by simpa using e); exact ⟨w, by simpa using e1, e2⟩

/-! what may change -/
structure Ext (base : Heap) where
  W : List Addr
  I : Heap → Prop
  lists : ∀ h, I h → ∀ b ∈ W, ∃ o, h.get? b = some o ∧ o.cls = .type "list" ∧ ∃ vs n, o.data = .seq vs n
  stable : ∀ h h', I h → (∀ b ∈ W, ∀ o, h.get? b = some o → h'.get? b = some o) → I h'
  off : ∀ b ∈ W, base.get? b = none

/-- nothing changes -/
def ext0 (base : Heap) : Ext base where
  W := []
  I := fun _ => True
  lists := fun _ _ _ h => absurd h List.not_mem_nil
  stable := fun _ _ _ _ => trivial
  off := fun _ h => absurd h List.not_mem_nil

section
variable {base : Heap} (X : Ext base)

inductive VR (h : Heap) : Value → PyData → Prop
  | flat {v : Value} {d : PyData} : lf d = true → Reads h v d [] → VR h v d
  | lst {a : Addr} {o : Obj} {vs : Array Value} {n : Nat} {xs : List PyData} : a ∉ X.W → h.get? a = some o → o.cls = .type "list" → o.data = .seq vs n → lfs xs = true → ReadsAll h vs.toList xs [] → VR h (.ref a) (.list xs)
  | hnd (a : Addr) : VR h (.ref a) (.dict [(.int a, .none)])

inductive VRs (h : Heap) : List Value → List PyData → Prop
  | nil : VRs h [] []
  | cons {v : Value} {d : PyData} {vs : List Value} {ds : List PyData} : VR X h v d → VRs h vs ds → VRs h (v :: vs) (d :: ds)

def Keep (h h' : Heap) : Prop := ∀ b o, b ∉ X.W → h.get? b = some o → h'.get? b = some o

/-- objects that the layer leans on stand -/
def Stands (h h' : Heap) : Prop := ∀ b o, h.get? b = some o → b ∉ X.W → ((∃ vs n, o.data = .seq vs n) ∨ (∃ es n, o.data = .dict es n) ∨ (∃ c, o.data = .cell c) ∨ ∃ o', base.get? b = some o') → h'.get? b = some o

variable {X}
theorem Keep.refl (h : Heap) : Keep X h h := fun _ _ _ e => e
theorem Keep.trans {h h₁ h₂ : Heap} (a : Keep X h h₁) (b : Keep X h₁ h₂) : Keep X h h₂ := fun c o n e => b c o n (a c o n e)
theorem Keep.push (h : Heap) (o : Obj) : Keep X h (h.push o) := fun _ _ _ e => Heap.get?_push_of_some _ e
theorem Keep.stands {h h' : Heap} (a : Keep X h h') : Stands X h h' := fun b o e n _ => a b o n e
theorem Keep.ofAll {h h' : Heap} (a : ∀ b o, h.get? b = some o → h'.get? b = some o) : Keep X h h' := fun b o _ e => a b o e
theorem keep_all0 {h h' : Heap} (a : Keep (ext0 base) h h') : ∀ b o, h.get? b = some o → h'.get? b = some o := fun b o e => a b o List.not_mem_nil e

theorem tuple_off {h : Heap} (hI : X.I h) {b : Addr} {o : Obj} (e : h.get? b = some o) (c : o.cls = .type "tuple") : b ∉ X.W := fun q => by
  obtain ⟨o', e', c', _⟩ := X.lists h hI b q
  rw [e] at e'; cases e'
  rw [c] at c'
  exact absurd c' (by decide)
theorem dict_off {h : Heap} (hI : X.I h) {b : Addr} {o : Obj} (e : h.get? b = some o) (c : ∃ es n, o.data = .dict es n) : b ∉ X.W := fun q => by
  obtain ⟨o', e', _, vs, n, d⟩ := X.lists h hI b q
  rw [e] at e'; cases e'
  obtain ⟨_, _, d'⟩ := c
  rw [d] at d'; cases d'
theorem cell_off {h : Heap} (hI : X.I h) {b : Addr} {o : Obj} (e : h.get? b = some o) (c : ∃ x, o.data = .cell x) : b ∉ X.W := fun q => by
  obtain ⟨o', e', _, vs, n, d⟩ := X.lists h hI b q
  rw [e] at e'; cases e'
  obtain ⟨_, d'⟩ := c
  rw [d] at d'; cases d'

/-- what the layer's lists and tuples need -/
def Seqs (h h' : Heap) : Prop := ∀ b o, h.get? b = some o → b ∉ X.W → (∃ vs n, o.data = .seq vs n) → h'.get? b = some o

theorem reads_seqs {h h' : Heap} (hI : X.I h) (hk : Seqs (X := X) h h') {v : Value} {d : PyData} {as : List Addr} (r : Reads h v d as) (l : lf d = true) : Reads h' v d [] := lf_keep (fun b o e c q => hk b o e (tuple_off hI e c) q) r l
theorem readsAll_seqs {h h' : Heap} (hI : X.I h) (hk : Seqs (X := X) h h') {vs : List Value} {ds : List PyData} {as : List Addr} (r : ReadsAll h vs ds as) (l : lfs ds = true) : ReadsAll h' vs ds [] := lfs_keep (fun b o e c q => hk b o e (tuple_off hI e c) q) r l
theorem VR.seqs {h h' : Heap} {v : Value} {d : PyData} (r : VR X h v d) (hI : X.I h) (hk : Seqs (X := X) h h') : VR X h' v d := by
  cases r with
  | flat e r => exact .flat e (reads_seqs hI hk r e)
  | lst na e c dt l r => exact .lst na (hk _ _ e na ⟨_, _, dt⟩) c dt l (readsAll_seqs hI hk r l)
  | hnd a => exact .hnd a
theorem VRs.seqs {h h' : Heap} {v : List Value} {d : List PyData} (r : VRs X h v d) (hI : X.I h) (hk : Seqs (X := X) h h') : VRs X h' v d := by
  induction r with
  | nil => exact .nil
  | cons a _ ih => exact .cons (a.seqs hI hk) ih
theorem Keep.seqs {h h' : Heap} (a : Keep X h h') : Seqs (X := X) h h' := fun b o e n _ => a b o n e
theorem Stands.seqs {h h' : Heap} (a : Stands X h h') : Seqs (X := X) h h' := fun b o e n k => a b o e n (.inl k)
theorem VR.keep {h h' : Heap} {v : Value} {d : PyData} (r : VR X h v d) (hI : X.I h) (hk : Keep X h h') : VR X h' v d := r.seqs hI hk.seqs
theorem VRs.keep {h h' : Heap} {v : List Value} {d : List PyData} (r : VRs X h v d) (hI : X.I h) (hk : Keep X h h') : VRs X h' v d := r.seqs hI hk.seqs

/-! what the law's own text and the start-up have laid -/
structure Gnd (K : Frag) (base : Heap) : Prop where
  K : K.In base
  nolim : base.NoLimit
  g : ∃ mg, base.Ns mainGlobals mg
  b : ∃ mb, base.Ns builtinsNs mb ∧ ∀ x : Str, x ≠ "__name__" → mb x = bootBuiltins x

structure EnvOK (sc : Scope) (env : Env) : Prop where
  kind : env.scope.kind = .function
  glob : env.globals = mainGlobals
  blt : env.builtins = builtinsNs
  loc : ∀ x, sc.names.lookup x = some .local → env.kindOf x = some .local
  cel : ∀ x, sc.names.lookup x = some .cell → env.kindOf x = some .cell
  gl : ∀ x, sc.names.lookup x = some .globalImplicit → env.kindOf x = some .globalImplicit

def HasVar (X : Ext base) (env : Env) (h : Heap) (x : Str) (d : PyData) : Prop :=
  (env.kindOf x = some .local ∧ ∃ mv v, h.Ns env.locals mv ∧ mv x = some v ∧ VR X h v d) ∨
  (env.kindOf x = some .cell ∧ ∃ c v, env.cells.lookup x = some c ∧ h.IsCell c (some v) ∧ VR X h v d)

abbrev Loc := List (Option PyData)

structure FmOK (X : Ext base) (env : Env) (vs : List Str) (m : Loc) (h : Heap) : Prop where
  stays : base.StaysIn h
  inv : X.I h
  ns : ∃ mv, h.Ns env.locals mv
  lnew : base.get? env.locals = none
  vars : ∀ (i : Nat) (x : Str) (d : PyData), vs[i]? = some x → m[i]? = some (some d) → HasVar X env h x d

theorem HasVar.stands {env : Env} {h h' : Heap} {x : Str} {d : PyData} (r : HasVar X env h x d) (hI : X.I h) (hk : Stands X h h') : HasVar X env h' x d := by
  rcases r with ⟨k, mv, v, n, e, r⟩ | ⟨k, c, v, e, q, r⟩
  · obtain ⟨o, es, ep, ho, hd, rest⟩ := n
    exact .inl ⟨k, mv, v, ⟨o, es, ep, hk _ _ ho (dict_off hI ho ⟨_, _, hd⟩) (.inr (.inl ⟨_, _, hd⟩)), hd, rest⟩, e, r.seqs hI hk.seqs⟩
  · obtain ⟨o, ho, hd⟩ := q
    exact .inr ⟨k, c, v, e, ⟨o, hk _ _ ho (cell_off hI ho ⟨_, hd⟩) (.inr (.inr (.inl ⟨_, hd⟩))), hd⟩, r.seqs hI hk.seqs⟩
theorem FmOK.stands {env : Env} {vs : List Str} {m : Loc} {h h' : Heap} (F : FmOK X env vs m h) (hk : Stands X h h') (hI : X.I h') : FmOK X env vs m h' where
  stays := fun b o e => hk b o (F.stays b o e) (fun q => by rw [X.off b q] at e; cases e) (.inr (.inr (.inr ⟨o, e⟩)))
  inv := hI
  ns := let ⟨mv, o, es, ep, ho, hd, rest⟩ := F.ns; ⟨mv, o, es, ep, hk _ _ ho (dict_off F.inv ho ⟨_, _, hd⟩) (.inr (.inl ⟨_, _, hd⟩)), hd, rest⟩
  lnew := F.lnew
  vars := fun i x d e1 e2 => (F.vars i x d e1 e2).stands F.inv hk
theorem FmOK.keep {env : Env} {vs : List Str} {m : Loc} {h h' : Heap} (F : FmOK X env vs m h) (hk : Keep X h h') (hI : X.I h') : FmOK X env vs m h' := F.stands hk.stands hI

/-- no exception is about, room for n calls -/
structure Room (n : Nat) (A : Around) : Prop where
  hd : A.handled = none
  depth : A.depth + n < recursionLimit
  units : A.units + 8 * n + 200 < cLine
theorem Room.less {n m : Nat} {A : Around} (r : Room n A) (h : m ≤ n) : Room m A := ⟨r.hd, by have := r.depth; omega, by have := r.units; omega⟩
theorem Room.deeper {n : Nat} {A : Around} (r : Room (n + 1) A) (env : Env) : Room n (A.deeper env) :=
  ⟨r.hd, by have := r.depth; show A.depth + 1 + n < _; omega, by have := r.units; show A.units + 3 + 8 * n + 200 < _; omega⟩
theorem Room.u65 {n : Nat} {A : Around} (r : Room n A) : A.units + 65 < cLine := by have := r.units; omega

def PostE (X : Ext base) (s : Shared) (Q : PyData → Prop) (v : Value) (s' : Shared) : Prop :=
  ∃ d h' tk', s' = { s with heap := h', toks := tk' } ∧ Keep X s.heap h' ∧ X.I h' ∧ VR X h' v d ∧ Q d
def PostL (X : Ext base) (s : Shared) (Q : List PyData → Prop) (v : List Value) (s' : Shared) : Prop :=
  ∃ d h' tk', s' = { s with heap := h', toks := tk' } ∧ Keep X s.heap h' ∧ X.I h' ∧ VRs X h' v d ∧ Q d
def PostT (X : Ext base) (s : Shared) (Q : Bool → Prop) (b : Bool) (s' : Shared) : Prop :=
  ∃ h' tk', s' = { s with heap := h', toks := tk' } ∧ Keep X s.heap h' ∧ X.I h' ∧ Q b
theorem PostE.from {s : Shared} {Q : PyData → Prop} {v : Value} {s' : Shared} {h₁ : Heap} {t₁ : Nat} (p : PostE X { s with heap := h₁, toks := t₁ } Q v s') (k : Keep X s.heap h₁) : PostE X s Q v s' := by
  obtain ⟨d, h', tk', rfl, k', i, r, q⟩ := p
  exact ⟨d, h', tk', rfl, k.trans k', i, r, q⟩
theorem PostL.from {s : Shared} {Q : List PyData → Prop} {v : List Value} {s' : Shared} {h₁ : Heap} {t₁ : Nat} (p : PostL X { s with heap := h₁, toks := t₁ } Q v s') (k : Keep X s.heap h₁) : PostL X s Q v s' := by
  obtain ⟨d, h', tk', rfl, k', i, r, q⟩ := p
  exact ⟨d, h', tk', rfl, k.trans k', i, r, q⟩
theorem PostT.from {s : Shared} {Q : Bool → Prop} {v : Bool} {s' : Shared} {h₁ : Heap} {t₁ : Nat} (p : PostT X { s with heap := h₁, toks := t₁ } Q v s') (k : Keep X s.heap h₁) : PostT X s Q v s' := by
  obtain ⟨h', tk', rfl, k', i, q⟩ := p
  exact ⟨h', tk', rfl, k.trans k', i, q⟩

section
variable {M : Model} {A : Around} {E : Value → Shared → Prop} {s : Shared}
theorem thenE {c : Sem Value} {Q : PyData → Prop} {P : Value → Shared → Prop} (h : wpAny M A c (PostE X s Q) E s) (k : ∀ v d h' tk', Keep X s.heap h' → X.I h' → VR X h' v d → Q d → P v { s with heap := h', toks := tk' }) : wpAny M A c P E s :=
  wpAny_mono h (fun v _ ⟨d, h', tk', e, a, b, c, q⟩ => e ▸ k v d h' tk' a b c q) fun _ _ x => x
theorem thenL {c : Sem (List Value)} {Q : List PyData → Prop} {P : List Value → Shared → Prop} (h : wpAny M A c (PostL X s Q) E s) (k : ∀ v d h' tk', Keep X s.heap h' → X.I h' → VRs X h' v d → Q d → P v { s with heap := h', toks := tk' }) : wpAny M A c P E s :=
  wpAny_mono h (fun v _ ⟨d, h', tk', e, a, b, c, q⟩ => e ▸ k v d h' tk' a b c q) fun _ _ x => x
theorem thenT {c : Sem Bool} {Q : Bool → Prop} {P : Bool → Shared → Prop} (h : wpAny M A c (PostT X s Q) E s) (k : ∀ b h' tk', Keep X s.heap h' → X.I h' → Q b → P b { s with heap := h', toks := tk' }) : wpAny M A c P E s :=
  wpAny_mono h (fun v _ ⟨h', tk', e, a, b, q⟩ => e ▸ k v h' tk' a b q) fun _ _ x => x
theorem fromE {c : Sem Value} {Q : PyData → Prop} {s₁ : Shared} {h₁ : Heap} {t₁ : Nat} (h : wpAny M A c (PostE X { s with heap := h₁, toks := t₁ } Q) E s₁) (k : Keep X s.heap h₁) : wpAny M A c (PostE X s Q) E s₁ := wpAny_mono h (fun _ _ p => p.from k) fun _ _ x => x
theorem fromL {c : Sem (List Value)} {Q : List PyData → Prop} {s₁ : Shared} {h₁ : Heap} {t₁ : Nat} (h : wpAny M A c (PostL X { s with heap := h₁, toks := t₁ } Q) E s₁) (k : Keep X s.heap h₁) : wpAny M A c (PostL X s Q) E s₁ := wpAny_mono h (fun _ _ p => p.from k) fun _ _ x => x
theorem fromT {c : Sem Bool} {Q : Bool → Prop} {s₁ : Shared} {h₁ : Heap} {t₁ : Nat} (h : wpAny M A c (PostT X { s with heap := h₁, toks := t₁ } Q) E s₁) (k : Keep X s.heap h₁) : wpAny M A c (PostT X s Q) E s₁ := wpAny_mono h (fun _ _ p => p.from k) fun _ _ x => x
end
abbrev ED := Loc → (PyData → Prop) → Prop
abbrev LD := Loc → (List PyData → Prop) → Prop
abbrev TD := Loc → (Bool → Prop) → Prop
inductive Flw where
  | nxt
  | ret (d : PyData)
abbrev SD := Loc → (Loc → Flw → Prop) → Prop

def DenE (prog : Program) (w : World) (X : Ext base) (n : Nat) (sc : Scope) (vs : List Str) (e : Expr) (f : ED) : Prop :=
  ∀ (env : Env) (A : Around) (E : Value → Shared → Prop) (s : Shared) (m : Loc) (Q : PyData → Prop), EnvOK sc env → Room n A → FmOK X env vs m s.heap → f m Q → wpAny (model prog w) A (eval e env) (PostE X s Q) E s
def DenL (prog : Program) (w : World) (X : Ext base) (n : Nat) (sc : Scope) (vs : List Str) (es : List Expr) (f : LD) : Prop :=
  ∀ (env : Env) (A : Around) (E : Value → Shared → Prop) (s : Shared) (m : Loc) (Q : List PyData → Prop) (pos : Pos), EnvOK sc env → Room n A → FmOK X env vs m s.heap → f m Q → wpAny (model prog w) A (spliced (backTo pos (starEach es env))) (PostL X s Q) E s
def DenT (prog : Program) (w : World) (X : Ext base) (n : Nat) (sc : Scope) (vs : List Str) (e : Expr) (f : TD) : Prop :=
  ∀ (env : Env) (A : Around) (E : Value → Shared → Prop) (s : Shared) (m : Loc) (Q : Bool → Prop), EnvOK sc env → Room n A → FmOK X env vs m s.heap → f m Q → wpAny (model prog w) A (isTrue e env (eval e env)) (PostT X s Q) E s
end

section
variable {base : Heap} {prog : Program} {w : World} {X : Ext base} {n : Nat} {sc : Scope} {vs : List Str}

/-- a value that needs no object -/
theorem vr_flat0 {h : Heap} {v : Value} {d : PyData} (l : lf d = true := by rfl) (r : Reads h v d []) : VR X h v d := .flat l r

theorem den_const (c : Const) (d : PyData) (k : Nat) (pos : Pos)
    (hc : (match c, d with | .none, .none => True | .bool a, .bool b => a = b | .int a, .int b => a = b | .str a, .str b => a = b | _, _ => False)) :
    DenE prog w X n sc vs (.Constant c k pos) (fun _ Q => Q d) := by
  intro env A E s m Q _ _ F hQ
  cases c <;> cases d <;> (try exact hc.elim)
  · exact wpAny_Constant_none ⟨_, s.heap, s.toks, rfl, .refl _, F.inv, vr_flat0 rfl .none, hQ⟩
  · cases hc; exact wpAny_Constant_bool ⟨_, s.heap, s.toks, rfl, .refl _, F.inv, vr_flat0 rfl (.bool _), hQ⟩
  · cases hc; exact wpAny_Constant_int ⟨_, s.heap, s.toks + 1, rfl, .refl _, F.inv, vr_flat0 rfl (.int _ _), hQ⟩
  · cases hc; exact wpAny_Constant_str ⟨_, s.heap, s.toks + 1, rfl, .refl _, F.inv, vr_flat0 rfl (.str _ _), hQ⟩

def getV (m : Loc) (i : Nat) (Q : PyData → Prop) : Prop := match m[i]? with
  | some (some d) => Q d
  | _ => False

theorem den_var (x : Str) (i : Nat) (pos : Pos) (hi : vs[i]? = some x) (hd : (x == ("__debug__" : Str)) = false := by decide) :
    DenE prog w X n sc vs (.Name x pos) (fun m Q => getV m i Q) := by
  intro env A E s m Q ok _ F hQ
  unfold getV at hQ
  split at hQ
  · rename_i d hm
    rcases F.vars i x d hi hm with ⟨k, mv, v, nn, e, r⟩ | ⟨k, c, v, e, q, r⟩
    · exact wpAny_Name (wpAny_loadName_local ok.kind k nn e ⟨_, s.heap, s.toks, rfl, .refl _, F.inv, r, hQ⟩) hd
    · exact wpAny_Name (wpAny_loadName_cell ok.kind k e q ⟨_, s.heap, s.toks, rfl, .refl _, F.inv, r, hQ⟩) hd
  · exact hQ.elim

/-- a table of the top: a tuple of strs -/
theorem den_global {K : Frag} (G : Gnd K base) (x : Str) (v : Value) (d : PyData) (pos : Pos) (hx : sc.names.lookup x = some .globalImplicit) (e : nsIn K mainGlobals x = some (some v)) (hl : lf d = true)
    (hr : Reads base v d []) (hd : (x == ("__debug__" : Str)) = false := by decide) : DenE prog w X n sc vs (.Name x pos) (fun _ Q => Q d) := by
  intro env A E s m Q ok _ F hQ
  obtain ⟨mg, hg⟩ := G.g
  exact Name_function_global ok.kind (ok.gl x hx) (loadGlobal_global (env := env) (by rw [ok.glob]; exact hg.keeps F.stays) (mg_of G.K hg e)
    ⟨_, s.heap, s.toks, rfl, .refl _, F.inv, .flat hl (Reads.keeps F.stays hr), hQ⟩) hd

theorem den_nil : DenL prog w X n sc vs [] (fun _ Q => Q []) := by
  intro env A E s m Q pos _ _ F hQ
  exact wpAny_items_nil ⟨_, s.heap, s.toks, rfl, .refl _, F.inv, .nil, hQ⟩
theorem den_cons {e : Expr} {es : List Expr} {f : ED} {g : LD} (he : DenE prog w X n sc vs e f) (hes : DenL prog w X n sc vs es g)
    (hst : ∀ env, starEach (e :: es) env = (false, eval e env) :: starEach es env := by intro env; rfl) :
    DenL prog w X n sc vs (e :: es) (fun m Q => f m fun d => g m fun ds => Q (d :: ds)) := by
  intro env A E s m Q pos ok R F hQ
  refine wpAny_items_cons (thenE (he env A E s m _ ok R F hQ) fun v d h₁ t₁ k₁ i₁ r₁ q₁ => ?_) (hst env)
  refine wpAny_mono (hes env A E _ m _ pos ok R (F.keep k₁ i₁) q₁) (fun vs' s₂ p => ?_) fun _ _ x => x
  obtain ⟨ds, h₂, t₂, rfl, k₂, i₂, r₂, q₂⟩ := p
  exact ⟨d :: ds, h₂, t₂, rfl, k₁.trans k₂, i₂, .cons (r₁.keep i₁ k₂) r₂, q₂⟩

theorem VRs.reads {h : Heap} {v : List Value} {ds : List PyData} (r : VRs X h v ds) (l : lfs ds = true) : ReadsAll h v ds [] := by
  induction r with
  | nil => exact .nil
  | cons a _ ih =>
    rw [lfs, Bool.and_eq_true] at l
    cases a with
    | flat e r => exact readsAll_cons r (ih l.2)
    | lst => exact absurd l.1 (by simp [lf])
    | hnd => exact absurd l.1 (by simp [lf])
theorem VRs.length {h : Heap} {v : List Value} {ds : List PyData} (r : VRs X h v ds) : v.length = ds.length := by
  induction r with
  | nil => rfl
  | cons _ _ ih => rw [List.length_cons, List.length_cons, ih]

/-- a new object's place -/
theorem new_off {h : Heap} (hI : X.I h) : h.objs.size ∉ X.W := fun q => by
  obtain ⟨o, e, _⟩ := X.lists h hI _ q
  exact absurd (Heap.lt_size e) (Nat.lt_irrefl _)
theorem inv_push {h : Heap} (hI : X.I h) (o : Obj) : X.I (h.push o) := X.stable h _ hI fun _ _ _ e => Heap.get?_push_of_some _ e

theorem vr_newTuple {h : Heap} {v : List Value} {ds : List PyData} (hI : X.I h) (r : VRs X h v ds) (l : lfs ds = true) :
    VR X (h.push { cls := .type "tuple", data := .seq v.toArray }) (.ref h.objs.size) (.tuple ds) :=
  .flat (by rw [lf]; exact l) (.tuple (Heap.get?_push_size _ rfl) rfl rfl (readsAll_seqs hI (Keep.push h _).seqs (r.reads l) l))
theorem vr_newList {h : Heap} {v : List Value} {ds : List PyData} (hI : X.I h) (r : VRs X h v ds) (l : lfs ds = true) :
    VR X (h.push { cls := .type "list", data := .seq v.toArray }) (.ref h.objs.size) (.list ds) :=
  .lst (new_off hI) (Heap.get?_push_size _ rfl) rfl rfl l (readsAll_seqs hI (Keep.push h _).seqs (r.reads l) l)

def small (ds : List PyData) : Bool := decide (ds.length ≤ 1000)
theorem small_line {ds : List PyData} (h : small ds = true) : ds.length ≤ sizeLine := Nat.le_trans (of_decide_eq_true h) (by decide)

theorem den_tuple {es : List Expr} {g : LD} (k : Nat) (pos : Pos) (hes : DenL prog w X n sc vs es g) :
    DenE prog w X n sc vs (.Tuple es k pos) (fun m Q => g m fun ds => lfs ds = true ∧ small ds = true ∧ Q (.tuple ds)) := by
  intro env A E s m Q ok R F hQ
  refine wpAny_Tuple (thenL (hes env A E s m _ pos ok R F hQ) fun v ds h₁ t₁ k₁ i₁ r₁ ⟨l₁, sm, q₁⟩ => ?_)
  exact ⟨by rw [r₁.length]; exact small_line sm, .tuple ds, _, _, rfl, k₁.trans (Keep.push _ _), inv_push i₁ _, vr_newTuple i₁ r₁ l₁, q₁⟩
theorem den_list {es : List Expr} {g : LD} (pos : Pos) (hes : DenL prog w X n sc vs es g) :
    DenE prog w X n sc vs (.List es pos) (fun m Q => g m fun ds => lfs ds = true ∧ small ds = true ∧ Q (.list ds)) := by
  intro env A E s m Q ok R F hQ
  refine wpAny_List (thenL (hes env A E s m _ pos ok R F hQ) fun v ds h₁ t₁ k₁ i₁ r₁ ⟨l₁, sm, q₁⟩ => ?_)
  exact ⟨by rw [r₁.length]; exact small_line sm, .list ds, _, _, rfl, k₁.trans (Keep.push _ _), inv_push i₁ _, vr_newList i₁ r₁ l₁, q₁⟩
end
end Mine

namespace Mine

section
variable {base : Heap} {prog : Program} {w : World} {X : Ext base} {n : Nat} {sc : Scope} {vs : List Str}

/-! sums -/
def addQ (a b : PyData) (Q : PyData → Prop) : Prop := match a, b with
  | .int x, .int y => Q (.int (x + y))
  | .list x, .list y => small (x ++ y) = true ∧ Q (.list (x ++ y))
  | .tuple x, .tuple y => small (x ++ y) = true ∧ Q (.tuple (x ++ y))
  | _, _ => False

theorem VR.int_inv {h : Heap} {v : Value} {i : Int} (r : VR X h v (.int i)) : ∃ t, v = .int i t := by
  cases r with
  | flat _ r => cases r; exact ⟨_, rfl⟩
theorem VR.bool_inv {h : Heap} {v : Value} {b : Bool} (r : VR X h v (.bool b)) : v = .bool b := by
  cases r with
  | flat _ r => cases r; rfl
theorem VR.tuple_inv {h : Heap} {v : Value} {xs : List PyData} (r : VR X h v (.tuple xs)) : ∃ a o us k, v = .ref a ∧ h.get? a = some o ∧ o.cls = .type "tuple" ∧ o.data = .seq us k ∧ ReadsAll h us.toList xs [] ∧ lfs xs = true := by
  cases r with
  | flat l r =>
    cases r with
    | tuple h1 h2 h3 h4 => exact ⟨_, _, _, _, rfl, h1, h2, h3, h4, by rw [lf] at l; exact l⟩
theorem VR.list_inv {h : Heap} {v : Value} {xs : List PyData} (r : VR X h v (.list xs)) : ∃ a o us k, v = .ref a ∧ h.get? a = some o ∧ o.cls = .type "list" ∧ o.data = .seq us k ∧ ReadsAll h us.toList xs [] ∧ lfs xs = true ∧ a ∉ X.W := by
  cases r with
  | flat l r => exact absurd l (by simp [lf])
  | lst na e c d l r => exact ⟨_, _, _, _, rfl, e, c, d, r, l, na⟩
theorem VR.reads {h : Heap} {v : Value} {d : PyData} (r : VR X h v d) (hs : shaped d = true) : ∃ as, Reads h v d as := by
  cases r with
  | flat _ r => exact ⟨_, r⟩
  | lst na e c dt l r => exact ⟨_, .list e c dt r⟩
  | hnd => simp [shaped, PyData.canLay0] at hs

theorem post_new {s : Shared} {Q : PyData → Prop} {v : List Value} {ds : List PyData} {T : String} (hT : T = "tuple" ∨ T = "list") (hI : X.I s.heap) (r : ReadsAll s.heap v ds []) (l : lfs ds = true)
    (q : Q (if T = "tuple" then .tuple ds else .list ds)) : PostE X s Q (.ref s.heap.objs.size) { s with heap := s.heap.push { cls := .type T, data := .seq v.toArray } } := by
  have r' : VRs X s.heap v ds := by
    clear q
    induction ds generalizing v with
    | nil => have := ReadsAll.len r; cases v with | nil => exact .nil | cons => cases this
    | cons d ds ih =>
      obtain ⟨v, t, rfl, h1, h2⟩ := readsAll_uncons r
      rw [lfs, Bool.and_eq_true] at l
      exact .cons (.flat l.1 h1) (ih h2 l.2)
  rcases hT with rfl | rfl
  · exact ⟨_, _, s.toks, rfl, Keep.push _ _, inv_push hI _, vr_newTuple hI r' l, q⟩
  · exact ⟨_, _, s.toks, rfl, Keep.push _ _, inv_push hI _, vr_newList hI r' l, q⟩

theorem add_sound {A : Around} {E : Value → Shared → Prop} {s : Shared} {va vb : Value} {a b : PyData} {Q : PyData → Prop} (hI : X.I s.heap) (ra : VR X s.heap va a) (rb : VR X s.heap vb b) (hQ : addQ a b Q) :
    wpAny (model prog w) A (binaryOp .Add va vb) (PostE X s Q) E s := by
  unfold addQ at hQ
  split at hQ
  · obtain ⟨t, rfl⟩ := ra.int_inv
    obtain ⟨u, rfl⟩ := rb.int_inv
    exact PyProof.Rows.add_int ⟨_, s.heap, s.toks + 1, rfl, .refl _, hI, vr_flat0 rfl (.int _ _), hQ⟩
  · obtain ⟨a, ⟨cls, dd, data, sl⟩, us, k, rfl, h1, h2, h3, h4, h5, _⟩ := ra.list_inv
    obtain ⟨b, ⟨cls2, dd2, data2, sl2⟩, us2, k2, rfl, g1, g2, g3, g4, g5, _⟩ := rb.list_inv
    simp only at h2 h3 g2 g3
    subst h2 h3 g2 g3
    refine concat_meets ⟨_, h1, rfl⟩ ⟨_, g1, rfl⟩ noFill_list_add seq_list_add PySem.F.slot_list_add PySem.F.entry_list_add (PySem.F.args_list_add_2 _ _) (list_addW a b us us2 k k2 dd dd2 sl sl2 ?_) ⟨h1, g1, ?_⟩
    · have := small_line hQ.1
      rw [List.length_append, ← ReadsAll.len h4, ← ReadsAll.len g4, Array.length_toList, Array.length_toList] at this
      exact this
    · have := post_new (T := "list") (.inr rfl) hI (readsAll_append h4 g4) (lfs_append h5 g5) (Q := Q) (by simpa using hQ.2)
      have e9 : us ++ us2 = (us.toList ++ us2.toList).toArray := by simp
      rw [e9]; exact this
  · obtain ⟨a, ⟨cls, dd, data, sl⟩, us, k, rfl, h1, h2, h3, h4, h5⟩ := ra.tuple_inv
    obtain ⟨b, ⟨cls2, dd2, data2, sl2⟩, us2, k2, rfl, g1, g2, g3, g4, g5⟩ := rb.tuple_inv
    simp only at h2 h3 g2 g3
    subst h2 h3 g2 g3
    have l1 := ReadsAll.len h4
    have l2 := ReadsAll.len g4
    by_cases e1 : us = #[]
    · refine concat_meets ⟨_, h1, rfl⟩ ⟨_, g1, rfl⟩ noFill_tuple_add seq_tuple_add PySem.F.slot_tuple_add PySem.F.entry_tuple_add (PySem.F.args_tuple_add_2 _ _)
        (tuple_addW0 a b us us2 k k2 dd dd2 sl sl2 (by simp [e1])) ⟨h1, g1, ?_⟩
      rename_i x y
      have : x = [] := by rw [e1] at l1; exact List.length_eq_zero_iff.mp l1.symm
      subst this
      exact ⟨_, s.heap, s.toks, rfl, .refl _, hI, rb, by simpa using hQ.2⟩
    · by_cases e2 : us2 = #[]
      · refine concat_meets ⟨_, h1, rfl⟩ ⟨_, g1, rfl⟩ noFill_tuple_add seq_tuple_add PySem.F.slot_tuple_add PySem.F.entry_tuple_add (PySem.F.args_tuple_add_2 _ _)
          (tuple_addW1 a b us us2 k k2 dd dd2 sl sl2 (by simpa using e1) (by simp [e2])) ⟨h1, g1, ?_⟩
        rename_i x y
        have : y = [] := by rw [e2] at l2; exact List.length_eq_zero_iff.mp l2.symm
        subst this
        exact ⟨_, s.heap, s.toks, rfl, .refl _, hI, ra, by simpa using hQ.2⟩
      · refine concat_meets ⟨_, h1, rfl⟩ ⟨_, g1, rfl⟩ noFill_tuple_add seq_tuple_add PySem.F.slot_tuple_add PySem.F.entry_tuple_add (PySem.F.args_tuple_add_2 _ _)
          (tuple_addW2 a b us us2 k k2 dd dd2 sl sl2 (by simpa using e1) (by simpa using e2) ?_) ⟨h1, g1, ?_⟩
        · have := small_line hQ.1
          rw [List.length_append, ← l1, ← l2, Array.length_toList, Array.length_toList] at this
          exact this
        · have := post_new (T := "tuple") (.inl rfl) hI (readsAll_append h4 g4) (lfs_append h5 g5) (Q := Q) (by simpa using hQ.2)
          have e9 : us ++ us2 = (us.toList ++ us2.toList).toArray := by simp
          rw [e9]; exact this
  · exact hQ.elim

theorem den_add {e1 e2 : Expr} {f g : ED} (pos : Pos) (h1 : DenE prog w X n sc vs e1 f) (h2 : DenE prog w X n sc vs e2 g) :
    DenE prog w X n sc vs (.BinOp e1 .Add e2 pos) (fun m Q => f m fun a => g m fun b => addQ a b Q) := by
  intro env A E s m Q ok R F hQ
  refine wpAny_BinOp (thenE (h1 env A E s m _ ok R F hQ) fun v a h₁ t₁ k₁ i₁ r₁ q₁ => ?_)
  refine thenE (h2 env A E _ m _ ok R (F.keep k₁ i₁) q₁) fun v2 b h₂ t₂ k₂ i₂ r₂ q₂ => ?_
  exact wpAny_mono (add_sound (s := { s with heap := h₂, toks := t₂ }) i₂ (r₁.keep i₁ k₂) r₂ q₂) (fun v s' p => PostE.from (h₁ := h₂) p (k₁.trans k₂)) fun _ _ x => x

def notQ (d : PyData) (Q : PyData → Prop) : Prop := match d with | .bool b => Q (.bool (!b)) | _ => False
theorem den_not {e : Expr} {f : ED} (pos : Pos) (h1 : DenE prog w X n sc vs e f) : DenE prog w X n sc vs (.UnaryOp .Not e pos) (fun m Q => f m fun a => notQ a Q) := by
  intro env A E s m Q ok R F hQ
  refine wpAny_UnaryOp (thenE (h1 env A E s m _ ok R F hQ) fun v a h₁ t₁ k₁ i₁ r₁ q₁ => ?_)
  unfold notQ at q₁
  split at q₁
  · rw [r₁.bool_inv]
    exact not_value (wpAny_truthy_bool ⟨_, _, _, rfl, k₁, i₁, vr_flat0 rfl (.bool _), q₁⟩)
  · exact q₁.elim
theorem den_neg (i : Int) (k : Nat) (p1 pos : Pos) : DenE prog w X n sc vs (.UnaryOp .USub (.Constant (.int i) k p1) pos) (fun _ Q => Q (.int (-i))) := by
  intro env A E s m Q ok R F hQ
  refine wpAny_UnaryOp (wpAny_Constant_int (PySem.P.neg_int ?_))
  exact ⟨_, s.heap, s.toks + 1 + 1, rfl, .refl _, F.inv, vr_flat0 rfl (.int _ _), hQ⟩

theorem den_ifexp {t a b : Expr} {ft : TD} {fa fb : ED} (pos : Pos) (ht : DenT prog w X n sc vs t ft) (ha : DenE prog w X n sc vs a fa) (hb : DenE prog w X n sc vs b fb) :
    DenE prog w X n sc vs (.IfExp t a b pos) (fun m Q => ft m fun c => match c with | true => fa m Q | false => fb m Q) := by
  intro env A E s m Q ok R F hQ
  refine wpAny_IfExp (thenT (ht env A E s m _ ok R F hQ) fun c h₁ t₁ k₁ i₁ q₁ => ?_)
  cases c with
  | true => exact fromE (ha env A E _ m Q ok R (F.keep k₁ i₁) q₁) k₁
  | false => exact fromE (hb env A E _ m Q ok R (F.keep k₁ i₁) q₁) k₁

/-! and, or as values -/
def DenB (prog : Program) (w : World) (X : Ext base) (n : Nat) (sc : Scope) (vs : List Str) (op : BoolOp) (es : List Expr) (f : ED) : Prop :=
  ∀ (env : Env) (A : Around) (E : Value → Shared → Prop) (s : Shared) (m : Loc) (Q : PyData → Prop) (pos : Pos), EnvOK sc env → Room n A → FmOK X env vs m s.heap → f m Q → wpAny (model prog w) A (boolOp pos op (evalEach es env)) (PostE X s Q) E s
theorem den_bone {op : BoolOp} {e : Expr} {f : ED} (h1 : DenE prog w X n sc vs e f) : DenB prog w X n sc vs op [e] f := fun env A E s m Q _ ok R F hQ => h1 env A E s m Q ok R F hQ
def stopQ (op : BoolOp) (d : PyData) (Q : PyData → Prop) (k : Prop) : Prop := match op, d with
  | .And, .bool false => Q (.bool false)
  | .And, .bool true => k
  | .Or, .bool true => Q (.bool true)
  | .Or, .bool false => k
  | _, _ => False
theorem den_bcons {op : BoolOp} {e e' : Expr} {es : List Expr} {f g : ED} (h1 : DenE prog w X n sc vs e f) (h2 : DenB prog w X n sc vs op (e' :: es) g) :
    DenB prog w X n sc vs op (e :: e' :: es) (fun m Q => f m fun a => stopQ op a Q (g m Q)) := by
  intro env A E s m Q pos ok R F hQ
  show wpAny _ A (do
    let v ← eval e env
    standAt pos
    let t ← holding [v] (truthy v)
    match op, t with
    | .And, false | .Or, true => pure v
    | _, _ => boolOp pos op (evalEach (e' :: es) env)) _ E s
  refine wpAny_bind (thenE (h1 env A E s m _ ok R F hQ) fun v a h₁ t₁ k₁ i₁ r₁ q₁ => ?_)
  have go : g m Q → wpAny (model prog w) A (boolOp pos op (evalEach (e' :: es) env)) (PostE X s Q) E { s with heap := h₁, toks := t₁ } := fun q =>
    fromE (h2 env A E _ m Q pos ok R (F.keep k₁ i₁) q) k₁
  unfold stopQ at q₁
  split at q₁
  · rw [r₁.bool_inv]
    exact wpAny_bind (wpAny_standAt (wpAny_bind (wpAny_holding (wpAny_truthy_bool (wpAny_pure ⟨_, _, _, rfl, k₁, i₁, vr_flat0 rfl (.bool _), q₁⟩)))))
  · rw [r₁.bool_inv]
    exact wpAny_bind (wpAny_standAt (wpAny_bind (wpAny_holding (wpAny_truthy_bool (go q₁)))))
  · rw [r₁.bool_inv]
    exact wpAny_bind (wpAny_standAt (wpAny_bind (wpAny_holding (wpAny_truthy_bool (wpAny_pure ⟨_, _, _, rfl, k₁, i₁, vr_flat0 rfl (.bool _), q₁⟩)))))
  · rw [r₁.bool_inv]
    exact wpAny_bind (wpAny_standAt (wpAny_bind (wpAny_holding (wpAny_truthy_bool (go q₁)))))
  · exact q₁.elim
theorem den_bool {op : BoolOp} {es : List Expr} {f : ED} (pos : Pos) (h : DenB prog w X n sc vs op es f) : DenE prog w X n sc vs (.BoolOp op es pos) f :=
  fun env A E s m Q ok R F hQ => h env A E s m Q pos ok R F hQ

/-! comparisons -/
def isN : PyData → Bool
  | .none => true
  | _ => false
/-- what needs no look into an object -/
def eq? : PyData → PyData → Option Bool
  | .str x, .str y => some (x == y)
  | .none, .none => some true
  | .str _, .none => some false
  | .none, .str _ => some false
  | .int x, .int y => some (x == y)
  | .bool x, .bool y => some (x == y)
  | _, _ => none
def strs? : List PyData → Option (List Str)
  | [] => some []
  | .str x :: r => (strs? r).map (x :: ·)
  | _ :: _ => none
def ints? : List PyData → Option (List Int)
  | [] => some []
  | .int i :: r => (ints? r).map (i :: ·)
  | _ :: _ => none
def in? (a : PyData) (xs : List PyData) : Option Bool := match a with
  | .str x => (strs? xs).map (·.any (· == x))
  | .int x => (ints? xs).map (·.any (· == x))
  | _ => none
def inQ (a : PyData) (xs : List PyData) (Q : Bool → Prop) : Prop := match in? a xs with
  | some c => Q c
  | none => PyData.canLayAll0 xs = true ∧ shaped a = true ∧ Q (xs.any fun y => PyData.eqv y a)
def eqQ (a b : PyData) (Q : Bool → Prop) : Prop := match eq? a b with
  | some c => Q c
  | none => shaped a = true ∧ shaped b = true ∧ Q (PyData.eqv a b)
def cmpQ (op : CmpOp) (a b : PyData) (Q : Bool → Prop) : Prop := match op with
  | .Eq => eqQ a b Q
  | .NotEq => eqQ a b fun c => Q (!c)
  | .In => match b with
    | .list xs => inQ a xs Q
    | .tuple xs => inQ a xs Q
    | _ => False
  | .NotIn => match b with
    | .list xs => inQ a xs fun c => Q (!c)
    | .tuple xs => inQ a xs fun c => Q (!c)
    | _ => False
  | .Is => match b with | .none => Q (isN a) | _ => False
  | .IsNot => match b with | .none => Q (!isN a) | _ => False
  | .Gt => match a, b with | .int x, .int y => Q (decide (y < x)) | _, _ => False
  | .GtE => match a, b with | .int x, .int y => Q (decide (y ≤ x)) | _, _ => False
  | .Lt => match a, b with | .int x, .int y => Q (decide (x < y)) | _, _ => False
  | _ => False

theorem ints_are {h : Heap} : ∀ {xs : List PyData} {us : List Value} {ns : List Int}, ReadsAll h us xs [] → ints? xs = some ns → IntsAre us ns
  | [], us, ns, r, e => by have := ReadsAll.len r; cases us with | nil => cases e; exact .nil | cons => cases this
  | x :: xs, us, ns, r, e => by
    obtain ⟨v, t, rfl, h1, h2⟩ := readsAll_uncons r
    cases x with
    | int i =>
      obtain ⟨ns', e1, rfl⟩ := Option.map_eq_some_iff.mp e
      generalize hq : ([] : List Addr) = q at h1
      cases h1
      exact .cons _ _ (ints_are h2 e1)
    | _ => cases e
theorem strs_are {h : Heap} : ∀ {xs : List PyData} {us : List Value} {ns : List Str}, ReadsAll h us xs [] → strs? xs = some ns → StrsAre us ns
  | [], us, ns, r, e => by have := ReadsAll.len r; cases us with | nil => cases e; exact .nil | cons => cases this
  | x :: xs, us, ns, r, e => by
    obtain ⟨v, t, rfl, h1, h2⟩ := readsAll_uncons r
    cases x with
    | str i =>
      obtain ⟨ns', e1, rfl⟩ := Option.map_eq_some_iff.mp e
      generalize hq : ([] : List Addr) = q at h1
      cases h1
      exact .cons _ _ (strs_are h2 e1)
    | _ => cases e

theorem VR.isN {h : Heap} {v : Value} {d : PyData} (r : VR X h v d) : (v == .none) = isN d := by
  cases r with
  | flat _ r => cases r <;> rfl
  | lst => rfl
  | hnd => rfl
theorem in_room {A : Around} {a : PyData} {xs : List PyData} (R : Room n A) (h : shaped a = true) : A.units + 1 + min (PyData.depthAll xs) a.depth < cLine := by
  have h1 := depth_of_shaped h
  have h2 : min (PyData.depthAll xs) a.depth ≤ a.depth := Nat.min_le_right _ _
  have := R.units
  omega

theorem VR.str_inv {h : Heap} {v : Value} {x : Str} (r : VR X h v (.str x)) : ∃ t, v = .str x t := by
  cases r with
  | flat _ r => cases r; exact ⟨_, rfl⟩
theorem VR.none_inv {h : Heap} {v : Value} (r : VR X h v .none) : v = .none := by
  cases r with
  | flat _ r => cases r; rfl

theorem eq_sound {A : Around} {E : Value → Shared → Prop} {s : Shared} {va vb : Value} {a b : PyData} {Q : Bool → Prop} (ne : Bool) {P : Value → Shared → Prop} (R : Room n A) (ra : VR X s.heap va a) (rb : VR X s.heap vb b) (hQ : eqQ a b Q)
    (hP : ∀ c, Q c → P (.bool (ne ^^ c)) s) : wpAny (model prog w) A (compareOp (cond ne .NotEq .Eq) va vb) P E s := by
  unfold eqQ at hQ
  have hu : A.units + 64 < cLine := by have := R.units; omega
  split at hQ
  · rename_i c hc
    unfold eq? at hc
    split at hc
    · obtain ⟨t, rfl⟩ := ra.str_inv
      obtain ⟨u, rfl⟩ := rb.str_inv
      cases hc
      cases ne
      · exact PyProof.Rows.eq_str (by simpa using hP _ hQ)
      · exact PyProof.Rows.ne_str (by simpa [bne] using hP _ hQ)
    · cases ra.none_inv; cases rb.none_inv; cases hc
      cases ne
      · exact EqNone.eq_none_none (by simpa using hP _ hQ)
      · exact EqNone.ne_none_none (by simpa using hP _ hQ)
    · obtain ⟨t, rfl⟩ := ra.str_inv
      cases rb.none_inv; cases hc
      cases ne
      · exact EqNone.eq_str_none (by simpa using hP _ hQ)
      · exact EqNone.ne_str_none (by simpa using hP _ hQ)
    · obtain ⟨t, rfl⟩ := rb.str_inv
      cases ra.none_inv; cases hc
      cases ne
      · exact EqNone.eq_none_str (by simpa using hP _ hQ)
      · exact EqNone.ne_none_str (by simpa using hP _ hQ)
    · obtain ⟨t, rfl⟩ := ra.int_inv
      obtain ⟨u, rfl⟩ := rb.int_inv
      cases hc
      cases ne
      · exact PyProof.Rows.eq_int (by simpa using hP _ hQ)
      · exact PyProof.Rows.ne_int (by simpa [bne] using hP _ hQ)
    · cases ra.bool_inv; cases rb.bool_inv; cases hc
      cases ne
      · exact PyProof.Rows.eq_bool (by simpa using hP _ hQ)
      · exact PyProof.Rows.ne_bool (by simpa [bne] using hP _ hQ)
    · cases hc
  · obtain ⟨h1, h2, q⟩ := hQ
    obtain ⟨_, r1⟩ := ra.reads h1
    obtain ⟨_, r2⟩ := rb.reads h2
    cases ne
    · exact eq_dataH r1 r2 h1 h2 hu (by simpa using hP _ q)
    · exact ne_dataH r1 r2 h1 h2 hu (by simpa using hP _ q)

theorem in_sound {A : Around} {E : Value → Shared → Prop} {s : Shared} {va vb : Value} {a b : PyData} {xs : List PyData} {Q : Bool → Prop} (ne : Bool) {P : Value → Shared → Prop} (R : Room n A) (hb : b = .list xs ∨ b = .tuple xs) (ra : VR X s.heap va a) (rb : VR X s.heap vb b) (hQ : inQ a xs Q)
    (hP : ∀ c, Q c → P (.bool (ne ^^ c)) s) : wpAny (model prog w) A (compareOp (cond ne .NotIn .In) va vb) P E s := by
  unfold inQ at hQ
  rcases hb with rfl | rfl
  · obtain ⟨l, o, us, k, rfl, e, c, dt, r, _⟩ := rb.list_inv
    have hl : s.heap.IsList l us.toList.toArray := ⟨o, e, c, k, by rw [Array.toArray_toList]; exact dt⟩
    split at hQ
    · rename_i c hc
      unfold in? at hc
      split at hc
      · obtain ⟨ys, h1, rfl⟩ := Option.map_eq_some_iff.mp hc
        obtain ⟨t, rfl⟩ := ra.str_inv
        cases ne
        · exact in_list_strs hl (strs_are r h1) (by simpa using hP _ hQ)
        · exact notin_list_strs hl (strs_are r h1) (by simpa using hP _ hQ)
      · obtain ⟨ys, h1, rfl⟩ := Option.map_eq_some_iff.mp hc
        obtain ⟨t, rfl⟩ := ra.int_inv
        cases ne
        · exact in_list_ints hl (ints_are r h1) (by simpa using hP _ hQ)
        · exact notin_list_ints hl (ints_are r h1) (by simpa using hP _ hQ)
      · cases hc
    · obtain ⟨h1, h2, q⟩ := hQ
      obtain ⟨_, r1⟩ := ra.reads h2
      cases ne
      · exact in_list_reads (.list e c dt r) r1 h1 (canLay_of_shaped h2) (in_room R h2) (by simpa using hP _ q)
      · exact notIn_list_reads (.list e c dt r) r1 h1 (canLay_of_shaped h2) (in_room R h2) (by simpa using hP _ q)
  · obtain ⟨l, o, us, k, rfl, e, c, dt, r, _⟩ := rb.tuple_inv
    split at hQ
    · rename_i c hc
      unfold in? at hc
      split at hc
      · obtain ⟨ys, h1, rfl⟩ := Option.map_eq_some_iff.mp hc
        obtain ⟨t, rfl⟩ := ra.str_inv
        cases ne
        · exact in_tuple_strs (items := us) ⟨o, e, by assumption, k, dt⟩ (strs_are r h1) (by simpa using hP _ hQ)
        · exact notin_tuple_strs (items := us) ⟨o, e, by assumption, k, dt⟩ (strs_are r h1) (by simpa using hP _ hQ)
      · obtain ⟨ys, h1, rfl⟩ := Option.map_eq_some_iff.mp hc
        obtain ⟨t, rfl⟩ := ra.int_inv
        cases ne
        · exact in_tuple_ints (items := us) ⟨o, e, by assumption, k, dt⟩ (ints_are r h1) (by simpa using hP _ hQ)
        · exact notin_tuple_ints (items := us) ⟨o, e, by assumption, k, dt⟩ (ints_are r h1) (by simpa using hP _ hQ)
      · cases hc
    · obtain ⟨h1, h2, q⟩ := hQ
      obtain ⟨_, r1⟩ := ra.reads h2
      cases ne
      · exact in_tuple_reads (.tuple e c dt r) r1 h1 (canLay_of_shaped h2) (in_room R h2) (by simpa using hP _ q)
      · exact notIn_tuple_reads (.tuple e c dt r) r1 h1 (canLay_of_shaped h2) (in_room R h2) (by simpa using hP _ q)

theorem cmp_sound {A : Around} {E : Value → Shared → Prop} {s : Shared} {va vb : Value} {op : CmpOp} {a b : PyData} {Q : Bool → Prop} {P : Value → Shared → Prop} (R : Room n A) (ra : VR X s.heap va a) (rb : VR X s.heap vb b) (hQ : cmpQ op a b Q)
    (hP : ∀ c, Q c → P (.bool c) s) : wpAny (model prog w) A (compareOp op va vb) P E s := by
  unfold cmpQ at hQ
  split at hQ
  · exact eq_sound false R ra rb hQ fun c q => by simpa using hP _ q
  · exact eq_sound true R ra rb hQ fun c q => by simpa using hP _ q
  · split at hQ
    · exact in_sound false R (.inl rfl) ra rb hQ fun c q => by simpa using hP _ q
    · exact in_sound false R (.inr rfl) ra rb hQ fun c q => by simpa using hP _ q
    · exact hQ.elim
  · split at hQ
    · exact in_sound true R (.inl rfl) ra rb hQ fun c q => by simpa using hP _ q
    · exact in_sound true R (.inr rfl) ra rb hQ fun c q => by simpa using hP _ q
    · exact hQ.elim
  · split at hQ
    · cases rb.none_inv
      refine is_none ?_
      rw [ra.isN]; exact hP _ hQ
    · exact hQ.elim
  · split at hQ
    · cases rb.none_inv
      refine isNot_none ?_
      rw [ra.isN]; exact hP _ hQ
    · exact hQ.elim
  · split at hQ
    · obtain ⟨t, rfl⟩ := ra.int_inv
      obtain ⟨u, rfl⟩ := rb.int_inv
      exact PyProof.Rows.gt_int (hP _ hQ)
    · exact hQ.elim
  · split at hQ
    · obtain ⟨t, rfl⟩ := ra.int_inv
      obtain ⟨u, rfl⟩ := rb.int_inv
      exact PyProof.Rows.ge_int (hP _ hQ)
    · exact hQ.elim
  · split at hQ
    · obtain ⟨t, rfl⟩ := ra.int_inv
      obtain ⟨u, rfl⟩ := rb.int_inv
      exact PyProof.Rows.lt_int (hP _ hQ)
    · exact hQ.elim
  · exact hQ.elim

theorem den_cmp {e1 e2 : Expr} {f g : ED} (op : CmpOp) (pos : Pos) (h1 : DenE prog w X n sc vs e1 f) (h2 : DenE prog w X n sc vs e2 g) (hm : behindInMarks op e2 = false := by rfl) :
    DenE prog w X n sc vs (.Compare e1 [op] [e2] pos) (fun m Q => f m fun a => g m fun b => cmpQ op a b fun c => Q (.bool c)) := by
  intro env A E s m Q ok R F hQ
  refine wpAny_Compare1 (thenE (h1 env A E s m _ ok R F hQ) fun v a h₁ t₁ k₁ i₁ r₁ q₁ => ?_) hm
  refine thenE (h2 env A E _ m _ ok R (F.keep k₁ i₁) q₁) fun v2 b h₂ t₂ k₂ i₂ r₂ q₂ => ?_
  exact cmp_sound (s := { s with heap := h₂, toks := t₂ }) R (r₁.keep i₁ k₂) r₂ q₂ fun c qc => ⟨_, _, _, rfl, k₁.trans k₂, i₂, vr_flat0 rfl (.bool _), qc⟩

/-! tests -/
theorem den_tcmp {e1 e2 : Expr} {f g : ED} (op : CmpOp) (pos : Pos) (h1 : DenE prog w X n sc vs e1 f) (h2 : DenE prog w X n sc vs e2 g) (hm : behindInMarks op e2 = false := by rfl) :
    DenT prog w X n sc vs (.Compare e1 [op] [e2] pos) (fun m Q => f m fun a => g m fun b => cmpQ op a b Q) := by
  intro env A E s m Q ok R F hQ
  refine wpAny_isTrue_Compare1 (thenE (h1 env A E s m _ ok R F hQ) fun v a h₁ t₁ k₁ i₁ r₁ q₁ => ?_) hm
  refine thenE (h2 env A E _ m _ ok R (F.keep k₁ i₁) q₁) fun v2 b h₂ t₂ k₂ i₂ r₂ q₂ => ?_
  exact cmp_sound (s := { s with heap := h₂, toks := t₂ }) R (r₁.keep i₁ k₂) r₂ q₂ fun c qc => wpAny_truthy_bool ⟨_, _, rfl, k₁.trans k₂, i₂, qc⟩
theorem den_tnot {e : Expr} {f : TD} (pos : Pos) (h1 : DenT prog w X n sc vs e f) : DenT prog w X n sc vs (.UnaryOp .Not e pos) (fun m Q => f m fun c => Q (!c)) := by
  intro env A E s m Q ok R F hQ
  refine wpAny_isTrue_Not (wpAny_mono (h1 env A E s m _ ok R F hQ) (fun c s₁ p => ?_) fun _ _ x => x)
  exact p
def boolQ (d : PyData) (Q : Bool → Prop) : Prop := match d with | .bool b => Q b | _ => False
theorem den_tval {e : Expr} {f : ED} (h1 : DenE prog w X n sc vs e f) (he : ∀ env whole, isTrue e env whole = (do let v ← whole; standAt e.pos; holding [v] (truthy v)) := by intro _ _; rfl) :
    DenT prog w X n sc vs e (fun m Q => f m fun d => boolQ d Q) := by
  intro env A E s m Q ok R F hQ
  refine wpAny_isTrue_value (thenE (h1 env A E s m _ ok R F hQ) fun v a h₁ t₁ k₁ i₁ r₁ q₁ => ?_) (he env _)
  unfold boolQ at q₁
  split at q₁
  · rw [r₁.bool_inv]
    exact wpAny_truthy_bool ⟨_, _, rfl, k₁, i₁, q₁⟩
  · exact q₁.elim
def DenA (prog : Program) (w : World) (X : Ext base) (n : Nat) (sc : Scope) (vs : List Str) (op : BoolOp) (es : List Expr) (f : TD) : Prop :=
  ∀ (env : Env) (A : Around) (E : Value → Shared → Prop) (s : Shared) (m : Loc) (Q : Bool → Prop), EnvOK sc env → Room n A → FmOK X env vs m s.heap → f m Q → wpAny (model prog w) A (allTrue op es env) (PostT X s Q) E s
theorem den_andnil : DenA prog w X n sc vs .And [] (fun _ Q => Q true) := fun _ _ _ s _ _ _ _ F hQ => wpAny_allTrue_And_nil ⟨s.heap, s.toks, rfl, .refl _, F.inv, hQ⟩
theorem den_ornil : DenA prog w X n sc vs .Or [] (fun _ Q => Q false) := fun _ _ _ s _ _ _ _ F hQ => wpAny_allTrue_Or_nil ⟨s.heap, s.toks, rfl, .refl _, F.inv, hQ⟩
theorem den_andcons {e : Expr} {es : List Expr} {f g : TD} (h1 : DenT prog w X n sc vs e f) (h2 : DenA prog w X n sc vs .And es g) :
    DenA prog w X n sc vs .And (e :: es) (fun m Q => f m fun c => match c with | true => g m Q | false => Q false) := by
  intro env A E s m Q ok R F hQ
  refine wpAny_allTrue_And_cons (thenT (h1 env A E s m _ ok R F hQ) fun c h₁ t₁ k₁ i₁ q₁ => ?_)
  cases c with
  | true => exact fromT (h2 env A E _ m Q ok R (F.keep k₁ i₁) q₁) k₁
  | false => exact ⟨_, _, rfl, k₁, i₁, q₁⟩
theorem den_orcons {e : Expr} {es : List Expr} {f g : TD} (h1 : DenT prog w X n sc vs e f) (h2 : DenA prog w X n sc vs .Or es g) :
    DenA prog w X n sc vs .Or (e :: es) (fun m Q => f m fun c => match c with | true => Q true | false => g m Q) := by
  intro env A E s m Q ok R F hQ
  refine wpAny_allTrue_Or_cons (thenT (h1 env A E s m _ ok R F hQ) fun c h₁ t₁ k₁ i₁ q₁ => ?_)
  cases c with
  | false => exact fromT (h2 env A E _ m Q ok R (F.keep k₁ i₁) q₁) k₁
  | true => exact ⟨_, _, rfl, k₁, i₁, q₁⟩
theorem den_tbool {op : BoolOp} {es : List Expr} {f : TD} (pos : Pos) (h : DenA prog w X n sc vs op es f) : DenT prog w X n sc vs (.BoolOp op es pos) f :=
  fun env A E s m Q ok R F hQ => wpAny_isTrue_BoolOp (h env A E s m Q ok R F hQ)
end
end Mine

namespace Mine

section
variable {base : Heap} {prog : Program} {w : World} {X : Ext base} {n : Nat} {sc : Scope} {vs : List Str}

/-! items -/
def idx? (k : Int) (xs : List PyData) : Option PyData := if decide (-1000 ≤ k) && decide (k < 1000) then (seqIndex? k xs.length).bind (xs[·]?) else none
def idxQ (a i : PyData) (Q : PyData → Prop) : Prop := match a, i with
  | .tuple xs, .int k => match idx? k xs with | some d => Q d | none => False
  | .list xs, .int k => match (if decide (0 ≤ k) then idx? k xs else none) with | some d => Q d | none => False
  | _, _ => False
theorem idx_inv {k : Int} {xs : List PyData} {d : PyData} (h : idx? k xs = some d) : -1000 ≤ k ∧ k < 1000 ∧ ∃ j, seqIndex? k xs.length = some j ∧ xs[j]? = some d := by
  unfold idx? at h
  split at h
  · rename_i hc
    simp only [Bool.and_eq_true, decide_eq_true_eq] at hc
    obtain ⟨j, h1, h2⟩ := Option.bind_eq_some_iff.mp h
    exact ⟨hc.1, hc.2, j, h1, h2⟩
  · cases h

theorem nonneg_idx {k : Int} {len j : Nat} (h0 : 0 ≤ k) (hj : seqIndex? k len = some j) : k.toNat = j := by
  have e : (if k < 0 then k + (len : Int) else k) = k := if_neg (by omega)
  unfold seqIndex? at hj
  rw [e] at hj
  dsimp only at hj
  split at hj
  · cases hj; rfl
  · cases hj
theorem sub_tail {value slice : Expr} {A : Around} {E : Value → Shared → Prop} {s : Shared} {v v2 : Value} {a b : PyData} {Q : PyData → Prop} {P : Value → Shared → Prop} (ra : VR X s.heap v a) (rb : VR X s.heap v2 b) (q : idxQ a b Q)
    (hs : subscripted slice false v v2 = operate [v, v2] (getItem v v2)) (h : ∀ u d, VR X s.heap u d → Q d → P u s) : wpAny (model prog w) A (subscriptTail value slice v v2) P E s := by
  unfold idxQ at q
  split at q
  · split at q
    · rename_i d hd
      obtain ⟨l1, l2, j, hj, hx⟩ := idx_inv hd
      obtain ⟨t, o, us, k, rfl, e, c, dt, r, l⟩ := ra.tuple_inv
      obtain ⟨u, rfl⟩ := rb.int_inv
      obtain ⟨x, hx', rx⟩ := readsAll_get r hx
      have hl := ReadsAll.len r
      have ht : IsTup s.heap t us.toList.toArray := ⟨o, e, c, k, by rw [Array.toArray_toList]; exact dt⟩
      exact item_tupleT (u := u) ht (by omega) (by omega) (by rw [hl]; exact hj) hx' (h _ _ (.flat (lfs_all l _ (List.mem_of_getElem? hx)) rx) q) hs
    · exact q.elim
  · split at q
    · rename_i d hd
      split at hd
      · rename_i h0
        have h0 := of_decide_eq_true h0
        obtain ⟨l1, l2, j, hj, hx⟩ := idx_inv hd
        obtain ⟨t, o, us, k, rfl, e, c, dt, r, l, _⟩ := ra.list_inv
        obtain ⟨u, rfl⟩ := rb.int_inv
        obtain ⟨x, hx', rx⟩ := readsAll_get r hx
        have hj' := nonneg_idx h0 hj
        have hl : s.heap.IsList t us := ⟨o, e, c, k, dt⟩
        refine tail_any hl.typeIs slot_list_getitem.lookup (wpAny_getItem_list hl h0 (by omega) (x := x) ?_ (h _ _ (.flat (lfs_all l _ (List.mem_of_getElem? hx)) rx) q)) hs
        rw [hj', ← Array.getElem?_toList]; exact hx'
      · cases hd
    · exact q.elim
  · exact q.elim
theorem den_sub {e1 e2 : Expr} {f g : ED} (pos : Pos) (h1 : DenE prog w X n sc vs e1 f) (h2 : DenE prog w X n sc vs e2 g)
    (hs : ∀ o i, subscripted e2 false o i = operate [o, i] (getItem o i) := by intro _ _; rfl) :
    DenE prog w X n sc vs (.Subscript e1 e2 pos) (fun m Q => f m fun a => g m fun i => idxQ a i Q) := by
  intro env A E s m Q ok R F hQ
  refine Subscript_ (thenE (h1 env A E s m _ ok R F hQ) fun v a h₁ t₁ k₁ i₁ r₁ q₁ => ?_)
  refine thenE (h2 env A E _ m _ ok R (F.keep k₁ i₁) q₁) fun v2 b h₂ t₂ k₂ i₂ r₂ q₂ => ?_
  exact sub_tail (s := { s with heap := h₂, toks := t₂ }) (r₁.keep i₁ k₂) r₂ q₂ (hs _ _) fun u d r q => ⟨d, h₂, t₂, rfl, k₁.trans k₂, i₂, r, q⟩

def dropQ (a : Nat) (d : PyData) (Q : PyData → Prop) : Prop := match d with
  | .tuple xs => decide (a ≤ xs.length) = true ∧ small xs = true ∧ Q (.tuple (xs.drop a))
  | _ => False
theorem readsAll_drop {h : Heap} : ∀ (a : Nat) {us : List Value} {ds : List PyData}, ReadsAll h us ds [] → ReadsAll h (us.drop a) (ds.drop a) []
  | 0, _, _, r => r
  | a + 1, us, [], r => by have := ReadsAll.len r; cases us with | nil => exact .nil | cons => cases this
  | a + 1, us, d :: ds, r => by
    obtain ⟨v, t, rfl, _, h2⟩ := readsAll_uncons r
    exact readsAll_drop a h2
theorem lfs_drop {xs : List PyData} (h : lfs xs = true) (a : Nat) : lfs (xs.drop a) = true := lfs_of fun x hx => lfs_all h x (List.mem_of_mem_drop hx)
theorem den_slice {x : Str} {px : Pos} {f : ED} (a : Nat) (h1 : 1 ≤ a) (k : Nat) (p p2 pos : Pos) (hx : DenE prog w X n sc vs (.Name x px) f) :
    DenE prog w X n sc vs (.Subscript (.Name x px) (.Slice (some (.Constant (.int a) k p)) none none p2) pos) (fun m Q => f m fun d => dropQ a d Q) := by
  intro env A E s m Q ok R F hQ
  refine Subscript_ (thenE (hx env A E s m _ ok R F hQ) fun v d h₁ t₁ k₁ i₁ r₁ q₁ => ?_)
  unfold dropQ at q₁
  split at q₁
  · rename_i xs
    obtain ⟨l1, sm, q₁⟩ := q₁
    have l1 := of_decide_eq_true l1
    obtain ⟨t, o, us, kk, rfl, e, c, dt, r, l⟩ := r₁.tuple_inv
    have hl := (Array.length_toList (xs := us)).symm.trans (ReadsAll.len r)
    refine wpAny_Slice ?_
    rw [evalPart_some, evalPart_none]
    refine wpAny_Constant_int (wpAny_pure (wpAny_pure ?_))
    have ht : IsTup (h₁.push { cls := .type "slice", data := .fields #[.int a t₁, .none, .none] }) t us := ⟨o, Heap.get?_push_of_some _ e, c, kk, dt⟩
    refine subscriptTail_ops (s := { s with heap := h₁.push { cls := .type "slice", data := .fields #[.int a t₁, .none, .none] }, toks := t₁ + 1 }) ht.typeIs slot_tuple_getitem.lookup
      (getItem_tuple_from ht (Heap.IsSliceOf.new ..) h1 (by rw [hl]; exact l1) ?_ (by rw [hl]; exact small_line sm)) rfl (fun _ => rfl)
    have i₂ := inv_push i₁ { cls := .type "slice", data := .fields #[.int a t₁, .none, .none] }
    have := post_new (s := { s with heap := h₁.push { cls := .type "slice", data := .fields #[.int a t₁, .none, .none] }, toks := t₁ + 1 }) (T := "tuple") (.inl rfl) i₂ (readsAll_seqs i₁ (Keep.push h₁ _).seqs (readsAll_drop a r) (lfs_drop l a)) (lfs_drop l a) (Q := Q) (by simpa using q₁)
    exact PostE.from (s := s) (h₁ := h₁.push _) (t₁ := t₁ + 1) this (k₁.trans (Keep.push _ _))
  · exact q₁.elim

/-! calls -/
def SemCall (prog : Program) (w : World) (X : Ext base) (n : Nat) (f : Addr) (ds : List PyData) (Q : PyData → Prop) : Prop :=
  ∀ (A : Around) (E : Value → Shared → Prop) (s : Shared) (vs : List Value), Room n A → base.StaysIn s.heap → X.I s.heap → VRs X s.heap vs ds → wpAny (model prog w) A (call (.ref f) vs) (PostE X s Q) E s
theorem SemCall.less {k : Nat} {f : Addr} {ds : List PyData} {Q : PyData → Prop} (h : SemCall prog w X k f ds Q) (hk : k ≤ n) : SemCall prog w X n f ds Q := fun A E s vs R => h A E s vs (R.less hk)
theorem SemCall.mono {f : Addr} {ds : List PyData} {Q Q' : PyData → Prop} (h : SemCall prog w X n f ds Q) (hq : ∀ d, Q d → Q' d) : SemCall prog w X n f ds Q' := fun A E s vs R b i r =>
  wpAny_mono (h A E s vs R b i r) (fun _ _ ⟨d, h', t', e, k, i, r, q⟩ => ⟨d, h', t', e, k, i, r, hq d q⟩) fun _ _ x => x

theorem den_call {K : Frag} (G : Gnd K base) (x : Str) (f : Addr) {e : Expr} {es : List Expr} {g : LD} (p1 pos : Pos) (hx : sc.names.lookup x = some .globalImplicit) (hf : nsIn K mainGlobals x = some (some (.ref f))) (hk : keepIn K (.ref f) = true)
    (hargs : DenL prog w X n sc vs (e :: es) g) (hst : ∀ env, starEach (e :: es) env = (false, eval e env) :: starEach es env := by intro env; rfl)
    (hplain : ∀ env, (backTo pos (starEach es env)).any (·.1) = false := by intro env; rfl) (hd : (x == ("__debug__" : Str)) = false := by decide) :
    DenE prog w X n sc vs (.Call (.Name x p1) (e :: es) [] pos) (fun m Q => g m fun ds => SemCall prog w X n f ds Q) := by
  intro env A E s m Q ok R F hQ
  obtain ⟨mg, hg⟩ := G.g
  refine Call_Name rfl (Name_function_global ok.kind (ok.gl x hx) (loadGlobal_global (env := env) (by rw [ok.glob]; exact hg.keeps F.stays) (mg_of G.K hg hf) ?_) hd)
  refine callWith_K (h₀ := base) G.K hk (thenL (hargs env A E s m _ pos ok R F hQ) fun v ds h₁ t₁ k₁ i₁ r₁ q₁ => ?_) (hst env) (hplain env)
  have F₁ := F.keep k₁ i₁
  refine ⟨G.K.keeps F₁.stays, fromE (q₁ A E { s with heap := h₁, toks := t₁ } v R F₁.stays i₁ r₁) k₁⟩

theorem name_builtin {K : Frag} (G : Gnd K base) (x : Str) (v : Value) (pos : Pos) (hx : sc.names.lookup x = some .globalImplicit) (hf : nsIn K mainGlobals x = some none) (hb : bootBuiltins x = some v) (hn : x ≠ "__name__")
    {env : Env} {A : Around} {E : Value → Shared → Prop} {s : Shared} {m : Loc} {P : Value → Shared → Prop} (ok : EnvOK sc env) (F : FmOK X env vs m s.heap) (h : P v s) (hd : (x == ("__debug__" : Str)) = false := by decide) :
    wpAny (model prog w) A (eval (.Name x pos) env) P E s := by
  obtain ⟨mg, hg⟩ := G.g
  obtain ⟨mb, hmb, hall⟩ := G.b
  exact Name_function_global ok.kind (ok.gl x hx) (loadGlobal_builtin (env := env) (by rw [ok.glob]; exact hg.keeps F.stays) (mg_none_of G.K hg hf) (by rw [ok.blt]; exact hmb.keeps F.stays) ((hall x hn).trans hb) h) hd

def lenQ (d : PyData) (Q : PyData → Prop) : Prop := match d with
  | .tuple xs => small xs = true ∧ Q (.int xs.length)
  | .list xs => small xs = true ∧ Q (.int xs.length)
  | _ => False
theorem small_63 {xs : List PyData} (h : small xs = true) : (xs.length : Int) < 2 ^ 63 := by have := of_decide_eq_true h; omega
theorem den_len {K : Frag} (G : Gnd K base) {e : Expr} {f : ED} (p1 pos : Pos) (hx : sc.names.lookup (Str.ofString "len") = some .globalImplicit) (hf : nsIn K mainGlobals "len" = some none) (he : DenE prog w X n sc vs e f)
    (hst : ∀ env, starEach [e] env = [(false, eval e env)] := by intro env; rfl) : DenE prog w X n sc vs (.Call (.Name "len" p1) [e] [] pos) (fun m Q => f m fun d => lenQ d Q) := by
  intro env A E s m Q ok R F hQ
  refine Call_Name (trees := [(false, eval e env)]) (by rw [hst]; rfl) (name_builtin G "len" (.builtin "len") p1 hx hf (by boot_by_name) (by decide) ok F ?_)
  refine callWith_builtin rfl (evalArgs_plain (spliced_cons (thenE (he env A E s m _ ok R F hQ) fun v d h₁ t₁ k₁ i₁ r₁ q₁ => ?_)))
  refine spliced_nil ?_
  show wpAny _ A (call (.builtin "len") [v]) _ _ _
  unfold lenQ at q₁
  split at q₁
  · obtain ⟨t, o, us, k, rfl, e, c, dt, r, l⟩ := r₁.tuple_inv
    have hl := (Array.length_toList (xs := us)).symm.trans (ReadsAll.len r)
    refine PyProof.Rows.len_tuple (s := { s with heap := h₁, toks := t₁ }) (t := t) (items := us) ⟨o, e, c, k, dt⟩ (by rw [hl]; exact small_63 q₁.1) ?_
    rw [hl]
    exact ⟨_, h₁, t₁ + 1 + 1, rfl, k₁, i₁, vr_flat0 rfl (.int _ _), q₁.2⟩
  · obtain ⟨t, o, us, k, rfl, e, c, dt, r, l, _⟩ := r₁.list_inv
    have hl := (Array.length_toList (xs := us)).symm.trans (ReadsAll.len r)
    refine call_len_list (s := { s with heap := h₁, toks := t₁ }) (l := t) (items := us) ⟨o, e, c, k, dt⟩ (by rw [hl]; exact small_63 q₁.1) ?_
    rw [hl]
    exact ⟨_, h₁, t₁ + 1 + 1, rfl, k₁, i₁, vr_flat0 rfl (.int _ _), q₁.2⟩
  · exact q₁.elim

def intQ (d : PyData) (Q : PyData → Prop) : Prop := match d with
  | .bool b => Q (.int (if b then 1 else 0))
  | _ => False
theorem den_int {K : Frag} (G : Gnd K base) {e : Expr} {f : ED} (p1 pos : Pos) (hx : sc.names.lookup (Str.ofString "int") = some .globalImplicit) (hf : nsIn K mainGlobals "int" = some none) (he : DenE prog w X n sc vs e f)
    (hst : ∀ env, starEach [e] env = [(false, eval e env)] := by intro env; rfl) : DenE prog w X n sc vs (.Call (.Name "int" p1) [e] [] pos) (fun m Q => f m fun d => intQ d Q) := by
  intro env A E s m Q ok R F hQ
  refine Call_Name (trees := [(false, eval e env)]) (by rw [hst]; rfl) (name_builtin G "int" (.type "int") p1 hx hf (by boot_by_name) (by decide) ok F ?_)
  refine PyProof.Rows.callWith_type rfl (evalArgs_plain (spliced_cons (thenE (he env A E s m _ ok R F hQ) fun v d h₁ t₁ k₁ i₁ r₁ q₁ => ?_)))
  refine spliced_nil ?_
  show wpAny _ A (call (.type "int") [v]) _ _ _
  unfold intQ at q₁
  split at q₁
  · rw [r₁.bool_inv]
    exact call_int_bool (s := { s with heap := h₁, toks := t₁ }) ⟨_, h₁, t₁ + 1, rfl, k₁, i₁, vr_flat0 rfl (.int _ _), q₁⟩
  · exact q₁.elim

def tupQ (d : PyData) (Q : PyData → Prop) : Prop := match d with
  | .tuple xs => Q (.tuple xs)
  | .list xs => small xs = true ∧ Q (.tuple xs)
  | _ => False
theorem den_tupleOf {K : Frag} (G : Gnd K base) {e : Expr} {f : ED} (p1 pos : Pos) (hx : sc.names.lookup (Str.ofString "tuple") = some .globalImplicit) (hf : nsIn K mainGlobals "tuple" = some none) (he : DenE prog w X n sc vs e f)
    (hst : ∀ env, starEach [e] env = [(false, eval e env)] := by intro env; rfl) : DenE prog w X n sc vs (.Call (.Name "tuple" p1) [e] [] pos) (fun m Q => f m fun d => tupQ d Q) := by
  intro env A E s m Q ok R F hQ
  refine Call_Name (trees := [(false, eval e env)]) (by rw [hst]; rfl) (name_builtin G "tuple" (.type "tuple") p1 hx hf (by boot_by_name) (by decide) ok F ?_)
  refine PyProof.Rows.callWith_type rfl (evalArgs_plain (spliced_cons (thenE (he env A E s m _ ok R F hQ) fun v d h₁ t₁ k₁ i₁ r₁ q₁ => ?_)))
  refine spliced_nil ?_
  show wpAny _ A (call (.type "tuple") [v]) _ _ _
  unfold tupQ at q₁
  split at q₁
  · obtain ⟨t, o, us, k, rfl, e, c, dt, r, l⟩ := id r₁.tuple_inv
    exact call_tuple_same (s := { s with heap := h₁, toks := t₁ }) ⟨o, e, c, k, dt⟩ ⟨_, h₁, t₁, rfl, k₁, i₁, r₁, q₁⟩
  · obtain ⟨t, o, us, k, rfl, e, c, dt, r, l, _⟩ := r₁.list_inv
    have hl := (Array.length_toList (xs := us)).symm.trans (ReadsAll.len r)
    refine call_tuple_list (s := { s with heap := h₁, toks := t₁ }) (l := t) (items := us) ⟨o, e, c, k, dt⟩ (fun h' hk => ?_) (by rw [hl]; exact small_line q₁.1)
    have i' := X.stable h₁ h' i₁ fun b _ o e => hk b o e
    have := post_new (s := { s with heap := h', toks := t₁ }) (T := "tuple") (.inl rfl) i' (readsAll_seqs i₁ (Keep.ofAll hk).seqs r l) l (Q := Q) (by simpa using q₁.2)
    rw [Array.toArray_toList] at this
    exact PostE.from (s := s) (h₁ := h') (t₁ := t₁) this (k₁.trans (Keep.ofAll hk))
  · exact q₁.elim

def sumQ (d : PyData) (Q : PyData → Prop) : Prop := match d with
  | .list xs => match ints? xs with | some ns => Q (.int ns.sum) | none => False
  | _ => False
theorem den_sum {K : Frag} (G : Gnd K base) {e : Expr} {f : ED} (p1 pos : Pos) (hx : sc.names.lookup (Str.ofString "sum") = some .globalImplicit) (hf : nsIn K mainGlobals "sum" = some none) (he : DenE prog w X n sc vs e f)
    (hst : ∀ env, starEach [e] env = [(false, eval e env)] := by intro env; rfl) : DenE prog w X n sc vs (.Call (.Name "sum" p1) [e] [] pos) (fun m Q => f m fun d => sumQ d Q) := by
  intro env A E s m Q ok R F hQ
  refine Call_Name (trees := [(false, eval e env)]) (by rw [hst]; rfl) (name_builtin G "sum" (.builtin "sum") p1 hx hf (by boot_by_name) (by decide) ok F ?_)
  refine callWith_builtin rfl (evalArgs_plain (spliced_cons (thenE (he env A E s m _ ok R F hQ) fun v d h₁ t₁ k₁ i₁ r₁ q₁ => ?_)))
  refine spliced_nil ?_
  show wpAny _ A (call (.builtin "sum") [v]) _ _ _
  unfold sumQ at q₁
  split at q₁
  · split at q₁
    · rename_i ns hns
      obtain ⟨t, o, us, k, rfl, e, c, dt, r, l, _⟩ := r₁.list_inv
      have hi := ints_are r hns
      obtain ⟨xs, hx⟩ := hi.allInts.items
      have hn : numsOf us.toList = ns := hi.numsOf
      have hus : us = intItems xs := by rw [← hx]
      rw [hus, nums_intItems] at hn
      refine sum_intListG (s := { s with heap := h₁, toks := t₁ }) (l := t) (xs := xs) R.hd ⟨o, e, c, k, by rw [← hus]; exact dt⟩ fun h' tk t' hk => ?_
      rw [preSum_eq, List.take_of_length_le (by simp), hn]
      exact ⟨_, h', tk, rfl, k₁.trans (Keep.ofAll hk), X.stable h₁ h' i₁ fun b _ o e => hk b o e, vr_flat0 rfl (.int _ _), q₁⟩
    · exact q₁.elim
  · exact q₁.elim
end
end Mine

namespace Mine

section
variable {base : Heap} {prog : Program} {w : World} {X : Ext base} {n : Nat} {sc : Scope} {vs : List Str}

/-! statements -/
def KeepL (X : Ext base) (L : Addr) (h h' : Heap) : Prop := ∀ b o, b ∉ X.W → b ≠ L → h.get? b = some o → h'.get? b = some o
theorem Keep.L {L : Addr} {h h' : Heap} (k : Keep X h h') : KeepL X L h h' := fun b o n _ e => k b o n e
theorem KeepL.trans {L : Addr} {h h₁ h₂ : Heap} (a : KeepL X L h h₁) (b : KeepL X L h₁ h₂) : KeepL X L h h₂ := fun c o n l e => b c o n l (a c o n l e)
theorem KeepL.refl {L : Addr} (h : Heap) : KeepL X L h h := fun _ _ _ _ e => e

def flowQ (X : Ext base) (h : Heap) (m : Loc) (Q : Loc → Flw → Prop) (fl : Flow) : Prop := match fl with
  | .next => Q m .nxt
  | .ret v => ∃ d, VR X h v d ∧ Q m (.ret d)
  | _ => False
def PostS (X : Ext base) (env : Env) (vs : List Str) (s : Shared) (Q : Loc → Flw → Prop) (fl : Flow) (s' : Shared) : Prop :=
  ∃ m' h' tk', s' = { s with heap := h', toks := tk' } ∧ KeepL X env.locals s.heap h' ∧ FmOK X env vs m' h' ∧ flowQ X h' m' Q fl
theorem PostS.from {env : Env} {s : Shared} {Q : Loc → Flw → Prop} {fl : Flow} {s' : Shared} {h₁ : Heap} {t₁ : Nat} (p : PostS X env vs { s with heap := h₁, toks := t₁ } Q fl s') (k : KeepL X env.locals s.heap h₁) : PostS X env vs s Q fl s' := by
  obtain ⟨m', h', tk', rfl, k', F, q⟩ := p
  exact ⟨m', h', tk', rfl, k.trans k', F, q⟩

def DenX (prog : Program) (w : World) (X : Ext base) (n : Nat) (sc : Scope) (vs : List Str) (st : Stmt) (f : SD) : Prop :=
  ∀ (env : Env) (A : Around) (E : Value → Shared → Prop) (s : Shared) (m : Loc) (Q : Loc → Flw → Prop), EnvOK sc env → Room n A → FmOK X env vs m s.heap → f m Q → wpAny (model prog w) A (exec st env) (PostS X env vs s Q) E s
def DenS (prog : Program) (w : World) (X : Ext base) (n : Nat) (sc : Scope) (vs : List Str) (ss : List Stmt) (f : SD) : Prop :=
  ∀ (env : Env) (A : Around) (E : Value → Shared → Prop) (s : Shared) (m : Loc) (Q : Loc → Flw → Prop), EnvOK sc env → Room n A → FmOK X env vs m s.heap → f m Q → wpAny (model prog w) A (execs ss env) (PostS X env vs s Q) E s

theorem den_snil : DenS prog w X n sc vs [] (fun m Q => Q m .nxt) := fun _ _ _ s m _ _ _ F hQ => wpAny_execs_nil ⟨m, s.heap, s.toks, rfl, .refl _, F, hQ⟩
theorem den_scons {st : Stmt} {ss : List Stmt} {f g : SD} (h1 : DenX prog w X n sc vs st f) (h2 : DenS prog w X n sc vs ss g) :
    DenS prog w X n sc vs (st :: ss) (fun m Q => f m fun m' fl => match fl with | .nxt => g m' Q | .ret d => Q m' (.ret d)) := by
  intro env A E s m Q ok R F hQ
  refine wpAny_execs_cons (wpAny_mono (h1 env A E s m _ ok R F hQ) (fun fl s₁ p => ?_) fun _ _ x => x)
  obtain ⟨m', h', tk', rfl, k, F', q⟩ := p
  cases fl with
  | next => exact wpAny_mono (h2 env A E _ m' Q ok R F' q) (fun fl s' p => PostS.from (h₁ := h') p k) fun _ _ x => x
  | ret v => exact ⟨m', h', tk', rfl, k, F', q⟩
  | brk => exact q.elim
  | cont => exact q.elim

theorem ns_unique {h : Heap} {L : Addr} {m₁ m₂ : Str → Option Value} (a : h.Ns L m₁) (b : h.Ns L m₂) : m₁ = m₂ := by
  obtain ⟨o, es, ep, e, d, _, f⟩ := a
  obtain ⟨o', es', ep', e', d', _, f'⟩ := b
  rw [e] at e'; cases e'
  rw [d] at d'; cases d'
  exact funext fun x => (f x).symm.trans (f' x)
theorem ns_data {h : Heap} {L : Addr} {m : Str → Option Value} (a : h.Ns L m) : ∃ o es k, h.get? L = some o ∧ o.data = .dict es k := let ⟨o, es, ep, e, d, _⟩ := a; ⟨o, es, ep, e, d⟩

theorem kindOK {env : Env} (ok : EnvOK sc env) : (env.scope.kind == .class || (env.scope.kind == .module && env.locals != env.globals)) = false := by rw [ok.kind]; rfl

theorem nodup_idx {α : Type} : ∀ {l : List α} {i j : Nat} {x : α}, l.Nodup → l[i]? = some x → l[j]? = some x → i = j
  | [], _, _, _, _, h, _ => by simp at h
  | a :: r, 0, 0, _, _, _, _ => rfl
  | a :: r, 0, j + 1, x, nd, h, k => by
    simp at h k
    subst h
    exact absurd (List.mem_of_getElem? k) (List.nodup_cons.mp nd).1
  | a :: r, i + 1, 0, x, nd, h, k => by
    simp at h k
    subst k
    exact absurd (List.mem_of_getElem? h) (List.nodup_cons.mp nd).1
  | a :: r, i + 1, j + 1, x, nd, h, k => by
    simp at h k
    rw [nodup_idx (List.nodup_cons.mp nd).2 h k]

/-- a name of the frame is stored -/
theorem store_sound {env : Env} {A : Around} {E : Value → Shared → Prop} {s : Shared} {m : Loc} {x : Str} {i : Nat} {v : Value} {d : PyData} {P : Unit → Shared → Prop} (ok : EnvOK sc env) (F : FmOK X env vs m s.heap) (hi : vs[i]? = some x) (hk : sc.names.lookup x = some .local) (nd : vs.Nodup)
    (r : VR X s.heap v d) (h : ∀ h', KeepL X env.locals s.heap h' → (∀ b, b ≠ env.locals → h'.get? b = s.heap.get? b) → FmOK X env vs (m.set i (some d)) h' → P () { s with heap := h', toks := s.toks + 1 }) :
    wpAny (model prog w) A (storeName env x v) P E s := by
  obtain ⟨mv, hn⟩ := F.ns
  refine wpAny_storeName_local (ok.loc x hk) hn (fun h' hn' hs => ?_) (kindOK ok)
  obtain ⟨oL, esL, kL, hL, dL⟩ := ns_data hn
  have hLW : env.locals ∉ X.W := dict_off F.inv hL ⟨_, _, dL⟩
  have seqs : Seqs (X := X) s.heap h' := fun b o e _ q => (hs.2 b fun (z : b = env.locals) => by
    obtain ⟨_, _, q⟩ := q
    rw [z, hL] at e; cases e; rw [dL] at q; cases q).trans e
  have r' := r.seqs F.inv seqs
  refine h h' (fun b o _ l e => (hs.2 b l).trans e) hs.2 ⟨fun b o e => (hs.2 b fun (z : b = env.locals) => by rw [z, F.lnew] at e; cases e).trans (F.stays b o e), ?_, ⟨_, hn'⟩, F.lnew, ?_⟩
  · exact X.stable _ _ F.inv fun b hb o e => (hs.2 b fun (z : b = env.locals) => hLW (z ▸ hb)).trans e
  · intro j y e hj hm
    by_cases hji : j = i
    · subst hji
      rw [hi] at hj; cases hj
      have : d = e := by
        rw [List.getElem?_set] at hm
        simp only [if_true] at hm
        split at hm
        · cases hm; rfl
        · cases hm
      subst this
      exact .inl ⟨ok.loc x hk, _, v, hn', by simp, r'⟩
    · have hyx : y ≠ x := fun z => by
        subst z
        exact hji (nodup_idx nd hj hi)
      rw [List.getElem?_set_ne (fun z => hji z.symm)] at hm
      rcases F.vars j y e hj hm with ⟨k, mv', u, n', e', r''⟩ | ⟨k, c, u, e', q, r''⟩
      · have := ns_unique n' hn; subst this
        exact .inl ⟨k, _, u, hn', by simp only [if_neg hyx]; exact e', r''.seqs F.inv seqs⟩
      · obtain ⟨oc, hc, dc⟩ := q
        exact .inr ⟨k, c, u, e', ⟨oc, (hs.2 c fun (z : c = env.locals) => by rw [z, hL] at hc; cases hc; rw [dL] at dc; cases dc).trans hc, dc⟩, r''.seqs F.inv seqs⟩

theorem den_assign {x : Str} {i : Nat} {e : Expr} {f : ED} (px pos : Pos) (hi : vs[i]? = some x) (hk : sc.names.lookup x = some .local) (nd : vs.Nodup) (he : DenE prog w X n sc vs e f)
    (hs : ∀ env, swapsWith e (some (.Name x px)) pos.line env = pure false := by intro _; rfl) : DenX prog w X n sc vs (.Assign [.Name x px] e pos) (fun m Q => f m fun d => Q (m.set i (some d)) .nxt) := by
  intro env A E s m Q ok R F hQ
  refine wpAny_Assign_Name (thenE (he env A E s m _ ok R F hQ) fun v d h₁ t₁ k₁ i₁ r₁ q₁ => ?_) (hs env)
  exact store_sound (s := { s with heap := h₁, toks := t₁ }) ok (F.keep k₁ i₁) hi hk nd r₁ fun h' kl _ F' => ⟨_, h', _, rfl, k₁.L.trans kl, F', q₁⟩

theorem den_if {t : Expr} {b o : List Stmt} {ft : TD} {fb fo : SD} (pos : Pos) (ht : DenT prog w X n sc vs t ft) (hb : DenS prog w X n sc vs b fb) (ho : DenS prog w X n sc vs o fo) :
    DenX prog w X n sc vs (.If t b o pos) (fun m Q => ft m fun c => match c with | true => fb m Q | false => fo m Q) := by
  intro env A E s m Q ok R F hQ
  refine wpAny_If (thenT (ht env A E s m _ ok R F hQ) fun c h₁ t₁ k₁ i₁ q₁ => ?_)
  cases c with
  | true => exact wpAny_mono (hb env A E _ m Q ok R (F.keep k₁ i₁) q₁) (fun v s' p => PostS.from (h₁ := h₁) p k₁.L) fun _ _ x => x
  | false => exact wpAny_mono (ho env A E _ m Q ok R (F.keep k₁ i₁) q₁) (fun v s' p => PostS.from (h₁ := h₁) p k₁.L) fun _ _ x => x

theorem den_ret {e : Expr} {f : ED} (pos : Pos) (he : DenE prog w X n sc vs e f) : DenX prog w X n sc vs (.Return (some e) pos) (fun m Q => f m fun d => Q m (.ret d)) := by
  intro env A E s m Q ok R F hQ
  refine wpAny_Return_some (thenE (he env A E s m _ ok R F hQ) fun v d h₁ t₁ k₁ i₁ r₁ q₁ => ?_)
  exact ⟨m, h₁, t₁, rfl, k₁.L, F.keep k₁ i₁, d, r₁, q₁⟩

/-! two names at once -/
theorem swapped_two {env : Env} (ok : EnvOK sc env) {x y : Str} {p1 p2 tp p3 : Pos} {k k2 : Nat} {e1 e2 : Expr} (hx : sc.names.lookup x = some .local) (hy : sc.names.lookup y = some .local) (hl : p2.line = p1.line) (hxy : x ≠ y)
    (h1 : ∀ v p, e1 ≠ .Starred v p) (h2 : ∀ v p, e2 ≠ .Starred v p)
    (hf : (foldedForSure 8 e1 && foldedForSure 8 e2) = false) (hc : (constantsAlone 8 e1 && constantsAlone 8 e2) = false) :
    swappedStores [.Tuple [.Name x p1, .Name y p2] k tp] (.Tuple [e1, e2] k2 p3) env = pure (some [x, y]) := by
  have kx := ok.loc x hx
  have ky := ok.loc y hy
  have hb : env.blockKind = .function := by rw [Env.blockKind, ok.kind]; rfl
  have hyx : (y == x) = false := beq_eq_false_iff_ne.mpr (Ne.symm hxy)
  have ed : ([x, y] : List Str).eraseDups = [x, y] := by simp [List.eraseDups_cons, hyx]
  unfold swappedStores
  simp only [List.length_cons, List.length_nil, hb, List.any_cons, List.any_nil, List.head?_cons, Option.map_some, Option.getD_some, Expr.pos, List.filterMap_cons, List.filterMap_nil, kx, ky, hl, List.all_cons, List.all_nil, Bool.and_true, hf, hc]
  simp only [beq_self_eq_true, Bool.and_self, if_true, ed, List.length_cons, List.length_nil]
  simp

theorem den_assign2 {x y : Str} {i j : Nat} {e1 e2 : Expr} {f g : ED} (p1 p2 tp p3 pos : Pos) (k k2 : Nat) (hi : vs[i]? = some x) (hj : vs[j]? = some y) (hx : sc.names.lookup x = some .local) (hy : sc.names.lookup y = some .local) (nd : vs.Nodup)
    (h1 : DenE prog w X n sc vs e1 f) (h2 : DenE prog w X n sc vs e2 g) (hl : p2.line = p1.line) (hxy : x ≠ y)
    (s1 : ∀ env, starEach [e1, e2] env = [(false, eval e1 env), (false, eval e2 env)] := by intro _; rfl)
    (n1 : ∀ v p, e1 ≠ .Starred v p := by intro _ _ h; cases h) (n2 : ∀ v p, e2 ≠ .Starred v p := by intro _ _ h; cases h)
    (hf : (foldedForSure 8 e1 && foldedForSure 8 e2) = false := by rfl) (hc : (constantsAlone 8 e1 && constantsAlone 8 e2) = false := by rfl) :
    DenX prog w X n sc vs (.Assign [.Tuple [.Name x p1, .Name y p2] k tp] (.Tuple [e1, e2] k2 p3) pos) (fun m Q => f m fun a => g m fun b => Q ((m.set j (some b)).set i (some a)) .nxt) := by
  intro env A E s m Q ok R F hQ
  refine Assign_Tuple_swapped (names := [x, y]) (wpAny_Tuple ?_) rfl (swapped_two ok hx hy hl hxy n1 n2 hf hc)
  rw [s1]
  show wpAny _ A (spliced [(false, eval e1 env), (false, eval e2 env)]) _ _ _
  refine spliced_cons (thenE (h1 env A E s m _ ok R F hQ) fun v a h₁ t₁ k₁ i₁ r₁ q₁ => ?_)
  refine spliced_cons (thenE (h2 env A E _ m _ ok R (F.keep k₁ i₁) q₁) fun v2 b h₂ t₂ k₂ i₂ r₂ q₂ => ?_)
  refine spliced_nil ⟨by show 2 ≤ sizeLine; decide, ?_⟩
  have ht : (h₂.push { cls := .type "tuple", data := .seq [v, v2].toArray }).IsTuple h₂.objs.size #[v, v2] := ⟨_, Heap.get?_push_size _ rfl, rfl, 0, rfl⟩
  refine PySem.wpAny_unpackItems_tuple (s := { s with heap := h₂.push { cls := .type "tuple", data := .seq [v, v2].toArray }, toks := t₂ }) (items := #[v, v2]) R.hd ht fun h₃ he => ?_
  have k₃ : Keep X h₂ h₃ := fun c o _ e => he c o (by
    have := Heap.lt_size e
    show c ≠ (h₂.push _).objs.size
    rw [Heap.size_push]; exact Nat.ne_of_lt (Nat.lt_succ_of_lt this)) (Heap.get?_push_of_some _ e)
  have i₃ : X.I h₃ := X.stable h₂ h₃ i₂ fun c hc o e => he c o (by
    have := Heap.lt_size e
    show c ≠ (h₂.push _).objs.size
    rw [Heap.size_push]; exact Nat.ne_of_lt (Nat.lt_succ_of_lt this)) (Heap.get?_push_of_some _ e)
  have F₃ := F.keep ((k₁.trans k₂).trans k₃) i₃
  show wpAny _ A (assignInOrder [bindName env y, bindName env x] [v2, v]) _ _ _
  refine assignInOrder_cons (wpAny_bindName (store_sound (s := { s with heap := h₃, toks := t₂ }) ok F₃ hj hy nd (r₂.keep i₂ k₃) fun h₄ kl₄ g₄ F₄ => ?_))
  refine assignInOrder_cons (wpAny_bindName (store_sound (s := { s with heap := h₄, toks := t₂ + 1 }) (d := a) ok F₄ hi hx nd ?_ fun h₅ kl₅ _ F₅ => ?_))
  · have rv := (r₁.keep i₁ k₂).keep i₂ k₃
    obtain ⟨mv, hn⟩ := F₃.ns
    obtain ⟨oL, esL, kL, hL, dL⟩ := ns_data hn
    refine rv.seqs i₃ fun c o e _ q => (g₄ c fun (z : c = env.locals) => ?_).trans e
    obtain ⟨_, _, q⟩ := q
    rw [z, hL] at e; cases e; rw [dL] at q; cases q
  · exact assignInOrder_nil ⟨_, h₅, _, rfl, (((k₁.trans k₂).trans k₃).L.trans kl₄).trans kl₅, F₅, q₂⟩

/-! going through a row of things -/
structure IterAt (prog : Program) (w : World) (A : Around) (X : Ext base) (h₀ h₂ : Heap) (it : Value) (xs : List PyData) (I : Addr) (fp : List Addr) (P : Nat → Value → Prop) (St : Nat → Heap → Prop) : Prop where
  it : it = .ref I
  W : Walks prog w A I fp [I] xs.length P St
  st : St 0 h₂
  flds : ∀ i h, St i h → ∃ o u, h.get? I = some o ∧ o.data = .fields u
  cls : ∀ i h, St i h → ∃ o, h.get? I = some o ∧ (o.cls = .type "list_iterator" ∨ o.cls = .type "tuple_iterator" ∨ o.cls = .type "range_iterator")
  fpoff : ∀ b ∈ fp, b ∉ X.W ∧ ∃ o, h₂.get? b = some o ∧ ((∃ u, o.data = .fields u) ∨ ∃ u k, o.data = .seq u k)
  inew : base.get? I = none
  ioff : I ∉ X.W
  fresh : h₀.get? I = none
  says : ∀ i v, P i v → ∃ d, xs[i]? = some d ∧ lf d = true ∧ Reads h₂ v d []

def PostI (prog : Program) (w : World) (A : Around) (X : Ext base) (s : Shared) (Q : List PyData → Prop) (it : Value) (s₂ : Shared) : Prop :=
  ∃ xs h₂ t₂ I fp P St, s₂ = { s with heap := h₂, toks := t₂ } ∧ Keep X s.heap h₂ ∧ X.I h₂ ∧ IterAt prog w A X s.heap h₂ it xs I fp P St ∧ small xs = true ∧ Q xs
def DenI (prog : Program) (w : World) (X : Ext base) (n : Nat) (sc : Scope) (vs : List Str) (e : Expr) (f : LD) : Prop :=
  ∀ (env : Env) (A : Around) (E : Value → Shared → Prop) (s : Shared) (m : Loc) (Q : List PyData → Prop), EnvOK sc env → Room n A → FmOK X env vs m s.heap → f m Q →
    wpAny (model prog w) A (eval e env) (fun x s₁ => wpAny (model prog w) A (pyIter x) (PostI prog w A X s Q) E s₁) E s

def seqQ (d : PyData) (Q : List PyData → Prop) : Prop := match d with
  | .tuple xs => small xs = true ∧ Q xs
  | .list xs => small xs = true ∧ Q xs
  | _ => False

theorem says_of {h : Heap} {us : Array Value} {xs : List PyData} (r : ReadsAll h us.toList xs []) (l : lfs xs = true) (i : Nat) (v : Value) (e : us[i]? = some v) : ∃ d, xs[i]? = some d ∧ lf d = true ∧ Reads h v d [] := by
  have hlen := ReadsAll.len r
  rw [Array.getElem?_toList.symm] at e
  have hi : i < xs.length := by rw [← hlen]; exact (List.getElem?_eq_some_iff.mp e).1
  obtain ⟨u, e', r'⟩ := readsAll_get r (i := i) (d := xs[i]) (by simp [hi])
  rw [e] at e'; cases e'
  exact ⟨xs[i], by simp [hi], lfs_all l _ (List.getElem_mem hi), r'⟩

theorem den_iter {e : Expr} {f : ED} (he : DenE prog w X n sc vs e f) : DenI prog w X n sc vs e (fun m Q => f m fun d => seqQ d Q) := by
  intro env A E s m Q ok R F hQ
  refine thenE (he env A E s m _ ok R F hQ) fun v d h₁ t₁ k₁ i₁ r₁ q₁ => ?_
  have fr : s.heap.get? h₁.objs.size = none := by
    cases e : s.heap.get? h₁.objs.size with
    | none => rfl
    | some o' =>
      by_cases hw : h₁.objs.size ∈ X.W
      · exact absurd hw (new_off i₁)
      · exact absurd (Heap.lt_size (k₁ _ _ hw e)) (Nat.lt_irrefl _)
  have frb : base.get? h₁.objs.size = none := by
    cases e : base.get? h₁.objs.size with
    | none => rfl
    | some o' => exact absurd (Heap.lt_size ((F.keep k₁ i₁).stays _ _ e)) (Nat.lt_irrefl _)
  unfold seqQ at q₁
  split at q₁
  · rename_i xs
    obtain ⟨t, o, us, k, rfl, e, c, dt, r, l⟩ := r₁.tuple_inv
    have hl := (Array.length_toList (xs := us)).symm.trans (ReadsAll.len r)
    have hne : t ≠ h₁.objs.size := Nat.ne_of_lt (Heap.lt_size e)
    refine PySem.wpAny_pyIter_tuple (s := { s with heap := h₁, toks := t₁ }) (t := t) (items := us) ⟨o, e, c, k, dt⟩ ?_
    have Wk := Walks.tuple (prog := prog) (w := w) R.hd h₁.objs.size t hne us
    rw [hl] at Wk
    refine ⟨xs, _, t₁, h₁.objs.size, [h₁.objs.size, t], _, _, rfl, k₁.trans (Keep.push _ _), inv_push i₁ _, ⟨rfl, Wk, ⟨⟨_, Heap.get?_push_size _ rfl, rfl, rfl⟩, ⟨o, Heap.get?_push_of_some _ e, c, k, dt⟩⟩, ?_, ?_, ?_, frb, new_off i₁, fr, ?_⟩, q₁⟩
    · rintro i h ⟨⟨o, h1, _, h2⟩, _⟩; exact ⟨o, _, h1, h2⟩
    · rintro i h ⟨⟨o, h1, h2, _⟩, _⟩; exact ⟨o, h1, by simp [h2]⟩
    · intro b hb
      rcases List.mem_cons.mp hb with rfl | hb
      · exact ⟨new_off i₁, _, Heap.get?_push_size _ rfl, .inl ⟨_, rfl⟩⟩
      · rw [List.mem_singleton.mp hb]
        exact ⟨tuple_off i₁ e c, o, Heap.get?_push_of_some _ e, .inr ⟨_, _, dt⟩⟩
    · exact says_of (readsAll_seqs i₁ (Keep.push h₁ _).seqs r l) l
  · rename_i xs
    obtain ⟨t, o, us, k, rfl, e, c, dt, r, l, nw⟩ := r₁.list_inv
    have hl := (Array.length_toList (xs := us)).symm.trans (ReadsAll.len r)
    have hne : t ≠ h₁.objs.size := Nat.ne_of_lt (Heap.lt_size e)
    refine wpAny_pyIter_list (s := { s with heap := h₁, toks := t₁ }) (l := t) (items := us) ⟨o, e, c, k, dt⟩ ?_
    have Wk := Walks.list (prog := prog) (w := w) R.hd h₁.objs.size t hne us
    rw [hl] at Wk
    refine ⟨xs, _, t₁, h₁.objs.size, [h₁.objs.size, t], _, _, rfl, k₁.trans (Keep.push _ _), inv_push i₁ _, ⟨rfl, Wk, ⟨⟨_, Heap.get?_push_size _ rfl, rfl, rfl⟩, ⟨o, Heap.get?_push_of_some _ e, c, k, dt⟩⟩, ?_, ?_, ?_, frb, new_off i₁, fr, ?_⟩, q₁⟩
    · rintro i h ⟨⟨o, h1, _, h2⟩, _⟩; exact ⟨o, _, h1, h2⟩
    · rintro i h ⟨⟨o, h1, h2, _⟩, _⟩; exact ⟨o, h1, by simp [h2]⟩
    · intro b hb
      rcases List.mem_cons.mp hb with rfl | hb
      · exact ⟨new_off i₁, _, Heap.get?_push_size _ rfl, .inl ⟨_, rfl⟩⟩
      · rw [List.mem_singleton.mp hb]
        exact ⟨nw, o, Heap.get?_push_of_some _ e, .inr ⟨_, _, dt⟩⟩
    · exact says_of (readsAll_seqs i₁ (Keep.push h₁ _).seqs r l) l
  · exact q₁.elim

def forQ (body : SD) (i : Nat) : List PyData → Loc → (Loc → Flw → Prop) → Prop
  | [], m, Q => Q m .nxt
  | d :: r, m, Q => body (m.set i (some d)) fun m' fl => match fl with
    | .nxt => forQ body i r m' Q
    | .ret v => Q m' (.ret v)

theorem den_for {x : Str} {i : Nat} {iter : Expr} {body : List Stmt} {fi : LD} {fb : SD} (px pos : Pos) (hi : vs[i]? = some x) (hk : sc.names.lookup x = some .local) (nd : vs.Nodup) (hit : DenI prog w X n sc vs iter fi) (hb : DenS prog w X n sc vs body fb)
    (hs : ∀ env y, foldedSetIterable iter env y = pure y := by intro _ _; rfl) : DenX prog w X n sc vs (.For (.Name x px) iter body [] pos) (fun m Q => fi m fun xs => forQ fb i xs m Q) := by
  intro env A E s m Q ok R F hQ
  refine PySem.wpAny_For (wpAny_mono (hit env A E s m _ ok R F hQ) (fun x s₁ p => wpAny_mono p (fun it s₂ p => ?_) fun _ _ x => x) fun _ _ x => x) (hs env)
  obtain ⟨xs, h₂, t₂, I, fp, P, St, rfl, k₂, i₂, T, sm, q₂⟩ := p
  obtain rfl := T.it
  have F₂ := F.keep k₂ i₂
  obtain ⟨mv₂, hn₂⟩ := F₂.ns
  obtain ⟨oL, esL, kL, hL, dL⟩ := ns_data hn₂
  have hfpL : ∀ b ∈ fp, b ≠ env.locals := fun b hb z => by
    obtain ⟨_, o, e, d⟩ := T.fpoff b hb
    rw [z, hL] at e; cases e
    rcases d with ⟨_, d⟩ | ⟨_, _, d⟩ <;> (rw [dL] at d; cases d)
  have hIL : I ≠ env.locals := fun z => by
    obtain ⟨o, u, e, d⟩ := T.flds 0 _ T.st
    rw [z, hL] at e; cases e; rw [dL] at d; cases d
  refine codeAny_forLoop (fun k s' => ∃ j m' h' tk', s' = { s with heap := h', toks := tk' } ∧ j ≤ xs.length ∧ k = xs.length + 1 - j ∧ St j h' ∧ FmOK X env vs m' h' ∧ (∀ b o, b ∉ X.W → b ≠ env.locals → b ≠ I → h₂.get? b = some o → h'.get? b = some o) ∧ forQ fb i (xs.drop j) m' Q)
    ?_ (xs.length + 1) ⟨0, m, h₂, t₂, rfl, Nat.zero_le _, rfl, T.st, F₂, fun _ _ _ _ _ e => e, q₂⟩
  rintro k _ ⟨j, m', h', tk', rfl, hj, rfl, hst, F', g', q'⟩
  have keep0 : ∀ {h'' : Heap}, (∀ b o, b ∉ X.W → b ≠ env.locals → b ≠ I → h₂.get? b = some o → h''.get? b = some o) → KeepL X env.locals s.heap h'' := fun g b o nw nl e => g b o nw nl (fun z => by rw [z, T.fresh] at e; cases e) (k₂ b o nw e)
  -- after the iterator has moved
  have moved : ∀ h'', (∀ b o, b ∉ [I] → h'.get? b = some o → h''.get? b = some o) → FmOK X env vs m' h'' := fun h'' kk => by
    obtain ⟨oI, uI, eI, dI⟩ := T.flds j h' hst
    refine F'.stands (fun b o e nw q => kk b o (fun z => ?_) e) (X.stable h' h'' F'.inv fun b hb o e => kk b o (fun z => T.ioff (List.mem_singleton.mp z ▸ hb)) e)
    have z := List.mem_singleton.mp z
    rw [z, eI] at e; cases e
    rcases q with ⟨_, _, d⟩ | ⟨_, _, d⟩ | ⟨_, d⟩ | ⟨_, d⟩
    · rw [dI] at d; cases d
    · rw [dI] at d; cases d
    · rw [dI] at d; cases d
    · rw [z, T.inew] at d; cases d
  by_cases hlt : j < xs.length
  · refine T.W.item j _ _ _ hlt hst fun v h'' tk'' hP hst'' kk => ?_
    have F'' := moved h'' kk
    obtain ⟨d, hd, ld, rd⟩ := T.says j v hP
    have rd'' : VR X h'' v d := .flat ld (reads_seqs i₂ (fun b o e nw q => kk b o (fun z => by
        obtain ⟨_, _, q⟩ := q
        have z := List.mem_singleton.mp z
        obtain ⟨oI, uI, eI, dI⟩ := T.flds 0 h₂ T.st
        rw [z, eI] at e; cases e; rw [dI] at q; cases q) (g' b o nw (fun z => by
        obtain ⟨_, _, q⟩ := q
        rw [z, hL] at e; cases e; rw [dL] at q; cases q) (fun z => by
        obtain ⟨_, _, q⟩ := q
        obtain ⟨oI, uI, eI, dI⟩ := T.flds 0 h₂ T.st
        rw [z, eI] at e; cases e; rw [dI] at q; cases q) e)) rd ld)
    have hdrop : xs.drop j = d :: xs.drop (j + 1) := by
      obtain ⟨l, e⟩ := List.getElem?_eq_some_iff.mp hd
      rw [List.drop_eq_getElem_cons l, e]
    rw [hdrop] at q'
    refine PySem.wpAny_assign_Name (store_sound (s := { s with heap := h'', toks := tk'' }) ok F'' hi hk nd rd'' fun h₃ kl₃ g₃ F₃ => ?_)
    refine wpAny_mono (hb env A _ { s with heap := h₃, toks := tk'' + 1 } _ _ ok R F₃ q') (fun fl s₅ p => ?_) fun _ _ x => x
    obtain ⟨m₅, h₅, t₅, rfl, kl₅, F₅, q₅⟩ := p
    have g₅ : ∀ b o, b ∉ X.W → b ≠ env.locals → b ≠ I → h₂.get? b = some o → h₅.get? b = some o := fun b o nw nl ni e => kl₅ b o nw nl (kl₃ b o nw nl (kk b o (fun z => ni (List.mem_singleton.mp z)) (g' b o nw nl ni e)))
    cases fl with
    | next =>
      refine ⟨xs.length + 1 - (j + 1), by omega, j + 1, m₅, h₅, t₅, rfl, hlt, rfl, T.W.frame _ _ _ hst'' fun b hb o e => kl₅ b o (T.fpoff b hb).1 (hfpL b hb) (kl₃ b o (T.fpoff b hb).1 (hfpL b hb) e), F₅, g₅, q₅⟩
    | ret v =>
      obtain ⟨dv, rv, qv⟩ := q₅
      exact ⟨m₅, h₅, t₅, rfl, keep0 g₅, F₅, dv, rv, qv⟩
    | brk => exact q₅.elim
    | cont => exact q₅.elim
  · have hje : j = xs.length := by omega
    subst hje
    refine T.W.done _ _ _ hst fun h'' tk'' kk => wpAny_execs_nil ?_
    rw [List.drop_length] at q'
    exact ⟨m', h'', tk'', rfl, keep0 fun b o nw nl ni e => kk b o (fun z => ni (List.mem_singleton.mp z)) (g' b o nw nl ni e), moved h'' kk, q'⟩
end
end Mine

namespace Mine

/-! the names of a comprehension -/
theorem closure_go {env : Env} : ∀ (names : List (Str × NameKind)) (acc : List (Str × Addr)), (∀ p ∈ names, p.2 = .free → ∃ c, env.cells.lookup p.1 = some c) → (∀ z c, (z, c) ∈ acc → env.cells.lookup z = some c) →
    ∃ cl, (forIn names acc fun (x : Str × NameKind) r => (if (x.2 == NameKind.free) = true then (do let a ← cellOf env x.1; pure (ForInStep.yield ((x.1, a) :: r))) else pure (ForInStep.yield r) : Sem _)) = pure cl ∧
      (∀ z c, (z, c) ∈ cl → env.cells.lookup z = some c) ∧ (∀ p ∈ acc, p ∈ cl) ∧ ∀ y, (y, NameKind.free) ∈ names → ∃ c, (y, c) ∈ cl
  | [], acc, _, ha => ⟨acc, by rw [List.forIn_nil], ha, fun _ h => h, fun _ h => nomatch h⟩
  | (n, k) :: r, acc, hn, ha => by
    by_cases hk : (k == NameKind.free) = true
    · have hk' := beq_iff_eq.mp hk
      subst hk'
      obtain ⟨c, hc⟩ := hn (n, .free) (.head _) rfl
      obtain ⟨cl, e, h1, h2, h3⟩ := closure_go r ((n, c) :: acc) (fun p hp => hn p (.tail _ hp)) (fun z c' hz => by
        rcases List.mem_cons.mp hz with q | hz
        · cases q; exact hc
        · exact ha z c' hz)
      refine ⟨cl, ?_, h1, fun p hp => h2 p (.tail _ hp), fun y hy => ?_⟩
      · rw [List.forIn_cons]
        simp only [beq_self_eq_true, if_true]
        have : cellOf env n = pure c := by unfold cellOf; rw [hc]
        rw [this]
        exact e
      · rcases List.mem_cons.mp hy with q | hy
        · cases q; exact ⟨c, h2 _ (.head _)⟩
        · exact h3 y hy
    · obtain ⟨cl, e, h1, h2, h3⟩ := closure_go r acc (fun p hp => hn p (.tail _ hp)) ha
      refine ⟨cl, ?_, h1, h2, fun y hy => ?_⟩
      · rw [List.forIn_cons]
        simp only [hk]
        exact e
      · rcases List.mem_cons.mp hy with q | hy
        · cases q; exact absurd rfl hk
        · exact h3 y hy
theorem lookup_of_mem {α : Type} : ∀ {cl : List (Str × α)} {y : Str} {c : α}, (y, c) ∈ cl → ∃ c', cl.lookup y = some c'
  | (z, c') :: r, y, c, hc => by
    cases hz : y == z with
    | true => exact ⟨c', by rw [List.lookup_cons, hz]⟩
    | false =>
      rcases List.mem_cons.mp hc with q | hc
      · cases q; simp at hz
      · obtain ⟨c'', e⟩ := lookup_of_mem hc
        exact ⟨c'', by rw [List.lookup_cons, hz]; exact e⟩
theorem closure_of {env : Env} {scope : Scope} (hn : ∀ p ∈ scope.names, p.2 = .free → ∃ c, env.cells.lookup p.1 = some c) :
    ∃ cl, closureFor scope env = pure cl ∧ ∀ y, (y, NameKind.free) ∈ scope.names → ∃ c, cl.lookup y = some c ∧ env.cells.lookup y = some c := by
  obtain ⟨cl, e, h1, _, h3⟩ := closure_go scope.names [] hn (fun _ _ h => nomatch h)
  refine ⟨cl, ?_, fun y hy => ?_⟩
  · unfold closureFor
    simp only [bind_pure]
    exact e
  · obtain ⟨c, hc⟩ := h3 y hy
    obtain ⟨c', e'⟩ := lookup_of_mem hc
    exact ⟨c', e', h1 y c' (mem_of_lookup e')⟩

theorem relabel_other {scope : Scope} {env : Env} : ∀ {names : List (Str × NameKind)} {x : Str} {k : NameKind}, names.lookup x = some k → k ≠ .free →
    (names.map fun (n, k) => if (k == NameKind.free && env.scope.kind == .function && env.kindOf n == some .cell) then (n, NameKind.cell) else (n, k)).lookup x = some k
  | [], _, _, h, _ => by simp at h
  | (n, k') :: r, x, k, h, hk => by
    have ih := @relabel_other scope env r x k
    show List.lookup x ((if (k' == NameKind.free && env.scope.kind == .function && env.kindOf n == some .cell) = true then (n, NameKind.cell) else (n, k')) :: _) = _
    cases hx : x == n with
    | true =>
      simp only [List.lookup_cons, hx] at h
      cases h
      have h9 : (k' == NameKind.free) = false := beq_eq_false_iff_ne.mpr hk
      simp only [h9, Bool.false_and, Bool.false_eq_true, if_false, List.lookup_cons, hx]
    | false =>
      simp only [List.lookup_cons, hx] at h
      by_cases hc : (k' == NameKind.free && env.scope.kind == .function && env.kindOf n == some .cell) = true
      · rw [if_pos hc]; simp only [List.lookup_cons, hx]; exact ih h hk
      · rw [if_neg hc]; simp only [List.lookup_cons, hx]; exact ih h hk
theorem relabel_free {env : Env} (hf : env.scope.kind = .function) : ∀ {names : List (Str × NameKind)} {x : Str}, names.lookup x = some .free → env.kindOf x = some .cell →
    (names.map fun (n, k) => if (k == NameKind.free && env.scope.kind == .function && env.kindOf n == some .cell) then (n, NameKind.cell) else (n, k)).lookup x = some .cell
  | [], _, h, _ => by simp at h
  | (n, k') :: r, x, h, hk => by
    have ih := @relabel_free env hf r x
    show List.lookup x ((if (k' == NameKind.free && env.scope.kind == .function && env.kindOf n == some .cell) = true then (n, NameKind.cell) else (n, k')) :: _) = _
    cases hx : x == n with
    | true =>
      simp only [List.lookup_cons, hx] at h
      cases h
      have e := beq_iff_eq.mp hx
      subst e
      rw [if_pos (by simp [hf, hk])]
      simp only [List.lookup_cons, hx]
    | false =>
      simp only [List.lookup_cons, hx] at h
      by_cases hc : (k' == NameKind.free && env.scope.kind == .function && env.kindOf n == some .cell) = true
      · rw [if_pos hc]; simp only [List.lookup_cons, hx]; exact ih h hk
      · rw [if_neg hc]; simp only [List.lookup_cons, hx]; exact ih h hk

section
variable {prog : Program} {w : World} {A : Around} {E : Value → Shared → Prop} {R : Result → Shared → Prop} {s : Shared}
theorem compLoop_gen {elt target iter : Expr} {ifs : List Expr} {scope : Scope} {pos : Pos} {it acc : Value} {env : Env} (I : Nat → Shared → Prop)
    (turn : ∀ n s (E : Value → Shared → Prop), I n s → wpAny (model prog w) A (pyNext it) (fun r s₁ => match r with
      | none => R (.ok .next) s₁
      | some v => wpAny (model prog w) A (letOwnedTupleGo target it v) (fun _ s₁ => wpAny (model prog w) A (assign target env v) (fun _ s₂ =>
          wpAny (model prog w) A (forIn ifs true fun c r => if r = true then do let ok ← isTrue c env (eval c env); pure (ForInStep.yield ok) else pure (ForInStep.yield r)) (fun ok s₃ =>
            if ok = true then wpAny (model prog w) A (eval elt env) (fun x s₄ =>
              wpAny (model prog w) A (call (.builtin "list.append") [acc, x]) (fun _ s₅ => ∃ m, m < n ∧ I m s₅) E s₄) E s₃
            else ∃ m, m < n ∧ I m s₃) E s₂) E s₁) E s₁) E s)
    (n : Nat) (h : I n s) : codeAny (model prog w) A (.compLoop (.ListComp elt [⟨target, iter, ifs, 0⟩] scope pos) 0 it acc env) R s := by
  refine codeAny_loop rfl I (fun n s hI => ?_) n h
  show wpAny _ A ((compTurn (.ListComp elt [⟨target, iter, ifs, 0⟩] scope pos) 0 it acc env).onRaise (fun x => do noteFrame x env; theTreesLotGoes x)) _ _ s
  refine wpAny_noted ?_
  rw [compTurn_list]
  refine wpAny_bind (wpAny_standAt (wpAny_bind (wpAny_mono (turn n s _ hI) (fun r s₁ h₁ => ?_) fun _ _ h' => h')))
  cases r with
  | none => exact wpAny_pure h₁
  | some v =>
    refine wpAny_bind (wpAny_mono h₁ (fun _ s₁ h₁ => ?_) fun _ _ h' => h')
    refine wpAny_bind (wpAny_mono h₁ (fun _ s₂ h₂ => wpAny_bind (wpAny_mono h₂ (fun ok s₃ h₃ => ?_) fun _ _ h' => h')) fun _ _ h' => h')
    cases ok with
    | false => exact wpAny_pure ⟨rfl, h₃⟩
    | true =>
      exact wpAny_bind (wpAny_bind (wpAny_mono h₃ (fun x s₄ h₄ => wpAny_bind (wpAny_mono h₄ (fun _ s₅ h₅ => wpAny_pure (wpAny_pure ⟨rfl, h₅⟩)) fun _ _ h' => h')) fun _ _ h' => h'))

theorem owned_goes {t : Expr} {I : Addr} {v : Value} {P : Unit → Shared → Prop} (h : ∃ o, s.heap.get? I = some o ∧ (o.cls = .type "list_iterator" ∨ o.cls = .type "tuple_iterator" ∨ o.cls = .type "range_iterator")) (hP : P () s) :
    wpAny (model prog w) A (letOwnedTupleGo t (.ref I) v) P E s := by
  obtain ⟨⟨cls, dd, data, sl⟩, e, c⟩ := h
  have key : wpAny (model prog w) A (do
    let (.ref r, .ref a) := (Value.ref I, v) | return
    let o ← load r
    match o.cls, o.data with
    | .type n, .fields vs =>
      if ["enumerate", "zip", "dict_itemiterator", "dict_reverseitemiterator", "odict_iterator", "itertools.zip_longest", "itertools.pairwise"].contains n && vs[0]? == some (rawInt a) then
        rule "for.unpacks-the-owned-tuple"
        updateField r 0 .none
    | _, _ => pure ()) P E s := by
    cases v with
    | ref a =>
      refine wpAny_bind (wpAny_load e ?_)
      dsimp only at c ⊢
      rcases c with rfl | rfl | rfl <;> (cases data <;> exact wpAny_pure hP)
    | _ => exact wpAny_pure hP
  unfold letOwnedTupleGo
  split
  · exact key
  · exact key
  · exact wpAny_pure hP
end

section
variable {base : Heap} {prog : Program} {w : World} {X : Ext base} {n : Nat} {sc : Scope} {vs : List Str}

def isReel : PyData → Bool
  | .dict _ => true
  | _ => false
def flatM (m : Loc) : Bool := m.all fun o => match o with | none => true | some d => lf d || isReel d
theorem flatM_get {m : Loc} {i : Nat} {d : PyData} (h : flatM m = true) (e : m[i]? = some (some d)) : lf d = true ∨ ∃ k, d = .dict k := by
  have := List.all_eq_true.mp h _ (List.mem_of_getElem? e)
  simp only [Bool.or_eq_true] at this
  refine this.imp id fun q => ?_
  unfold isReel at q
  split at q
  · exact ⟨_, rfl⟩
  · cases q
theorem flatM_set {m : Loc} {i : Nat} {d : PyData} (h : flatM m = true) (e : lf d = true) : flatM (m.set i (some d)) = true := by
  refine List.all_eq_true.mpr fun o ho => ?_
  rcases List.mem_or_eq_of_mem_set ho with ho | rfl
  · exact List.all_eq_true.mp h o ho
  · simp [e]

/-- a list that is no variable's grows -/
theorem FmOK.grow {env : Env} {m : Loc} {h h' : Heap} {D : Addr} (F : FmOK X env vs m h) (fl : flatM m = true) (hD : ∃ o, h.get? D = some o ∧ o.cls = .type "list" ∧ ∃ u k, o.data = .seq u k) (hb : base.get? D = none) (hw : D ∉ X.W)
    (g : ∀ b, b ≠ D → h'.get? b = h.get? b) : FmOK X env vs m h' := by
  obtain ⟨oD, eD, cD, uD, kD, dD⟩ := hD
  have tup : ∀ b o, h.get? b = some o → o.cls = .type "tuple" → h'.get? b = some o := fun b o e c => (g b fun z => by
    rw [z, eD] at e; cases e; rw [cD] at c; exact absurd c (by decide)).trans e
  refine ⟨fun b o e => (g b fun z => by rw [z, hb] at e; cases e).trans (F.stays b o e), X.stable _ _ F.inv fun b hb o e => (g b fun z => hw (z ▸ hb)).trans e, ?_, F.lnew, fun i x d e1 e2 => ?_⟩
  · obtain ⟨mv, o, es, ep, ho, hd, rest⟩ := F.ns
    exact ⟨mv, o, es, ep, (g _ fun z => by rw [z, eD] at ho; cases ho; rw [dD] at hd; cases hd).trans ho, hd, rest⟩
  · have vr : ∀ v, VR X h v d → VR X h' v d := fun v r => by
      rcases flatM_get fl e2 with l | ⟨_, rfl⟩
      · cases r with
        | flat _ r => exact .flat l (lf_keep (fun b o e c _ => tup b o e c) r l)
        | lst => simp [lf] at l
        | hnd => simp [lf] at l
      · cases r with
        | flat l _ => simp [lf] at l
        | hnd a => exact .hnd a
    rcases F.vars i x d e1 e2 with ⟨k, mv, v, ⟨o, es, ep, ho, hd, rest⟩, e, r⟩ | ⟨k, c, v, e, ⟨o, ho, hd⟩, r⟩
    · exact .inl ⟨k, mv, v, ⟨o, es, ep, (g _ fun z => by rw [z, eD] at ho; cases ho; rw [dD] at hd; cases hd).trans ho, hd, rest⟩, e, vr v r⟩
    · exact .inr ⟨k, c, v, e, ⟨o, (g _ fun z => by rw [z, eD] at ho; cases ho; rw [dD] at hd; cases hd).trans ho, hd⟩, vr v r⟩

/-- the target of a comprehension -/
def DenG (prog : Program) (w : World) (X : Ext base) (n : Nat) (sc : Scope) (vs : List Str) (target : Expr) (tg : PyData → Loc → (Loc → Prop) → Prop) : Prop :=
  ∀ (env : Env) (A : Around) (E : Value → Shared → Prop) (s : Shared) (m : Loc) (v : Value) (d : PyData) (k : Loc → Prop) (P : Unit → Shared → Prop), EnvOK sc env → Room n A → FmOK X env vs m s.heap → flatM m = true → lf d = true → Reads s.heap v d [] → tg d m k →
    (∀ m' h' tk', k m' → flatM m' = true → KeepL X env.locals s.heap h' → (∀ b o, b ∈ X.W → s.heap.get? b = some o → h'.get? b = some o) → FmOK X env vs m' h' → P () { s with heap := h', toks := tk' }) → wpAny (model prog w) A (assign target env v) P E s
theorem den_gname {x : Str} {i : Nat} (px : Pos) (hi : vs[i]? = some x) (hk : sc.names.lookup x = some .local) (nd : vs.Nodup) : DenG prog w X n sc vs (.Name x px) (fun d m k => k (m.set i (some d))) := by
  intro env A E s m v d k P ok R F fl l r q h
  refine PySem.wpAny_assign_Name (store_sound ok F hi hk nd (.flat l r) fun h' kl g F' => h _ h' _ q (flatM_set fl l) kl (fun b o hb e => (g b fun z => ?_).trans e) F')
  obtain ⟨mv, hn⟩ := F.ns
  obtain ⟨oL, esL, kL, hL, dL⟩ := ns_data hn
  exact dict_off F.inv hL ⟨_, _, dL⟩ (z ▸ hb)
def pairQ (i j : Nat) (d : PyData) (m : Loc) (k : Loc → Prop) : Prop := match d with
  | .tuple [a, b] => k ((m.set i (some a)).set j (some b))
  | _ => False
theorem gpair_raw {x y : Str} {i j : Nat} (px py tp : Pos) (kk : Nat) (hi : vs[i]? = some x) (hk : sc.names.lookup x = some .local) (hj : vs[j]? = some y) (hk2 : sc.names.lookup y = some .local) (nd : vs.Nodup)
    {env : Env} {A : Around} {E : Value → Shared → Prop} {s : Shared} {m : Loc} {v : Value} {d : PyData} {k : Loc → Prop} {P : Unit → Shared → Prop} (ok : EnvOK sc env) (R : Room n A) (F : FmOK X env vs m s.heap) (l : lf d = true) (r : Reads s.heap v d []) (q : pairQ i j d m k)
    (h : ∀ a b h' tk', d = .tuple [a, b] → k ((m.set i (some a)).set j (some b)) → KeepL X env.locals s.heap h' → (∀ b o, b ∈ X.W → s.heap.get? b = some o → h'.get? b = some o) → FmOK X env vs ((m.set i (some a)).set j (some b)) h' → P () { s with heap := h', toks := tk' }) :
    wpAny (model prog w) A (assign (.Tuple [.Name x px, .Name y py] kk tp) env v) P E s := by
  unfold pairQ at q
  split at q
  · rename_i a b
    obtain ⟨t, o, us, kq, rfl, e, c, dt, rr, ll⟩ := (VR.flat (X := X) l r).tuple_inv
    obtain ⟨va, r1, e1, ra, rr⟩ := readsAll_uncons rr
    obtain ⟨vb, r2, e2, rb, rr⟩ := readsAll_uncons rr
    have e3 : r2 = [] := by have := ReadsAll.len rr; exact List.length_eq_zero_iff.mp this
    subst e3 e2
    have la := lfs_all ll a (.head _)
    have lb := lfs_all ll b (.tail _ (.head _))
    have hsz : us.size = 2 := by rw [← Array.length_toList, e1]; rfl
    refine PySem.wpAny_assign_Tuple R.hd ⟨o, e, c, kq, dt⟩ (by rw [hsz]; rfl) rfl fun h₁ he => ?_
    have hne : ∀ b o, s.heap.get? b = some o → h₁.get? b = some o := fun b o e => he b o (Nat.ne_of_lt (Heap.lt_size e)) e
    have i₁ := X.stable _ _ F.inv fun b _ o e => hne b o e
    have F₁ := F.keep (Keep.ofAll hne) i₁
    rw [e1]
    show wpAny _ A (assignInOrder [assign (.Name x px) env, assign (.Name y py) env] [va, vb]) _ _ _
    have lw : ∀ {h : Heap} {m : Loc}, FmOK X env vs m h → env.locals ∉ X.W := fun F => by
      obtain ⟨mv, hn⟩ := F.ns
      obtain ⟨oL, esL, kL, hL, dL⟩ := ns_data hn
      exact dict_off F.inv hL ⟨_, _, dL⟩
    refine assignInOrder_cons (PySem.wpAny_assign_Name (store_sound (s := { s with heap := h₁ }) ok F₁ hi hk nd (.flat la (reads_seqs F.inv (Keep.ofAll hne).seqs ra la)) fun h₂ kl₂ g₂ F₂ => ?_))
    have rb₂ : VR X h₂ vb b := by
      refine (VR.flat lb (reads_seqs F.inv (Keep.ofAll hne).seqs rb lb)).seqs i₁ fun c o e _ q => (g₂ c fun z => ?_).trans e
      obtain ⟨mv, hn⟩ := F₁.ns
      obtain ⟨oL, esL, kL, hL, dL⟩ := ns_data hn
      obtain ⟨_, _, q⟩ := q
      rw [z, hL] at e; cases e; rw [dL] at q; cases q
    refine assignInOrder_cons (PySem.wpAny_assign_Name (store_sound (s := { s with heap := h₂, toks := s.toks + 1 }) ok F₂ hj hk2 nd rb₂ fun h₃ kl₃ g₃ F₃ => ?_))
    exact assignInOrder_nil (h a b h₃ _ rfl q (((Keep.ofAll hne).L.trans kl₂).trans kl₃) (fun b o hb e => (g₃ b fun z => lw F (z ▸ hb)).trans ((g₂ b fun z => lw F (z ▸ hb)).trans (hne b o e))) F₃)
  · exact q.elim
theorem den_gpair {x y : Str} {i j : Nat} (px py tp : Pos) (kk : Nat) (hi : vs[i]? = some x) (hk : sc.names.lookup x = some .local) (hj : vs[j]? = some y) (hk2 : sc.names.lookup y = some .local) (nd : vs.Nodup) :
    DenG prog w X n sc vs (.Tuple [.Name x px, .Name y py] kk tp) (pairQ i j) := fun env A E s m v d k P ok R F fl l r q h =>
  gpair_raw px py tp kk hi hk hj hk2 nd ok R F l r q fun a b h' tk' e q kl g F' => by
    subst e
    exact h _ h' tk' q (flatM_set (flatM_set fl (lfs_all (xs := [a, b]) l a (.head _))) (lfs_all (xs := [a, b]) l b (.tail _ (.head _)))) kl g F'

def DenTs (prog : Program) (w : World) (X : Ext base) (n : Nat) (sc : Scope) (vs : List Str) (ifs : List Expr) (f : TD) : Prop :=
  ∀ (env : Env) (A : Around) (E : Value → Shared → Prop) (s : Shared) (m : Loc) (Q : Bool → Prop), EnvOK sc env → Room n A → FmOK X env vs m s.heap → f m Q →
    wpAny (model prog w) A (forIn ifs true fun c r => if r = true then do let ok ← isTrue c env (eval c env); pure (ForInStep.yield ok) else pure (ForInStep.yield r)) (PostT X s Q) E s
theorem den_ts0 : DenTs prog w X n sc vs [] (fun _ Q => Q true) := fun _ _ _ s _ _ _ _ F hQ => wpAny_tests_nil ⟨s.heap, s.toks, rfl, .refl _, F.inv, hQ⟩
theorem den_ts1 {c : Expr} {f : TD} (h : DenT prog w X n sc vs c f) : DenTs prog w X n sc vs [c] f := fun env A E s m Q ok R F hQ => wpAny_tests_one (h env A E s m Q ok R F hQ)

def compQ (tg : PyData → Loc → (Loc → Prop) → Prop) (ft : TD) (fe : ED) : List PyData → List PyData → Loc → (PyData → Prop) → Prop
  | [], acc, _, Q => small acc = true ∧ Q (.list acc)
  | d :: r, acc, m, Q => tg d m fun m' => ft m' fun c => match c with
    | true => fe m' fun y => lf y = true ∧ small acc = true ∧ compQ tg ft fe r (acc ++ [y]) m' Q
    | false => compQ tg ft fe r acc m' Q

/-- what a comprehension leaves: the list, and all else that stood -/
def PostC (X : Ext base) (s : Shared) (Q : PyData → Prop) (C D : Addr) (s' : Shared) : Prop :=
  ∃ h' tk' xs, s' = { s with heap := h', toks := tk' } ∧ Keep X s.heap h' ∧ X.I h' ∧ (∃ mC, h'.Ns C mC) ∧ VR X h' (.ref D) (.list xs) ∧ Q (.list xs) ∧ s.heap.get? C = none ∧ s.heap.get? D = none

/-- captured names: (name, its place in the frame around) -/
def capM (cap : List (Str × Nat)) (m : Loc) : Loc := cap.map fun p => (m[p.2]?).getD none

structure CompOK (sc : Scope) (vs : List Str) (scope : Scope) (tn : List Str) (cap : List (Str × Nat)) : Prop where
  kind : scope.kind = .function
  nocell : ∀ x ∈ scope.names, x.2 ≠ .cell
  uniq : ∀ x ∈ scope.names, x.2 = .local → scope.names.lookup x.1 = some .local
  free : ∀ x ∈ scope.names, x.2 = .free → ∃ p ∈ cap, p.1 = x.1
  caps : ∀ p ∈ cap, scope.names.lookup p.1 = some .free ∧ sc.names.lookup p.1 = some .cell ∧ vs[p.2]? = some p.1
  capin : ∀ p ∈ cap, (p.1, NameKind.free) ∈ scope.names

theorem comp_block {elt target iter : Expr} {ifs : List Expr} {scope : Scope} {tn : List Str} {cap : List (Str × Nat)} {fi : LD} {tg : PyData → Loc → (Loc → Prop) → Prop} {ft : TD} {fe : ED} (pos : Pos) (co : CompOK sc vs scope tn cap)
    (hit : DenI prog w X n sc vs iter fi) (hg : DenG prog w X n scope (tn ++ cap.map (·.1)) target tg) (ht : DenTs prog w X n scope (tn ++ cap.map (·.1)) ifs ft) (he : DenE prog w X n scope (tn ++ cap.map (·.1)) elt fe)
    {env : Env} {A : Around} {E : Value → Shared → Prop} {s : Shared} {m : Loc} {Q : PyData → Prop} {RR : Value → Addr → Result → Shared → Prop} (ok : EnvOK sc env) (Rm : Room n A) (F : FmOK X env vs m s.heap)
    (hcap : ∀ p ∈ cap, ∃ d, m[p.2]? = some (some d)) (fl : flatM (capM cap m) = true)
    (hQ : fi m fun xs => compQ tg ft fe xs [] (tn.map (fun _ => none) ++ capM cap m) Q)
    (hRR : ∀ D C s', PostC X s Q C D s' → RR (.ref D) C (.ok .next) s') :
    ∃ cl, closureFor scope env = pure cl ∧ wpAny (model prog w) A (eval iter env) (fun x s₁ => wpAny (model prog w) A (pyIter x) (fun it s₂ => wpAny (model prog w) A (newList []) (fun acc s₃ =>
      wpAny (model prog w) A (newFunctionEnv scope env.globals cl [] env.qual none .none (some env)) (fun cenv s₄ =>
        codeAny (model prog w) A (.compStart (.ListComp elt [⟨target, iter, ifs, 0⟩] scope pos) 0 it acc { cenv with scope := relabel scope env }) (RR acc cenv.locals) s₄) E s₃) E s₂) E s₁) E s := by
  have cells : ∀ p ∈ cap, ∃ d c v, m[p.2]? = some (some d) ∧ env.kindOf p.1 = some .cell ∧ env.cells.lookup p.1 = some c := fun p hp => by
    obtain ⟨d, hd⟩ := hcap p hp
    have kc := ok.cel _ (co.caps p hp).2.1
    rcases F.vars p.2 p.1 d (co.caps p hp).2.2 hd with ⟨k, _⟩ | ⟨k, c, v, e, _⟩
    · rw [kc] at k; cases k
    · exact ⟨d, c, v, hd, kc, e⟩
  obtain ⟨cl, hcl, hlk⟩ := closure_of (env := env) (scope := scope) (fun p hp hf => by
    obtain ⟨q, hq, e⟩ := co.free p hp hf
    obtain ⟨_, c, _, _, _, h⟩ := cells q hq
    exact ⟨c, by rw [← e]; exact h⟩)
  refine ⟨cl, hcl, wpAny_mono (hit env A E s m _ ok Rm F hQ) (fun x s₁ p => wpAny_mono p (fun it s₂ p => ?_) fun _ _ x => x) fun _ _ x => x⟩
  obtain ⟨xs, h₂, t₂, I, fp, P, St, rfl, k₂, i₂, T, sm, q₂⟩ := p
  obtain rfl := T.it
  have F₂ := F.keep k₂ i₂
  refine wpAny_newObj_type (wpAny_newFunctionEnv co.nocell (by intro y hy; simp at hy) (fun h₁ hns₁ hsb₁ => ?_) co.kind)
  dsimp only at hns₁ hsb₁ ⊢
  generalize hH : h₂.push { cls := .type "list", dict := none, data := .seq ([] : List Value).toArray } = H at hns₁ hsb₁ ⊢
  have hC : H.objs.size = h₂.objs.size + 1 := by rw [← hH, Heap.size_push]
  have hDC : h₂.objs.size ≠ H.objs.size := by rw [hC]; exact Nat.ne_of_lt (Nat.lt_succ_self _)
  have below : ∀ b, b < h₂.objs.size → b ≠ H.objs.size ∧ b ≠ h₂.objs.size := fun b hb => ⟨by rw [hC]; exact Nat.ne_of_lt (Nat.lt_succ_of_lt hb), Nat.ne_of_lt hb⟩
  have old : ∀ b o, h₂.get? b = some o → h₁.get? b = some o := fun b o e => hsb₁.extBut b o (below b (Heap.lt_size e)).1 (Heap.get?_push_of_some _ (hH ▸ Heap.get?_push_of_some _ e))
  have fresh : ∀ a, h₂.objs.size ≤ a → h₂.get? a = none := fun a ha => by
    cases e : h₂.get? a with
    | none => rfl
    | some o' => exact absurd (Heap.lt_size e) (Nat.not_lt.mpr ha)
  have hCn : h₂.get? H.objs.size = none := fresh _ (by rw [hC]; exact Nat.le_succ _)
  have hDn : h₂.get? h₂.objs.size = none := fresh _ (Nat.le_refl _)
  have nW : ∀ a, h₂.get? a = none → a ∉ X.W := fun a e q => by
    obtain ⟨o, e', _⟩ := X.lists h₂ i₂ a q
    rw [e] at e'; cases e'
  have nB : ∀ a, h₂.get? a = none → base.get? a = none := fun a e => by
    cases q : base.get? a with
    | none => rfl
    | some o => rw [F₂.stays a o q] at e; cases e
  have nS : ∀ a, h₂.get? a = none → s.heap.get? a = none := fun a e => by
    cases q : s.heap.get? a with
    | none => rfl
    | some o => rw [k₂ a o (nW a e) q] at e; cases e
  have hacc : h₁.IsList h₂.objs.size #[] := ⟨_, hsb₁.extBut _ _ hDC (Heap.get?_push_of_some _ (hH ▸ Heap.get?_push_size _ rfl)), rfl, 0, rfl⟩
  have i₁ : X.I h₁ := X.stable h₂ h₁ i₂ fun b _ o e => old b o e
  have hst₁ : St 0 h₁ := T.W.frame _ _ _ T.st fun b _ o e => old b o e
  have okC : EnvOK scope (compEnvC scope cl H.objs.size env) := ⟨co.kind, ok.glob, ok.blt, fun x hx => lookup_relabel_local hx, fun x hx => absurd (mem_of_lookup hx) (fun q => co.nocell _ q rfl), fun x hx => relabel_other (scope := scope) hx (by decide)⟩
  have F₁ : FmOK X (compEnvC scope cl H.objs.size env) (tn ++ cap.map (·.1)) (tn.map (fun _ => none) ++ capM cap m) h₁ := by
    refine ⟨fun b o e => old b o (F₂.stays b o e), i₁, ⟨_, hns₁⟩, nB _ hCn, fun i x d e1 e2 => ?_⟩
    by_cases hi : i < tn.length
    · rw [List.getElem?_append_left (by simpa using hi)] at e2
      simp [hi] at e2
    · rw [List.getElem?_append_right (by omega)] at e1
      rw [List.getElem?_append_right (by simp; omega)] at e2
      rw [List.length_map] at e2
      rw [List.getElem?_map] at e1
      unfold capM at e2
      rw [List.getElem?_map] at e2
      cases hp : cap[i - tn.length]? with
      | none => rw [hp] at e1; cases e1
      | some p =>
        rw [hp] at e1 e2
        have hpm := List.mem_of_getElem? hp
        obtain ⟨d', c, _, hd, kc, hcc⟩ := cells p hpm
        simp only [Option.map_some, Option.some.injEq] at e1 e2
        rw [hd] at e2
        simp only [Option.getD_some, Option.some.injEq] at e2
        subst e1 e2
        obtain ⟨c', e3, e4⟩ := hlk p.1 (co.capin p hpm)
        rw [hcc] at e4; cases e4
        refine .inr ⟨relabel_free ok.kind (co.caps p hpm).1 kc, ?_⟩
        rcases F₂.vars p.2 p.1 _ (co.caps p hpm).2.2 hd with ⟨k, _⟩ | ⟨k, c'', v, e, q, r⟩
        · rw [kc] at k; cases k
        · rw [hcc] at e; cases e
          exact ⟨_, v, e3, q.keeps fun b o e => old b o e, r.keep i₂ (Keep.ofAll old)⟩
  have fl0 : flatM (tn.map (fun _ => none) ++ capM cap m) = true := by
    refine List.all_eq_true.mpr fun o ho => ?_
    rcases List.mem_append.mp ho with ho | ho
    · obtain ⟨_, _, rfl⟩ := List.mem_map.mp ho; rfl
    · exact List.all_eq_true.mp fl o ho
  have loop : ∀ s₃ : Shared, s₃ = { s with heap := h₁, toks := t₂ + ([] : List (Str × Value)).length } →
      codeAny (model prog w) A (.compLoop (.ListComp elt [⟨target, iter, ifs, 0⟩] scope pos) 0 (.ref I) (.ref h₂.objs.size) (compEnvC scope cl H.objs.size env)) (RR (.ref h₂.objs.size) H.objs.size) s₃ := by
    rintro s₃ rfl
    refine compLoop_gen (fun k s' => ∃ j m' acc ys h' tk', s' = { s with heap := h', toks := tk' } ∧ j ≤ xs.length ∧ k = xs.length + 1 - j ∧ St j h' ∧ FmOK X (compEnvC scope cl H.objs.size env) (tn ++ cap.map (·.1)) m' h' ∧ flatM m' = true ∧
      h'.IsList h₂.objs.size ys ∧ ReadsAll h' ys.toList acc [] ∧ lfs acc = true ∧ (∀ b o, b ∉ X.W → b ≠ I → h₂.get? b = some o → h'.get? b = some o) ∧ compQ tg ft fe (xs.drop j) acc m' Q)
      ?_ (xs.length + 1) ⟨0, _, [], #[], h₁, t₂, rfl, Nat.zero_le _, rfl, hst₁, F₁, fl0, hacc, .nil, rfl, fun b o _ _ e => old b o e, q₂⟩
    rintro k _ E' ⟨j, m', acc, ys, h', tk', rfl, hj, rfl, hst, F', fl', hl', ra', la', g', q'⟩
    obtain ⟨oI, uI, eI, dI⟩ := T.flds j h' hst
    have hDI : h₂.objs.size ≠ I := fun z => by
      obtain ⟨o, u, e, _⟩ := T.flds 0 h₂ T.st
      rw [← z, hDn] at e; cases e
    have ne_of_data : ∀ {b o}, h'.get? b = some o → ((∃ u k, o.data = .seq u k) ∨ (∃ es k, o.data = .dict es k) ∨ (∃ c, o.data = .cell c) ∨ ∃ o', base.get? b = some o') → b ∉ [I] := fun {b o} e q z => by
      have z := List.mem_singleton.mp z
      rw [z, eI] at e; cases e
      rcases q with ⟨_, _, d⟩ | ⟨_, _, d⟩ | ⟨_, d⟩ | ⟨_, d⟩
      · rw [dI] at d; cases d
      · rw [dI] at d; cases d
      · rw [dI] at d; cases d
      · rw [z, T.inew] at d; cases d
    by_cases hlt : j < xs.length
    · refine T.W.item j _ _ _ hlt hst fun v h'' tk'' hP hst'' kk => ?_
      have i'' : X.I h'' := X.stable h' h'' F'.inv fun b hb o e => kk b o (fun z => T.ioff (List.mem_singleton.mp z ▸ hb)) e
      have F'' : FmOK X (compEnvC scope cl H.objs.size env) (tn ++ cap.map (·.1)) m' h'' := F'.stands (fun b o e nw q => kk b o (ne_of_data e q) e) i''
      have ra'' : ReadsAll h'' ys.toList acc [] := readsAll_seqs F'.inv (fun b o e nw q => kk b o (ne_of_data e (.inl q)) e) ra' la'
      have hl'' : h''.IsList h₂.objs.size ys := by
        obtain ⟨o, e, c, k, d⟩ := hl'
        exact ⟨o, kk _ _ (ne_of_data e (.inl ⟨_, _, d⟩)) e, c, k, d⟩
      obtain ⟨d, hd, ld, rd⟩ := T.says j v hP
      have rd'' : Reads h'' v d [] := reads_seqs i₂ (fun b o e nw q => by
        have hbI : b ≠ I := fun z => by
          obtain ⟨_, _, q⟩ := q
          obtain ⟨oI', uI', eI', dI'⟩ := T.flds 0 h₂ T.st
          rw [z, eI'] at e; cases e; rw [dI'] at q; cases q
        exact kk b o (fun z => hbI (List.mem_singleton.mp z)) (g' b o nw hbI e)) rd ld
      have hdrop : xs.drop j = d :: xs.drop (j + 1) := by
        obtain ⟨l, e⟩ := List.getElem?_eq_some_iff.mp hd
        rw [List.drop_eq_getElem_cons l, e]
      rw [hdrop] at q'
      refine owned_goes (T.cls _ _ hst'') ?_
      refine hg _ A E' { s with heap := h'', toks := tk'' } m' v d _ _ okC Rm F'' fl' ld rd'' q' fun m₃ h₃ t₃ q₃ fl₃ kl₃ wk₃ F₃ => ?_
      have hDC' : h₂.objs.size ≠ (compEnvC scope cl H.objs.size env).locals := hDC
      have hl₃ : h₃.IsList h₂.objs.size ys := by
        obtain ⟨o, e, c, k, d⟩ := hl''
        exact ⟨o, kl₃ _ _ (nW _ hDn) hDC' e, c, k, d⟩
      obtain ⟨mvC, hnC⟩ := F''.ns
      obtain ⟨oC, esC, kC, eC, dC⟩ := ns_data hnC
      have seq₃ : Seqs (X := X) h'' h₃ := fun b o e nw q => kl₃ b o nw (fun z => by
        obtain ⟨_, _, q⟩ := q
        rw [z, eC] at e; cases e; rw [dC] at q; cases q) e
      have ra₃ : ReadsAll h₃ ys.toList acc [] := readsAll_seqs i'' seq₃ ra'' la'
      have st₃ : St (j + 1) h₃ := T.W.frame _ _ _ hst'' fun b hb o e => kl₃ b o (T.fpoff b hb).1 (fun z => by
        obtain ⟨_, o', e', d'⟩ := T.fpoff b hb
        have : b < h₂.objs.size := Heap.lt_size e'
        exact (below b this).1 z) e
      have g₃ : ∀ b o, b ∉ X.W → b ≠ I → h₂.get? b = some o → h₃.get? b = some o := fun b o nw ni e => kl₃ b o nw (below b (Heap.lt_size e)).1 (kk b o (fun z => ni (List.mem_singleton.mp z)) (g' b o nw ni e))
      refine thenT (ht _ A E' { s with heap := h₃, toks := t₃ } m₃ _ okC Rm F₃ q₃) fun c h₄ t₄ k₄ i₄ q₄ => ?_
      have F₄ := F₃.keep k₄ i₄
      have hl₄ : h₄.IsList h₂.objs.size ys := by
        obtain ⟨o, e, c, k, d⟩ := hl₃
        exact ⟨o, k₄ _ _ (nW _ hDn) e, c, k, d⟩
      have ra₄ : ReadsAll h₄ ys.toList acc [] := readsAll_seqs F₃.inv k₄.seqs ra₃ la'
      have st₄ : St (j + 1) h₄ := T.W.frame _ _ _ st₃ fun b hb o e => k₄ b o (T.fpoff b hb).1 e
      have g₄ : ∀ b o, b ∉ X.W → b ≠ I → h₂.get? b = some o → h₄.get? b = some o := fun b o nw ni e => k₄ b o nw (g₃ b o nw ni e)
      cases c with
      | false =>
        rw [if_neg (by decide)]
        exact ⟨xs.length + 1 - (j + 1), by omega, j + 1, m₃, acc, ys, h₄, t₄, rfl, hlt, rfl, st₄, F₄, fl₃, hl₄, ra₄, la', g₄, q₄⟩
      | true =>
        rw [if_pos rfl]
        refine thenE (he _ A E' { s with heap := h₄, toks := t₄ } m₃ _ okC Rm F₄ q₄) fun y dy h₅ t₅ k₅ i₅ ry ⟨ly, sma, q₅⟩ => ?_
        have F₅ := F₄.keep k₅ i₅
        have hl₅ : h₅.IsList h₂.objs.size ys := by
          obtain ⟨o, e, c, k, d⟩ := hl₄
          exact ⟨o, k₅ _ _ (nW _ hDn) e, c, k, d⟩
        have ra₅ : ReadsAll h₅ ys.toList acc [] := readsAll_seqs i₄ k₅.seqs ra₄ la'
        have st₅ : St (j + 1) h₅ := T.W.frame _ _ _ st₄ fun b hb o e => k₅ b o (T.fpoff b hb).1 e
        have g₅ : ∀ b o, b ∉ X.W → b ≠ I → h₂.get? b = some o → h₅.get? b = some o := fun b o nw ni e => k₅ b o nw (g₄ b o nw ni e)
        have hlen := ReadsAll.len ra₅
        have ry' : Reads h₅ y dy [] := by
          cases ry with
          | flat _ r => exact r
          | lst => simp [lf] at ly
          | hnd => simp [lf] at ly
        refine wpAny_list_append (s := { s with heap := h₅, toks := t₅ }) hl₅ (fun h₆ hl₆ hs₆ => ?_) (by rw [← Array.length_toList, hlen]; exact small_line sma)
        obtain ⟨oD, eD, cD, kD, dD⟩ := hl₅
        have tup : ∀ b o, h₅.get? b = some o → o.cls = .type "tuple" → h₆.get? b = some o := fun b o e c => (hs₆.2 b fun z => by
          rw [z, eD] at e; cases e; rw [cD] at c; exact absurd c (by decide)).trans e
        refine ⟨xs.length + 1 - (j + 1), by omega, j + 1, m₃, acc ++ [dy], ys.push y, h₆, t₅, rfl, hlt, rfl, ?_, ?_, fl₃, hl₆, ?_, lfs_append la' (by rw [lfs, ly]; rfl), ?_, q₅⟩
        · refine T.W.frame _ _ _ st₅ fun b hb o e => (hs₆.2 b fun z => ?_).trans e
          obtain ⟨_, o', e', d'⟩ := T.fpoff b hb
          exact (below b (Heap.lt_size e')).2 z
        · exact F₅.grow fl₃ ⟨oD, eD, cD, _, _, dD⟩ (nB _ hDn) (nW _ hDn) hs₆.2
        · rw [Array.toList_push]
          exact readsAll_append (lfs_keep (fun b o e c _ => tup b o e c) ra₅ la') (readsAll_cons (lf_keep (fun b o e c _ => tup b o e c) ry' ly) .nil)
        · exact fun b o nw ni e => (hs₆.2 b (below b (Heap.lt_size e)).2).trans (g₅ b o nw ni e)
    · have hje : j = xs.length := by omega
      subst hje
      rw [List.drop_length] at q'
      obtain ⟨sma, q'⟩ := q'
      refine T.W.done _ _ _ hst fun h'' tk'' kk => ?_
      have i'' : X.I h'' := X.stable h' h'' F'.inv fun b hb o e => kk b o (fun z => T.ioff (List.mem_singleton.mp z ▸ hb)) e
      obtain ⟨mvC, hnC⟩ := F'.ns
      obtain ⟨oC, esC, kC, eC, dC⟩ := ns_data hnC
      have ra'' : ReadsAll h'' ys.toList acc [] := readsAll_seqs F'.inv (fun b o e nw q => kk b o (ne_of_data e (.inl q)) e) ra' la'
      obtain ⟨oD, eD, cD, kD, dD⟩ := hl'
      refine hRR _ _ _ ⟨h'', tk'', acc, rfl, fun b o nw e => ?_, i'', ⟨mvC, hnC.at' fun o e => kk _ _ (ne_of_data eC (.inr (.inl ⟨_, _, dC⟩))) e⟩, .lst (nW _ hDn) (kk _ _ (ne_of_data eD (.inl ⟨_, _, dD⟩)) eD) cD dD la' ra'', q', nS _ hCn, nS _ hDn⟩
      have hbI : b ≠ I := fun z => by rw [z, T.fresh] at e; cases e
      exact kk b o (fun z => hbI (List.mem_singleton.mp z)) (g' b o nw hbI (k₂ b o nw e))
  exact codeAny_compStart_list (loop _ rfl) (T.W.self 0 _ _ _ hst₁ (loop _ rfl))
end
end Mine

namespace Mine
abbrev GD := PyData → Loc → (Loc → Prop) → Prop
/-! the same, closed to the unifier -/
section
variable {base : Heap} (prog : Program) (w : World) (X : Ext base) (n : Nat) (sc : Scope) (vs : List Str)
structure DE (e : Expr) (f : ED) : Prop where
  d : DenE prog w X n sc vs e f
structure DL (e : List Expr) (f : LD) : Prop where
  d : DenL prog w X n sc vs e f
structure DT (e : Expr) (f : TD) : Prop where
  d : DenT prog w X n sc vs e f
structure DI (e : Expr) (f : LD) : Prop where
  d : DenI prog w X n sc vs e f
structure DG (e : Expr) (f : GD) : Prop where
  d : DenG prog w X n sc vs e f
structure DTs (e : List Expr) (f : TD) : Prop where
  d : DenTs prog w X n sc vs e f
structure DA (op : BoolOp) (e : List Expr) (f : TD) : Prop where
  d : DenA prog w X n sc vs op e f
structure DX (e : Stmt) (f : SD) : Prop where
  d : DenX prog w X n sc vs e f
structure DS (e : List Stmt) (f : SD) : Prop where
  d : DenS prog w X n sc vs e f
end

section
variable {base : Heap} {prog : Program} {w : World} {X : Ext base} {n : Nat} {sc : Scope} {vs : List Str}

def capOK (cap : List (Str × Nat)) (m : Loc) : Bool := cap.all fun p => match m[p.2]? with
  | some (some d) => lf d || isReel d
  | _ => false
theorem capOK_get {cap : List (Str × Nat)} {m : Loc} (h : capOK cap m = true) : (∀ p ∈ cap, ∃ d, m[p.2]? = some (some d)) ∧ flatM (capM cap m) = true := by
  refine ⟨fun p hp => ?_, List.all_eq_true.mpr fun o ho => ?_⟩
  · have := List.all_eq_true.mp h p hp
    split at this
    · exact ⟨_, by assumption⟩
    · cases this
  · obtain ⟨p, hp, rfl⟩ := List.mem_map.mp ho
    have := List.all_eq_true.mp h p hp
    split at this
    · rename_i d hd
      rw [hd]; exact this
    · cases this

theorem den_comp {elt target iter : Expr} {ifs : List Expr} {scope : Scope} {tn : List Str} {cap : List (Str × Nat)} {fi : LD} {tg : PyData → Loc → (Loc → Prop) → Prop} {ft : TD} {fe : ED} (pos : Pos) (co : CompOK sc vs scope tn cap)
    (hit : DenI prog w X n sc vs iter fi) (hg : DenG prog w X n scope (tn ++ cap.map (·.1)) target tg) (ht : DenTs prog w X n scope (tn ++ cap.map (·.1)) ifs ft) (he : DenE prog w X n scope (tn ++ cap.map (·.1)) elt fe)
    (hs : ∀ env y, foldedSetIterable iter env y = pure y := by intro _ _; rfl) :
    DenE prog w X n sc vs (.ListComp elt [⟨target, iter, ifs, 0⟩] scope pos) (fun m Q => capOK cap m = true ∧ fi m fun xs => compQ tg ft fe xs [] (tn.map (fun _ => none) ++ capM cap m) Q) := by
  intro env A E s m Q ok R F hQ
  obtain ⟨hcap, fl⟩ := capOK_get hQ.1
  obtain ⟨cl, hcl, h⟩ := comp_block (RR := fun acc C => compPost (model prog w) A E none (PostE X s Q) acc C) (E := E) pos co hit hg ht he ok R F hcap fl hQ.2 (fun D C s' p => by
    obtain ⟨h', tk', xs, rfl, k, i, ⟨mC, hC⟩, r, q, nC, nD⟩ := p
    refine ⟨mC, hC, fun h'' hs'' => ?_⟩
    obtain ⟨oC, esC, kC, eC, dC⟩ := ns_data hC
    have k2 : ∀ b o, b ≠ C → h'.get? b = some o → h''.get? b = some o := fun b o l e => (hs''.2 b l).trans e
    refine ⟨_, h'', tk', rfl, fun b o nw e => k2 b o (fun z => by rw [z, nC] at e; cases e) (k b o nw e), ?_, r.seqs i fun b o e nw q => k2 b o (fun z => ?_) e, q⟩
    · exact X.stable h' h'' i fun b hb o e => k2 b o (fun z => dict_off i eC ⟨_, _, dC⟩ (z ▸ hb)) e
    · obtain ⟨_, _, q⟩ := q
      rw [z, eC] at e; cases e; rw [dC] at q; cases q)
  rw [eval_ListComp]
  exact wpAny_comprehension_free (use := none) rfl (hs env) hcl co.kind co.uniq h

theorem den_assign_comp {elt target iter : Expr} {ifs : List Expr} {scope : Scope} {tn : List Str} {cap : List (Str × Nat)} {fi : LD} {tg : PyData → Loc → (Loc → Prop) → Prop} {ft : TD} {fe : ED} {y : Str} {i : Nat} (py pos spos : Pos) (co : CompOK sc vs scope tn cap)
    (hit : DenI prog w X n sc vs iter fi) (hg : DenG prog w X n scope (tn ++ cap.map (·.1)) target tg) (ht : DenTs prog w X n scope (tn ++ cap.map (·.1)) ifs ft) (he : DenE prog w X n scope (tn ++ cap.map (·.1)) elt fe)
    (hi : vs[i]? = some y) (hk : sc.names.lookup y = some .local) (nd : vs.Nodup) (hl : py.line = pos.line) (hn : (scope.names.any fun x => x.1 == y && (x.2 == .local || x.2 == .cell)) = false)
    (hs : ∀ env y, foldedSetIterable iter env y = pure y := by intro _ _; rfl) :
    DenX prog w X n sc vs (.Assign [.Name y py] (.ListComp elt [⟨target, iter, ifs, 0⟩] scope pos) spos) (fun m Q => capOK cap m = true ∧ fi m fun xs => compQ tg ft fe xs [] (tn.map (fun _ => none) ++ capM cap m) fun d => Q (m.set i (some d)) .nxt) := by
  intro env A E s m Q ok R F hQ
  obtain ⟨hcap, fl⟩ := capOK_get hQ.1
  have hsw : swapsWith (.ListComp elt [⟨target, iter, ifs, 0⟩] scope pos) (some (.Name y py)) spos.line env = pure true := by
    have hb : env.blockKind = .function := by rw [Env.blockKind, ok.kind]; rfl
    unfold swapsWith
    simp only [hb, ok.loc y hk, Expr.pos, hl, beq_self_eq_true, Bool.and_true, Bool.true_and]
    show pure (!(scope.names.any fun x => x.1 == y && (x.2 == .local || x.2 == .cell))) = pure true
    rw [hn]; rfl
  obtain ⟨cl, hcl, h⟩ := comp_block (RR := fun acc C => compPost (model prog w) A E (some (assign (.Name y py) env)) (fun _ s' => PostS X env vs s Q .next s') acc C) (E := E) pos co hit hg ht he ok R F hcap fl hQ.2 (fun D C s' p => by
    obtain ⟨h', tk', xs, rfl, k, iv, ⟨mC, hC⟩, r, q, nC, nD⟩ := p
    obtain ⟨mvL, hnL⟩ := F.ns
    obtain ⟨oL, esL, kL, eL, dL⟩ := ns_data hnL
    have hCL : C ≠ env.locals := fun z => by rw [z, eL] at nC; cases nC
    show wpAny _ A (assign (.Name y py) env (.ref D)) _ _ _
    refine PySem.wpAny_assign_Name (store_sound (s := { s with heap := h', toks := tk' }) ok (F.keep k iv) hi hk nd r fun h₃ kl₃ g₃ F₃ => ?_)
    have hC₃ : h₃.Ns C mC := hC.at' fun o e => (g₃ C hCL).trans e
    refine ⟨mC, hC₃, fun h'' hs'' => ?_⟩
    obtain ⟨oC, esC, kC, eC, dC⟩ := ns_data hC₃
    have k2 : ∀ b o, b ≠ C → h₃.get? b = some o → h''.get? b = some o := fun b o l e => (hs''.2 b l).trans e
    have bC : base.get? C = none := by
      cases z : base.get? C with
      | none => rfl
      | some o => rw [F.stays C o z] at nC; cases nC
    have i'' : X.I h'' := X.stable h₃ h'' F₃.inv fun b hb o e => k2 b o (fun z => dict_off F₃.inv eC ⟨_, _, dC⟩ (z ▸ hb)) e
    refine ⟨_, h'', tk' + 1, rfl, fun b o nw nl e => k2 b o (fun z => by rw [z, nC] at e; cases e) (kl₃ b o nw nl (k b o nw e)), ?_, q⟩
    -- the frame does not lean on the comprehension's names
    refine ⟨fun b o e => k2 b o (fun z => by rw [z, bC] at e; cases e) (F₃.stays b o e), i'', ?_, F₃.lnew, fun j x d e1 e2 => ?_⟩
    · obtain ⟨mv, hn⟩ := F₃.ns
      exact ⟨mv, hn.at' fun o e => k2 _ o (fun z => hCL z.symm) e⟩
    · have sq : Seqs (X := X) h₃ h'' := fun b o e nw q => k2 b o (fun z => by
        obtain ⟨_, _, q⟩ := q
        rw [z, eC] at e; cases e; rw [dC] at q; cases q) e
      rcases F₃.vars j x d e1 e2 with ⟨kk, mv, v, n', e', r'⟩ | ⟨kk, c, v, e', ⟨oc, hc, dc⟩, r'⟩
      · exact .inl ⟨kk, mv, v, n'.at' fun o e => k2 _ o (fun z => hCL z.symm) e, e', r'.seqs F₃.inv sq⟩
      · exact .inr ⟨kk, c, v, e', ⟨oc, k2 _ _ (fun z => by rw [z, eC] at hc; cases hc; rw [dC] at dc; cases dc) hc, dc⟩, r'.seqs F₃.inv sq⟩)
  rw [exec_Assign_Name_used _ _ _ _ hsw]
  refine wpAny_bind (wpAny_standAt (wpAny_bind ?_))
  show wpAny _ A (do let _ ← comprehension (.ListComp elt [⟨target, iter, ifs, 0⟩] scope pos) scope env _ (newList []) false (eval iter env) (some (assign (.Name y py) env))) _ _ s
  exact wpAny_bind (wpAny_mono (wpAny_comprehension_free (use := some (assign (.Name y py) env)) (Q := fun _ s' => PostS X env vs s Q .next s') rfl (hs env) hcl co.kind co.uniq h) (fun _ s' hq => wpAny_pure (wpAny_pure hq)) fun _ _ e => e)

/-! a def is entered -/
theorem lookup_notin {α : Type} : ∀ {l : List (Str × α)} {x : Str}, x ∉ l.map (·.1) → l.lookup x = none
  | [], _, _ => rfl
  | (y, v) :: r, x, h => by
    rw [List.map_cons, List.mem_cons, not_or] at h
    rw [List.lookup_cons, beq_eq_false_iff_ne.mpr h.1]
    exact lookup_notin h.2
theorem lookup_append {α : Type} : ∀ {l r : List (Str × α)} {x : Str}, (l ++ r).lookup x = (l.lookup x).or (r.lookup x)
  | [], _, _ => rfl
  | (y, v) :: l, r, x => by
    rw [List.cons_append, List.lookup_cons, List.lookup_cons]
    cases x == y with
    | true => rfl
    | false => exact lookup_append
theorem binds_get : ∀ {xs : List Str} {us : List Value} {i : Nat} {x : Str} {u : Value}, xs.Nodup → xs[i]? = some x → us[i]? = some u → (xs.zip us).reverse.lookup x = some u
  | [], _, _, _, _, _, h, _ => by simp at h
  | y :: xs, [], _, _, _, _, _, h => by simp at h
  | y :: xs, v :: us, 0, x, u, nd, h, k => by
    simp at h k
    subst h k
    rw [List.zip_cons_cons, List.reverse_cons, lookup_append, lookup_notin]
    · simp
    · rw [List.map_reverse, List.mem_reverse]
      intro q
      obtain ⟨p, hp, e⟩ := List.mem_map.mp q
      exact (List.nodup_cons.mp nd).1 (e ▸ (List.of_mem_zip hp).1)
  | y :: xs, v :: us, i + 1, x, u, nd, h, k => by
    simp at h k
    rw [List.zip_cons_cons, List.reverse_cons, lookup_append, binds_get (List.nodup_cons.mp nd).2 h k]
    rfl

theorem VRs.get {h : Heap} : ∀ {us : List Value} {ds : List PyData} {i : Nat} {d : PyData}, VRs X h us ds → ds[i]? = some d → ∃ u, us[i]? = some u ∧ VR X h u d
  | _, _, i, d, .nil, e => by simp at e
  | _, _, 0, d, .cons a _, e => by simp at e; subst e; exact ⟨_, rfl, a⟩
  | _, _, i + 1, d, .cons _ r, e => by
    obtain ⟨u, e1, e2⟩ := VRs.get r (i := i) (by simpa using e)
    exact ⟨u, by simpa using e1, e2⟩

def retQ (Q : PyData → Prop) (_ : Loc) (fl : Flw) : Prop := match fl with
  | .nxt => Q .none
  | .ret d => Q d

theorem entry_raw {K : Frag} (G : Gnd K base) {name qual : Str} {params : Arguments} {body : List Stmt} {scope : Scope} {dV kV doc pm cdv ct oc : Value} {an od : Option Addr} {osl : Array (Option Value)} {f : Addr} {dsF : List PyData} {xs rest : List Str} {A : Around} {E : Value → Shared → Prop} {s : Shared} {us us' : List Value} {P : Value → Shared → Prop}
    (ho : K.lookup f = some ⟨oc, od, .func (fnOf name qual params body scope dV kV doc pm an cdv ct), osl⟩) (hcd : codeIn K cdv qual = true)
    (R : Room (n + 1) A) (st : base.StaysIn s.heap) (iv : X.I s.heap) (hbind : BindsTo s (fnOf name qual params body scope dV kV doc pm an cdv ct) ⟨us, []⟩ (xs.zip us')) (rv' : VRs X s.heap us' dsF)
    (nd : (xs ++ rest).Nodup) (hlen : dsF.length = xs.length) (hloc : ∀ x ∈ xs, scope.names.lookup x = some .local) (hcell : ∀ x ∈ scope.names, x.2 ≠ .cell)
    (hco : scope.isCoroutine = false) (hgen : scope.isGenerator = false) (hk : scope.kind = .function)
    (H : ∀ (env : Env) (E' : Value → Shared → Prop) (h₀ : Heap) (tk : Nat), EnvOK scope env → Room n (A.deeper env) → FmOK X env (xs ++ rest) (dsF.map some ++ rest.map fun _ => none) h₀ → (∀ b o, s.heap.get? b = some o → h₀.get? b = some o) → s.heap.get? env.locals = none →
      wpAny (model prog w) (A.deeper env) (execs body env) (fun fl s' => match fl with | .next => P .none s' | .ret v => P v s' | _ => False) E' { s with heap := h₀, toks := tk }) :
    wpAny (model prog w) A (call (.ref f) us) P E s := by
  have ndx : xs.Nodup := (List.nodup_append.mp nd).1
  refine wpAny_call (codeAny_call_def (fd := fnOf name qual params body scope dV kV doc pm an cdv ct) (body := body) (binds := xs.zip us') (by have := R.depth; omega) ((G.K.keeps st) _ _ ho) rfl (G.nolim.keeps st) (codeRec_of (G.K.keeps st) hcd) rfl hbind hcell
    (fun y hy => hloc _ (List.of_mem_zip hy).1) (fun h₀ hns hk₁ => ?_) hco hgen hk)
  have k₀ : Keep X s.heap h₀ := Keep.ofAll hk₁
  have i₀ : X.I h₀ := X.stable _ _ iv fun b _ o e => hk₁ b o e
  have fresh : s.heap.get? s.heap.objs.size = none := by
    cases e : s.heap.get? s.heap.objs.size with
    | none => rfl
    | some o => exact absurd (Heap.lt_size e) (Nat.lt_irrefl _)
  have okE : EnvOK scope (callEnv (fnOf name qual params body scope dV kV doc pm an cdv ct) s.heap.objs.size f) := ⟨hk, rfl, rfl, fun _ h => h, fun _ h => h, fun _ h => h⟩
  have F₀ : FmOK X (callEnv (fnOf name qual params body scope dV kV doc pm an cdv ct) s.heap.objs.size f) (xs ++ rest) (dsF.map some ++ rest.map fun _ => none) h₀ := by
    refine ⟨fun b o e => hk₁ b o (st b o e), i₀, ⟨_, hns⟩, ?_, fun i x d e1 e2 => ?_⟩
    · cases e : base.get? s.heap.objs.size with
      | none => exact e
      | some o => have := st _ _ e; rw [fresh] at this; cases this
    · by_cases hi : i < xs.length
      · rw [List.getElem?_append_left hi] at e1
        rw [List.getElem?_append_left (by rw [List.length_map, hlen]; exact hi), List.getElem?_map] at e2
        cases hd : dsF[i]? with
        | none => rw [hd] at e2; cases e2
        | some d' =>
          rw [hd] at e2; cases e2
          obtain ⟨u, eu, ru⟩ := rv'.get hd
          exact .inl ⟨hloc x (List.mem_of_getElem? e1), _, u, hns, binds_get ndx e1 eu, ru.keep iv k₀⟩
      · rw [List.getElem?_append_right (by rw [List.length_map, hlen]; omega), List.getElem?_map] at e2
        cases hd : rest[i - (dsF.map some).length]? with
        | none => rw [hd] at e2; cases e2
        | some _ => rw [hd] at e2; cases e2
  refine wpAny_mono (H _ _ h₀ _ okE (R.deeper _) F₀ hk₁ fresh) (fun fl s' p => ?_) fun _ _ x => x
  cases fl with
  | next => exact p
  | ret v => exact p
  | brk => exact p.elim
  | cont => exact p.elim
theorem sem_entry {K : Frag} (G : Gnd K base) {name qual : Str} {params : Arguments} {body : List Stmt} {scope : Scope} {dV kV doc pm cdv ct oc : Value} {an od : Option Addr} {osl : Array (Option Value)} {f : Addr} {ds dsF : List PyData} {xs rest : List Str} {F : SD} {Q : PyData → Prop}
    (ho : K.lookup f = some ⟨oc, od, .func (fnOf name qual params body scope dV kV doc pm an cdv ct), osl⟩) (hcd : codeIn K cdv qual = true) (hS : DS prog w X n scope (xs ++ rest) body F)
    (hb : ∀ s us, base.StaysIn s.heap → X.I s.heap → VRs X s.heap us ds → ∃ us', BindsTo s (fnOf name qual params body scope dV kV doc pm an cdv ct) ⟨us, []⟩ (xs.zip us') ∧ VRs X s.heap us' dsF)
    (nd : (xs ++ rest).Nodup) (hlen : dsF.length = xs.length) (hloc : ∀ x ∈ xs, scope.names.lookup x = some .local) (hcell : ∀ x ∈ scope.names, x.2 ≠ .cell)
    (hco : scope.isCoroutine = false) (hgen : scope.isGenerator = false) (hk : scope.kind = .function)
    (hQ : F (dsF.map some ++ rest.map fun _ => none) (retQ Q)) : SemCall prog w X (n + 1) f ds Q := by
  intro A E s us R st iv rv
  obtain ⟨us', hbind, rv'⟩ := hb s us st iv rv
  refine entry_raw G ho hcd R st iv hbind rv' nd hlen hloc hcell hco hgen hk fun env E' h₀ tk ok R' F₀ hk₁ fresh => ?_
  refine wpAny_mono (hS.1 _ _ _ { s with heap := h₀, toks := tk } _ _ ok R' F₀ hQ) (fun fl s' p => ?_) fun _ _ x => x
  obtain ⟨m', h', tk', rfl, kl, F', q⟩ := p
  have kk : Keep X s.heap h' := fun b o nw e => kl b o nw (fun z => by rw [z, fresh] at e; cases e) (hk₁ b o e)
  cases fl with
  | next => exact ⟨.none, h', tk', rfl, kk, F'.inv, vr_flat0 rfl .none, q⟩
  | ret v =>
    obtain ⟨d, r, q⟩ := q
    exact ⟨d, h', tk', rfl, kk, F'.inv, r, q⟩
  | brk => exact q.elim
  | cont => exact q.elim

theorem bindL_get {kindOf : Str → Option NameKind} : ∀ {xs : List Str} {us : List Value} {i : Nat} {x : Str} {u : Value} (m : Str → Option Value), xs.Nodup → xs[i]? = some x → us[i]? = some u → kindOf x = some .local → bindL kindOf (xs.zip us) m x = some u
  | [], _, _, _, _, _, _, h, _, _ => by simp at h
  | y :: xs, [], _, _, _, _, _, _, h, _ => by simp at h
  | y :: xs, v :: us, 0, x, u, m, nd, h, k, q => by
    simp at h k
    subst h k
    rw [List.zip_cons_cons, bindL, if_pos q]
    have go : ∀ (xs : List Str) (us : List Value) (m : Str → Option Value), y ∉ xs → m y = some v → bindL kindOf (xs.zip us) m y = some v := by
      intro xs
      induction xs with
      | nil => intro us m _ h; exact h
      | cons z xs ih =>
        intro us m hn h
        cases us with
        | nil => exact h
        | cons u us =>
          rw [List.zip_cons_cons, bindL]
          have hzy : y ≠ z := fun e => hn (e ▸ .head _)
          refine ih us _ (fun e => hn (.tail _ e)) ?_
          split
          · simp only [if_neg hzy]; exact h
          · exact h
    exact go xs us _ (List.nodup_cons.mp nd).1 (by simp)
  | y :: xs, v :: us, i + 1, x, u, m, nd, h, k, q => by
    simp at h k
    rw [List.zip_cons_cons, bindL]
    exact bindL_get _ (List.nodup_cons.mp nd).2 h k q
theorem bindC_get {kindOf : Str → Option NameKind} : ∀ {xs : List Str} {us : List Value} {i : Nat} {x : Str} {u : Value} (m : Str → Option Value), xs.Nodup → xs[i]? = some x → us[i]? = some u → kindOf x = some .cell → bindC kindOf (xs.zip us) m x = some u
  | [], _, _, _, _, _, _, h, _, _ => by simp at h
  | y :: xs, [], _, _, _, _, _, _, h, _ => by simp at h
  | y :: xs, v :: us, 0, x, u, m, nd, h, k, q => by
    simp at h k
    subst h k
    rw [List.zip_cons_cons, bindC, if_neg (by rw [q]; decide)]
    have go : ∀ (xs : List Str) (us : List Value) (m : Str → Option Value), y ∉ xs → m y = some v → bindC kindOf (xs.zip us) m y = some v := by
      intro xs
      induction xs with
      | nil => intro us m _ h; exact h
      | cons z xs ih =>
        intro us m hn h
        cases us with
        | nil => exact h
        | cons u us =>
          rw [List.zip_cons_cons, bindC]
          have hzy : y ≠ z := fun e => hn (e ▸ .head _)
          refine ih us _ (fun e => hn (.tail _ e)) ?_
          split
          · exact h
          · simp only [if_neg hzy]; exact h
    exact go xs us _ (List.nodup_cons.mp nd).1 (by simp)
  | y :: xs, v :: us, i + 1, x, u, m, nd, h, k, q => by
    simp at h k
    rw [List.zip_cons_cons, bindC]
    exact bindC_get _ (List.nodup_cons.mp nd).2 h k q

/-- a def whose own comprehensions see its names -/
theorem sem_entryC {K : Frag} (G : Gnd K base) {name qual : Str} {params : Arguments} {body : List Stmt} {scope : Scope} {dV kV doc pm cdv ct oc : Value} {an od : Option Addr} {osl : Array (Option Value)} {f : Addr} {ds : List PyData} {xs rest : List Str} {F : SD} {Q : PyData → Prop}
    (ho : K.lookup f = some ⟨oc, od, .func (fnOf name qual params body scope dV kV doc pm an cdv ct), osl⟩) (hcd : codeIn K cdv qual = true) (hS : DS prog w X n scope (xs ++ rest) body F)
    (hb : ∀ us, us.length = xs.length → bindArgs (fnOf name qual params body scope dV kV doc pm an cdv ct) ⟨us, []⟩ = pure (xs.zip us))
    (nd : (xs ++ rest).Nodup) (hlen : ds.length = xs.length) (hloc : ∀ x ∈ xs, scope.names.lookup x = some .local ∨ scope.names.lookup x = some .cell)
    (hco : scope.isCoroutine = false) (hgen : scope.isGenerator = false) (hk : scope.kind = .function)
    (hQ : F (ds.map some ++ rest.map fun _ => none) (retQ Q)) : SemCall prog w X (n + 1) f ds Q := by
  intro A E s us R st iv rv
  have ndx : xs.Nodup := (List.nodup_append.mp nd).1
  have lus : us.length = xs.length := rv.length.trans hlen
  have inCells : ∀ (names : List (Str × NameKind)) (k : Nat) (acc : List (Str × Addr)) (x : Str), names.lookup x = some .cell ∨ (acc.lookup x).isSome = true → ((cellsFrom k names acc).lookup x).isSome = true := fun names k acc x h => cellsFrom_some names k acc h
  refine wpAny_call (codeAny_call_cells (fd := fnOf name qual params body scope dV kV doc pm an cdv ct) (body := body) (binds := xs.zip us) (by have := R.depth; omega) ((G.K.keeps st) _ _ ho) rfl (G.nolim.keeps st) (codeRec_of (G.K.keeps st) hcd) rfl (hb us lus) rfl
    (fun y hy => (hloc _ (List.of_mem_zip hy).1).imp id fun q => ⟨q, inCells _ _ _ _ (.inl q)⟩) (fun s₁ Y => ?_) hco hgen hk)
  obtain ⟨h₀, tk₀, rfl, hk₁⟩ := Y.done
  have k₀ : Keep X s.heap h₀ := Keep.ofAll hk₁
  have i₀ : X.I h₀ := X.stable _ _ iv fun b _ o e => hk₁ b o e
  have fresh : s.heap.get? s.heap.objs.size = none := by
    cases e : s.heap.get? s.heap.objs.size with
    | none => rfl
    | some o => exact absurd (Heap.lt_size e) (Nat.lt_irrefl _)
  have okE : EnvOK scope (callEnvC (fnOf name qual params body scope dV kV doc pm an cdv ct) s.heap.objs.size f) := ⟨hk, rfl, rfl, fun _ h => h, fun _ h => h, fun _ h => h⟩
  have F₀ : FmOK X (callEnvC (fnOf name qual params body scope dV kV doc pm an cdv ct) s.heap.objs.size f) (xs ++ rest) (ds.map some ++ rest.map fun _ => none) h₀ := by
    refine ⟨fun b o e => hk₁ b o (st b o e), i₀, ⟨_, Y.toInCall.ns⟩, ?_, fun i x d e1 e2 => ?_⟩
    · cases e : base.get? s.heap.objs.size with
      | none => exact e
      | some o => have := st _ _ e; rw [fresh] at this; cases this
    · by_cases hi : i < xs.length
      · rw [List.getElem?_append_left hi] at e1
        rw [List.getElem?_append_left (by rw [List.length_map, hlen]; exact hi), List.getElem?_map] at e2
        cases hd : ds[i]? with
        | none => rw [hd] at e2; cases e2
        | some d' =>
          rw [hd] at e2; cases e2
          obtain ⟨u, eu, ru⟩ := rv.get hd
          rcases hloc x (List.mem_of_getElem? e1) with q | q
          · exact .inl ⟨q, _, u, Y.toInCall.ns, bindL_get _ ndx e1 eu q, ru.keep iv k₀⟩
          · obtain ⟨c, hc⟩ := Option.isSome_iff_exists.mp (inCells scope.names (s.heap.objs.size + 1) [] x (.inl q))
            refine .inr ⟨q, c, u, hc, ?_, ru.keep iv k₀⟩
            have := Y.cell x c hc
            rw [bindC_get _ ndx e1 eu q] at this
            exact this
      · rw [List.getElem?_append_right (by rw [List.length_map, hlen]; omega), List.getElem?_map] at e2
        cases hd : rest[i - (ds.map some).length]? with
        | none => rw [hd] at e2; cases e2
        | some _ => rw [hd] at e2; cases e2
  refine wpAny_mono (hS.1 _ _ _ { s with heap := h₀, toks := _ } _ _ okE (R.deeper _) F₀ hQ) (fun fl s' p => ?_) fun _ _ x => x
  obtain ⟨m', h', tk', rfl, kl, F', q⟩ := p
  have kk : Keep X s.heap h' := fun b o nw e => kl b o nw (fun z => by
    have z : b = s.heap.objs.size := z
    rw [z, fresh] at e; cases e) (hk₁ b o e)
  cases fl with
  | next => exact ⟨.none, h', tk', rfl, kk, F'.inv, vr_flat0 rfl .none, q⟩
  | ret v =>
    obtain ⟨d, r, q⟩ := q
    exact ⟨d, h', tk', rfl, kk, F'.inv, r, q⟩
  | brk => exact q.elim
  | cont => exact q.elim
end
end Mine

namespace Mine

/-! the words of a denotation -/
def eC (d : PyData) : ED := fun _ Q => Q d
def eV (i : Nat) : ED := fun m Q => getV m i Q
def eAdd (f g : ED) : ED := fun m Q => f m fun a => g m fun b => addQ a b Q
def eNot (f : ED) : ED := fun m Q => f m fun a => notQ a Q
def eIf (t : TD) (f g : ED) : ED := fun m Q => t m fun c => match c with | true => f m Q | false => g m Q
def eAnd (f g : ED) : ED := fun m Q => f m fun a => stopQ .And a Q (g m Q)
def eOr (f g : ED) : ED := fun m Q => f m fun a => stopQ .Or a Q (g m Q)
def eCmp (op : CmpOp) (f g : ED) : ED := fun m Q => f m fun a => g m fun b => cmpQ op a b fun c => Q (.bool c)
def lNil : LD := fun _ Q => Q []
def lCons (f : ED) (g : LD) : LD := fun m Q => f m fun d => g m fun ds => Q (d :: ds)
def eTup (g : LD) : ED := fun m Q => g m fun ds => lfs ds = true ∧ small ds = true ∧ Q (.tuple ds)
def eLst (g : LD) : ED := fun m Q => g m fun ds => lfs ds = true ∧ small ds = true ∧ Q (.list ds)
def eSub (f g : ED) : ED := fun m Q => f m fun a => g m fun i => idxQ a i Q
def eDrop (a : Nat) (f : ED) : ED := fun m Q => f m fun d => dropQ a d Q
abbrev CallD := Addr → List PyData → (PyData → Prop) → Prop
def eCall (C : CallD) (f : Addr) (g : LD) : ED := fun m Q => g m fun ds => C f ds Q
def eLen (f : ED) : ED := fun m Q => f m fun d => lenQ d Q
def eInt (f : ED) : ED := fun m Q => f m fun d => intQ d Q
def eSum (f : ED) : ED := fun m Q => f m fun d => sumQ d Q
def eTupOf (f : ED) : ED := fun m Q => f m fun d => tupQ d Q
def tCmp (op : CmpOp) (f g : ED) : TD := fun m Q => f m fun a => g m fun b => cmpQ op a b Q
def tNot (f : TD) : TD := fun m Q => f m fun c => Q (!c)
def tVal (f : ED) : TD := fun m Q => f m fun d => boolQ d Q
def tTrue : TD := fun _ Q => Q true
def tFalse : TD := fun _ Q => Q false
def tAnd (f g : TD) : TD := fun m Q => f m fun c => match c with | true => g m Q | false => Q false
def tOr (f g : TD) : TD := fun m Q => f m fun c => match c with | true => Q true | false => g m Q
def iSeq (f : ED) : LD := fun m Q => f m fun d => seqQ d Q
def gName (i : Nat) : GD := fun d m k => k (m.set i (some d))
def gPair (i j : Nat) : GD := pairQ i j
def eComp (tn : List Str) (cap : List (Str × Nat)) (fi : LD) (tg : GD) (ft : TD) (fe : ED) : ED := fun m Q => capOK cap m = true ∧ fi m fun xs => compQ tg ft fe xs [] (tn.map (fun _ => none) ++ capM cap m) Q
def sNil : SD := fun m Q => Q m .nxt
def sCons (f g : SD) : SD := fun m Q => f m fun m' fl => match fl with | .nxt => g m' Q | .ret d => Q m' (.ret d)
def sAsg (i : Nat) (f : ED) : SD := fun m Q => f m fun d => Q (m.set i (some d)) .nxt
def sAsg2 (i j : Nat) (f g : ED) : SD := fun m Q => f m fun a => g m fun b => Q ((m.set j (some b)).set i (some a)) .nxt
def sAsgC (i : Nat) (tn : List Str) (cap : List (Str × Nat)) (fi : LD) (tg : GD) (ft : TD) (fe : ED) : SD := fun m Q => capOK cap m = true ∧ fi m fun xs => compQ tg ft fe xs [] (tn.map (fun _ => none) ++ capM cap m) fun d => Q (m.set i (some d)) .nxt
def sIf (t : TD) (b o : SD) : SD := fun m Q => t m fun c => match c with | true => b m Q | false => o m Q
def sRet (f : ED) : SD := fun m Q => f m fun d => Q m (.ret d)
def sFor (i : Nat) (fi : LD) (fb : SD) : SD := fun m Q => fi m fun xs => forQ fb i xs m Q

section
variable {base : Heap} {prog : Program} {w : World} {X : Ext base} {n : Nat} {sc : Scope} {vs : List Str} {pos p1 p2 p3 p4 : Pos} {k k2 : Nat}

theorem r_none : DE prog w X n sc vs (.Constant .none k pos) (eC .none) := ⟨den_const _ _ _ _ trivial⟩
theorem r_bool {b : Bool} : DE prog w X n sc vs (.Constant (.bool b) k pos) (eC (.bool b)) := ⟨den_const _ _ _ _ rfl⟩
theorem r_int {i : Int} : DE prog w X n sc vs (.Constant (.int i) k pos) (eC (.int i)) := ⟨den_const _ _ _ _ rfl⟩
theorem r_str {x : Str} : DE prog w X n sc vs (.Constant (.str x) k pos) (eC (.str x)) := ⟨den_const _ _ _ _ rfl⟩
theorem r_neg {i : Int} : DE prog w X n sc vs (.UnaryOp .USub (.Constant (.int i) k p1) pos) (eC (.int (-i))) := ⟨den_neg _ _ _ _⟩
theorem r_var {x : Str} (i : Nat) (hi : vs[i]? = some x) (hd : (x == ("__debug__" : Str)) = false) : DE prog w X n sc vs (.Name x pos) (eV i) := ⟨den_var x i pos hi hd⟩
theorem r_glob {K : Frag} (G : Gnd K base) {x : Str} {v : Value} {d : PyData} (hx : sc.names.lookup x = some .globalImplicit) (e : nsIn K mainGlobals x = some (some v)) (hl : lf d = true) (hr : Reads base v d []) (hd : (x == ("__debug__" : Str)) = false) :
    DE prog w X n sc vs (.Name x pos) (eC d) := ⟨den_global G x v d pos hx e hl hr hd⟩
variable {e e1 e2 t a b : Expr} {es : List Expr} {f g h : ED} {L : LD} {ft gt : TD}
theorem r_add (h1 : DE prog w X n sc vs e1 f) (h2 : DE prog w X n sc vs e2 g) : DE prog w X n sc vs (.BinOp e1 .Add e2 pos) (eAdd f g) := ⟨den_add pos h1.1 h2.1⟩
theorem r_not (h1 : DE prog w X n sc vs e f) : DE prog w X n sc vs (.UnaryOp .Not e pos) (eNot f) := ⟨den_not pos h1.1⟩
theorem r_ifexp (ht : DT prog w X n sc vs t ft) (ha : DE prog w X n sc vs a f) (hb : DE prog w X n sc vs b g) : DE prog w X n sc vs (.IfExp t a b pos) (eIf ft f g) := ⟨den_ifexp pos ht.1 ha.1 hb.1⟩
theorem r_and2 (h1 : DE prog w X n sc vs e1 f) (h2 : DE prog w X n sc vs e2 g) : DE prog w X n sc vs (.BoolOp .And [e1, e2] pos) (eAnd f g) := ⟨den_bool pos (den_bcons h1.1 (den_bone h2.1))⟩
theorem r_or2 (h1 : DE prog w X n sc vs e1 f) (h2 : DE prog w X n sc vs e2 g) : DE prog w X n sc vs (.BoolOp .Or [e1, e2] pos) (eOr f g) := ⟨den_bool pos (den_bcons h1.1 (den_bone h2.1))⟩
theorem r_or3 {e3 : Expr} (h1 : DE prog w X n sc vs e1 f) (h2 : DE prog w X n sc vs e2 g) (h3 : DE prog w X n sc vs e3 h) : DE prog w X n sc vs (.BoolOp .Or [e1, e2, e3] pos) (eOr f (eOr g h)) := ⟨den_bool pos (den_bcons h1.1 (den_bcons h2.1 (den_bone h3.1)))⟩
theorem r_cmp {op : CmpOp} (h1 : DE prog w X n sc vs e1 f) (h2 : DE prog w X n sc vs e2 g) (hm : behindInMarks op e2 = false := by rfl) : DE prog w X n sc vs (.Compare e1 [op] [e2] pos) (eCmp op f g) := ⟨den_cmp op pos h1.1 h2.1 hm⟩
theorem r_nil : DL prog w X n sc vs [] lNil := ⟨den_nil⟩
theorem r_cons (he : DE prog w X n sc vs e f) (hes : DL prog w X n sc vs es L) (hst : ∀ env, starEach (e :: es) env = (false, eval e env) :: starEach es env := by intro env; rfl) : DL prog w X n sc vs (e :: es) (lCons f L) := ⟨den_cons he.1 hes.1 hst⟩
theorem r_tup (h : DL prog w X n sc vs es L) : DE prog w X n sc vs (.Tuple es k pos) (eTup L) := ⟨den_tuple k pos h.1⟩
theorem r_lst (h : DL prog w X n sc vs es L) : DE prog w X n sc vs (.List es pos) (eLst L) := ⟨den_list pos h.1⟩
theorem r_ctup (ds : List PyData) (h : DL prog w X n sc vs es L) (hL : L = fun _ Q => Q ds := by rfl) (l : lfs ds = true := by kernel_rfl) (sm : small ds = true := by kernel_rfl) : DE prog w X n sc vs (.Tuple es k pos) (eC (.tuple ds)) := ⟨fun env A E s m Q ok R F hQ => (r_tup h).1 env A E s m Q ok R F (by subst hL; exact ⟨l, sm, hQ⟩)⟩
theorem r_clst (ds : List PyData) (h : DL prog w X n sc vs es L) (hL : L = fun _ Q => Q ds := by rfl) (l : lfs ds = true := by kernel_rfl) (sm : small ds = true := by kernel_rfl) : DE prog w X n sc vs (.List es pos) (eC (.list ds)) := ⟨fun env A E s m Q ok R F hQ => (r_lst h).1 env A E s m Q ok R F (by subst hL; exact ⟨l, sm, hQ⟩)⟩
theorem r_sub (h1 : DE prog w X n sc vs e1 f) (h2 : DE prog w X n sc vs e2 g) (hs : ∀ o i, subscripted e2 false o i = operate [o, i] (getItem o i) := by intro _ _; rfl) : DE prog w X n sc vs (.Subscript e1 e2 pos) (eSub f g) := ⟨den_sub pos h1.1 h2.1 hs⟩
theorem r_drop {x : Str} (a : Nat) (h1 : 1 ≤ a) (hx : DE prog w X n sc vs (.Name x p1) f) : DE prog w X n sc vs (.Subscript (.Name x p1) (.Slice (some (.Constant (.int a) k p2)) none none p3) pos) (eDrop a f) := ⟨den_slice a h1 k p2 p3 pos hx.1⟩
theorem r_call {K : Frag} (G : Gnd K base) {x : Str} (f : Addr) (hx : sc.names.lookup x = some .globalImplicit) (hf : nsIn K mainGlobals x = some (some (.ref f))) (hk : keepIn K (.ref f) = true)
    (hargs : DL prog w X n sc vs (e :: es) L) (hst : ∀ env, starEach (e :: es) env = (false, eval e env) :: starEach es env := by intro env; rfl)
    (hplain : ∀ env, (backTo pos (starEach es env)).any (·.1) = false := by intro env; rfl) (hd : (x == ("__debug__" : Str)) = false := by kernel_rfl) :
    DE prog w X n sc vs (.Call (.Name x p1) (e :: es) [] pos) (eCall (SemCall prog w X n) f L) := ⟨den_call G x f p1 pos hx hf hk hargs.1 hst hplain hd⟩
theorem r_len {K : Frag} (G : Gnd K base) (hx : sc.names.lookup (Str.ofString "len") = some .globalImplicit) (hf : nsIn K mainGlobals "len" = some none) (he : DE prog w X n sc vs e f)
    (hst : ∀ env, starEach [e] env = [(false, eval e env)] := by intro env; rfl) : DE prog w X n sc vs (.Call (.Name "len" p1) [e] [] pos) (eLen f) := ⟨den_len G p1 pos hx hf he.1 hst⟩
theorem r_toint {K : Frag} (G : Gnd K base) (hx : sc.names.lookup (Str.ofString "int") = some .globalImplicit) (hf : nsIn K mainGlobals "int" = some none) (he : DE prog w X n sc vs e f)
    (hst : ∀ env, starEach [e] env = [(false, eval e env)] := by intro env; rfl) : DE prog w X n sc vs (.Call (.Name "int" p1) [e] [] pos) (eInt f) := ⟨den_int G p1 pos hx hf he.1 hst⟩
theorem r_sum {K : Frag} (G : Gnd K base) (hx : sc.names.lookup (Str.ofString "sum") = some .globalImplicit) (hf : nsIn K mainGlobals "sum" = some none) (he : DE prog w X n sc vs e f)
    (hst : ∀ env, starEach [e] env = [(false, eval e env)] := by intro env; rfl) : DE prog w X n sc vs (.Call (.Name "sum" p1) [e] [] pos) (eSum f) := ⟨den_sum G p1 pos hx hf he.1 hst⟩
theorem r_tupof {K : Frag} (G : Gnd K base) (hx : sc.names.lookup (Str.ofString "tuple") = some .globalImplicit) (hf : nsIn K mainGlobals "tuple" = some none) (he : DE prog w X n sc vs e f)
    (hst : ∀ env, starEach [e] env = [(false, eval e env)] := by intro env; rfl) : DE prog w X n sc vs (.Call (.Name "tuple" p1) [e] [] pos) (eTupOf f) := ⟨den_tupleOf G p1 pos hx hf he.1 hst⟩
theorem r_tcmp {op : CmpOp} (h1 : DE prog w X n sc vs e1 f) (h2 : DE prog w X n sc vs e2 g) (hm : behindInMarks op e2 = false := by rfl) : DT prog w X n sc vs (.Compare e1 [op] [e2] pos) (tCmp op f g) := ⟨den_tcmp op pos h1.1 h2.1 hm⟩
theorem r_tnot (h1 : DT prog w X n sc vs e ft) : DT prog w X n sc vs (.UnaryOp .Not e pos) (tNot ft) := ⟨den_tnot pos h1.1⟩
theorem r_tval (h1 : DE prog w X n sc vs e f) (he : ∀ env whole, isTrue e env whole = (do let v ← whole; standAt e.pos; holding [v] (truthy v)) := by intro _ _; rfl) : DT prog w X n sc vs e (tVal f) := ⟨den_tval h1.1 he⟩
theorem r_aand (h1 : DT prog w X n sc vs e ft) (h2 : DA prog w X n sc vs .And es gt) : DA prog w X n sc vs .And (e :: es) (tAnd ft gt) := ⟨den_andcons h1.1 h2.1⟩
theorem r_aor (h1 : DT prog w X n sc vs e ft) (h2 : DA prog w X n sc vs .Or es gt) : DA prog w X n sc vs .Or (e :: es) (tOr ft gt) := ⟨den_orcons h1.1 h2.1⟩
theorem r_aand0 : DA prog w X n sc vs .And [] tTrue := ⟨den_andnil⟩
theorem r_aor0 : DA prog w X n sc vs .Or [] tFalse := ⟨den_ornil⟩
theorem r_tbool {op : BoolOp} (h : DA prog w X n sc vs op es ft) : DT prog w X n sc vs (.BoolOp op es pos) ft := ⟨den_tbool pos h.1⟩
theorem r_seq (he : DE prog w X n sc vs e f) : DI prog w X n sc vs e (iSeq f) := ⟨den_iter he.1⟩
theorem r_ts0 : DTs prog w X n sc vs [] tTrue := ⟨den_ts0⟩
theorem r_ts1 (h : DT prog w X n sc vs e ft) : DTs prog w X n sc vs [e] ft := ⟨den_ts1 h.1⟩
theorem r_gname {x : Str} (i : Nat) (hi : vs[i]? = some x) (hk : sc.names.lookup x = some .local) (nd : vs.Nodup) : DG prog w X n sc vs (.Name x pos) (gName i) := ⟨den_gname pos hi hk nd⟩
theorem r_gpair {x y : Str} (i j : Nat) (hi : vs[i]? = some x) (hk : sc.names.lookup x = some .local) (hj : vs[j]? = some y) (hk2 : sc.names.lookup y = some .local) (nd : vs.Nodup) : DG prog w X n sc vs (.Tuple [.Name x p1, .Name y p2] k pos) (gPair i j) := ⟨den_gpair p1 p2 pos k hi hk hj hk2 nd⟩
theorem r_comp {elt target iter : Expr} {ifs : List Expr} {scope : Scope} (tn : List Str) (cap : List (Str × Nat)) {tg : GD} {fe : ED} (co : CompOK sc vs scope tn cap)
    (hit : DI prog w X n sc vs iter L) (hg : DG prog w X n scope (tn ++ cap.map (·.1)) target tg) (ht : DTs prog w X n scope (tn ++ cap.map (·.1)) ifs ft) (he : DE prog w X n scope (tn ++ cap.map (·.1)) elt fe)
    (hs : ∀ env y, foldedSetIterable iter env y = pure y := by intro _ _; rfl) : DE prog w X n sc vs (.ListComp elt [⟨target, iter, ifs, 0⟩] scope pos) (eComp tn cap L tg ft fe) := ⟨den_comp pos co hit.1 hg.1 ht.1 he.1 hs⟩
variable {st : Stmt} {ss bb oo : List Stmt} {F Gs Hs : SD}
theorem r_snil : DS prog w X n sc vs [] sNil := ⟨den_snil⟩
theorem r_scons (h1 : DX prog w X n sc vs st F) (h2 : DS prog w X n sc vs ss Gs) : DS prog w X n sc vs (st :: ss) (sCons F Gs) := ⟨den_scons h1.1 h2.1⟩
theorem r_asg {x : Str} (i : Nat) (hi : vs[i]? = some x) (hk : sc.names.lookup x = some .local) (nd : vs.Nodup) (he : DE prog w X n sc vs e f) (hs : ∀ env, swapsWith e (some (.Name x p1)) pos.line env = pure false := by intro _; rfl) :
    DX prog w X n sc vs (.Assign [.Name x p1] e pos) (sAsg i f) := ⟨den_assign p1 pos hi hk nd he.1 hs⟩
theorem r_asg2 {x y : Str} (i j : Nat) (hi : vs[i]? = some x) (hj : vs[j]? = some y) (hx : sc.names.lookup x = some .local) (hy : sc.names.lookup y = some .local) (nd : vs.Nodup) (hxy : x ≠ y)
    (h1 : DE prog w X n sc vs e1 f) (h2 : DE prog w X n sc vs e2 g) (hl : p2.line = p1.line := by rfl)
    (s1 : ∀ env, starEach [e1, e2] env = [(false, eval e1 env), (false, eval e2 env)] := by intro _; rfl)
    (n1 : ∀ v p, e1 ≠ .Starred v p := by intro _ _ h; cases h) (n2 : ∀ v p, e2 ≠ .Starred v p := by intro _ _ h; cases h)
    (hf : (foldedForSure 8 e1 && foldedForSure 8 e2) = false := by rfl) (hc : (constantsAlone 8 e1 && constantsAlone 8 e2) = false := by rfl) :
    DX prog w X n sc vs (.Assign [.Tuple [.Name x p1, .Name y p2] k p3] (.Tuple [e1, e2] k2 p4) pos) (sAsg2 i j f g) := ⟨den_assign2 p1 p2 p3 p4 pos k k2 hi hj hx hy nd h1.1 h2.1 hl hxy s1 n1 n2 hf hc⟩
theorem r_asgc {elt target iter : Expr} {ifs : List Expr} {scope : Scope} {y : Str} (i : Nat) (tn : List Str) (cap : List (Str × Nat)) {tg : GD} {fe : ED} (co : CompOK sc vs scope tn cap)
    (hi : vs[i]? = some y) (hk : sc.names.lookup y = some .local) (nd : vs.Nodup) (hn : (scope.names.any fun x => x.1 == y && (x.2 == .local || x.2 == .cell)) = false)
    (hit : DI prog w X n sc vs iter L) (hg : DG prog w X n scope (tn ++ cap.map (·.1)) target tg) (ht : DTs prog w X n scope (tn ++ cap.map (·.1)) ifs ft) (he : DE prog w X n scope (tn ++ cap.map (·.1)) elt fe)
    (hl : p1.line = pos.line := by rfl) (hs : ∀ env y, foldedSetIterable iter env y = pure y := by intro _ _; rfl) :
    DX prog w X n sc vs (.Assign [.Name y p1] (.ListComp elt [⟨target, iter, ifs, 0⟩] scope pos) p2) (sAsgC i tn cap L tg ft fe) := ⟨den_assign_comp p1 pos p2 co hit.1 hg.1 ht.1 he.1 hi hk nd hl hn hs⟩
theorem r_if (ht : DT prog w X n sc vs t ft) (hb : DS prog w X n sc vs bb F) (ho : DS prog w X n sc vs oo Gs) : DX prog w X n sc vs (.If t bb oo pos) (sIf ft F Gs) := ⟨den_if pos ht.1 hb.1 ho.1⟩
theorem r_ret (he : DE prog w X n sc vs e f) : DX prog w X n sc vs (.Return (some e) pos) (sRet f) := ⟨den_ret pos he.1⟩
theorem r_for {x : Str} (i : Nat) (hi : vs[i]? = some x) (hk : sc.names.lookup x = some .local) (nd : vs.Nodup) {iter : Expr} (hit : DI prog w X n sc vs iter L) (hb : DS prog w X n sc vs bb F)
    (hs : ∀ env y, foldedSetIterable iter env y = pure y := by intro _ _; rfl) : DX prog w X n sc vs (.For (.Name x p1) iter bb [] pos) (sFor i L F) := ⟨den_for p1 pos hi hk nd hit.1 hb.1 hs⟩
/-- arguments as they come -/
theorem hb1 {s : Shared} {fd : FuncData} {x : Str} {d : PyData} (h : ∀ u, bindArgs fd ⟨[u], []⟩ = pure [(x, u)]) (us : List Value) (r : VRs X s.heap us [d]) : ∃ us', BindsTo s fd ⟨us, []⟩ ([x].zip us') ∧ VRs X s.heap us' [d] := by
  cases r with | cons a r => cases r with | nil => exact ⟨_, BindsTo.of_eq (h _), .cons a .nil⟩
theorem hb2 {s : Shared} {fd : FuncData} {x y : Str} {d e : PyData} (h : ∀ u v, bindArgs fd ⟨[u, v], []⟩ = pure [(x, u), (y, v)]) (us : List Value) (r : VRs X s.heap us [d, e]) : ∃ us', BindsTo s fd ⟨us, []⟩ ([x, y].zip us') ∧ VRs X s.heap us' [d, e] := by
  cases r with | cons a r => cases r with | cons b r => cases r with | nil => exact ⟨_, BindsTo.of_eq (h _ _), .cons a (.cons b .nil)⟩
theorem hb3 {s : Shared} {fd : FuncData} {x y z : Str} {d e g : PyData} (h : ∀ u v w, bindArgs fd ⟨[u, v, w], []⟩ = pure [(x, u), (y, v), (z, w)]) (us : List Value) (r : VRs X s.heap us [d, e, g]) : ∃ us', BindsTo s fd ⟨us, []⟩ ([x, y, z].zip us') ∧ VRs X s.heap us' [d, e, g] := by
  cases r with | cons a r => cases r with | cons b r => cases r with | cons c r => cases r with | nil => exact ⟨_, BindsTo.of_eq (h _ _ _), .cons a (.cons b (.cons c .nil))⟩
end
end Mine

namespace Mine
section
variable {base : Heap} {prog : Program} {w : World} {X : Ext base} {n : Nat} {sc : Scope} {vs : List Str}

/-- a name that the layer does not read is stored -/
theorem store_raw {env : Env} {A : Around} {E : Value → Shared → Prop} {s : Shared} {m : Loc} {x : Str} {i : Nat} {v : Value} {P : Unit → Shared → Prop} (ok : EnvOK sc env) (F : FmOK X env vs m s.heap) (hi : vs[i]? = some x) (hm : ∀ e, m[i]? ≠ some (some e)) (hk : sc.names.lookup x = some .local) (nd : vs.Nodup)
    (h : ∀ h', KeepL X env.locals s.heap h' → (∀ b, b ≠ env.locals → h'.get? b = s.heap.get? b) → FmOK X env vs m h' → (∃ mv, h'.Ns env.locals mv ∧ mv x = some v) → P () { s with heap := h', toks := s.toks + 1 }) :
    wpAny (model prog w) A (storeName env x v) P E s := by
  obtain ⟨mv, hn⟩ := F.ns
  refine wpAny_storeName_local (ok.loc x hk) hn (fun h' hn' hs => ?_) (kindOK ok)
  obtain ⟨oL, esL, kL, hL, dL⟩ := ns_data hn
  have hLW : env.locals ∉ X.W := dict_off F.inv hL ⟨_, _, dL⟩
  have seqs : Seqs (X := X) s.heap h' := fun b o e _ q => (hs.2 b fun (z : b = env.locals) => by
    obtain ⟨_, _, q⟩ := q
    rw [z, hL] at e; cases e; rw [dL] at q; cases q).trans e
  refine h h' (fun b o _ l e => (hs.2 b l).trans e) hs.2 ⟨fun b o e => (hs.2 b fun (z : b = env.locals) => by rw [z, F.lnew] at e; cases e).trans (F.stays b o e), ?_, ⟨_, hn'⟩, F.lnew, ?_⟩ ⟨_, hn', by simp⟩
  · exact X.stable _ _ F.inv fun b hb o e => (hs.2 b fun (z : b = env.locals) => hLW (z ▸ hb)).trans e
  · intro j y e hj hm'
    have hyx : y ≠ x := fun z => by
      subst z
      exact hm e (nodup_idx nd hj hi ▸ hm')
    rcases F.vars j y e hj hm' with ⟨k, mv', u, n', e', r''⟩ | ⟨k, c, u, e', q, r''⟩
    · have := ns_unique n' hn; subst this
      exact .inl ⟨k, _, u, hn', by simp only [if_neg hyx]; exact e', r''.seqs F.inv seqs⟩
    · obtain ⟨oc, hc, dc⟩ := q
      exact .inr ⟨k, c, u, e', ⟨oc, (hs.2 c fun (z : c = env.locals) => by rw [z, hL] at hc; cases hc; rw [dL] at dc; cases dc).trans hc, dc⟩, r''.seqs F.inv seqs⟩

def tabQ (D : List (PyData × PyData)) (a b : PyData) (Q : PyData → Prop) : Prop := match b with
  | .str y => (lookup (.str y) D).isSome = true ∧ idxQ a (.int (intAt (.str y) 0 D)) Q
  | _ => False

theorem den_table {x : Str} {i : Nat} {e1 e2 : Expr} {f g : ED} {keys : List (Option Expr)} {values : List Expr} {D : List (PyData × PyData)} {sk : Shape} (px p0 dp p1 p2 p3 p4 : Pos) (hi : vs[i]? = some x) (hk : sc.names.lookup x = some .local) (nd : vs.Nodup)
    (h1 : DenE prog w X n sc vs e1 f) (h2 : DenE prog w X n sc vs e2 g) (hD : litPairs keys values = some D) (hs : strKeyed D = true) (hn : (strKeysOf D).Nodup)
    (hall : keys.all (·.isSome) = true) (hl : keys.length = values.length) (h0 : keys ≠ []) (hlen : keys.length ≤ 15) (hsh : Shaped sk .int D) (hbase : base.NoLimit)
    (hd : (x == ("__debug__" : Str)) = false)
    (hsw : ∀ env, swapsWith (.Dict keys values dp) (some (.Name x px)) p0.line env = pure false := by intro _; rfl)
    (hs1 : ∀ o i, subscripted (.Subscript (.Name x p1) e2 p2) false o i = operate [o, i] (getItem o i) := by intro _ _; rfl)
    (hs2 : ∀ o i, subscripted e2 false o i = operate [o, i] (getItem o i) := by intro _ _; rfl) :
    DenS prog w X n sc vs [.Assign [.Name x px] (.Dict keys values dp) p0, .Return (some (.Subscript e1 (.Subscript (.Name x p1) e2 p2) p3)) p4]
      (fun m Q => m[i]? = some none ∧ f m fun a => g m fun b => tabQ D a b fun d => Q m (.ret d)) := by
  intro env A E s m Q ok R F hQ
  obtain ⟨hm, hQ⟩ := hQ
  refine wpAny_execs_cons (wpAny_Assign_Name (Dict_lits_str hD hs hn hall hl h0 hlen fun a o h₁ tk ha ho hT hk₁ => ?_) (hsw env))
  have k₁ : Keep X s.heap h₁ := Keep.ofAll hk₁
  have F₁ := F.keep k₁ (X.stable _ _ F.inv fun b _ o e => hk₁ b o e)
  have fresh : s.heap.get? a = none := by
    cases e : s.heap.get? a with
    | none => rfl
    | some o => exact absurd (Heap.lt_size e) (Nat.not_lt.mpr ha)
  have aL : a ≠ env.locals := fun z => by
    obtain ⟨mv, hns⟩ := F.ns
    obtain ⟨oL, _, _, e, _⟩ := ns_data hns
    rw [← z, fresh] at e; cases e
  have aW : a ∉ X.W := fun q => by
    obtain ⟨o, e, _⟩ := X.lists _ F.inv _ q
    rw [fresh] at e; cases e
  refine store_raw (s := { s with heap := h₁, toks := tk }) ok F₁ hi (fun e z => by rw [hm] at z; cases z) hk nd fun h₂ kl hob F₂ hx => ?_
  have ho₂ : h₂.get? a = some o := (hob a aL).trans ho
  obtain ⟨mv, hns, hmv⟩ := hx
  obtain ⟨oL, es, ep, hL, dL, rest⟩ := hns
  have hLW : env.locals ∉ X.W := dict_off F₂.inv hL ⟨_, _, dL⟩
  refine wpAny_execs_cons (wpAny_Return_some (Subscript_ (thenE (h1 env A E _ m _ ok R F₂ hQ) fun v d1 h₃ t₃ k₃ i₃ r₃ q₃ => ?_)))
  have F₃ := F₂.keep k₃ i₃
  have hn₃ : h₃.Ns env.locals mv := ⟨oL, es, ep, k₃ _ _ hLW hL, dL, rest⟩
  refine Subscript_ (wpAny_Name (wpAny_loadName_local ok.kind (ok.loc x hk) hn₃ hmv ?_) hd)
  refine thenE (h2 env A E _ m _ ok R F₃ q₃) fun v2 d2 h₄ t₄ k₄ i₄ r₄ q₄ => ?_
  unfold tabQ at q₄
  split at q₄
  · obtain ⟨tt, rfl⟩ := r₄.str_inv
    have ha₄ : h₄.get? a = some o := k₄ _ _ aW (k₃ _ _ aW ho₂)
    obtain ⟨kvs, hdk, hf⟩ := hT
    have lo : (a == sysModules) = false := by
      have h1 := modules_low (Heap.NoLimit.keeps hbase F.stays)
      exact beq_eq_false_iff_ne.mpr fun z => absurd h1 (Nat.not_lt.mpr (z ▸ ha))
    refine item_tab_int (s := { s with heap := h₄, toks := t₄ }) (enc := PyData.str) PyProof.V.same_str (strKind_is _ _ _ _) (TabAt.ofObj lo ha₄ hdk hf) hsh q₄.1 (fun t => ?_) (hs2 _ _) (by intro _; rfl)
    refine sub_tail (s := { s with heap := h₄, toks := t₄ + 1 }) (r₃.keep i₃ k₄) (vr_flat0 rfl (.int _ t)) q₄.2 (hs1 _ _) fun u d r q => ?_
    refine ⟨m, h₄, _, rfl, ?_, F₃.keep k₄ i₄, d, r, q⟩
    exact (((k₁.L).trans kl).trans k₃.L).trans k₄.L
  · exact q₄.elim
end
end Mine

namespace Mine
section
variable {base : Heap} {prog : Program} {w : World} {X : Ext base} {n : Nat} {sc : Scope} {vs : List Str}

def arithQ (op : Operator) (x y : Int) (Q : Int → Prop) : Prop := match op with
  | .Mod => y ≠ 0 ∧ Q (x.fmod y)
  | .FloorDiv => (0 < y ∧ y < 1073741824) ∧ Q (x.fdiv y)
  | .Mult => (-(2 ^ 64) < y ∧ y < 2 ^ 64) ∧ Q (x * y)
  | .Sub => Q (x - y)
  | .Pow => (x = 10 ∧ y = 18) ∧ Q (10 ^ 18)
  | _ => False
def binQ (op : Operator) (a b : PyData) (Q : PyData → Prop) : Prop := match a, b with
  | .int x, .int y => arithQ op x y fun z => Q (.int z)
  | _, _ => False
theorem arith_sound {op : Operator} {A : Around} {E : Value → Shared → Prop} {s : Shared} {x y : Int} {t u : Tok} {Q : Int → Prop} {P : Value → Shared → Prop} (hQ : arithQ op x y Q)
    (hP : ∀ z t, Q z → P (.int z t) { s with toks := s.toks + 1 }) : wpAny (model prog w) A (binaryOp op (.int x t) (.int y u)) P E s := by
  unfold arithQ at hQ
  split at hQ
  · exact PyProof.Rows.mod_int hQ.1 (hP _ _ hQ.2)
  · exact floordiv_int (by omega) (hP _ _ hQ.2) (.inl (PyProof.noPylong_small (by omega)))
  · exact PyProof.Rows.mul_int (hP _ _ hQ.2) (IntMulOk.of_right (intBits_le_64 hQ.1.1 hQ.1.2))
  · exact PyProof.Rows.sub_int (hP _ _ hQ)
  · obtain ⟨⟨rfl, rfl⟩, q⟩ := hQ
    exact pow_int (by decide) (by decide +kernel) (hP _ _ q)
  · exact hQ.elim
theorem den_bin {op : Operator} {e1 e2 : Expr} {f g : ED} (pos : Pos) (h1 : DenE prog w X n sc vs e1 f) (h2 : DenE prog w X n sc vs e2 g) :
    DenE prog w X n sc vs (.BinOp e1 op e2 pos) (fun m Q => f m fun a => g m fun b => binQ op a b Q) := by
  intro env A E s m Q ok R F hQ
  refine wpAny_BinOp (thenE (h1 env A E s m _ ok R F hQ) fun v a h₁ t₁ k₁ i₁ r₁ q₁ => ?_)
  refine thenE (h2 env A E _ m _ ok R (F.keep k₁ i₁) q₁) fun v2 b h₂ t₂ k₂ i₂ r₂ q₂ => ?_
  unfold binQ at q₂
  split at q₂
  · obtain ⟨t, rfl⟩ := r₁.int_inv
    obtain ⟨u, rfl⟩ := r₂.int_inv
    exact arith_sound (s := { s with heap := h₂, toks := t₂ }) q₂ fun z t q => ⟨_, h₂, _, rfl, k₁.trans k₂, i₂, vr_flat0 rfl (.int _ _), q⟩
  · exact q₂.elim

def maxQ (a b : PyData) (Q : PyData → Prop) : Prop := match a, b with
  | .int x, .int y => Q (.int (if y > x then y else x))
  | _, _ => False
theorem den_max {K : Frag} (G : Gnd K base) {e1 e2 : Expr} {f g : ED} (p1 pos : Pos) (hx : sc.names.lookup (Str.ofString "max") = some .globalImplicit) (hf : nsIn K mainGlobals "max" = some none) (h1 : DenE prog w X n sc vs e1 f) (h2 : DenE prog w X n sc vs e2 g)
    (hst : ∀ env, starEach [e1, e2] env = [(false, eval e1 env), (false, eval e2 env)] := by intro env; rfl) : DenE prog w X n sc vs (.Call (.Name "max" p1) [e1, e2] [] pos) (fun m Q => f m fun a => g m fun b => maxQ a b Q) := by
  intro env A E s m Q ok R F hQ
  refine Call_Name (trees := [(false, eval e1 env), (false, eval e2 env)]) (by rw [hst]; rfl) (name_builtin G "max" (.builtin "max") p1 hx hf (by boot_by_name) (by decide) ok F ?_)
  refine callWith_builtin rfl (evalArgs_plain (spliced_cons (thenE (h1 env A E s m _ ok R F hQ) fun v a h₁ t₁ k₁ i₁ r₁ q₁ => ?_)))
  refine spliced_cons (thenE (h2 env A E _ m _ ok R (F.keep k₁ i₁) q₁) fun v2 b h₂ t₂ k₂ i₂ r₂ q₂ => ?_)
  refine spliced_nil ?_
  show wpAny _ A (call (.builtin "max") [v, v2]) _ _ _
  unfold maxQ at q₂
  split at q₂
  · rename_i x y
    obtain ⟨t, rfl⟩ := r₁.int_inv
    obtain ⟨u, rfl⟩ := r₂.int_inv
    refine max_two_ints (s := { s with heap := h₂, toks := t₂ }) R.hd fun h' tk hk => ?_
    have i' := X.stable _ _ i₂ fun b _ o e => hk b o e
    have k' := (k₁.trans k₂).trans (Keep.ofAll (X := X) hk)
    revert q₂
    split
    · exact fun q₂ => ⟨_, h', tk, rfl, k', i', vr_flat0 rfl (.int _ _), q₂⟩
    · exact fun q₂ => ⟨_, h', tk, rfl, k', i', vr_flat0 rfl (.int _ _), q₂⟩
  · exact q₂.elim

/-! going through a range -/
def upto (k : Nat) : List PyData := (List.range k).map fun (i : Nat) => .int i
def rangeQ (d : PyData) (Q : List PyData → Prop) : Prop := match d with
  | .int k => (0 ≤ k ∧ k ≤ 1000) ∧ Q (upto k.toNat)
  | _ => False
def PostR (prog : Program) (w : World) (A : Around) (X : Ext base) (s : Shared) (Q : List PyData → Prop) (it : Value) (s₂ : Shared) : Prop :=
  ∃ xs h₂ t₂ I P St, s₂ = { s with heap := h₂, toks := t₂ } ∧ Keep X s.heap h₂ ∧ X.I h₂ ∧ IterAt prog w A X s.heap h₂ it xs I [I] P St ∧ small xs = true ∧ Q xs
def DenR (prog : Program) (w : World) (X : Ext base) (n : Nat) (sc : Scope) (vs : List Str) (e : Expr) (f : LD) : Prop :=
  ∀ (env : Env) (A : Around) (E : Value → Shared → Prop) (s : Shared) (m : Loc) (Q : List PyData → Prop), EnvOK sc env → Room n A → FmOK X env vs m s.heap → f m Q →
    wpAny (model prog w) A (eval e env) (fun x s₁ => wpAny (model prog w) A (pyIter x) (PostR prog w A X s Q) E s₁) E s
theorem den_rangeI {e : Expr} {f : LD} (h : DenR prog w X n sc vs e f) : DenI prog w X n sc vs e f := fun env A E s m Q ok R F hQ =>
  wpAny_mono (h env A E s m Q ok R F hQ) (fun _ _ p => wpAny_mono p (fun _ _ ⟨xs, h₂, t₂, I, P, St, r⟩ => ⟨xs, h₂, t₂, I, [I], P, St, r⟩) fun _ _ x => x) fun _ _ x => x
theorem den_range {K : Frag} (G : Gnd K base) {e : Expr} {f : ED} (p1 pos : Pos) (hx : sc.names.lookup (Str.ofString "range") = some .globalImplicit) (hf : nsIn K mainGlobals "range" = some none) (he : DenE prog w X n sc vs e f)
    (hst : ∀ env, starEach [e] env = [(false, eval e env)] := by intro env; rfl) : DenR prog w X n sc vs (.Call (.Name "range" p1) [e] [] pos) (fun m Q => f m fun d => rangeQ d Q) := by
  intro env A E s m Q ok R F hQ
  refine Call_Name (trees := [(false, eval e env)]) (by rw [hst]; rfl) (name_builtin G "range" (.type "range") p1 hx hf (by boot_by_name) (by decide) ok F ?_)
  refine PyProof.Rows.callWith_type rfl (evalArgs_plain (spliced_cons (thenE (he env A E s m _ ok R F hQ) fun v d h₁ t₁ k₁ i₁ r₁ q₁ => ?_)))
  refine spliced_nil ?_
  show wpAny _ A (call (.type "range") [v]) _ _ _
  unfold rangeQ at q₁
  split at q₁
  · rename_i N
    obtain ⟨⟨l0, l1⟩, q⟩ := q₁
    obtain ⟨t, rfl⟩ := r₁.int_inv
    refine call_range_1 (s := { s with heap := h₁, toks := t₁ }) ?_
    refine wpAny_pyIter_range (IsRange.new ..) (small_one (by decide) (by decide) (by omega) (by omega)) ?_
    have hsz : Builtin.Range.rangeSize 0 N 1 = (N.toNat : Int) := by rw [rangeSize_one]; split <;> omega
    have hlen : (upto N.toNat).length = N.toNat := by simp [upto]
    have ir := inv_push i₁ { cls := .type "range", data := .fields #[.int 0 t₁, .int N t, .int 1 (t₁ + 1)] }
    have kr := k₁.trans (Keep.push h₁ { cls := .type "range", data := .fields #[.int 0 t₁, .int N t, .int 1 (t₁ + 1)] })
    refine ⟨upto N.toNat, _, _, _, _, _, rfl, kr.trans (Keep.push _ _), inv_push ir _, ⟨rfl, by rw [hlen]; exact (Walks.range R.hd _ 0 1 N.toNat).bound, ?_, ?_, ?_, ?_, ?_, new_off ir, ?_, ?_⟩, decide_eq_true (by rw [hlen]; omega), q⟩
    · have e1 : (0 + ((0 : Nat) : Int) * 1) = 0 := by simp
      have e2 : ((N.toNat : Int) - ((0 : Nat) : Int)) = Builtin.Range.rangeSize 0 N 1 := by rw [hsz]; simp
      rw [e1, e2]
      exact Heap.get?_push_size _ rfl
    · intro i h e; exact ⟨_, _, e, rfl⟩
    · intro i h e; exact ⟨_, e, .inr (.inr rfl)⟩
    · intro b hb
      rw [List.mem_singleton.mp hb]
      exact ⟨new_off ir, _, Heap.get?_push_size _ rfl, .inl ⟨_, rfl⟩⟩
    · cases e : base.get? (h₁.push { cls := .type "range", data := .fields #[.int 0 t₁, .int N t, .int 1 (t₁ + 1)] }).objs.size with
      | none => rfl
      | some o' => exact absurd (Heap.lt_size ((F.keep kr ir).stays _ _ e)) (Nat.lt_irrefl _)
    · cases e : s.heap.get? (h₁.push { cls := .type "range", data := .fields #[.int 0 t₁, .int N t, .int 1 (t₁ + 1)] }).objs.size with
      | none => rfl
      | some o' => exact absurd (Heap.lt_size (kr _ _ (new_off ir) e)) (Nat.lt_irrefl _)
    · rintro i v ⟨hi, t', rfl⟩
      refine ⟨.int i, by rw [upto, List.getElem?_map, List.getElem?_range hi]; rfl, rfl, ?_⟩
      rw [Int.zero_add, Int.mul_one]
      exact .int _ _
  · exact q₁.elim
end
end Mine

namespace Mine
/-- the reel: two ints, at r -/
def ReelAt (r : Addr) (h : Heap) : Prop := ∃ a b t u, h.IsList r #[.int a t, .int b u] ∧ 0 ≤ a ∧ 0 ≤ b ∧ b < 2147483648
def reelOK (k j : Int) : Prop := 0 ≤ j ∧ (k = 1 → j < 2147483648)
def hdl (a : Addr) : PyData := .dict [(.int a, .none)]
section
variable {base : Heap} {prog : Program} {w : World} {X : Ext base} {n : Nat} {sc : Scope} {vs : List Str}
structure RX (X : Ext base) (r : Addr) : Prop where
  get : ∀ h, X.I h → ReelAt r h
  put : ∀ h h', X.I h → ReelAt r h' → (∀ b, b ≠ r → h'.get? b = h.get? b) → X.I h'
  inW : r ∈ X.W

def eReel (i : Nat) (r : Addr) (k : Int) : ED := fun m Q => m[i]? = some (some (hdl r)) ∧ (k = 0 ∨ k = 1) ∧ ∀ j, reelOK k j → Q (.int j)
theorem VR.hdl_inv {h : Heap} {v : Value} {r : Addr} (x : VR X h v (hdl r)) : v = .ref r := by
  unfold hdl at x
  cases x with
  | flat l _ => simp [lf] at l
  | hnd => rfl
theorem den_reel {r : Addr} (rx : RX X r) {x : Str} {i : Nat} {k : Int} {kk : Nat} (p1 p2 pos : Pos) (hi : vs[i]? = some x) (hd : (x == ("__debug__" : Str)) = false) :
    DenE prog w X n sc vs (.Subscript (.Name x p1) (.Constant (.int k) kk p2) pos) (eReel i r k) := by
  intro env A E s m Q ok R F hQ
  obtain ⟨hm, hk, hQ⟩ := hQ
  refine Subscript_ (wpAny_mono (den_var x i p1 hi hd env A E s m _ ok R F (show getV m i _ by unfold getV; rw [hm])) (Q := fun v s₁ => PostE X s (fun d => d = hdl r) v s₁) (fun v s₁ p => ?_) fun _ _ x => x)
  obtain ⟨a, h₁, t₁, rfl, k₁, i₁, r₁, rfl⟩ := p
  cases r₁.hdl_inv
  refine wpAny_Constant_int ?_
  obtain ⟨a, b, t, u, hl, h0, h1, h2⟩ := rx.get _ i₁
  refine tail_any (s := { s with heap := h₁, toks := t₁ + 1 }) hl.typeIs slot_list_getitem.lookup (wpAny_getItem_list hl (by omega) (by omega) (x := if k = 0 then .int a t else .int b u) (by rcases hk with rfl | rfl <;> rfl) ?_) rfl
  rcases hk with rfl | rfl
  · exact ⟨_, h₁, _, rfl, k₁, i₁, vr_flat0 rfl (.int _ _), hQ a ⟨h0, fun z => by omega⟩⟩
  · exact ⟨_, h₁, _, rfl, k₁, i₁, vr_flat0 rfl (.int _ _), hQ b ⟨h1, fun _ => h2⟩⟩

def setReelQ (k : Int) (d : PyData) (Q : Prop) : Prop := match d with
  | .int j => reelOK k j ∧ Q
  | _ => False
def sReel (i : Nat) (r : Addr) (k : Int) (f : ED) : SD := fun m Q => m[i]? = some (some (hdl r)) ∧ (k = 0 ∨ k = 1) ∧ f m fun d => setReelQ k d (Q m .nxt)
theorem den_setreel {r : Addr} (rx : RX X r) {x : Str} {i : Nat} {k : Int} {kk : Nat} {e : Expr} {f : ED} (p1 p2 p3 pos : Pos) (hi : vs[i]? = some x) (hd : (x == ("__debug__" : Str)) = false) (he : DenE prog w X n sc vs e f)
    (hs : ∀ env, swapsWith e (some (.Subscript (.Name x p1) (.Constant (.int k) kk p2) p3)) pos.line env = pure false := by intro _; rfl) :
    DenX prog w X n sc vs (.Assign [.Subscript (.Name x p1) (.Constant (.int k) kk p2) p3] e pos) (sReel i r k f) := by
  intro env A E s m Q ok R F hQ
  obtain ⟨hm, hk, hQ⟩ := hQ
  refine wpAny_Assign_Subscript (thenE (he env A E s m _ ok R F hQ) fun v d h₁ t₁ k₁ i₁ r₁ q₁ => ?_) (hs env)
  refine wpAny_mono (den_var x i p1 hi hd env A E { s with heap := h₁, toks := t₁ } m _ ok R (F.keep k₁ i₁) (show getV m i _ by unfold getV; rw [hm])) (Q := fun v s₂ => PostE X { s with heap := h₁, toks := t₁ } (fun d => d = hdl r) v s₂) (fun v2 s₂ p => ?_) fun _ _ x => x
  obtain ⟨_, h₂, t₂, rfl, k₂, i₂, r₂, rfl⟩ := p
  cases r₂.hdl_inv
  refine wpAny_Constant_int ?_
  unfold setReelQ at q₁
  split at q₁
  · rename_i j
    obtain ⟨tj, rfl⟩ := r₁.int_inv
    obtain ⟨⟨j0, j1⟩, q⟩ := q₁
    obtain ⟨a, b, t, u, hl, h0, h1, h2⟩ := rx.get _ i₂
    refine wpAny_setItem_list (s := { s with heap := h₂, toks := t₂ + 1 }) hl (by omega) (by omega) (by rcases hk with rfl | rfl <;> (show (_ : Int) < (2 : Nat)) <;> decide) fun h₃ hl₃ hsb => ?_
    have re : ReelAt r h₃ := by
      rcases hk with rfl | rfl
      · exact ⟨j, b, tj, u, hl₃, j0, h1, h2⟩
      · exact ⟨a, j, t, tj, hl₃, h0, j0, j1 rfl⟩
    have i₃ := rx.put _ h₃ i₂ re hsb.2
    refine ⟨m, h₃, _, rfl, fun b o nw nl e => (hsb.2 b fun z => nw (z ▸ rx.inW)).trans (k₂ b o nw (k₁ b o nw e)), ?_, q⟩
    exact ((F.keep k₁ i₁).keep k₂ i₂).stands (fun b o e nw _ => (hsb.2 b fun z => nw (z ▸ rx.inW)).trans e) i₃
  · exact q₁.elim

theorem den_unpack {x y : Str} {i j : Nat} {e : Expr} {f : ED} (p1 p2 tp pos : Pos) (k : Nat) (hi : vs[i]? = some x) (hk : sc.names.lookup x = some .local) (hj : vs[j]? = some y) (hk2 : sc.names.lookup y = some .local) (nd : vs.Nodup)
    (he : DenE prog w X n sc vs e f)
    (hw : ∀ env, EnvOK sc env → swappedStores [.Tuple [.Name x p1, .Name y p2] k tp] e env = pure none)
    (hs : ∀ env, swapsWithSole [.Tuple [.Name x p1, .Name y p2] k tp] e pos.line env = pure false := by intro _; rfl) :
    DenX prog w X n sc vs (.Assign [.Tuple [.Name x p1, .Name y p2] k tp] e pos) (fun m Q => f m fun d => lf d = true ∧ pairQ i j d m fun m' => Q m' .nxt) := by
  intro env A E s m Q ok R F hQ
  refine Assign_Tuple (thenE (he env A E s m _ ok R F hQ) fun v d h₁ t₁ k₁ i₁ r₁ ⟨l, q⟩ => ?_) (hs env) (hw env ok)
  have rd : Reads h₁ v d [] := by
    cases r₁ with
    | flat _ r => exact r
    | lst => simp [lf] at l
    | hnd => simp [lf] at l
  exact gpair_raw p1 p2 tp k hi hk hj hk2 nd (s := { s with heap := h₁, toks := t₁ }) ok R (F.keep k₁ i₁) l rd q fun a b h' tk' _ q' kl _ F' => ⟨_, h', tk', rfl, k₁.L.trans kl, F', q'⟩
end
end Mine

namespace Mine
theorem swapped_none {sc : Scope} {env : Env} (ok : EnvOK sc env) {x y : Str} {p1 p2 tp p3 : Pos} {k k2 : Nat} {e1 e2 : Expr} (hx : sc.names.lookup x = some .local) (hy : sc.names.lookup y = some .local) (hl : p2.line = p1.line) (hxy : x ≠ y)
    (h1 : ∀ v p, e1 ≠ .Starred v p) (h2 : ∀ v p, e2 ≠ .Starred v p) (hf : (foldedForSure 8 e1 && foldedForSure 8 e2) = true) :
    swappedStores [.Tuple [.Name x p1, .Name y p2] k tp] (.Tuple [e1, e2] k2 p3) env = pure none := by
  have kx := ok.loc x hx
  have ky := ok.loc y hy
  have hb : env.blockKind = .function := by rw [Env.blockKind, ok.kind]; rfl
  have hyx : (y == x) = false := beq_eq_false_iff_ne.mpr (Ne.symm hxy)
  have ed : ([x, y] : List Str).eraseDups = [x, y] := by simp [List.eraseDups_cons, hyx]
  unfold swappedStores
  simp only [List.length_cons, List.length_nil, hb, List.any_cons, List.any_nil, List.head?_cons, Option.map_some, Option.getD_some, Expr.pos, List.filterMap_cons, List.filterMap_nil, kx, ky, hl, List.all_cons, List.all_nil, Bool.and_true, hf]
  simp only [beq_self_eq_true, Bool.and_self, if_true, ed, List.length_cons, List.length_nil]
  simp
def eBin (op : Operator) (f g : ED) : ED := fun m Q => f m fun a => g m fun b => binQ op a b Q
def eMax (f g : ED) : ED := fun m Q => f m fun a => g m fun b => maxQ a b Q
def iRange (f : ED) : LD := fun m Q => f m fun d => rangeQ d Q
def sUnp (i j : Nat) (f : ED) : SD := fun m Q => f m fun d => lf d = true ∧ pairQ i j d m fun m' => Q m' .nxt
section
variable {base : Heap} {prog : Program} {w : World} {X : Ext base} {n : Nat} {sc : Scope} {vs : List Str} {pos p1 p2 p3 p4 : Pos} {k k2 : Nat} {e e1 e2 : Expr} {f g : ED}
theorem r_bin {op : Operator} (h1 : DE prog w X n sc vs e1 f) (h2 : DE prog w X n sc vs e2 g) : DE prog w X n sc vs (.BinOp e1 op e2 pos) (eBin op f g) := ⟨den_bin pos h1.1 h2.1⟩
theorem r_max {K : Frag} (G : Gnd K base) (hx : sc.names.lookup (Str.ofString "max") = some .globalImplicit) (hf : nsIn K mainGlobals "max" = some none) (h1 : DE prog w X n sc vs e1 f) (h2 : DE prog w X n sc vs e2 g)
    (hst : ∀ env, starEach [e1, e2] env = [(false, eval e1 env), (false, eval e2 env)] := by intro env; rfl) : DE prog w X n sc vs (.Call (.Name "max" p1) [e1, e2] [] pos) (eMax f g) := ⟨den_max G p1 pos hx hf h1.1 h2.1 hst⟩
theorem r_range {K : Frag} (G : Gnd K base) (hx : sc.names.lookup (Str.ofString "range") = some .globalImplicit) (hf : nsIn K mainGlobals "range" = some none) (he : DE prog w X n sc vs e f)
    (hst : ∀ env, starEach [e] env = [(false, eval e env)] := by intro env; rfl) : DI prog w X n sc vs (.Call (.Name "range" p1) [e] [] pos) (iRange f) := ⟨den_rangeI (den_range G p1 pos hx hf he.1 hst)⟩
theorem r_reel {r : Addr} (rx : RX X r) {x : Str} (i : Nat) {k : Int} (hi : vs[i]? = some x) (hd : (x == ("__debug__" : Str)) = false) : DE prog w X n sc vs (.Subscript (.Name x p1) (.Constant (.int k) k2 p2) pos) (eReel i r k) := ⟨den_reel rx p1 p2 pos hi hd⟩
theorem r_setreel {r : Addr} (rx : RX X r) {x : Str} (i : Nat) {k : Int} (hi : vs[i]? = some x) (hd : (x == ("__debug__" : Str)) = false) (he : DE prog w X n sc vs e f)
    (hs : ∀ env, swapsWith e (some (.Subscript (.Name x p1) (.Constant (.int k) k2 p2) p3)) pos.line env = pure false := by intro _; rfl) :
    DX prog w X n sc vs (.Assign [.Subscript (.Name x p1) (.Constant (.int k) k2 p2) p3] e pos) (sReel i r k f) := ⟨den_setreel rx p1 p2 p3 pos hi hd he.1 hs⟩
theorem r_unp {x y : Str} (i j : Nat) (hi : vs[i]? = some x) (hj : vs[j]? = some y) (hk : sc.names.lookup x = some .local) (hk2 : sc.names.lookup y = some .local) (nd : vs.Nodup) (hxy : x ≠ y)
    (he : DE prog w X n sc vs (.Tuple [e1, e2] k2 p4) f) (hl : p2.line = p1.line := by rfl)
    (n1 : ∀ v p, e1 ≠ .Starred v p := by intro _ _ h; cases h) (n2 : ∀ v p, e2 ≠ .Starred v p := by intro _ _ h; cases h) (hf : (foldedForSure 8 e1 && foldedForSure 8 e2) = true := by rfl) :
    DX prog w X n sc vs (.Assign [.Tuple [.Name x p1, .Name y p2] k p3] (.Tuple [e1, e2] k2 p4) pos) (sUnp i j f) := ⟨den_unpack p1 p2 p3 pos k hi hk hj hk2 nd he.1 fun _ ok => swapped_none ok hk hk2 hl hxy n1 n2 hf⟩
theorem r_table {x : Str} {i : Nat} {keys : List (Option Expr)} {values : List Expr} {D : List (PyData × PyData)} {sk : Shape} {px p0 dp p5 : Pos} (hi : vs[i]? = some x) (hk : sc.names.lookup x = some .local) (nd : vs.Nodup)
    (h1 : DE prog w X n sc vs e1 f) (h2 : DE prog w X n sc vs e2 g) (hD : litPairs keys values = some D) (hs : strKeyed D = true) (hn : (strKeysOf D).Nodup)
    (hall : keys.all (·.isSome) = true) (hl : keys.length = values.length) (h0 : keys ≠ []) (hlen : keys.length ≤ 15) (hsh : Shaped sk .int D) (hbase : base.NoLimit)
    (hd : (x == ("__debug__" : Str)) = false)
    (hsw : ∀ env, swapsWith (.Dict keys values dp) (some (.Name x px)) p0.line env = pure false := by intro _; rfl)
    (hs1 : ∀ o i, subscripted (.Subscript (.Name x p1) e2 p2) false o i = operate [o, i] (getItem o i) := by intro _ _; rfl)
    (hs2 : ∀ o i, subscripted e2 false o i = operate [o, i] (getItem o i) := by intro _ _; rfl) :
    DS prog w X n sc vs [.Assign [.Name x px] (.Dict keys values dp) p0, .Return (some (.Subscript e1 (.Subscript (.Name x p1) e2 p2) p3)) p5]
      (fun m Q => m[i]? = some none ∧ f m fun a => g m fun b => tabQ D a b fun d => Q m (.ret d)) :=
  ⟨den_table px p0 dp p1 p2 p3 p5 hi hk nd h1.1 h2.1 hD hs hn hall hl h0 hlen hsh hbase hd hsw hs1 hs2⟩
end
end Mine

namespace Mine
/-! a list of one's own that grows: its address a, its content ds -/
def RowsAt (a : Addr) (ds : List PyData) (h : Heap) : Prop := ∃ us n, h.get? a = some { cls := .type "list", data := .seq us n } ∧ ReadsAll h us.toList ds [] ∧ lfs ds = true
section
variable {base : Heap}
structure GOK (X : Ext base) (env : Env) (vs : List Str) (a : Addr) (m : Loc) (ds : List PyData) (h : Heap) : Prop where
  F : FmOK X env vs m h
  fl : flatM m = true
  rows : RowsAt a ds h
  nb : base.get? a = none
  nw : a ∉ X.W
abbrev RD := Loc → List PyData → (Loc → List PyData → Flw → Prop) → Prop
def gflow (X : Ext base) (h : Heap) (m : Loc) (ds : List PyData) (Q : Loc → List PyData → Flw → Prop) (fl : Flow) : Prop := match fl with
  | .next => Q m ds .nxt
  | .ret v => ∃ d, VR X h v d ∧ Q m ds (.ret d)
  | _ => False
def KeepG (X : Ext base) (L a : Addr) (h h' : Heap) : Prop := ∀ b o, b ∉ X.W → b ≠ L → b ≠ a → h.get? b = some o → h'.get? b = some o
def GPost (X : Ext base) (env : Env) (vs : List Str) (a : Addr) (s : Shared) (Q : Loc → List PyData → Flw → Prop) (fl : Flow) (s' : Shared) : Prop :=
  ∃ m' ds' h' tk', s' = { s with heap := h', toks := tk' } ∧ KeepG X env.locals a s.heap h' ∧ GOK X env vs a m' ds' h' ∧ gflow X h' m' ds' Q fl
structure GX (prog : Program) (w : World) (X : Ext base) (n : Nat) (sc : Scope) (vs : List Str) (st : Stmt) (F : Addr → RD) : Prop where
  d : ∀ (a : Addr) (env : Env) (A : Around) (E : Value → Shared → Prop) (s : Shared) (m : Loc) (ds : List PyData) (Q : Loc → List PyData → Flw → Prop), EnvOK sc env → Room n A → GOK X env vs a m ds s.heap → F a m ds Q → wpAny (model prog w) A (exec st env) (GPost X env vs a s Q) E s
structure GS (prog : Program) (w : World) (X : Ext base) (n : Nat) (sc : Scope) (vs : List Str) (ss : List Stmt) (F : Addr → RD) : Prop where
  d : ∀ (a : Addr) (env : Env) (A : Around) (E : Value → Shared → Prop) (s : Shared) (m : Loc) (ds : List PyData) (Q : Loc → List PyData → Flw → Prop), EnvOK sc env → Room n A → GOK X env vs a m ds s.heap → F a m ds Q → wpAny (model prog w) A (execs ss env) (GPost X env vs a s Q) E s
end
section
variable {base : Heap} {prog : Program} {w : World} {X : Ext base} {n : Nat} {sc : Scope} {vs : List Str}
theorem GPost.from {env : Env} {a : Addr} {s : Shared} {Q : Loc → List PyData → Flw → Prop} {fl : Flow} {s' : Shared} {h₁ : Heap} {t₁ : Nat} (p : GPost X env vs a { s with heap := h₁, toks := t₁ } Q fl s') (k : KeepG X env.locals a s.heap h₁) : GPost X env vs a s Q fl s' := by
  obtain ⟨m', ds', h', tk', rfl, k', F, q⟩ := p
  exact ⟨m', ds', h', tk', rfl, fun b o w l na e => k' b o w l na (k b o w l na e), F, q⟩
theorem RowsAt.seqs {a : Addr} {ds : List PyData} {h h' : Heap} (r : RowsAt a ds h) (hI : X.I h) (hk : Seqs (X := X) h h') (nw : a ∉ X.W) : RowsAt a ds h' := by
  obtain ⟨us, k, e, ra, l⟩ := r
  exact ⟨us, k, hk a _ e nw ⟨_, _, rfl⟩, readsAll_seqs hI hk ra l, l⟩
theorem GOK.off {env : Env} {a : Addr} {m : Loc} {ds : List PyData} {h : Heap} (g : GOK X env vs a m ds h) : a ≠ env.locals := fun z => by
  obtain ⟨mv, hn⟩ := g.F.ns
  obtain ⟨oL, esL, kL, hL, dL⟩ := ns_data hn
  obtain ⟨us, k, e, _⟩ := g.rows
  rw [z, hL] at e; cases e; cases dL
/-- what keeps all but the frame's own names keeps the rows -/
theorem GOK.stay {env : Env} {a : Addr} {m m' : Loc} {ds : List PyData} {h h' : Heap} (g : GOK X env vs a m ds h) (F : FmOK X env vs m' h') (fl : flatM m' = true) (k : KeepL X env.locals h h') : GOK X env vs a m' ds h' :=
  ⟨F, fl, g.rows.seqs g.F.inv (fun b o e nw q => k b o nw (fun z => by
    obtain ⟨mv, hn⟩ := g.F.ns
    obtain ⟨oL, esL, kL, hL, dL⟩ := ns_data hn
    obtain ⟨_, _, q⟩ := q
    rw [z, hL] at e; cases e; rw [dL] at q; cases q) e) g.nw, g.nb, g.nw⟩

def gNil : Addr → RD := fun _ m ds Q => Q m ds .nxt
def gCons (f g : Addr → RD) : Addr → RD := fun a m ds Q => f a m ds fun m' ds' fl => match fl with | .nxt => g a m' ds' Q | .ret d => Q m' ds' (.ret d)
def gLift (f : SD) : Addr → RD := fun _ m ds Q => f m fun m' fl => flatM m' = true ∧ Q m' ds fl
def gIf (ft : TD) (fb fo : Addr → RD) : Addr → RD := fun a m ds Q => ft m fun c => match c with | true => fb a m ds Q | false => fo a m ds Q
def gAppend (i : Nat) (f : ED) : Addr → RD := fun a m ds Q => m[i]? = some (some (hdl a)) ∧ f m fun d => lf d = true ∧ small ds = true ∧ Q m (ds ++ [d]) .nxt
def gTuple (i : Nat) : Addr → RD := fun a m ds Q => m[i]? = some (some (hdl a)) ∧ small ds = true ∧ Q m ds (.ret (.tuple ds))
def gStart (i : Nat) (g : Addr → RD) : SD := fun m Q => flatM m = true ∧ ∀ a, g a (m.set i (some (hdl a))) [] fun m' _ fl => Q m' fl
theorem g_nil : GS prog w X n sc vs [] gNil := ⟨fun _ _ _ _ s m ds _ _ _ F hQ => wpAny_execs_nil ⟨m, ds, s.heap, s.toks, rfl, fun _ _ _ _ _ e => e, F, hQ⟩⟩
theorem g_cons {st : Stmt} {ss : List Stmt} {f g : Addr → RD} (h1 : GX prog w X n sc vs st f) (h2 : GS prog w X n sc vs ss g) :
    GS prog w X n sc vs (st :: ss) (gCons f g) := by
  constructor
  intro a env A E s m ds Q ok R F hQ
  refine wpAny_execs_cons (wpAny_mono (h1.d a env A E s m ds _ ok R F hQ) (fun fl s₁ p => ?_) fun _ _ x => x)
  obtain ⟨m', ds', h', tk', rfl, k, F', q⟩ := p
  cases fl with
  | next => exact wpAny_mono (h2.d a env A E _ m' ds' Q ok R F' q) (fun fl s' p => GPost.from (h₁ := h') p k) fun _ _ x => x
  | ret v => exact ⟨m', ds', h', tk', rfl, k, F', q⟩
  | brk => exact q.elim
  | cont => exact q.elim
theorem g_lift {st : Stmt} {f : SD} (h : DX prog w X n sc vs st f) : GX prog w X n sc vs st (gLift f) := by
  constructor
  intro a env A E s m ds Q ok R F hQ
  refine wpAny_mono (h.1 env A E s m _ ok R F.F hQ) (fun fl s' p => ?_) fun _ _ x => x
  obtain ⟨m', h', tk', rfl, k, F', q⟩ := p
  cases fl with
  | next => exact ⟨m', ds, h', tk', rfl, fun b o w l _ e => k b o w l e, F.stay F' q.1 k, q.2⟩
  | ret v =>
    obtain ⟨d, r, q⟩ := q
    exact ⟨m', ds, h', tk', rfl, fun b o w l _ e => k b o w l e, F.stay F' q.1 k, d, r, q.2⟩
  | brk => exact q.elim
  | cont => exact q.elim
theorem g_if {t : Expr} {b o : List Stmt} {ft : TD} {fb fo : Addr → RD} {pos : Pos} (ht : DT prog w X n sc vs t ft) (hb : GS prog w X n sc vs b fb) (ho : GS prog w X n sc vs o fo) :
    GX prog w X n sc vs (.If t b o pos) (gIf ft fb fo) := by
  constructor
  intro a env A E s m ds Q ok R F hQ
  refine wpAny_If (thenT (ht.1 env A E s m _ ok R F.F hQ) fun c h₁ t₁ k₁ i₁ q₁ => ?_)
  have F₁ := F.stay (F.F.keep k₁ i₁) F.fl k₁.L
  cases c with
  | true => exact wpAny_mono (hb.d a env A E _ m ds Q ok R F₁ q₁) (fun v s' p => GPost.from (h₁ := h₁) p fun b o w l _ e => k₁ b o w e) fun _ _ x => x
  | false => exact wpAny_mono (ho.d a env A E _ m ds Q ok R F₁ q₁) (fun v s' p => GPost.from (h₁ := h₁) p fun b o w l _ e => k₁ b o w e) fun _ _ x => x

theorem g_append {x : Str} {i : Nat} {e : Expr} {f : ED} {p1 ap cp ep : Pos} (hi : vs[i]? = some x) (hd : (x == ("__debug__" : Str)) = false) (he : DE prog w X n sc vs e f)
    (hbase : ∀ env, attributeBase (.Name x p1) "append" env (eval (.Name x p1) env) = eval (.Name x p1) env := by intro _; rfl)
    (hfew : ∀ env, ((backTo cp (starEach [e] env)).all (fun x => !x.1) && (backToKw cp (keywordEach [] env)).all (fun x => x.1.isSome)
      && decide (([e] : List Expr).length + ([] : List Keyword).length + (if ([] : List Keyword).isEmpty then 0 else 1) < 30)) = true := by intro _; rfl)
    (hline : (ap.endLine == cp.line) = true := by rfl) (htrees : ∀ env, backTo cp (starEach [e] env) = [(false, eval e env)] := by intro _; rfl)
    (hsw : ∀ env, swapsWith (.Call (.Attribute (.Name x p1) "append" ap) [e] [] cp) none ep.line env = pure false := by intro _; rfl) :
    GX prog w X n sc vs (.Expr (.Call (.Attribute (.Name x p1) "append" ap) [e] [] cp) ep) (gAppend i f) := by
  constructor
  intro a env A E s m ds Q ok R F hQ
  obtain ⟨hm, hQ⟩ := hQ
  refine wpAny_Expr (wpAny_Call_append (hbase env) (hfew env) hline (htrees env) ?_) (by rw [interactive, ok.kind]; rfl) (hsw env)
  refine wpAny_mono (den_var x i p1 hi hd env A E s m _ ok R F.F (show getV m i _ by unfold getV; rw [hm])) (Q := fun v s₁ => PostE X s (fun d => d = hdl a) v s₁) (fun v s₁ p => ?_) fun _ _ x => x
  obtain ⟨_, h₁, t₁, rfl, k₁, i₁, r₁, rfl⟩ := p
  cases r₁.hdl_inv
  have F₁ := F.stay (F.F.keep k₁ i₁) F.fl k₁.L
  obtain ⟨us, k, e₁, ra₁, l₁⟩ := F₁.rows
  refine ⟨a, us, rfl, ⟨_, k, e₁, rfl, rfl, rfl⟩, thenE (he.1 env A E { s with heap := h₁, toks := t₁ } m _ ok R F₁.F hQ) fun v d h₂ t₂ k₂ i₂ r₂ ⟨ld, sm, q⟩ => ?_⟩
  have F₂ := F₁.stay (F₁.F.keep k₂ i₂) F₁.fl k₂.L
  obtain ⟨us, k, e₂, ra₂, l₂⟩ := F₂.rows
  have rd : Reads h₂ v d [] := by
    cases r₂ with
    | flat _ r => exact r
    | lst => simp [lf] at ld
    | hnd => simp [lf] at ld
  refine append_at (s := { s with heap := h₂, toks := t₂ }) e₂ (fun h₃ hsb e₃ => ?_) (by rw [← Array.length_toList, ReadsAll.len ra₂]; exact small_line sm)
  have F₃ := F₂.F.grow F₂.fl ⟨_, e₂, rfl, us, k, rfl⟩ F₂.nb F₂.nw hsb.2
  have tup : ∀ b o, h₂.get? b = some o → o.cls = .type "tuple" → h₃.get? b = some o := fun b o e c => (hsb.2 b fun z => by
    rw [z, e₂] at e; cases e; exact absurd c (by show ¬ (Value.type "list" = Value.type "tuple"); decide)).trans e
  refine ⟨m, ds ++ [d], h₃, _, rfl, fun b o nw nl na e => (hsb.2 b na).trans (k₂ b o nw (k₁ b o nw e)), ⟨F₃, F₂.fl, ⟨us.push v, k + 1, e₃, ?_, lfs_append l₂ (by rw [lfs, ld]; rfl)⟩, F₂.nb, F₂.nw⟩, q⟩
  rw [Array.toList_push]
  exact readsAll_append (lfs_keep (fun b o e c _ => tup b o e c) ra₂ l₂) (readsAll_cons (lf_keep (fun b o e c _ => tup b o e c) rd ld) .nil)

def gforQ (body : RD) (i : Nat) : List PyData → Loc → List PyData → (Loc → List PyData → Flw → Prop) → Prop
  | [], m, ds, Q => Q m ds .nxt
  | d :: r, m, ds, Q => body (m.set i (some d)) ds fun m' ds' fl => match fl with
    | .nxt => gforQ body i r m' ds' Q
    | .ret v => Q m' ds' (.ret v)
def gFor (i : Nat) (fi : LD) (fb : Addr → RD) : Addr → RD := fun a m ds Q => fi m fun xs => gforQ (fb a) i xs m ds Q
structure DR (prog : Program) (w : World) (X : Ext base) (n : Nat) (sc : Scope) (vs : List Str) (e : Expr) (f : LD) : Prop where
  d : DenR prog w X n sc vs e f
theorem r_rangeR {K : Frag} (G : Gnd K base) {e : Expr} {f : ED} {p1 pos : Pos} (hx : sc.names.lookup (Str.ofString "range") = some .globalImplicit) (hf : nsIn K mainGlobals "range" = some none) (he : DE prog w X n sc vs e f)
    (hst : ∀ env, starEach [e] env = [(false, eval e env)] := by intro env; rfl) : DR prog w X n sc vs (.Call (.Name "range" p1) [e] [] pos) (iRange f) := ⟨den_range G p1 pos hx hf he.1 hst⟩
theorem g_for {x : Str} {i : Nat} {iter : Expr} {body : List Stmt} {fi : LD} {fb : Addr → RD} {px pos : Pos} (hi : vs[i]? = some x) (hk : sc.names.lookup x = some .local) (nd : vs.Nodup) (hit : DR prog w X n sc vs iter fi) (hb : GS prog w X n sc vs body fb)
    (hs : ∀ env y, foldedSetIterable iter env y = pure y := by intro _ _; rfl) : GX prog w X n sc vs (.For (.Name x px) iter body [] pos) (gFor i fi fb) := by
  constructor
  intro a env A E s m ds Q ok R G hQ
  refine PySem.wpAny_For (wpAny_mono (hit.1 env A E s m _ ok R G.F hQ) (fun x s₁ p => wpAny_mono p (fun it s₂ p => ?_) fun _ _ x => x) fun _ _ x => x) (hs env)
  obtain ⟨xs, h₂, t₂, I, P, St, rfl, k₂, i₂, T, sm, q₂⟩ := p
  obtain rfl := T.it
  have G₂ := G.stay (G.F.keep k₂ i₂) G.fl k₂.L
  obtain ⟨mv₂, hn₂⟩ := G₂.F.ns
  obtain ⟨oL, esL, kL, hL, dL⟩ := ns_data hn₂
  have hIL : I ≠ env.locals := fun z => by
    obtain ⟨o, u, e, d⟩ := T.flds 0 _ T.st
    rw [z, hL] at e; cases e; rw [dL] at d; cases d
  have hIa : I ≠ a := fun z => by
    obtain ⟨o, u, e, d⟩ := T.flds 0 _ T.st
    obtain ⟨us, k, e', _⟩ := G₂.rows
    rw [z, e'] at e; cases e; cases d
  refine codeAny_forLoop (fun k s' => ∃ j m' ds' h' tk', s' = { s with heap := h', toks := tk' } ∧ j ≤ xs.length ∧ k = xs.length + 1 - j ∧ St j h' ∧ GOK X env vs a m' ds' h' ∧ (∀ b o, b ∉ X.W → b ≠ env.locals → b ≠ a → b ≠ I → h₂.get? b = some o → h'.get? b = some o) ∧ gforQ (fb a) i (xs.drop j) m' ds' Q)
    ?_ (xs.length + 1) ⟨0, m, ds, h₂, t₂, rfl, Nat.zero_le _, rfl, T.st, G₂, fun _ _ _ _ _ _ e => e, q₂⟩
  rintro k _ ⟨j, m', ds', h', tk', rfl, hj, rfl, hst, G', g', q'⟩
  have keep0 : ∀ {h'' : Heap}, (∀ b o, b ∉ X.W → b ≠ env.locals → b ≠ a → b ≠ I → h₂.get? b = some o → h''.get? b = some o) → KeepG X env.locals a s.heap h'' := fun g b o nw nl na e => g b o nw nl na (fun z => by rw [z, T.fresh] at e; cases e) (k₂ b o nw e)
  -- after the iterator has moved
  have moved : ∀ h'', (∀ b o, b ∉ [I] → h'.get? b = some o → h''.get? b = some o) → GOK X env vs a m' ds' h'' := fun h'' kk => by
    obtain ⟨oI, uI, eI, dI⟩ := T.flds j h' hst
    have st : Stands X h' h'' := fun b o e nw q => kk b o (fun z => by
      have z := List.mem_singleton.mp z
      rw [z, eI] at e; cases e
      rcases q with ⟨_, _, d⟩ | ⟨_, _, d⟩ | ⟨_, d⟩ | ⟨_, d⟩
      · rw [dI] at d; cases d
      · rw [dI] at d; cases d
      · rw [dI] at d; cases d
      · rw [z, T.inew] at d; cases d) e
    exact ⟨G'.F.stands st (X.stable h' h'' G'.F.inv fun b hb o e => kk b o (fun z => T.ioff (List.mem_singleton.mp z ▸ hb)) e), G'.fl, G'.rows.seqs G'.F.inv st.seqs G'.nw, G'.nb, G'.nw⟩
  by_cases hlt : j < xs.length
  · refine T.W.item j _ _ _ hlt hst fun v h'' tk'' hP hst'' kk => ?_
    have G'' := moved h'' kk
    obtain ⟨d, hd, ld, rd⟩ := T.says j v hP
    have tup : ∀ b o, h₂.get? b = some o → o.cls = .type "tuple" → (∃ vs n, o.data = .seq vs n) → h''.get? b = some o := fun b o e c q => by
      have hbI : b ≠ I := fun z => by
        obtain ⟨_, _, q⟩ := q
        obtain ⟨oI, uI, eI, dI⟩ := T.flds 0 h₂ T.st
        rw [z, eI] at e; cases e; rw [dI] at q; cases q
      refine kk b o (fun z => hbI (List.mem_singleton.mp z)) (g' b o (tuple_off i₂ e c) (fun z => ?_) (fun z => ?_) hbI e)
      · obtain ⟨_, _, q⟩ := q
        rw [z, hL] at e; cases e; rw [dL] at q; cases q
      · obtain ⟨us, k, e', _⟩ := G₂.rows
        rw [z, e'] at e; cases e
        exact absurd c (by show ¬ (Value.type "list" = Value.type "tuple"); decide)
    have rd'' : VR X h'' v d := .flat ld (lf_keep tup rd ld)
    have hdrop : xs.drop j = d :: xs.drop (j + 1) := by
      obtain ⟨l, e⟩ := List.getElem?_eq_some_iff.mp hd
      rw [List.drop_eq_getElem_cons l, e]
    rw [hdrop] at q'
    refine PySem.wpAny_assign_Name (store_sound (s := { s with heap := h'', toks := tk'' }) ok G''.F hi hk nd rd'' fun h₃ kl₃ g₃ F₃ => ?_)
    have G₃ := G''.stay F₃ (flatM_set G''.fl ld) kl₃
    refine wpAny_mono (hb.d a env A _ { s with heap := h₃, toks := tk'' + 1 } _ _ _ ok R G₃ q') (fun fl s₅ p => ?_) fun _ _ x => x
    obtain ⟨m₅, ds₅, h₅, t₅, rfl, kl₅, G₅, q₅⟩ := p
    have g₅ : ∀ b o, b ∉ X.W → b ≠ env.locals → b ≠ a → b ≠ I → h₂.get? b = some o → h₅.get? b = some o := fun b o nw nl na ni e => kl₅ b o nw nl na (kl₃ b o nw nl (kk b o (fun z => ni (List.mem_singleton.mp z)) (g' b o nw nl na ni e)))
    cases fl with
    | next =>
      refine ⟨xs.length + 1 - (j + 1), by omega, j + 1, m₅, ds₅, h₅, t₅, rfl, hlt, rfl, T.W.frame _ _ _ hst'' fun b hb o e => ?_, G₅, g₅, q₅⟩
      rw [List.mem_singleton.mp hb] at e ⊢
      exact kl₅ I o T.ioff hIL hIa (kl₃ I o T.ioff hIL e)
    | ret v =>
      obtain ⟨dv, rv, qv⟩ := q₅
      exact ⟨m₅, ds₅, h₅, t₅, rfl, keep0 g₅, G₅, dv, rv, qv⟩
    | brk => exact q₅.elim
    | cont => exact q₅.elim
  · have hje : j = xs.length := by omega
    subst hje
    refine T.W.done _ _ _ hst fun h'' tk'' kk => wpAny_execs_nil ?_
    rw [List.drop_length] at q'
    exact ⟨m', ds', h'', tk'', rfl, keep0 fun b o nw nl na ni e => kk b o (fun z => ni (List.mem_singleton.mp z)) (g' b o nw nl na ni e), moved h'' kk, q'⟩

theorem g_tuple {K : Frag} (G : Gnd K base) {x : Str} {i : Nat} {p1 p2 p3 pos : Pos} (hi : vs[i]? = some x) (hd : (x == ("__debug__" : Str)) = false) (hx : sc.names.lookup (Str.ofString "tuple") = some .globalImplicit) (hf : nsIn K mainGlobals "tuple" = some none)
    (hst : ∀ env, starEach [.Name x p1] env = [(false, eval (.Name x p1) env)] := by intro env; rfl) :
    GX prog w X n sc vs (.Return (some (.Call (.Name "tuple" p2) [.Name x p1] [] p3)) pos) (gTuple i) := by
  constructor
  intro a env A E s m ds Q ok R F hQ
  obtain ⟨hm, sm, hQ⟩ := hQ
  refine wpAny_Return_some (Call_Name (trees := [(false, eval (.Name x p1) env)]) (by rw [hst]; rfl) (name_builtin G "tuple" (.type "tuple") p2 hx hf (by boot_by_name) (by decide) ok F.F ?_))
  refine PyProof.Rows.callWith_type rfl (evalArgs_plain (spliced_cons (wpAny_mono (den_var x i p1 hi hd env A E s m _ ok R F.F (show getV m i _ by unfold getV; rw [hm])) (Q := fun v s₁ => PostE X s (fun d => d = hdl a) v s₁) (fun v s₁ p => ?_) fun _ _ x => x)))
  obtain ⟨_, h₁, t₁, rfl, k₁, i₁, r₁, rfl⟩ := p
  cases r₁.hdl_inv
  refine spliced_nil ?_
  show wpAny _ A (call (.type "tuple") [.ref a]) _ _ _
  have F₁ := F.stay (F.F.keep k₁ i₁) F.fl k₁.L
  obtain ⟨us, k, e₁, ra, l⟩ := F₁.rows
  refine call_tuple_list (s := { s with heap := h₁, toks := t₁ }) (l := a) (items := us) ⟨_, e₁, rfl, k, rfl⟩ (fun h' hk => ?_) (by rw [← Array.length_toList, ReadsAll.len ra]; exact small_line sm)
  have i' := X.stable h₁ h' i₁ fun b _ o e => hk b o e
  have kp := Keep.ofAll (X := X) hk
  have pn := post_new (s := { s with heap := h', toks := t₁ }) (T := "tuple") (.inl rfl) i' (readsAll_seqs i₁ kp.seqs ra l) l (Q := fun d => d = .tuple ds) rfl
  rw [Array.toArray_toList] at pn
  obtain ⟨_, h₃, t₃, e₃, k₃, i₃, r₃, rfl⟩ := pn
  have F₃ := F₁.stay (F₁.F.keep (kp.trans k₃) i₃) F₁.fl (kp.trans k₃).L
  exact ⟨m, ds, h₃, t₃, e₃, fun b o nw nl na e => (kp.trans k₃) b o nw (k₁ b o nw e), F₃, _, r₃, hQ⟩

theorem g_start {x : Str} {i : Nat} {ss : List Stmt} {g : Addr → RD} {p1 p2 pos : Pos} (hi : vs[i]? = some x) (hk : sc.names.lookup x = some .local) (nd : vs.Nodup) (h : GS prog w X n sc vs ss g)
    (hs : ∀ env, swapsWith (.List [] p2) (some (.Name x p1)) pos.line env = pure false := by intro _; rfl) :
    DS prog w X n sc vs (.Assign [.Name x p1] (.List [] p2) pos :: ss) (gStart i g) := by
  constructor
  intro env A E s m Q ok R F hQ
  obtain ⟨fl, hQ⟩ := hQ
  refine wpAny_execs_cons (wpAny_Assign_Name (wpAny_List (spliced_nil ⟨Nat.zero_le _, ?_⟩)) (hs env))
  have k₁ := Keep.push (X := X) s.heap { cls := .type "list", data := .seq #[] }
  have i₁ := inv_push F.inv { cls := .type "list", data := .seq #[] }
  have nw := new_off F.inv
  refine store_sound (s := { s with heap := s.heap.push { cls := .type "list", data := .seq #[] } }) ok (F.keep k₁ i₁) hi hk nd (.hnd s.heap.objs.size) fun h₂ kl₂ g₂ F₂ => ?_
  have fresh : ∀ b o, s.heap.get? b = some o → b ≠ s.heap.objs.size := fun b o e z => absurd (Heap.lt_size e) (by rw [z]; exact Nat.lt_irrefl _)
  have hL : s.heap.objs.size ≠ env.locals := fun z => by
    obtain ⟨mv, hn⟩ := F.ns
    obtain ⟨oL, esL, kL, e, dL⟩ := ns_data hn
    exact fresh _ _ e z.symm
  have e₂ : h₂.get? s.heap.objs.size = some { cls := .type "list", data := .seq #[] } := (g₂ _ hL).trans (Heap.get?_push_size _ rfl)
  have nb : base.get? s.heap.objs.size = none := by
    cases e : base.get? s.heap.objs.size with
    | none => rfl
    | some o' => exact absurd rfl (fresh _ _ (F.stays _ _ e))
  have G₂ : GOK X env vs s.heap.objs.size (m.set i (some (hdl s.heap.objs.size))) [] h₂ := ⟨F₂, by
    refine List.all_eq_true.mpr fun o ho => ?_
    rcases List.mem_or_eq_of_mem_set ho with ho | rfl
    · exact List.all_eq_true.mp fl o ho
    · rfl, ⟨#[], 0, e₂, .nil, rfl⟩, nb, nw⟩
  refine wpAny_mono (h.d _ env A E { s with heap := h₂, toks := s.toks + 1 } _ _ _ ok R G₂ (hQ _)) (fun fl s₃ p => ?_) fun _ _ x => x
  obtain ⟨m', ds', h₃, t₃, rfl, kg, G₃, q⟩ := p
  exact ⟨m', h₃, t₃, rfl, fun b o nw nl e => kg b o nw nl (fresh b o e) (kl₂ b o nw nl (k₁ b o nw e)), G₃.F, q⟩
end
end Mine

namespace Mine
def kept : List Nat := [0,2,3,5,6,7,8,10,11,12,14,16,17,18,19,20,21,22,23,24,25,26,27,28,29,30,31,32]
def view : Program := { PySem.Challenge.pw_xm0165_01 with main := { PySem.Challenge.pw_xm0165_01.main with body := kept.filterMap fun i => PySem.Challenge.pw_xm0165_01.main.body[i]? } }
def loose : List Str := [Str.ofString "ChanError", Str.ofString "has_break", Str.ofString "is_terminating"]
def pwB : List Stmt := PySem.Challenge.pw_xm0165_01.main.body
def sAt (l : List Stmt) (i : Nat) : Stmt := l.getD i (.Pass ⟨0, 0, 0, 0⟩)
def fParams : Stmt → Arguments
  | .FunctionDef _ a .. => a
  | _ => ⟨[], [], none, [], [], none, []⟩
def fBody : Stmt → List Stmt
  | .FunctionDef _ _ b .. => b
  | _ => []
def cBody : Stmt → List Stmt
  | .ClassDef _ _ _ b .. => b
  | _ => []
def fScope : Stmt → Scope
  | .FunctionDef _ _ _ _ _ _ s .. => s
  | _ => ⟨.module, [], false, false, []⟩
def myK (P : Params) : Frag := [
  (2, { cls := Value.none, data := Data.dict #[{ hash := PyData.keyHash P (Str.ofString "type.__subclasses__.Exception.0"), key := Value.str (Str.ofString "type.__subclasses__.Exception.0") 224, val := Value.int 39 0 }, { hash := PyData.keyHash P (Str.ofString "type.__subclasses__.Exception.n"), key := Value.str (Str.ofString "type.__subclasses__.Exception.n") 225, val := Value.int 1 0 }] 2 }),
  (3, { cls := Value.type "dict", data := Data.dict #[{ hash := PyData.keyHash P (Str.ofString "__name__"), key := Value.str (Str.ofString "__name__") 165, val := Value.str (Str.ofString "law_xm0165_01") 377 }, { hash := PyData.keyHash P (Str.ofString "__doc__"), key := Value.str (Str.ofString "__doc__") 166, val := Value.none }, { hash := PyData.keyHash P (Str.ofString "__package__"), key := Value.str (Str.ofString "__package__") 167, val := Value.none }, { hash := PyData.keyHash P (Str.ofString "__loader__"), key := Value.str (Str.ofString "__loader__") 168, val := Value.builtin "__main__.__loader__#opaque" }, { hash := PyData.keyHash P (Str.ofString "__spec__"), key := Value.str (Str.ofString "__spec__") 169, val := Value.none }, { hash := PyData.keyHash P (Str.ofString "__annotations__"), key := Value.str (Str.ofString "__annotations__") 170, val := Value.ref 6 }, { hash := PyData.keyHash P (Str.ofString "__builtins__"), key := Value.str (Str.ofString "__builtins__") 171, val := Value.ref 4 }, { hash := PyData.keyHash P (Str.ofString "__file__"), key := Value.str (Str.ofString "__file__") 173, val := Value.str (Str.ofString "/claim/cut.py") 172 }, { hash := PyData.keyHash P (Str.ofString "__cached__"), key := Value.str (Str.ofString "__cached__") 174, val := Value.none }, { hash := PyData.keyHash P (Str.ofString "_wall"), key := Value.str (Str.ofString "_wall") 193, val := Value.ref 21 }, { hash := PyData.keyHash P (Str.ofString "ChanError"), key := Value.str (Str.ofString "ChanError") 227, val := Value.ref 39 }, { hash := PyData.keyHash P (Str.ofString "FlowFault"), key := Value.str (Str.ofString "FlowFault") 243, val := Value.ref 52 }, { hash := PyData.keyHash P (Str.ofString "LOOPS"), key := Value.str (Str.ofString "LOOPS") 248, val := Value.ref 55 }, { hash := PyData.keyHash P (Str.ofString "LEFT_BY_BREAK"), key := Value.str (Str.ofString "LEFT_BY_BREAK") 254, val := Value.ref 56 }, { hash := PyData.keyHash P (Str.ofString "case_rows"), key := Value.str (Str.ofString "case_rows") 262, val := Value.ref 63 }, { hash := PyData.keyHash P (Str.ofString "inner_lists"), key := Value.str (Str.ofString "inner_lists") 268, val := Value.ref 68 }, { hash := PyData.keyHash P (Str.ofString "has_break"), key := Value.str (Str.ofString "has_break") 280, val := Value.ref 76 }, { hash := PyData.keyHash P (Str.ofString "is_panic"), key := Value.str (Str.ofString "is_panic") 289, val := Value.ref 83 }, { hash := PyData.keyHash P (Str.ofString "is_case_ended"), key := Value.str (Str.ofString "is_case_ended") 297, val := Value.ref 90 }, { hash := PyData.keyHash P (Str.ofString "ends_by_cases"), key := Value.str (Str.ofString "ends_by_cases") 303, val := Value.ref 95 }, { hash := PyData.keyHash P (Str.ofString "is_terminating"), key := Value.str (Str.ofString "is_terminating") 313, val := Value.ref 104 }, { hash := PyData.keyHash P (Str.ofString "LabelChecker"), key := Value.str (Str.ofString "LabelChecker") 376, val := Value.ref 147 }, { hash := PyData.keyHash P (Str.ofString "_law_reel"), key := Value.str (Str.ofString "_law_reel") 387, val := Value.ref 158 }, { hash := PyData.keyHash P (Str.ofString "_law_wound"), key := Value.str (Str.ofString "_law_wound") 396, val := Value.ref 165 }, { hash := PyData.keyHash P (Str.ofString "_law_one"), key := Value.str (Str.ofString "_law_one") 404, val := Value.ref 172 }, { hash := PyData.keyHash P (Str.ofString "_law_block"), key := Value.str (Str.ofString "_law_block") 411, val := Value.ref 179 }, { hash := PyData.keyHash P (Str.ofString "_law_leaf"), key := Value.str (Str.ofString "_law_leaf") 420, val := Value.ref 186 }, { hash := PyData.keyHash P (Str.ofString "_law_body"), key := Value.str (Str.ofString "_law_body") 426, val := Value.ref 191 }, { hash := PyData.keyHash P (Str.ofString "_law_cases"), key := Value.str (Str.ofString "_law_cases") 438, val := Value.ref 198 }, { hash := PyData.keyHash P (Str.ofString "_law_statement"), key := Value.str (Str.ofString "_law_statement") 452, val := Value.ref 205 }, { hash := PyData.keyHash P (Str.ofString "_law_held"), key := Value.str (Str.ofString "_law_held") 458, val := Value.ref 210 }, { hash := PyData.keyHash P (Str.ofString "_law_labels"), key := Value.str (Str.ofString "_law_labels") 465, val := Value.ref 217 }, { hash := PyData.keyHash P (Str.ofString "_law_leaves"), key := Value.str (Str.ofString "_law_leaves") 477, val := Value.ref 224 }, { hash := PyData.keyHash P (Str.ofString "_law_is_open"), key := Value.str (Str.ofString "_law_is_open") 487, val := Value.ref 231 }, { hash := PyData.keyHash P (Str.ofString "_law_are_open"), key := Value.str (Str.ofString "_law_are_open") 493, val := Value.ref 236 }, { hash := PyData.keyHash P (Str.ofString "_law_statement_right"), key := Value.str (Str.ofString "_law_statement_right") 499, val := Value.ref 241 }, { hash := PyData.keyHash P (Str.ofString "_law_body_right"), key := Value.str (Str.ofString "_law_body_right") 505, val := Value.ref 246 }, { hash := PyData.keyHash P (Str.ofString "_law_lead_right"), key := Value.str (Str.ofString "_law_lead_right") 511, val := Value.ref 251 }, { hash := PyData.keyHash P (Str.ofString "law"), key := Value.str (Str.ofString "law") 524, val := Value.ref 258 }] 39 }),
  (15, { cls := Value.type "tuple", data := Data.seq #[] }),
  (17, { cls := Value.type "tuple", data := Data.seq #[Value.str (Str.ofString "k") 190] }),
  (18, { cls := Value.type "tuple", data := Data.seq #[] }),
  (20, { cls := Value.type "code", data := Data.fields #[Value.str (Str.ofString "_wall") 187, Value.str (Str.ofString "_wall") 188, Value.str (Str.ofString "/claim/cut.py") 189, Value.int 1 0, Value.int 1 0, Value.int 0 0, Value.int 0 0, Value.int 3 0, Value.ref 15, Value.bool true, Value.int 181 0, Value.ref 16, Value.none, Value.ref 17, Value.ref 18, Value.ref 19, Value.int 191 0, Value.int 1 0, Value.str (Str.ofString "/claim/cut.py") 192] }),
  (21, { cls := Value.type "function", data := Data.func { name := Str.ofString "_wall", qualname := Str.ofString "_wall", params := fParams (sAt pwB 0), body := FuncBody.stmts (fBody (sAt pwB 0)), scope := fScope (sAt pwB 0), globals := 3, closure := [], defaults := Value.none, kwdefaults := Value.none, pyModule := Value.str (Str.ofString "__main__") 164, code := Value.ref 20 } }),
  (22, { cls := Value.type "tuple", data := Data.seq #[Value.type "Exception"] }),
  (29, { cls := Value.type "tuple", data := Data.seq #[Value.int 0 208] }),
  (30, { cls := Value.type "tuple", data := Data.seq #[] }),
  (32, { cls := Value.type "tuple", data := Data.seq #[Value.str (Str.ofString "self") 212, Value.str (Str.ofString "message") 213, Value.str (Str.ofString "spot") 214] }),
  (33, { cls := Value.type "tuple", data := Data.seq #[] }),
  (35, { cls := Value.type "code", data := Data.fields #[Value.str (Str.ofString "__init__") 209, Value.str (Str.ofString "ChanError.__init__") 210, Value.str (Str.ofString "/claim/cut.py") 211, Value.int 7 0, Value.int 3 0, Value.int 0 0, Value.int 0 0, Value.int 3 0, Value.ref 30, Value.bool true, Value.int 181 0, Value.ref 31, Value.none, Value.ref 32, Value.ref 33, Value.ref 34, Value.int 215 0, Value.int 7 0, Value.str (Str.ofString "/claim/cut.py") 216] }),
  (36, { cls := Value.type "function", data := Data.func { name := Str.ofString "__init__", qualname := Str.ofString "ChanError.__init__", params := fParams (sAt (cBody (sAt pwB 2)) 0), body := FuncBody.stmts (fBody (sAt (cBody (sAt pwB 2)) 0)), scope := fScope (sAt (cBody (sAt pwB 2)) 0), globals := 3, closure := [], defaults := Value.ref 29, kwdefaults := Value.none, pyModule := Value.str (Str.ofString "chancore.errors") 194, code := Value.ref 35 } }),
  (37, { cls := Value.type "tuple", data := Data.seq #[Value.str (Str.ofString "message") 218, Value.str (Str.ofString "spot") 219] }),
  (38, { cls := Value.type "dict", data := Data.dict #[{ hash := PyData.keyHash P (Str.ofString "__module__"), key := Value.str (Str.ofString "__module__") 203, val := Value.str (Str.ofString "chancore.errors") 194 }, { hash := PyData.keyHash P (Str.ofString "__firstlineno__"), key := Value.str (Str.ofString "__firstlineno__") 207, val := Value.int 5 206 }, { hash := PyData.keyHash P (Str.ofString "__init__"), key := Value.str (Str.ofString "__init__") 217, val := Value.ref 36 }, { hash := PyData.keyHash P (Str.ofString "__static_attributes__"), key := Value.str (Str.ofString "__static_attributes__") 220, val := Value.ref 37 }, { hash := PyData.keyHash P (Str.ofString "__weakref__"), key := Value.str (Str.ofString "__weakref__") 222, val := Value.ref 40 }, { hash := PyData.keyHash P (Str.ofString "__doc__"), key := Value.str (Str.ofString "__doc__") 223, val := Value.none }] 3 }),
  (39, { cls := Value.type "type", data := Data.cls { name := Str.ofString "ChanError", bases := [Value.type "Exception"], mro := [Value.ref 39, Value.type "Exception", Value.type "BaseException", Value.type "object"], ns := 38, qualname := Str.ofString "ChanError", subclasses := [Value.ref 52] }, slots := #[some (Value.ref 22), none, some (Value.str (Str.ofString "ChanError") 196), some (Value.str (Str.ofString "ChanError") 204), some (Value.builtin "Exception.__new__"), some (Value.bool true)] }),
  (40, { cls := Value.type "getset_descriptor", data := Data.fields #[Value.str (Str.ofString "__weakref__") 221, Value.ref 39, Value.builtin "ExceptionGroup.__weakref__", Value.none] }),
  (43, { cls := Value.type "tuple", data := Data.seq #[Value.ref 39] }),
  (50, { cls := Value.type "tuple", data := Data.seq #[] }),
  (51, { cls := Value.type "dict", data := Data.dict #[{ hash := PyData.keyHash P (Str.ofString "__module__"), key := Value.str (Str.ofString "__module__") 235, val := Value.str (Str.ofString "chancore.errors") 194 }, { hash := PyData.keyHash P (Str.ofString "__firstlineno__"), key := Value.str (Str.ofString "__firstlineno__") 239, val := Value.int 11 238 }, { hash := PyData.keyHash P (Str.ofString "__static_attributes__"), key := Value.str (Str.ofString "__static_attributes__") 240, val := Value.ref 50 }, { hash := PyData.keyHash P (Str.ofString "__doc__"), key := Value.str (Str.ofString "__doc__") 241, val := Value.none }] 2 }),
  (52, { cls := Value.type "type", data := Data.cls { name := Str.ofString "FlowFault", bases := [Value.ref 39], mro := [Value.ref 52, Value.ref 39, Value.type "Exception", Value.type "BaseException", Value.type "object"], ns := 51, qualname := Str.ofString "FlowFault" }, slots := #[some (Value.ref 43), none, some (Value.str (Str.ofString "FlowFault") 228), some (Value.str (Str.ofString "FlowFault") 236), some (Value.builtin "Exception.__new__"), some (Value.bool true)] }),
  (55, { cls := Value.type "tuple", data := Data.seq #[Value.str (Str.ofString "for") 246, Value.str (Str.ofString "range") 247] }),
  (56, { cls := Value.type "tuple", data := Data.seq #[Value.str (Str.ofString "for") 249, Value.str (Str.ofString "range") 250, Value.str (Str.ofString "switch") 251, Value.str (Str.ofString "typeswitch") 252, Value.str (Str.ofString "choose") 253] }),
  (57, { cls := Value.type "tuple", data := Data.seq #[] }),
  (59, { cls := Value.type "tuple", data := Data.seq #[Value.str (Str.ofString "statement") 258, Value.str (Str.ofString "places") 259] }),
  (60, { cls := Value.type "tuple", data := Data.seq #[] }),
  (62, { cls := Value.type "code", data := Data.fields #[Value.str (Str.ofString "case_rows") 255, Value.str (Str.ofString "case_rows") 256, Value.str (Str.ofString "/claim/cut.py") 257, Value.int 16 0, Value.int 1 0, Value.int 0 0, Value.int 0 0, Value.int 3 0, Value.ref 57, Value.bool true, Value.int 181 0, Value.ref 58, Value.none, Value.ref 59, Value.ref 60, Value.ref 61, Value.int 260 0, Value.int 16 0, Value.str (Str.ofString "/claim/cut.py") 261] }),
  (63, { cls := Value.type "function", data := Data.func { name := Str.ofString "case_rows", qualname := Str.ofString "case_rows", params := fParams (sAt pwB 7), body := FuncBody.stmts (fBody (sAt pwB 7)), scope := fScope (sAt pwB 7), globals := 3, closure := [], defaults := Value.none, kwdefaults := Value.none, pyModule := Value.str (Str.ofString "chancore.flow_checks") 244, code := Value.ref 62 } }),
  (64, { cls := Value.type "tuple", data := Data.seq #[] }),
  (67, { cls := Value.type "code", data := Data.fields #[Value.str (Str.ofString "inner_lists") 263, Value.str (Str.ofString "inner_lists") 264, Value.str (Str.ofString "/claim/cut.py") 265, Value.int 19 0, Value.int 1 0, Value.int 0 0, Value.int 0 0, Value.int 3 0, Value.ref 64, Value.bool true, Value.int 181 0, Value.ref 65, Value.none, Value.none, Value.none, Value.ref 66, Value.int 266 0, Value.int 19 0, Value.str (Str.ofString "/claim/cut.py") 267] }),
  (68, { cls := Value.type "function", data := Data.func { name := Str.ofString "inner_lists", qualname := Str.ofString "inner_lists", params := fParams (sAt pwB 8), body := FuncBody.stmts (fBody (sAt pwB 8)), scope := fScope (sAt pwB 8), globals := 3, closure := [], defaults := Value.none, kwdefaults := Value.none, pyModule := Value.str (Str.ofString "chancore.flow_checks") 244, code := Value.ref 67 } }),
  (69, { cls := Value.type "tuple", data := Data.seq #[Value.bool true] }),
  (70, { cls := Value.type "tuple", data := Data.seq #[] }),
  (72, { cls := Value.type "tuple", data := Data.seq #[Value.str (Str.ofString "statements") 272, Value.str (Str.ofString "label") 273, Value.str (Str.ofString "is_near") 274, Value.str (Str.ofString "statement") 275, Value.str (Str.ofString "near") 276, Value.str (Str.ofString "inner") 277] }),
  (73, { cls := Value.type "tuple", data := Data.seq #[] }),
  (75, { cls := Value.type "code", data := Data.fields #[Value.str (Str.ofString "has_break") 269, Value.str (Str.ofString "has_break") 270, Value.str (Str.ofString "/claim/cut.py") 271, Value.int 32 0, Value.int 3 0, Value.int 0 0, Value.int 0 0, Value.int 3 0, Value.ref 70, Value.bool true, Value.int 181 0, Value.ref 71, Value.none, Value.ref 72, Value.ref 73, Value.ref 74, Value.int 278 0, Value.int 32 0, Value.str (Str.ofString "/claim/cut.py") 279] }),
  (76, { cls := Value.type "function", data := Data.func { name := Str.ofString "has_break", qualname := Str.ofString "has_break", params := fParams (sAt pwB 9), body := FuncBody.stmts (fBody (sAt pwB 9)), scope := fScope (sAt pwB 9), globals := 3, closure := [], defaults := Value.ref 69, kwdefaults := Value.none, pyModule := Value.str (Str.ofString "chancore.flow_checks") 244, code := Value.ref 75 } }),
  (77, { cls := Value.type "tuple", data := Data.seq #[] }),
  (79, { cls := Value.type "tuple", data := Data.seq #[Value.str (Str.ofString "statement") 284, Value.str (Str.ofString "others") 285, Value.str (Str.ofString "called") 286] }),
  (80, { cls := Value.type "tuple", data := Data.seq #[] }),
  (82, { cls := Value.type "code", data := Data.fields #[Value.str (Str.ofString "is_panic") 281, Value.str (Str.ofString "is_panic") 282, Value.str (Str.ofString "/claim/cut.py") 283, Value.int 42 0, Value.int 2 0, Value.int 0 0, Value.int 0 0, Value.int 3 0, Value.ref 77, Value.bool true, Value.int 181 0, Value.ref 78, Value.none, Value.ref 79, Value.ref 80, Value.ref 81, Value.int 287 0, Value.int 42 0, Value.str (Str.ofString "/claim/cut.py") 288] }),
  (83, { cls := Value.type "function", data := Data.func { name := Str.ofString "is_panic", qualname := Str.ofString "is_panic", params := fParams (sAt pwB 10), body := FuncBody.stmts (fBody (sAt pwB 10)), scope := fScope (sAt pwB 10), globals := 3, closure := [], defaults := Value.none, kwdefaults := Value.none, pyModule := Value.str (Str.ofString "chancore.flow_checks") 244, code := Value.ref 82 } }),
  (84, { cls := Value.type "tuple", data := Data.seq #[] }),
  (86, { cls := Value.type "tuple", data := Data.seq #[Value.str (Str.ofString "statements") 293, Value.str (Str.ofString "others") 294] }),
  (87, { cls := Value.type "tuple", data := Data.seq #[] }),
  (89, { cls := Value.type "code", data := Data.fields #[Value.str (Str.ofString "is_case_ended") 290, Value.str (Str.ofString "is_case_ended") 291, Value.str (Str.ofString "/claim/cut.py") 292, Value.int 47 0, Value.int 2 0, Value.int 0 0, Value.int 0 0, Value.int 3 0, Value.ref 84, Value.bool true, Value.int 181 0, Value.ref 85, Value.none, Value.ref 86, Value.ref 87, Value.ref 88, Value.int 295 0, Value.int 47 0, Value.str (Str.ofString "/claim/cut.py") 296] }),
  (90, { cls := Value.type "function", data := Data.func { name := Str.ofString "is_case_ended", qualname := Str.ofString "is_case_ended", params := fParams (sAt pwB 11), body := FuncBody.stmts (fBody (sAt pwB 11)), scope := fScope (sAt pwB 11), globals := 3, closure := [], defaults := Value.none, kwdefaults := Value.none, pyModule := Value.str (Str.ofString "chancore.flow_checks") 244, code := Value.ref 89 } }),
  (91, { cls := Value.type "tuple", data := Data.seq #[] }),
  (94, { cls := Value.type "code", data := Data.fields #[Value.str (Str.ofString "ends_by_cases") 298, Value.str (Str.ofString "ends_by_cases") 299, Value.str (Str.ofString "/claim/cut.py") 300, Value.int 49 0, Value.int 2 0, Value.int 0 0, Value.int 0 0, Value.int 3 0, Value.ref 91, Value.bool true, Value.int 181 0, Value.ref 92, Value.none, Value.none, Value.none, Value.ref 93, Value.int 301 0, Value.int 49 0, Value.str (Str.ofString "/claim/cut.py") 302] }),
  (95, { cls := Value.type "function", data := Data.func { name := Str.ofString "ends_by_cases", qualname := Str.ofString "ends_by_cases", params := fParams (sAt pwB 12), body := FuncBody.stmts (fBody (sAt pwB 12)), scope := fScope (sAt pwB 12), globals := 3, closure := [], defaults := Value.none, kwdefaults := Value.none, pyModule := Value.str (Str.ofString "chancore.flow_checks") 244, code := Value.ref 94 } }),
  (96, { cls := Value.type "tuple", data := Data.seq #[] }),
  (97, { cls := Value.type "tuple", data := Data.seq #[Value.ref 96] }),
  (98, { cls := Value.type "tuple", data := Data.seq #[] }),
  (100, { cls := Value.type "tuple", data := Data.seq #[Value.str (Str.ofString "statements") 307, Value.str (Str.ofString "others") 308, Value.str (Str.ofString "last") 309, Value.str (Str.ofString "kind") 310] }),
  (101, { cls := Value.type "tuple", data := Data.seq #[] }),
  (103, { cls := Value.type "code", data := Data.fields #[Value.str (Str.ofString "is_terminating") 304, Value.str (Str.ofString "is_terminating") 305, Value.str (Str.ofString "/claim/cut.py") 306, Value.int 57 0, Value.int 2 0, Value.int 0 0, Value.int 0 0, Value.int 3 0, Value.ref 98, Value.bool true, Value.int 181 0, Value.ref 99, Value.none, Value.ref 100, Value.ref 101, Value.ref 102, Value.int 311 0, Value.int 57 0, Value.str (Str.ofString "/claim/cut.py") 312] }),
  (104, { cls := Value.type "function", data := Data.func { name := Str.ofString "is_terminating", qualname := Str.ofString "is_terminating", params := fParams (sAt pwB 13), body := FuncBody.stmts (fBody (sAt pwB 13)), scope := fScope (sAt pwB 13), globals := 3, closure := [], defaults := Value.ref 97, kwdefaults := Value.none, pyModule := Value.str (Str.ofString "chancore.flow_checks") 244, code := Value.ref 103 } }),
  (112, { cls := Value.type "tuple", data := Data.seq #[] }),
  (114, { cls := Value.type "tuple", data := Data.seq #[Value.str (Str.ofString "self") 329] }),
  (115, { cls := Value.type "tuple", data := Data.seq #[] }),
  (117, { cls := Value.type "code", data := Data.fields #[Value.str (Str.ofString "__init__") 326, Value.str (Str.ofString "LabelChecker.__init__") 327, Value.str (Str.ofString "/claim/cut.py") 328, Value.int 77 0, Value.int 1 0, Value.int 0 0, Value.int 0 0, Value.int 3 0, Value.ref 112, Value.bool true, Value.int 181 0, Value.ref 113, Value.none, Value.ref 114, Value.ref 115, Value.ref 116, Value.int 330 0, Value.int 77 0, Value.str (Str.ofString "/claim/cut.py") 331] }),
  (118, { cls := Value.type "function", data := Data.func { name := Str.ofString "__init__", qualname := Str.ofString "LabelChecker.__init__", params := fParams (sAt (cBody (sAt pwB 14)) 0), body := FuncBody.stmts (fBody (sAt (cBody (sAt pwB 14)) 0)), scope := fScope (sAt (cBody (sAt pwB 14)) 0), globals := 3, closure := [], defaults := Value.none, kwdefaults := Value.none, pyModule := Value.str (Str.ofString "chancore.flow_checks") 244, code := Value.ref 117 } }),
  (119, { cls := Value.type "tuple", data := Data.seq #[] }),
  (121, { cls := Value.type "tuple", data := Data.seq #[Value.str (Str.ofString "self") 336, Value.str (Str.ofString "statements") 337, Value.str (Str.ofString "statement") 338] }),
  (122, { cls := Value.type "tuple", data := Data.seq #[] }),
  (124, { cls := Value.type "code", data := Data.fields #[Value.str (Str.ofString "all") 333, Value.str (Str.ofString "LabelChecker.all") 334, Value.str (Str.ofString "/claim/cut.py") 335, Value.int 82 0, Value.int 2 0, Value.int 0 0, Value.int 0 0, Value.int 3 0, Value.ref 119, Value.bool true, Value.int 181 0, Value.ref 120, Value.none, Value.ref 121, Value.ref 122, Value.ref 123, Value.int 339 0, Value.int 82 0, Value.str (Str.ofString "/claim/cut.py") 340] }),
  (125, { cls := Value.type "function", data := Data.func { name := Str.ofString "all", qualname := Str.ofString "LabelChecker.all", params := fParams (sAt (cBody (sAt pwB 14)) 1), body := FuncBody.stmts (fBody (sAt (cBody (sAt pwB 14)) 1)), scope := fScope (sAt (cBody (sAt pwB 14)) 1), globals := 3, closure := [], defaults := Value.none, kwdefaults := Value.none, pyModule := Value.str (Str.ofString "chancore.flow_checks") 244, code := Value.ref 124 } }),
  (126, { cls := Value.type "tuple", data := Data.seq #[] }),
  (128, { cls := Value.type "tuple", data := Data.seq #[Value.str (Str.ofString "self") 345, Value.str (Str.ofString "statement") 346, Value.str (Str.ofString "kind") 347, Value.str (Str.ofString "inner") 348, Value.str (Str.ofString "label") 349] }),
  (129, { cls := Value.type "tuple", data := Data.seq #[] }),
  (131, { cls := Value.type "code", data := Data.fields #[Value.str (Str.ofString "statement") 342, Value.str (Str.ofString "LabelChecker.statement") 343, Value.str (Str.ofString "/claim/cut.py") 344, Value.int 86 0, Value.int 2 0, Value.int 0 0, Value.int 0 0, Value.int 3 0, Value.ref 126, Value.bool true, Value.int 181 0, Value.ref 127, Value.none, Value.ref 128, Value.ref 129, Value.ref 130, Value.int 350 0, Value.int 86 0, Value.str (Str.ofString "/claim/cut.py") 351] }),
  (132, { cls := Value.type "function", data := Data.func { name := Str.ofString "statement", qualname := Str.ofString "LabelChecker.statement", params := fParams (sAt (cBody (sAt pwB 14)) 2), body := FuncBody.stmts (fBody (sAt (cBody (sAt pwB 14)) 2)), scope := fScope (sAt (cBody (sAt pwB 14)) 2), globals := 3, closure := [], defaults := Value.none, kwdefaults := Value.none, pyModule := Value.str (Str.ofString "chancore.flow_checks") 244, code := Value.ref 131 } }),
  (133, { cls := Value.type "tuple", data := Data.seq #[] }),
  (136, { cls := Value.type "code", data := Data.fields #[Value.str (Str.ofString "lead") 353, Value.str (Str.ofString "LabelChecker.lead") 354, Value.str (Str.ofString "/claim/cut.py") 355, Value.int 104 0, Value.int 2 0, Value.int 0 0, Value.int 0 0, Value.int 3 0, Value.ref 133, Value.bool true, Value.int 181 0, Value.ref 134, Value.none, Value.none, Value.none, Value.ref 135, Value.int 356 0, Value.int 104 0, Value.str (Str.ofString "/claim/cut.py") 357] }),
  (137, { cls := Value.type "function", data := Data.func { name := Str.ofString "lead", qualname := Str.ofString "LabelChecker.lead", params := fParams (sAt (cBody (sAt pwB 14)) 3), body := FuncBody.stmts (fBody (sAt (cBody (sAt pwB 14)) 3)), scope := fScope (sAt (cBody (sAt pwB 14)) 3), globals := 3, closure := [], defaults := Value.none, kwdefaults := Value.none, pyModule := Value.str (Str.ofString "chancore.flow_checks") 244, code := Value.ref 136 } }),
  (138, { cls := Value.type "tuple", data := Data.seq #[] }),
  (140, { cls := Value.type "tuple", data := Data.seq #[Value.str (Str.ofString "self") 362] }),
  (141, { cls := Value.type "tuple", data := Data.seq #[] }),
  (143, { cls := Value.type "code", data := Data.fields #[Value.str (Str.ofString "check_used") 359, Value.str (Str.ofString "LabelChecker.check_used") 360, Value.str (Str.ofString "/claim/cut.py") 361, Value.int 113 0, Value.int 1 0, Value.int 0 0, Value.int 0 0, Value.int 3 0, Value.ref 138, Value.bool true, Value.int 181 0, Value.ref 139, Value.none, Value.ref 140, Value.ref 141, Value.ref 142, Value.int 363 0, Value.int 113 0, Value.str (Str.ofString "/claim/cut.py") 364] }),
  (144, { cls := Value.type "function", data := Data.func { name := Str.ofString "check_used", qualname := Str.ofString "LabelChecker.check_used", params := fParams (sAt (cBody (sAt pwB 14)) 4), body := FuncBody.stmts (fBody (sAt (cBody (sAt pwB 14)) 4)), scope := fScope (sAt (cBody (sAt pwB 14)) 4), globals := 3, closure := [], defaults := Value.none, kwdefaults := Value.none, pyModule := Value.str (Str.ofString "chancore.flow_checks") 244, code := Value.ref 143 } }),
  (145, { cls := Value.type "tuple", data := Data.seq #[Value.str (Str.ofString "open") 366, Value.str (Str.ofString "told") 367, Value.str (Str.ofString "used") 368] }),
  (146, { cls := Value.type "dict", data := Data.dict #[{ hash := PyData.keyHash P (Str.ofString "__module__"), key := Value.str (Str.ofString "__module__") 321, val := Value.str (Str.ofString "chancore.flow_checks") 244 }, { hash := PyData.keyHash P (Str.ofString "__firstlineno__"), key := Value.str (Str.ofString "__firstlineno__") 325, val := Value.int 75 324 }, { hash := PyData.keyHash P (Str.ofString "__init__"), key := Value.str (Str.ofString "__init__") 332, val := Value.ref 118 }, { hash := PyData.keyHash P (Str.ofString "all"), key := Value.str (Str.ofString "all") 341, val := Value.ref 125 }, { hash := PyData.keyHash P (Str.ofString "statement"), key := Value.str (Str.ofString "statement") 352, val := Value.ref 132 }, { hash := PyData.keyHash P (Str.ofString "lead"), key := Value.str (Str.ofString "lead") 358, val := Value.ref 137 }, { hash := PyData.keyHash P (Str.ofString "check_used"), key := Value.str (Str.ofString "check_used") 365, val := Value.ref 144 }, { hash := PyData.keyHash P (Str.ofString "__static_attributes__"), key := Value.str (Str.ofString "__static_attributes__") 369, val := Value.ref 145 }, { hash := PyData.keyHash P (Str.ofString "__dict__"), key := Value.str (Str.ofString "__dict__") 371, val := Value.ref 148 }, { hash := PyData.keyHash P (Str.ofString "__weakref__"), key := Value.str (Str.ofString "__weakref__") 373, val := Value.ref 149 }, { hash := PyData.keyHash P (Str.ofString "__doc__"), key := Value.str (Str.ofString "__doc__") 374, val := Value.none }] 4 }),
  (147, { cls := Value.type "type", data := Data.cls { name := Str.ofString "LabelChecker", bases := [Value.type "object"], mro := [Value.ref 147, Value.type "object"], ns := 146, qualname := Str.ofString "LabelChecker" }, slots := #[none, none, some (Value.str (Str.ofString "LabelChecker") 314), some (Value.str (Str.ofString "LabelChecker") 322), some (Value.builtin "object.__new__"), some (Value.bool true)] }),
  (148, { cls := Value.type "getset_descriptor", data := Data.fields #[Value.str (Str.ofString "__dict__") 370, Value.ref 147, Value.builtin "function.__dict__", Value.builtin "function.__dict__#set"] }),
  (149, { cls := Value.type "getset_descriptor", data := Data.fields #[Value.str (Str.ofString "__weakref__") 372, Value.ref 147, Value.builtin "ExceptionGroup.__weakref__", Value.none] }),
  (152, { cls := Value.type "tuple", data := Data.seq #[] }),
  (154, { cls := Value.type "tuple", data := Data.seq #[Value.str (Str.ofString "script") 382, Value.str (Str.ofString "told") 383, Value.str (Str.ofString "size") 384] }),
  (155, { cls := Value.type "tuple", data := Data.seq #[] }),
  (157, { cls := Value.type "code", data := Data.fields #[Value.str (Str.ofString "_law_reel") 379, Value.str (Str.ofString "_law_reel") 380, Value.str (Str.ofString "/claim/cut.py") 381, Value.int 116 0, Value.int 1 0, Value.int 0 0, Value.int 0 0, Value.int 3 0, Value.ref 152, Value.bool true, Value.int 181 0, Value.ref 153, Value.none, Value.ref 154, Value.ref 155, Value.ref 156, Value.int 385 0, Value.int 116 0, Value.str (Str.ofString "/claim/cut.py") 386] }),
  (158, { cls := Value.type "function", data := Data.func { name := Str.ofString "_law_reel", qualname := Str.ofString "_law_reel", params := fParams (sAt pwB 16), body := FuncBody.stmts (fBody (sAt pwB 16)), scope := fScope (sAt pwB 16), globals := 3, closure := [], defaults := Value.none, kwdefaults := Value.none, pyModule := Value.str (Str.ofString "law_xm0165_01") 377, code := Value.ref 157 } }),
  (159, { cls := Value.type "tuple", data := Data.seq #[] }),
  (161, { cls := Value.type "tuple", data := Data.seq #[Value.str (Str.ofString "reel") 391, Value.str (Str.ofString "many") 392, Value.str (Str.ofString "found") 393] }),
  (162, { cls := Value.type "tuple", data := Data.seq #[] }),
  (164, { cls := Value.type "code", data := Data.fields #[Value.str (Str.ofString "_law_wound") 388, Value.str (Str.ofString "_law_wound") 389, Value.str (Str.ofString "/claim/cut.py") 390, Value.int 120 0, Value.int 2 0, Value.int 0 0, Value.int 0 0, Value.int 3 0, Value.ref 159, Value.bool true, Value.int 181 0, Value.ref 160, Value.none, Value.ref 161, Value.ref 162, Value.ref 163, Value.int 394 0, Value.int 120 0, Value.str (Str.ofString "/claim/cut.py") 395] }),
  (165, { cls := Value.type "function", data := Data.func { name := Str.ofString "_law_wound", qualname := Str.ofString "_law_wound", params := fParams (sAt pwB 17), body := FuncBody.stmts (fBody (sAt pwB 17)), scope := fScope (sAt pwB 17), globals := 3, closure := [], defaults := Value.none, kwdefaults := Value.none, pyModule := Value.str (Str.ofString "law_xm0165_01") 377, code := Value.ref 164 } }),
  (166, { cls := Value.type "tuple", data := Data.seq #[] }),
  (168, { cls := Value.type "tuple", data := Data.seq #[Value.str (Str.ofString "reel") 400, Value.str (Str.ofString "some") 401] }),
  (169, { cls := Value.type "tuple", data := Data.seq #[] }),
  (171, { cls := Value.type "code", data := Data.fields #[Value.str (Str.ofString "_law_one") 397, Value.str (Str.ofString "_law_one") 398, Value.str (Str.ofString "/claim/cut.py") 399, Value.int 127 0, Value.int 2 0, Value.int 0 0, Value.int 0 0, Value.int 3 0, Value.ref 166, Value.bool true, Value.int 181 0, Value.ref 167, Value.none, Value.ref 168, Value.ref 169, Value.ref 170, Value.int 402 0, Value.int 127 0, Value.str (Str.ofString "/claim/cut.py") 403] }),
  (172, { cls := Value.type "function", data := Data.func { name := Str.ofString "_law_one", qualname := Str.ofString "_law_one", params := fParams (sAt pwB 18), body := FuncBody.stmts (fBody (sAt pwB 18)), scope := fScope (sAt pwB 18), globals := 3, closure := [], defaults := Value.none, kwdefaults := Value.none, pyModule := Value.str (Str.ofString "law_xm0165_01") 377, code := Value.ref 171 } }),
  (173, { cls := Value.type "tuple", data := Data.seq #[] }),
  (175, { cls := Value.type "tuple", data := Data.seq #[Value.str (Str.ofString "some") 408] }),
  (176, { cls := Value.type "tuple", data := Data.seq #[] }),
  (178, { cls := Value.type "code", data := Data.fields #[Value.str (Str.ofString "_law_block") 405, Value.str (Str.ofString "_law_block") 406, Value.str (Str.ofString "/claim/cut.py") 407, Value.int 129 0, Value.int 1 0, Value.int 0 0, Value.int 0 0, Value.int 3 0, Value.ref 173, Value.bool true, Value.int 181 0, Value.ref 174, Value.none, Value.ref 175, Value.ref 176, Value.ref 177, Value.int 409 0, Value.int 129 0, Value.str (Str.ofString "/claim/cut.py") 410] }),
  (179, { cls := Value.type "function", data := Data.func { name := Str.ofString "_law_block", qualname := Str.ofString "_law_block", params := fParams (sAt pwB 19), body := FuncBody.stmts (fBody (sAt pwB 19)), scope := fScope (sAt pwB 19), globals := 3, closure := [], defaults := Value.none, kwdefaults := Value.none, pyModule := Value.str (Str.ofString "law_xm0165_01") 377, code := Value.ref 178 } }),
  (180, { cls := Value.type "tuple", data := Data.seq #[] }),
  (182, { cls := Value.type "tuple", data := Data.seq #[Value.str (Str.ofString "reel") 415, Value.str (Str.ofString "name") 416, Value.str (Str.ofString "panics") 417] }),
  (183, { cls := Value.type "tuple", data := Data.seq #[] }),
  (185, { cls := Value.type "code", data := Data.fields #[Value.str (Str.ofString "_law_leaf") 412, Value.str (Str.ofString "_law_leaf") 413, Value.str (Str.ofString "/claim/cut.py") 414, Value.int 131 0, Value.int 1 0, Value.int 0 0, Value.int 0 0, Value.int 3 0, Value.ref 180, Value.bool true, Value.int 181 0, Value.ref 181, Value.none, Value.ref 182, Value.ref 183, Value.ref 184, Value.int 418 0, Value.int 131 0, Value.str (Str.ofString "/claim/cut.py") 419] }),
  (186, { cls := Value.type "function", data := Data.func { name := Str.ofString "_law_leaf", qualname := Str.ofString "_law_leaf", params := fParams (sAt pwB 20), body := FuncBody.stmts (fBody (sAt pwB 20)), scope := fScope (sAt pwB 20), globals := 3, closure := [], defaults := Value.none, kwdefaults := Value.none, pyModule := Value.str (Str.ofString "law_xm0165_01") 377, code := Value.ref 185 } }),
  (187, { cls := Value.type "tuple", data := Data.seq #[] }),
  (190, { cls := Value.type "code", data := Data.fields #[Value.str (Str.ofString "_law_body") 421, Value.str (Str.ofString "_law_body") 422, Value.str (Str.ofString "/claim/cut.py") 423, Value.int 134 0, Value.int 2 0, Value.int 0 0, Value.int 0 0, Value.int 3 0, Value.ref 187, Value.bool true, Value.int 181 0, Value.ref 188, Value.none, Value.none, Value.none, Value.ref 189, Value.int 424 0, Value.int 134 0, Value.str (Str.ofString "/claim/cut.py") 425] }),
  (191, { cls := Value.type "function", data := Data.func { name := Str.ofString "_law_body", qualname := Str.ofString "_law_body", params := fParams (sAt pwB 21), body := FuncBody.stmts (fBody (sAt pwB 21)), scope := fScope (sAt pwB 21), globals := 3, closure := [], defaults := Value.none, kwdefaults := Value.none, pyModule := Value.str (Str.ofString "law_xm0165_01") 377, code := Value.ref 190 } }),
  (192, { cls := Value.type "tuple", data := Data.seq #[] }),
  (194, { cls := Value.type "tuple", data := Data.seq #[Value.str (Str.ofString "reel") 430, Value.str (Str.ofString "deep") 431, Value.str (Str.ofString "told") 432, Value.str (Str.ofString "rows") 433, Value.str (Str.ofString "turn") 434, Value.str (Str.ofString "body") 435] }),
  (195, { cls := Value.type "tuple", data := Data.seq #[] }),
  (197, { cls := Value.type "code", data := Data.fields #[Value.str (Str.ofString "_law_cases") 427, Value.str (Str.ofString "_law_cases") 428, Value.str (Str.ofString "/claim/cut.py") 429, Value.int 136 0, Value.int 3 0, Value.int 0 0, Value.int 0 0, Value.int 3 0, Value.ref 192, Value.bool true, Value.int 181 0, Value.ref 193, Value.none, Value.ref 194, Value.ref 195, Value.ref 196, Value.int 436 0, Value.int 136 0, Value.str (Str.ofString "/claim/cut.py") 437] }),
  (198, { cls := Value.type "function", data := Data.func { name := Str.ofString "_law_cases", qualname := Str.ofString "_law_cases", params := fParams (sAt pwB 22), body := FuncBody.stmts (fBody (sAt pwB 22)), scope := fScope (sAt pwB 22), globals := 3, closure := [], defaults := Value.none, kwdefaults := Value.none, pyModule := Value.str (Str.ofString "law_xm0165_01") 377, code := Value.ref 197 } }),
  (199, { cls := Value.type "tuple", data := Data.seq #[] }),
  (201, { cls := Value.type "tuple", data := Data.seq #[Value.str (Str.ofString "reel") 442, Value.str (Str.ofString "deep") 443, Value.str (Str.ofString "way") 444, Value.str (Str.ofString "name") 445, Value.str (Str.ofString "label") 446, Value.str (Str.ofString "other") 447, Value.str (Str.ofString "test") 448, Value.str (Str.ofString "receive") 449] }),
  (202, { cls := Value.type "tuple", data := Data.seq #[] }),
  (204, { cls := Value.type "code", data := Data.fields #[Value.str (Str.ofString "_law_statement") 439, Value.str (Str.ofString "_law_statement") 440, Value.str (Str.ofString "/claim/cut.py") 441, Value.int 144 0, Value.int 2 0, Value.int 0 0, Value.int 0 0, Value.int 3 0, Value.ref 199, Value.bool true, Value.int 181 0, Value.ref 200, Value.none, Value.ref 201, Value.ref 202, Value.ref 203, Value.int 450 0, Value.int 144 0, Value.str (Str.ofString "/claim/cut.py") 451] }),
  (205, { cls := Value.type "function", data := Data.func { name := Str.ofString "_law_statement", qualname := Str.ofString "_law_statement", params := fParams (sAt pwB 23), body := FuncBody.stmts (fBody (sAt pwB 23)), scope := fScope (sAt pwB 23), globals := 3, closure := [], defaults := Value.none, kwdefaults := Value.none, pyModule := Value.str (Str.ofString "law_xm0165_01") 377, code := Value.ref 204 } }),
  (206, { cls := Value.type "tuple", data := Data.seq #[] }),
  (209, { cls := Value.type "code", data := Data.fields #[Value.str (Str.ofString "_law_held") 453, Value.str (Str.ofString "_law_held") 454, Value.str (Str.ofString "/claim/cut.py") 455, Value.int 163 0, Value.int 1 0, Value.int 0 0, Value.int 0 0, Value.int 3 0, Value.ref 206, Value.bool true, Value.int 181 0, Value.ref 207, Value.none, Value.none, Value.none, Value.ref 208, Value.int 456 0, Value.int 163 0, Value.str (Str.ofString "/claim/cut.py") 457] }),
  (210, { cls := Value.type "function", data := Data.func { name := Str.ofString "_law_held", qualname := Str.ofString "_law_held", params := fParams (sAt pwB 24), body := FuncBody.stmts (fBody (sAt pwB 24)), scope := fScope (sAt pwB 24), globals := 3, closure := [], defaults := Value.none, kwdefaults := Value.none, pyModule := Value.str (Str.ofString "law_xm0165_01") 377, code := Value.ref 209 } }),
  (211, { cls := Value.type "tuple", data := Data.seq #[] }),
  (213, { cls := Value.type "tuple", data := Data.seq #[Value.str (Str.ofString "statement") 462] }),
  (214, { cls := Value.type "tuple", data := Data.seq #[] }),
  (216, { cls := Value.type "code", data := Data.fields #[Value.str (Str.ofString "_law_labels") 459, Value.str (Str.ofString "_law_labels") 460, Value.str (Str.ofString "/claim/cut.py") 461, Value.int 174 0, Value.int 1 0, Value.int 0 0, Value.int 0 0, Value.int 3 0, Value.ref 211, Value.bool true, Value.int 181 0, Value.ref 212, Value.none, Value.ref 213, Value.ref 214, Value.ref 215, Value.int 463 0, Value.int 174 0, Value.str (Str.ofString "/claim/cut.py") 464] }),
  (217, { cls := Value.type "function", data := Data.func { name := Str.ofString "_law_labels", qualname := Str.ofString "_law_labels", params := fParams (sAt pwB 25), body := FuncBody.stmts (fBody (sAt pwB 25)), scope := fScope (sAt pwB 25), globals := 3, closure := [], defaults := Value.none, kwdefaults := Value.none, pyModule := Value.str (Str.ofString "law_xm0165_01") 377, code := Value.ref 216 } }),
  (218, { cls := Value.type "tuple", data := Data.seq #[] }),
  (220, { cls := Value.type "tuple", data := Data.seq #[Value.str (Str.ofString "body") 469, Value.str (Str.ofString "label") 470, Value.str (Str.ofString "is_near") 471, Value.str (Str.ofString "many") 472, Value.str (Str.ofString "statement") 473, Value.str (Str.ofString "inner") 474] }),
  (221, { cls := Value.type "tuple", data := Data.seq #[] }),
  (223, { cls := Value.type "code", data := Data.fields #[Value.str (Str.ofString "_law_leaves") 466, Value.str (Str.ofString "_law_leaves") 467, Value.str (Str.ofString "/claim/cut.py") 468, Value.int 176 0, Value.int 3 0, Value.int 0 0, Value.int 0 0, Value.int 3 0, Value.ref 218, Value.bool true, Value.int 181 0, Value.ref 219, Value.none, Value.ref 220, Value.ref 221, Value.ref 222, Value.int 475 0, Value.int 176 0, Value.str (Str.ofString "/claim/cut.py") 476] }),
  (224, { cls := Value.type "function", data := Data.func { name := Str.ofString "_law_leaves", qualname := Str.ofString "_law_leaves", params := fParams (sAt pwB 26), body := FuncBody.stmts (fBody (sAt pwB 26)), scope := fScope (sAt pwB 26), globals := 3, closure := [], defaults := Value.none, kwdefaults := Value.none, pyModule := Value.str (Str.ofString "law_xm0165_01") 377, code := Value.ref 223 } }),
  (225, { cls := Value.type "tuple", data := Data.seq #[] }),
  (227, { cls := Value.type "tuple", data := Data.seq #[Value.str (Str.ofString "body") 481, Value.str (Str.ofString "last") 482, Value.str (Str.ofString "kind") 483, Value.str (Str.ofString "held") 484] }),
  (228, { cls := Value.type "tuple", data := Data.seq #[] }),
  (230, { cls := Value.type "code", data := Data.fields #[Value.str (Str.ofString "_law_is_open") 478, Value.str (Str.ofString "_law_is_open") 479, Value.str (Str.ofString "/claim/cut.py") 480, Value.int 184 0, Value.int 1 0, Value.int 0 0, Value.int 0 0, Value.int 3 0, Value.ref 225, Value.bool true, Value.int 181 0, Value.ref 226, Value.none, Value.ref 227, Value.ref 228, Value.ref 229, Value.int 485 0, Value.int 184 0, Value.str (Str.ofString "/claim/cut.py") 486] }),
  (231, { cls := Value.type "function", data := Data.func { name := Str.ofString "_law_is_open", qualname := Str.ofString "_law_is_open", params := fParams (sAt pwB 27), body := FuncBody.stmts (fBody (sAt pwB 27)), scope := fScope (sAt pwB 27), globals := 3, closure := [], defaults := Value.none, kwdefaults := Value.none, pyModule := Value.str (Str.ofString "law_xm0165_01") 377, code := Value.ref 230 } }),
  (232, { cls := Value.type "tuple", data := Data.seq #[] }),
  (235, { cls := Value.type "code", data := Data.fields #[Value.str (Str.ofString "_law_are_open") 488, Value.str (Str.ofString "_law_are_open") 489, Value.str (Str.ofString "/claim/cut.py") 490, Value.int 198 0, Value.int 1 0, Value.int 0 0, Value.int 0 0, Value.int 3 0, Value.ref 232, Value.bool true, Value.int 181 0, Value.ref 233, Value.none, Value.none, Value.none, Value.ref 234, Value.int 491 0, Value.int 198 0, Value.str (Str.ofString "/claim/cut.py") 492] }),
  (236, { cls := Value.type "function", data := Data.func { name := Str.ofString "_law_are_open", qualname := Str.ofString "_law_are_open", params := fParams (sAt pwB 28), body := FuncBody.stmts (fBody (sAt pwB 28)), scope := fScope (sAt pwB 28), globals := 3, closure := [], defaults := Value.none, kwdefaults := Value.none, pyModule := Value.str (Str.ofString "law_xm0165_01") 377, code := Value.ref 235 } }),
  (237, { cls := Value.type "tuple", data := Data.seq #[] }),
  (240, { cls := Value.type "code", data := Data.fields #[Value.str (Str.ofString "_law_statement_right") 494, Value.str (Str.ofString "_law_statement_right") 495, Value.str (Str.ofString "/claim/cut.py") 496, Value.int 206 0, Value.int 1 0, Value.int 0 0, Value.int 0 0, Value.int 3 0, Value.ref 237, Value.bool true, Value.int 181 0, Value.ref 238, Value.none, Value.none, Value.none, Value.ref 239, Value.int 497 0, Value.int 206 0, Value.str (Str.ofString "/claim/cut.py") 498] }),
  (241, { cls := Value.type "function", data := Data.func { name := Str.ofString "_law_statement_right", qualname := Str.ofString "_law_statement_right", params := fParams (sAt pwB 29), body := FuncBody.stmts (fBody (sAt pwB 29)), scope := fScope (sAt pwB 29), globals := 3, closure := [], defaults := Value.none, kwdefaults := Value.none, pyModule := Value.str (Str.ofString "law_xm0165_01") 377, code := Value.ref 240 } }),
  (242, { cls := Value.type "tuple", data := Data.seq #[] }),
  (245, { cls := Value.type "code", data := Data.fields #[Value.str (Str.ofString "_law_body_right") 500, Value.str (Str.ofString "_law_body_right") 501, Value.str (Str.ofString "/claim/cut.py") 502, Value.int 218 0, Value.int 1 0, Value.int 0 0, Value.int 0 0, Value.int 3 0, Value.ref 242, Value.bool true, Value.int 181 0, Value.ref 243, Value.none, Value.none, Value.none, Value.ref 244, Value.int 503 0, Value.int 218 0, Value.str (Str.ofString "/claim/cut.py") 504] }),
  (246, { cls := Value.type "function", data := Data.func { name := Str.ofString "_law_body_right", qualname := Str.ofString "_law_body_right", params := fParams (sAt pwB 30), body := FuncBody.stmts (fBody (sAt pwB 30)), scope := fScope (sAt pwB 30), globals := 3, closure := [], defaults := Value.none, kwdefaults := Value.none, pyModule := Value.str (Str.ofString "law_xm0165_01") 377, code := Value.ref 245 } }),
  (247, { cls := Value.type "tuple", data := Data.seq #[] }),
  (250, { cls := Value.type "code", data := Data.fields #[Value.str (Str.ofString "_law_lead_right") 506, Value.str (Str.ofString "_law_lead_right") 507, Value.str (Str.ofString "/claim/cut.py") 508, Value.int 222 0, Value.int 1 0, Value.int 0 0, Value.int 0 0, Value.int 3 0, Value.ref 247, Value.bool true, Value.int 181 0, Value.ref 248, Value.none, Value.none, Value.none, Value.ref 249, Value.int 509 0, Value.int 222 0, Value.str (Str.ofString "/claim/cut.py") 510] }),
  (251, { cls := Value.type "function", data := Data.func { name := Str.ofString "_law_lead_right", qualname := Str.ofString "_law_lead_right", params := fParams (sAt pwB 31), body := FuncBody.stmts (fBody (sAt pwB 31)), scope := fScope (sAt pwB 31), globals := 3, closure := [], defaults := Value.none, kwdefaults := Value.none, pyModule := Value.str (Str.ofString "law_xm0165_01") 377, code := Value.ref 250 } }),
  (252, { cls := Value.type "tuple", data := Data.seq #[] }),
  (254, { cls := Value.type "tuple", data := Data.seq #[Value.str (Str.ofString "script") 515, Value.str (Str.ofString "name") 516, Value.str (Str.ofString "ends") 517, Value.str (Str.ofString "lone") 518, Value.str (Str.ofString "left") 519, Value.str (Str.ofString "loop") 520, Value.str (Str.ofString "reel") 521] }),
  (255, { cls := Value.type "tuple", data := Data.seq #[] }),
  (257, { cls := Value.type "code", data := Data.fields #[Value.str (Str.ofString "law") 512, Value.str (Str.ofString "law") 513, Value.str (Str.ofString "/claim/cut.py") 514, Value.int 236 0, Value.int 1 0, Value.int 0 0, Value.int 0 0, Value.int 3 0, Value.ref 252, Value.bool true, Value.int 181 0, Value.ref 253, Value.none, Value.ref 254, Value.ref 255, Value.ref 256, Value.int 522 0, Value.int 236 0, Value.str (Str.ofString "/claim/cut.py") 523] }),
  (258, { cls := Value.type "function", data := Data.func { name := Str.ofString "law", qualname := Str.ofString "law", params := fParams (sAt pwB 32), body := FuncBody.stmts (fBody (sAt pwB 32)), scope := fScope (sAt pwB 32), globals := 3, closure := [], defaults := Value.none, kwdefaults := Value.none, pyModule := Value.str (Str.ofString "law_xm0165_01") 377, code := Value.ref 257 } })]
def myAs : List Addr := [2, 3, 15, 17, 18, 20, 21, 22, 29, 30, 32, 33, 35, 36, 37, 38, 39, 40, 43, 50, 51, 52, 55, 56, 57, 59, 60, 62, 63, 64, 67, 68, 69, 70, 72, 73, 75, 76, 77, 79, 80, 82, 83, 84, 86, 87, 89, 90, 91, 94, 95, 96, 97, 98, 100, 101, 103, 104, 112, 114, 115, 117, 118, 119, 121, 122, 124, 125, 126, 128, 129, 131, 132, 133, 136, 137, 138, 140, 141, 143, 144, 145, 146, 147, 148, 149, 152, 154, 155, 157, 158, 159, 161, 162, 164, 165, 166, 168, 169, 171, 172, 173, 175, 176, 178, 179, 180, 182, 183, 185, 186, 187, 190, 191, 192, 194, 195, 197, 198, 199, 201, 202, 204, 205, 206, 209, 210, 211, 213, 214, 216, 217, 218, 220, 221, 223, 224, 225, 227, 228, 230, 231, 232, 235, 236, 237, 240, 241, 242, 245, 246, 247, 250, 251, 252, 254, 255, 257, 258]

end Mine

namespace Mine
def bE (P : Params) (x : String) (t : Nat) (v : Value) : DictEntry := { hash := PyData.keyHash P (Str.ofString x), key := .str (Str.ofString x) t, val := v }
def sImp : String := String.ofList ['_', '_', 'i', 'm', 'p', 'o', 'r', 't', '_', '_']
def bEs (P : Params) : Array DictEntry := #[bE P "__name__" 1 (Value.str (Str.ofString "builtins") 160), bE P "__doc__" 2 (Value.builtin "builtins.__doc__:str#opaque"), bE P "__package__" 3 (Value.builtin "builtins.__package__:str#opaque"), bE P "__loader__" 4 (Value.builtin "builtins.__loader__:shared#opaque"), bE P "__spec__" 5 (Value.builtin "builtins.__spec__#opaque"), bE P "__build_class__" 6 (Value.builtin "__build_class__"), bE P sImp 7 (Value.builtin sImp), bE P "abs" 8 (Value.builtin "abs"), bE P "all" 9 (Value.builtin "all"), bE P "any" 10 (Value.builtin "any"), bE P "ascii" 11 (Value.builtin "ascii"), bE P "bin" 12 (Value.builtin "bin"), bE P "breakpoint" 13 (Value.builtin "breakpoint"), bE P "callable" 14 (Value.builtin "callable"), bE P "chr" 15 (Value.builtin "chr"), bE P "compile" 16 (Value.builtin "compile"), bE P "delattr" 17 (Value.builtin "delattr"), bE P "dir" 18 (Value.builtin "dir"), bE P "divmod" 19 (Value.builtin "divmod"), bE P "eval" 20 (Value.builtin "eval"), bE P "exec" 21 (Value.builtin "exec"), bE P "format" 22 (Value.builtin "format"), bE P "getattr" 23 (Value.builtin "getattr"), bE P "globals" 24 (Value.builtin "globals"), bE P "hasattr" 25 (Value.builtin "hasattr"), bE P "hash" 26 (Value.builtin "hash"), bE P "hex" 27 (Value.builtin "hex"), bE P "id" 28 (Value.builtin "id"), bE P "input" 29 (Value.builtin "input"), bE P "isinstance" 30 (Value.builtin "isinstance"), bE P "issubclass" 31 (Value.builtin "issubclass"), bE P "iter" 32 (Value.builtin "iter"), bE P "aiter" 33 (Value.builtin "aiter"), bE P "len" 34 (Value.builtin "len"), bE P "locals" 35 (Value.builtin "locals"), bE P "max" 36 (Value.builtin "max"), bE P "min" 37 (Value.builtin "min"), bE P "next" 38 (Value.builtin "next"), bE P "anext" 39 (Value.builtin "anext"), bE P "oct" 40 (Value.builtin "oct"), bE P "ord" 41 (Value.builtin "ord"), bE P "pow" 42 (Value.builtin "pow"), bE P "print" 43 (Value.builtin "print"), bE P "repr" 44 (Value.builtin "repr"), bE P "round" 45 (Value.builtin "round"), bE P "setattr" 46 (Value.builtin "setattr"), bE P "sorted" 47 (Value.builtin "sorted"), bE P "sum" 48 (Value.builtin "sum"), bE P "vars" 49 (Value.builtin "vars"), bE P "None" 50 (Value.none), bE P "Ellipsis" 51 (Value.ellipsis), bE P "NotImplemented" 52 (Value.notImplemented), bE P "False" 53 (Value.bool false), bE P "True" 54 (Value.bool true), bE P "bool" 55 (Value.type "bool"), bE P "memoryview" 56 (Value.type "memoryview"), bE P "bytearray" 57 (Value.type "bytearray"), bE P "bytes" 58 (Value.type "bytes"), bE P "classmethod" 59 (Value.type "classmethod"), bE P "complex" 60 (Value.type "complex"), bE P "dict" 61 (Value.type "dict"), bE P "enumerate" 62 (Value.type "enumerate"), bE P "filter" 63 (Value.type "filter"), bE P "float" 64 (Value.type "float"), bE P "frozenset" 65 (Value.type "frozenset"), bE P "property" 66 (Value.type "property"), bE P "int" 67 (Value.type "int"), bE P "list" 68 (Value.type "list"), bE P "map" 69 (Value.type "map"), bE P "object" 70 (Value.type "object"), bE P "range" 71 (Value.type "range"), bE P "reversed" 72 (Value.type "reversed"), bE P "set" 73 (Value.type "set"), bE P "slice" 74 (Value.type "slice"), bE P "staticmethod" 75 (Value.type "staticmethod"), bE P "str" 76 (Value.type "str"), bE P "super" 77 (Value.type "super"), bE P "tuple" 78 (Value.type "tuple"), bE P "type" 79 (Value.type "type"), bE P "zip" 80 (Value.type "zip"), bE P "__debug__" 81 (Value.bool true), bE P "BaseException" 82 (Value.type "BaseException"), bE P "BaseExceptionGroup" 83 (Value.type "BaseExceptionGroup"), bE P "Exception" 84 (Value.type "Exception"), bE P "GeneratorExit" 85 (Value.type "GeneratorExit"), bE P "KeyboardInterrupt" 86 (Value.type "KeyboardInterrupt"), bE P "SystemExit" 87 (Value.type "SystemExit"), bE P "ArithmeticError" 88 (Value.type "ArithmeticError"), bE P "AssertionError" 89 (Value.type "AssertionError"), bE P "AttributeError" 90 (Value.type "AttributeError"), bE P "BufferError" 91 (Value.type "BufferError"), bE P "EOFError" 92 (Value.type "EOFError"), bE P "ImportError" 93 (Value.type "ImportError"), bE P "LookupError" 94 (Value.type "LookupError"), bE P "MemoryError" 95 (Value.type "MemoryError"), bE P "NameError" 96 (Value.type "NameError"), bE P "OSError" 97 (Value.type "OSError"), bE P "ReferenceError" 98 (Value.type "ReferenceError"), bE P "RuntimeError" 99 (Value.type "RuntimeError"), bE P "StopAsyncIteration" 100 (Value.type "StopAsyncIteration"), bE P "StopIteration" 101 (Value.type "StopIteration"), bE P "SyntaxError" 102 (Value.type "SyntaxError"), bE P "SystemError" 103 (Value.type "SystemError"), bE P "TypeError" 104 (Value.type "TypeError"), bE P "ValueError" 105 (Value.type "ValueError"), bE P "Warning" 106 (Value.type "Warning"), bE P "FloatingPointError" 107 (Value.type "FloatingPointError"), bE P "OverflowError" 108 (Value.type "OverflowError"), bE P "ZeroDivisionError" 109 (Value.type "ZeroDivisionError"), bE P "BytesWarning" 110 (Value.type "BytesWarning"), bE P "DeprecationWarning" 111 (Value.type "DeprecationWarning"), bE P "EncodingWarning" 112 (Value.type "EncodingWarning"), bE P "FutureWarning" 113 (Value.type "FutureWarning"), bE P "ImportWarning" 114 (Value.type "ImportWarning"), bE P "PendingDeprecationWarning" 115 (Value.type "PendingDeprecationWarning"), bE P "ResourceWarning" 116 (Value.type "ResourceWarning"), bE P "RuntimeWarning" 117 (Value.type "RuntimeWarning"), bE P "SyntaxWarning" 118 (Value.type "SyntaxWarning"), bE P "UnicodeWarning" 119 (Value.type "UnicodeWarning"), bE P "UserWarning" 120 (Value.type "UserWarning"), bE P "BlockingIOError" 121 (Value.type "BlockingIOError"), bE P "ChildProcessError" 122 (Value.type "ChildProcessError"), bE P "ConnectionError" 123 (Value.type "ConnectionError"), bE P "FileExistsError" 124 (Value.type "FileExistsError"), bE P "FileNotFoundError" 125 (Value.type "FileNotFoundError"), bE P "InterruptedError" 126 (Value.type "InterruptedError"), bE P "IsADirectoryError" 127 (Value.type "IsADirectoryError"), bE P "NotADirectoryError" 128 (Value.type "NotADirectoryError"), bE P "PermissionError" 129 (Value.type "PermissionError"), bE P "ProcessLookupError" 130 (Value.type "ProcessLookupError"), bE P "TimeoutError" 131 (Value.type "TimeoutError"), bE P "IndentationError" 132 (Value.type "IndentationError"), bE P "_IncompleteInputError" 133 (Value.type "_IncompleteInputError"), bE P "IndexError" 134 (Value.type "IndexError"), bE P "KeyError" 135 (Value.type "KeyError"), bE P "ModuleNotFoundError" 136 (Value.type "ModuleNotFoundError"), bE P "NotImplementedError" 137 (Value.type "NotImplementedError"), bE P "PythonFinalizationError" 138 (Value.type "PythonFinalizationError"), bE P "RecursionError" 139 (Value.type "RecursionError"), bE P "UnboundLocalError" 140 (Value.type "UnboundLocalError"), bE P "UnicodeError" 141 (Value.type "UnicodeError"), bE P "BrokenPipeError" 142 (Value.type "BrokenPipeError"), bE P "ConnectionAbortedError" 143 (Value.type "ConnectionAbortedError"), bE P "ConnectionRefusedError" 144 (Value.type "ConnectionRefusedError"), bE P "ConnectionResetError" 145 (Value.type "ConnectionResetError"), bE P "TabError" 146 (Value.type "TabError"), bE P "UnicodeDecodeError" 147 (Value.type "UnicodeDecodeError"), bE P "UnicodeEncodeError" 148 (Value.type "UnicodeEncodeError"), bE P "UnicodeTranslateError" 149 (Value.type "UnicodeTranslateError"), bE P "ExceptionGroup" 150 (Value.type "ExceptionGroup"), bE P "EnvironmentError" 151 (Value.type "OSError"), bE P "IOError" 152 (Value.type "OSError"), bE P "open" 153 (Value.builtin "open"), bE P "quit" 154 (Value.builtin "builtins.quit#opaque"), bE P "exit" 155 (Value.builtin "builtins.exit#opaque"), bE P "copyright" 156 (Value.builtin "builtins.copyright#opaque"), bE P "credits" 157 (Value.builtin "builtins.credits#opaque"), bE P "license" 158 (Value.builtin "builtins.license#opaque"), bE P "help" 159 (Value.builtin "builtins.help#opaque")]
def bObj (P : Params) : Obj := ⟨.type "dict", none, .dict (bEs P) 159, #[]⟩
def mObj (P : Params) : Obj := ⟨.type "dict", none, .dict #[bE P "builtins" 162 (.ref 4), bE P "__main__" 163 (.ref 5)] 2, #[]⟩
def myB (P : Params) : Frag := (0, bObj P) :: (1, mObj P) :: myK P
def myBs : List Addr := 0 :: 1 :: myAs
theorem frag_tail {K : Frag} {h : Heap} {a : Addr} {o : Obj} (X : Frag.In ((a, o) :: K) h) (n : K.lookup a = none) : K.In h := fun b p e => X b p (by
  show List.lookup b ((a, o) :: K) = some p
  rw [List.lookup_cons]
  cases z : b == a with
  | true => rw [beq_iff_eq.mp z] at e; have e := n.symm.trans e; cases e
  | false => exact e)
theorem myB_K {P : Params} {h : Heap} (X : (myB P).In h) : (myK P).In h := frag_tail (frag_tail X (by kernel_rfl)) (by kernel_rfl)
theorem myB_0 {P : Params} {h : Heap} (X : (myB P).In h) : h.get? (nat_lit 0) = some ⟨.type "dict", none, .dict (bEs P) 159, #[]⟩ := X 0 _ rfl
theorem myB_1 {P : Params} {h : Heap} (X : (myB P).In h) : ∃ o, h.get? sysModules = some o := ⟨_, X 1 _ rfl⟩
end Mine

namespace Mine
abbrev prog : Program := PySem.Challenge.pw_xm0165_01
noncomputable abbrev KK (w : World) : Frag := myK w.params
theorem nd_body : (Str.ofString "body" == ("__debug__" : Str)) = false := by kernel_rfl
theorem nd_called : (Str.ofString "called" == ("__debug__" : Str)) = false := by kernel_rfl
theorem nd_deep : (Str.ofString "deep" == ("__debug__" : Str)) = false := by kernel_rfl
theorem nd_found : (Str.ofString "found" == ("__debug__" : Str)) = false := by kernel_rfl
theorem nd_held : (Str.ofString "held" == ("__debug__" : Str)) = false := by kernel_rfl
theorem nd_inner : (Str.ofString "inner" == ("__debug__" : Str)) = false := by kernel_rfl
theorem nd_is_ended : (Str.ofString "is_ended" == ("__debug__" : Str)) = false := by kernel_rfl
theorem nd_is_near : (Str.ofString "is_near" == ("__debug__" : Str)) = false := by kernel_rfl
theorem nd_kind : (Str.ofString "kind" == ("__debug__" : Str)) = false := by kernel_rfl
theorem nd_label : (Str.ofString "label" == ("__debug__" : Str)) = false := by kernel_rfl
theorem nd_last : (Str.ofString "last" == ("__debug__" : Str)) = false := by kernel_rfl
theorem nd_many : (Str.ofString "many" == ("__debug__" : Str)) = false := by kernel_rfl
theorem nd_name : (Str.ofString "name" == ("__debug__" : Str)) = false := by kernel_rfl
theorem nd_near : (Str.ofString "near" == ("__debug__" : Str)) = false := by kernel_rfl
theorem nd_other : (Str.ofString "other" == ("__debug__" : Str)) = false := by kernel_rfl
theorem nd_others : (Str.ofString "others" == ("__debug__" : Str)) = false := by kernel_rfl
theorem nd_panics : (Str.ofString "panics" == ("__debug__" : Str)) = false := by kernel_rfl
theorem nd_receive : (Str.ofString "receive" == ("__debug__" : Str)) = false := by kernel_rfl
theorem nd_reel : (Str.ofString "reel" == ("__debug__" : Str)) = false := by kernel_rfl
theorem nd_row : (Str.ofString "row" == ("__debug__" : Str)) = false := by kernel_rfl
theorem nd_rows : (Str.ofString "rows" == ("__debug__" : Str)) = false := by kernel_rfl
theorem nd_script : (Str.ofString "script" == ("__debug__" : Str)) = false := by kernel_rfl
theorem nd_size : (Str.ofString "size" == ("__debug__" : Str)) = false := by kernel_rfl
theorem nd_some : (Str.ofString "some" == ("__debug__" : Str)) = false := by kernel_rfl
theorem nd_statement : (Str.ofString "statement" == ("__debug__" : Str)) = false := by kernel_rfl
theorem nd_statements : (Str.ofString "statements" == ("__debug__" : Str)) = false := by kernel_rfl
theorem nd_test : (Str.ofString "test" == ("__debug__" : Str)) = false := by kernel_rfl
theorem nd_told : (Str.ofString "told" == ("__debug__" : Str)) = false := by kernel_rfl
theorem nd_way : (Str.ofString "way" == ("__debug__" : Str)) = false := by kernel_rfl
theorem ns_law_are_open (w : World) : nsIn (KK w) mainGlobals (Str.ofString "_law_are_open") = some (some (.ref 236)) := by kernel_rfl
theorem keep_law_are_open (w : World) : keepIn (KK w) (.ref 236) = true := by kernel_rfl
theorem ns_law_block (w : World) : nsIn (KK w) mainGlobals (Str.ofString "_law_block") = some (some (.ref 179)) := by kernel_rfl
theorem keep_law_block (w : World) : keepIn (KK w) (.ref 179) = true := by kernel_rfl
theorem ns_law_body (w : World) : nsIn (KK w) mainGlobals (Str.ofString "_law_body") = some (some (.ref 191)) := by kernel_rfl
theorem keep_law_body (w : World) : keepIn (KK w) (.ref 191) = true := by kernel_rfl
theorem ns_law_body_right (w : World) : nsIn (KK w) mainGlobals (Str.ofString "_law_body_right") = some (some (.ref 246)) := by kernel_rfl
theorem keep_law_body_right (w : World) : keepIn (KK w) (.ref 246) = true := by kernel_rfl
theorem ns_law_cases (w : World) : nsIn (KK w) mainGlobals (Str.ofString "_law_cases") = some (some (.ref 198)) := by kernel_rfl
theorem keep_law_cases (w : World) : keepIn (KK w) (.ref 198) = true := by kernel_rfl
theorem ns_law_held (w : World) : nsIn (KK w) mainGlobals (Str.ofString "_law_held") = some (some (.ref 210)) := by kernel_rfl
theorem keep_law_held (w : World) : keepIn (KK w) (.ref 210) = true := by kernel_rfl
theorem ns_law_is_open (w : World) : nsIn (KK w) mainGlobals (Str.ofString "_law_is_open") = some (some (.ref 231)) := by kernel_rfl
theorem keep_law_is_open (w : World) : keepIn (KK w) (.ref 231) = true := by kernel_rfl
theorem ns_law_labels (w : World) : nsIn (KK w) mainGlobals (Str.ofString "_law_labels") = some (some (.ref 217)) := by kernel_rfl
theorem keep_law_labels (w : World) : keepIn (KK w) (.ref 217) = true := by kernel_rfl
theorem ns_law_leaf (w : World) : nsIn (KK w) mainGlobals (Str.ofString "_law_leaf") = some (some (.ref 186)) := by kernel_rfl
theorem keep_law_leaf (w : World) : keepIn (KK w) (.ref 186) = true := by kernel_rfl
theorem ns_law_leaves (w : World) : nsIn (KK w) mainGlobals (Str.ofString "_law_leaves") = some (some (.ref 224)) := by kernel_rfl
theorem keep_law_leaves (w : World) : keepIn (KK w) (.ref 224) = true := by kernel_rfl
theorem ns_law_one (w : World) : nsIn (KK w) mainGlobals (Str.ofString "_law_one") = some (some (.ref 172)) := by kernel_rfl
theorem keep_law_one (w : World) : keepIn (KK w) (.ref 172) = true := by kernel_rfl
theorem ns_law_statement (w : World) : nsIn (KK w) mainGlobals (Str.ofString "_law_statement") = some (some (.ref 205)) := by kernel_rfl
theorem keep_law_statement (w : World) : keepIn (KK w) (.ref 205) = true := by kernel_rfl
theorem ns_law_statement_right (w : World) : nsIn (KK w) mainGlobals (Str.ofString "_law_statement_right") = some (some (.ref 241)) := by kernel_rfl
theorem keep_law_statement_right (w : World) : keepIn (KK w) (.ref 241) = true := by kernel_rfl
theorem ns_law_wound (w : World) : nsIn (KK w) mainGlobals (Str.ofString "_law_wound") = some (some (.ref 165)) := by kernel_rfl
theorem keep_law_wound (w : World) : keepIn (KK w) (.ref 165) = true := by kernel_rfl
theorem ns_case_rows (w : World) : nsIn (KK w) mainGlobals (Str.ofString "case_rows") = some (some (.ref 63)) := by kernel_rfl
theorem keep_case_rows (w : World) : keepIn (KK w) (.ref 63) = true := by kernel_rfl
theorem ns_ends_by_cases (w : World) : nsIn (KK w) mainGlobals (Str.ofString "ends_by_cases") = some (some (.ref 95)) := by kernel_rfl
theorem keep_ends_by_cases (w : World) : keepIn (KK w) (.ref 95) = true := by kernel_rfl
theorem ns_has_break (w : World) : nsIn (KK w) mainGlobals (Str.ofString "has_break") = some (some (.ref 76)) := by kernel_rfl
theorem keep_has_break (w : World) : keepIn (KK w) (.ref 76) = true := by kernel_rfl
theorem ns_inner_lists (w : World) : nsIn (KK w) mainGlobals (Str.ofString "inner_lists") = some (some (.ref 68)) := by kernel_rfl
theorem keep_inner_lists (w : World) : keepIn (KK w) (.ref 68) = true := by kernel_rfl
theorem ns_is_case_ended (w : World) : nsIn (KK w) mainGlobals (Str.ofString "is_case_ended") = some (some (.ref 90)) := by kernel_rfl
theorem keep_is_case_ended (w : World) : keepIn (KK w) (.ref 90) = true := by kernel_rfl
theorem ns_is_panic (w : World) : nsIn (KK w) mainGlobals (Str.ofString "is_panic") = some (some (.ref 83)) := by kernel_rfl
theorem keep_is_panic (w : World) : keepIn (KK w) (.ref 83) = true := by kernel_rfl
theorem ns_is_terminating (w : World) : nsIn (KK w) mainGlobals (Str.ofString "is_terminating") = some (some (.ref 104)) := by kernel_rfl
theorem keep_is_terminating (w : World) : keepIn (KK w) (.ref 104) = true := by kernel_rfl
theorem ns_int (w : World) : nsIn (KK w) mainGlobals (Str.ofString "int") = some none := by kernel_rfl
theorem ns_len (w : World) : nsIn (KK w) mainGlobals (Str.ofString "len") = some none := by kernel_rfl
theorem ns_max (w : World) : nsIn (KK w) mainGlobals (Str.ofString "max") = some none := by kernel_rfl
theorem ns_range (w : World) : nsIn (KK w) mainGlobals (Str.ofString "range") = some none := by kernel_rfl
theorem ns_sum (w : World) : nsIn (KK w) mainGlobals (Str.ofString "sum") = some none := by kernel_rfl
theorem ns_tuple (w : World) : nsIn (KK w) mainGlobals (Str.ofString "tuple") = some none := by kernel_rfl
section
variable {base : Heap} {w : World} {X : Ext base} {n : Nat}
def g_LEFT_BY_BREAK : PyData := .tuple [.str (Str.ofString "for"), .str (Str.ofString "range"), .str (Str.ofString "switch"), .str (Str.ofString "typeswitch"), .str (Str.ofString "choose")]
theorem ns_LEFT_BY_BREAK (w : World) : nsIn (KK w) mainGlobals (Str.ofString "LEFT_BY_BREAK") = some (some (.ref 56)) := by kernel_rfl
theorem rd_LEFT_BY_BREAK (G : Gnd (KK w) base) : Reads base (.ref 56) g_LEFT_BY_BREAK [] := .tuple (G.K 56 _ rfl) rfl rfl (readsAll_cons (.str _ _) (readsAll_cons (.str _ _) (readsAll_cons (.str _ _) (readsAll_cons (.str _ _) (readsAll_cons (.str _ _) (.nil))))))
theorem rd_empty (G : Gnd (KK w) base) : Reads base (.ref 96) (.tuple []) [] := .tuple (G.K 96 _ rfl) rfl rfl .nil
def T_inner_lists_0 (C : CallD) : SD := (sCons (sIf (tCmp .In (eV 1) (eC (.tuple [(.str (Str.ofString "switch")), (.str (Str.ofString "typeswitch")), (.str (Str.ofString "choose"))]))) (sCons (sRet (eComp [(Str.ofString "row")] [] (iSeq (eCall C 63 (lCons (eV 0) lNil))) (gName 0) tTrue (eSub (eV 0) (eC (.int (-1)))))) sNil) sNil) (sCons (sRet (eC (.list []))) sNil))
def T_inner_lists_1 (C : CallD) : SD := (sCons (sIf (tCmp .Eq (eV 1) (eC (.str (Str.ofString "range")))) (sCons (sRet (eLst (lCons (eSub (eSub (eV 0) (eC (.int 6))) (eC (.int 2))) lNil))) sNil) sNil) (T_inner_lists_0 C))
def T_inner_lists_2 (C : CallD) : SD := (sCons (sIf (tCmp .Eq (eV 1) (eC (.str (Str.ofString "for")))) (sCons (sRet (eLst (lCons (eSub (eSub (eV 0) (eC (.int 6))) (eC (.int 2))) lNil))) sNil) sNil) (T_inner_lists_1 C))
def T_inner_lists_3 (C : CallD) : SD := (sCons (sIf (tCmp .Eq (eV 1) (eC (.str (Str.ofString "if")))) (sCons (sRet (eAdd (eLst (lCons (eSub (eSub (eV 0) (eC (.int 4))) (eC (.int 2))) lNil)) (eIf (tCmp .Is (eSub (eV 0) (eC (.int 5))) (eC .none)) (eC (.list [])) (eLst (lCons (eTup (lCons (eSub (eV 0) (eC (.int 5))) lNil)) lNil))))) sNil) sNil) (T_inner_lists_2 C))
def T_inner_lists_4 (C : CallD) : SD := (sCons (sIf (tCmp .Eq (eV 1) (eC (.str (Str.ofString "block")))) (sCons (sRet (eLst (lCons (eSub (eV 0) (eC (.int 2))) lNil))) sNil) sNil) (T_inner_lists_3 C))
/-- statement kind -/
def F_inner_lists (C : CallD) : SD := (sCons (sAsg 1 (eSub (eV 0) (eC (.int 0)))) (T_inner_lists_4 C))
theorem nodup_inner_lists : ([(Str.ofString "statement")] ++ [(Str.ofString "kind")] : List Str).Nodup := by decide +kernel
theorem e_inner_lists (G : Gnd (KK w) base) {d1 : PyData} {Q : PyData → Prop} (hQ : F_inner_lists (SemCall prog w X n) [some d1, none] (retQ Q)) : SemCall prog w X (n + 1) 68 [d1] Q :=
  sem_entry (xs := [(Str.ofString "statement")]) (rest := [(Str.ofString "kind")]) (dsF := [d1]) (F := F_inner_lists (SemCall prog w X n)) G rfl (by kernel_rfl)
   (r_scons (r_asg 1 rfl (by kernel_rfl) nodup_inner_lists (r_sub (r_var 0 rfl nd_statement) r_int)) (r_scons (r_if (r_tcmp (r_var 1 rfl nd_kind) r_str) (r_scons (r_ret (r_lst (r_cons (r_sub (r_var 0 rfl nd_statement) r_int) r_nil))) r_snil) r_snil) (r_scons (r_if (r_tcmp (r_var 1 rfl nd_kind) r_str) (r_scons (r_ret (r_add (r_lst (r_cons (r_sub (r_sub (r_var 0 rfl nd_statement) r_int) r_int) r_nil)) (r_ifexp (r_tcmp (r_sub (r_var 0 rfl nd_statement) r_int) r_none) (r_clst [] r_nil) (r_lst (r_cons (r_tup (r_cons (r_sub (r_var 0 rfl nd_statement) r_int) r_nil)) r_nil))))) r_snil) r_snil) (r_scons (r_if (r_tcmp (r_var 1 rfl nd_kind) r_str) (r_scons (r_ret (r_lst (r_cons (r_sub (r_sub (r_var 0 rfl nd_statement) r_int) r_int) r_nil))) r_snil) r_snil) (r_scons (r_if (r_tcmp (r_var 1 rfl nd_kind) r_str) (r_scons (r_ret (r_lst (r_cons (r_sub (r_sub (r_var 0 rfl nd_statement) r_int) r_int) r_nil))) r_snil) r_snil) (r_scons (r_if (r_tcmp (r_var 1 rfl nd_kind) (r_ctup [(.str (Str.ofString "switch")), (.str (Str.ofString "typeswitch")), (.str (Str.ofString "choose"))] (r_cons r_str (r_cons r_str (r_cons r_str r_nil))))) (r_scons (r_ret (r_comp [(Str.ofString "row")] [] (⟨by kernel_rfl, by decide +kernel, by decide +kernel, by decide +kernel, by decide +kernel, by decide +kernel⟩) (r_seq (r_call G 63 (by kernel_rfl) (ns_case_rows w) (keep_case_rows w) (r_cons (r_var 0 rfl nd_statement) r_nil))) (r_gname 0 rfl (by kernel_rfl) (by decide +kernel)) r_ts0 (r_sub (r_var 0 rfl nd_row) r_neg))) r_snil) r_snil) (r_scons (r_ret (r_clst [] r_nil)) r_snil)))))))
   (fun s us _ _ r => hb1 (fun _ => rfl) us r) nodup_inner_lists rfl (by decide +kernel) (by decide +kernel) (by kernel_rfl) (by kernel_rfl) (by kernel_rfl) hQ
def B_has_break_0 (C : CallD) : SD := (sCons (sIf (tVal (eCall C 76 (lCons (eV 5) (lCons (eV 1) (lCons (eV 4) lNil))))) (sCons (sRet (eC (.bool true))) sNil) sNil) sNil)
def T_has_break_0 (C : CallD) : SD := (sCons (sFor 5 (iSeq (eCall C 68 (lCons (eV 3) lNil))) (B_has_break_0 C)) sNil)
def T_has_break_1 (C : CallD) : SD := (sCons (sAsg 4 (eAnd (eV 2) (eCmp .NotIn (eSub (eV 3) (eC (.int 0))) (eC g_LEFT_BY_BREAK)))) (T_has_break_0 C))
def B_has_break_1 (C : CallD) : SD := (sCons (sIf (tCmp .Eq (eSub (eV 3) (eC (.int 0))) (eC (.str (Str.ofString "break")))) (sCons (sIf (tOr (tAnd (tCmp .Is (eSub (eV 3) (eC (.int 2))) (eC .none)) (tAnd (tVal (eV 2)) tTrue)) (tOr (tAnd (tCmp .IsNot (eSub (eV 3) (eC (.int 2))) (eC .none)) (tAnd (tCmp .Eq (eSub (eV 3) (eC (.int 2))) (eV 1)) tTrue)) tFalse)) (sCons (sRet (eC (.bool true))) sNil) sNil) sNil) sNil) (T_has_break_1 C))
/-- statements label is_near statement near inner -/
def F_has_break (C : CallD) : SD := (sCons (sFor 3 (iSeq (eV 0)) (B_has_break_1 C)) (sCons (sRet (eC (.bool false))) sNil))
theorem nodup_has_break : ([(Str.ofString "statements"), (Str.ofString "label"), (Str.ofString "is_near")] ++ [(Str.ofString "statement"), (Str.ofString "near"), (Str.ofString "inner")] : List Str).Nodup := by decide +kernel
theorem e_has_break (G : Gnd (KK w) base) {d1 d2 d3 : PyData} {Q : PyData → Prop} (hQ : F_has_break (SemCall prog w X n) [some d1, some d2, some d3, none, none, none] (retQ Q)) : SemCall prog w X (n + 1) 76 [d1, d2, d3] Q :=
  sem_entry (xs := [(Str.ofString "statements"), (Str.ofString "label"), (Str.ofString "is_near")]) (rest := [(Str.ofString "statement"), (Str.ofString "near"), (Str.ofString "inner")]) (dsF := [d1, d2, d3]) (F := F_has_break (SemCall prog w X n)) G rfl (by kernel_rfl)
   (r_scons (r_for 3 rfl (by kernel_rfl) nodup_has_break (r_seq (r_var 0 rfl nd_statements)) (r_scons (r_if (r_tcmp (r_sub (r_var 3 rfl nd_statement) r_int) r_str) (r_scons (r_if (r_tbool (r_aor (r_tbool (r_aand (r_tcmp (r_sub (r_var 3 rfl nd_statement) r_int) r_none) (r_aand (r_tval (r_var 2 rfl nd_is_near)) r_aand0))) (r_aor (r_tbool (r_aand (r_tcmp (r_sub (r_var 3 rfl nd_statement) r_int) r_none) (r_aand (r_tcmp (r_sub (r_var 3 rfl nd_statement) r_int) (r_var 1 rfl nd_label)) r_aand0))) r_aor0))) (r_scons (r_ret r_bool) r_snil) r_snil) r_snil) r_snil) (r_scons (r_asg 4 rfl (by kernel_rfl) nodup_has_break (r_and2 (r_var 2 rfl nd_is_near) (r_cmp (r_sub (r_var 3 rfl nd_statement) r_int) (r_glob G (by kernel_rfl) (ns_LEFT_BY_BREAK w) rfl (rd_LEFT_BY_BREAK G) (by kernel_rfl))))) (r_scons (r_for 5 rfl (by kernel_rfl) nodup_has_break (r_seq (r_call G 68 (by kernel_rfl) (ns_inner_lists w) (keep_inner_lists w) (r_cons (r_var 3 rfl nd_statement) r_nil))) (r_scons (r_if (r_tval (r_call G 76 (by kernel_rfl) (ns_has_break w) (keep_has_break w) (r_cons (r_var 5 rfl nd_inner) (r_cons (r_var 1 rfl nd_label) (r_cons (r_var 4 rfl nd_near) r_nil))))) (r_scons (r_ret r_bool) r_snil) r_snil) r_snil)) r_snil)))) (r_scons (r_ret r_bool) r_snil))
   (fun s us st _ r => by cases r with | cons a0 r => cases r with | cons a1 r => cases r with | cons a2 r => cases r with | nil => exact ⟨_, binds_K (G.K.keeps st) rfl rfl rfl rfl rfl, .cons a0 (.cons a1 (.cons a2 (.nil)))⟩) nodup_has_break rfl (by decide +kernel) (by decide +kernel) (by kernel_rfl) (by kernel_rfl) (by kernel_rfl) hQ
theorem e_has_break1 (G : Gnd (KK w) base) {d1 d2 : PyData} {Q : PyData → Prop} (hQ : F_has_break (SemCall prog w X n) [some d1, some d2, some (.bool true), none, none, none] (retQ Q)) : SemCall prog w X (n + 1) 76 [d1, d2] Q :=
  sem_entry (xs := [(Str.ofString "statements"), (Str.ofString "label"), (Str.ofString "is_near")]) (rest := [(Str.ofString "statement"), (Str.ofString "near"), (Str.ofString "inner")]) (dsF := [d1, d2, (.bool true)]) (F := F_has_break (SemCall prog w X n)) G rfl (by kernel_rfl)
   (r_scons (r_for 3 rfl (by kernel_rfl) nodup_has_break (r_seq (r_var 0 rfl nd_statements)) (r_scons (r_if (r_tcmp (r_sub (r_var 3 rfl nd_statement) r_int) r_str) (r_scons (r_if (r_tbool (r_aor (r_tbool (r_aand (r_tcmp (r_sub (r_var 3 rfl nd_statement) r_int) r_none) (r_aand (r_tval (r_var 2 rfl nd_is_near)) r_aand0))) (r_aor (r_tbool (r_aand (r_tcmp (r_sub (r_var 3 rfl nd_statement) r_int) r_none) (r_aand (r_tcmp (r_sub (r_var 3 rfl nd_statement) r_int) (r_var 1 rfl nd_label)) r_aand0))) r_aor0))) (r_scons (r_ret r_bool) r_snil) r_snil) r_snil) r_snil) (r_scons (r_asg 4 rfl (by kernel_rfl) nodup_has_break (r_and2 (r_var 2 rfl nd_is_near) (r_cmp (r_sub (r_var 3 rfl nd_statement) r_int) (r_glob G (by kernel_rfl) (ns_LEFT_BY_BREAK w) rfl (rd_LEFT_BY_BREAK G) (by kernel_rfl))))) (r_scons (r_for 5 rfl (by kernel_rfl) nodup_has_break (r_seq (r_call G 68 (by kernel_rfl) (ns_inner_lists w) (keep_inner_lists w) (r_cons (r_var 3 rfl nd_statement) r_nil))) (r_scons (r_if (r_tval (r_call G 76 (by kernel_rfl) (ns_has_break w) (keep_has_break w) (r_cons (r_var 5 rfl nd_inner) (r_cons (r_var 1 rfl nd_label) (r_cons (r_var 4 rfl nd_near) r_nil))))) (r_scons (r_ret r_bool) r_snil) r_snil) r_snil)) r_snil)))) (r_scons (r_ret r_bool) r_snil))
   (fun s us st _ r => by
     rcases r with _ | ⟨a0, r⟩
     rcases r with _ | ⟨a1, r⟩
     cases r with | nil => exact ⟨[_, _, .bool true], binds_K (G.K.keeps st) rfl rfl rfl rfl rfl, .cons a0 (.cons a1 (.cons (vr_flat0 rfl (.bool true)) .nil))⟩) nodup_has_break rfl (by decide +kernel) (by decide +kernel) (by kernel_rfl) (by kernel_rfl) (by kernel_rfl) hQ
def T_is_panic_0 (C : CallD) : SD := (sCons (sAsg 2 (eSub (eSub (eV 0) (eC (.int 2))) (eC (.int 2)))) (sCons (sRet (eAnd (eCmp .Eq (eSub (eV 2) (eC (.int 0))) (eC (.str (Str.ofString "name")))) (eCmp .Eq (eSub (eV 2) (eC (.int 2))) (eC (.str (Str.ofString "panic")))))) sNil))
/-- statement others called -/
def F_is_panic (C : CallD) : SD := (sCons (sIf (tOr (tCmp .NotEq (eSub (eV 0) (eC (.int 0))) (eC (.str (Str.ofString "expr")))) (tOr (tCmp .NotEq (eSub (eSub (eV 0) (eC (.int 2))) (eC (.int 0))) (eC (.str (Str.ofString "call")))) (tOr (tCmp .In (eSub (eSub (eV 0) (eC (.int 2))) (eC (.int 1))) (eV 1)) tFalse))) (sCons (sRet (eC (.bool false))) sNil) sNil) (T_is_panic_0 C))
theorem nodup_is_panic : ([(Str.ofString "statement"), (Str.ofString "others")] ++ [(Str.ofString "called")] : List Str).Nodup := by decide +kernel
theorem e_is_panic (G : Gnd (KK w) base) {d1 d2 : PyData} {Q : PyData → Prop} (hQ : F_is_panic (SemCall prog w X n) [some d1, some d2, none] (retQ Q)) : SemCall prog w X (n + 1) 83 [d1, d2] Q :=
  sem_entry (xs := [(Str.ofString "statement"), (Str.ofString "others")]) (rest := [(Str.ofString "called")]) (dsF := [d1, d2]) (F := F_is_panic (SemCall prog w X n)) G rfl (by kernel_rfl)
   (r_scons (r_if (r_tbool (r_aor (r_tcmp (r_sub (r_var 0 rfl nd_statement) r_int) r_str) (r_aor (r_tcmp (r_sub (r_sub (r_var 0 rfl nd_statement) r_int) r_int) r_str) (r_aor (r_tcmp (r_sub (r_sub (r_var 0 rfl nd_statement) r_int) r_int) (r_var 1 rfl nd_others)) r_aor0)))) (r_scons (r_ret r_bool) r_snil) r_snil) (r_scons (r_asg 2 rfl (by kernel_rfl) nodup_is_panic (r_sub (r_sub (r_var 0 rfl nd_statement) r_int) r_int)) (r_scons (r_ret (r_and2 (r_cmp (r_sub (r_var 2 rfl nd_called) r_int) r_str) (r_cmp (r_sub (r_var 2 rfl nd_called) r_int) r_str))) r_snil)))
   (fun s us _ _ r => hb2 (fun _ _ => rfl) us r) nodup_is_panic rfl (by decide +kernel) (by decide +kernel) (by kernel_rfl) (by kernel_rfl) (by kernel_rfl) hQ
/-- statements others -/
def F_is_case_ended (C : CallD) : SD := (sCons (sRet (eOr (eAnd (eCmp .NotEq (eV 0) (eC (.tuple []))) (eCmp .Eq (eSub (eSub (eV 0) (eC (.int (-1)))) (eC (.int 0))) (eC (.str (Str.ofString "fallthrough"))))) (eCall C 104 (lCons (eV 0) (lCons (eV 1) lNil))))) sNil)
theorem nodup_is_case_ended : ([(Str.ofString "statements"), (Str.ofString "others")] ++ [] : List Str).Nodup := by decide +kernel
theorem e_is_case_ended (G : Gnd (KK w) base) {d1 d2 : PyData} {Q : PyData → Prop} (hQ : F_is_case_ended (SemCall prog w X n) [some d1, some d2] (retQ Q)) : SemCall prog w X (n + 1) 90 [d1, d2] Q :=
  sem_entry (xs := [(Str.ofString "statements"), (Str.ofString "others")]) (rest := []) (dsF := [d1, d2]) (F := F_is_case_ended (SemCall prog w X n)) G rfl (by kernel_rfl)
   (r_scons (r_ret (r_or2 (r_and2 (r_cmp (r_var 0 rfl nd_statements) (r_ctup [] r_nil)) (r_cmp (r_sub (r_sub (r_var 0 rfl nd_statements) r_neg) r_int) r_str)) (r_call G 104 (by kernel_rfl) (ns_is_terminating w) (keep_is_terminating w) (r_cons (r_var 0 rfl nd_statements) (r_cons (r_var 1 rfl nd_others) r_nil))))) r_snil)
   (fun s us _ _ r => hb2 (fun _ _ => rfl) us r) nodup_is_case_ended rfl (by decide +kernel) (by decide +kernel) (by kernel_rfl) (by kernel_rfl) (by kernel_rfl) hQ
def B_ends_by_cases_0 (C : CallD) : SD := (sCons (sIf (tOr (tNot (tVal (eCall C 90 (lCons (eSub (eV 4) (eC (.int (-1)))) (lCons (eV 1) lNil))))) (tOr (tVal (eCall C 76 (lCons (eSub (eV 4) (eC (.int (-1)))) (lCons (eV 3) lNil)))) tFalse)) (sCons (sRet (eC (.bool false))) sNil) sNil) sNil)
def T_ends_by_cases_0 (C : CallD) : SD := (sCons (sFor 4 (iSeq (eV 2)) (B_ends_by_cases_0 C)) (sCons (sRet (eC (.bool true))) sNil))
def T_ends_by_cases_1 (C : CallD) : SD := (sCons (sIf (tAnd (tCmp .NotEq (eSub (eV 0) (eC (.int 0))) (eC (.str (Str.ofString "choose")))) (tAnd (tCmp .Eq (eComp [(Str.ofString "row")] [] (iSeq (eV 2)) (gName 0) (tCmp .Is (eSub (eV 0) (eC (.int 0))) (eC .none)) (eV 0)) (eC (.list []))) tTrue)) (sCons (sRet (eC (.bool false))) sNil) sNil) (T_ends_by_cases_0 C))
/-- statement others rows label row -/
def F_ends_by_cases (C : CallD) : SD := (sCons (sAsg2 2 3 (eCall C 63 (lCons (eV 0) lNil)) (eSub (eV 0) (eC (.int 2)))) (T_ends_by_cases_1 C))
theorem nodup_ends_by_cases : ([(Str.ofString "statement"), (Str.ofString "others")] ++ [(Str.ofString "rows"), (Str.ofString "label"), (Str.ofString "row")] : List Str).Nodup := by decide +kernel
theorem e_ends_by_cases (G : Gnd (KK w) base) {d1 d2 : PyData} {Q : PyData → Prop} (hQ : F_ends_by_cases (SemCall prog w X n) [some d1, some d2, none, none, none] (retQ Q)) : SemCall prog w X (n + 1) 95 [d1, d2] Q :=
  sem_entry (xs := [(Str.ofString "statement"), (Str.ofString "others")]) (rest := [(Str.ofString "rows"), (Str.ofString "label"), (Str.ofString "row")]) (dsF := [d1, d2]) (F := F_ends_by_cases (SemCall prog w X n)) G rfl (by kernel_rfl)
   (r_scons (r_asg2 2 3 rfl rfl (by kernel_rfl) (by kernel_rfl) nodup_ends_by_cases (by decide +kernel) (r_call G 63 (by kernel_rfl) (ns_case_rows w) (keep_case_rows w) (r_cons (r_var 0 rfl nd_statement) r_nil)) (r_sub (r_var 0 rfl nd_statement) r_int)) (r_scons (r_if (r_tbool (r_aand (r_tcmp (r_sub (r_var 0 rfl nd_statement) r_int) r_str) (r_aand (r_tcmp (r_comp [(Str.ofString "row")] [] (⟨by kernel_rfl, by decide +kernel, by decide +kernel, by decide +kernel, by decide +kernel, by decide +kernel⟩) (r_seq (r_var 2 rfl nd_rows)) (r_gname 0 rfl (by kernel_rfl) (by decide +kernel)) (r_ts1 (r_tcmp (r_sub (r_var 0 rfl nd_row) r_int) r_none)) (r_var 0 rfl nd_row)) (r_clst [] r_nil)) r_aand0))) (r_scons (r_ret r_bool) r_snil) r_snil) (r_scons (r_for 4 rfl (by kernel_rfl) nodup_ends_by_cases (r_seq (r_var 2 rfl nd_rows)) (r_scons (r_if (r_tbool (r_aor (r_tnot (r_tval (r_call G 90 (by kernel_rfl) (ns_is_case_ended w) (keep_is_case_ended w) (r_cons (r_sub (r_var 4 rfl nd_row) r_neg) (r_cons (r_var 1 rfl nd_others) r_nil))))) (r_aor (r_tval (r_call G 76 (by kernel_rfl) (ns_has_break w) (keep_has_break w) (r_cons (r_sub (r_var 4 rfl nd_row) r_neg) (r_cons (r_var 3 rfl nd_label) r_nil)))) r_aor0))) (r_scons (r_ret r_bool) r_snil) r_snil) r_snil)) (r_scons (r_ret r_bool) r_snil))))
   (fun s us _ _ r => hb2 (fun _ _ => rfl) us r) nodup_ends_by_cases rfl (by decide +kernel) (by decide +kernel) (by kernel_rfl) (by kernel_rfl) (by kernel_rfl) hQ
def T_is_terminating_0 (C : CallD) : SD := (sCons (sIf (tCmp .In (eV 3) (eC (.tuple [(.str (Str.ofString "switch")), (.str (Str.ofString "typeswitch")), (.str (Str.ofString "choose"))]))) (sCons (sRet (eCall C 95 (lCons (eV 2) (lCons (eV 1) lNil)))) sNil) sNil) (sCons (sRet (eC (.bool false))) sNil))
def T_is_terminating_1 (C : CallD) : SD := (sCons (sIf (tCmp .Eq (eV 3) (eC (.str (Str.ofString "for")))) (sCons (sRet (eAnd (eCmp .Is (eSub (eV 2) (eC (.int 4))) (eC .none)) (eNot (eCall C 76 (lCons (eSub (eSub (eV 2) (eC (.int 6))) (eC (.int 2))) (lCons (eSub (eV 2) (eC (.int 2))) lNil)))))) sNil) sNil) (T_is_terminating_0 C))
def T_is_terminating_2 (C : CallD) : SD := (sCons (sIf (tCmp .Eq (eV 3) (eC (.str (Str.ofString "if")))) (sCons (sIf (tOr (tCmp .Is (eSub (eV 2) (eC (.int 5))) (eC .none)) (tOr (tNot (tVal (eCall C 104 (lCons (eSub (eSub (eV 2) (eC (.int 4))) (eC (.int 2))) (lCons (eV 1) lNil))))) tFalse)) (sCons (sRet (eC (.bool false))) sNil) sNil) (sCons (sRet (eCall C 104 (lCons (eTup (lCons (eSub (eV 2) (eC (.int 5))) lNil)) (lCons (eV 1) lNil)))) sNil)) sNil) (T_is_terminating_1 C))
def T_is_terminating_3 (C : CallD) : SD := (sCons (sIf (tCmp .Eq (eV 3) (eC (.str (Str.ofString "block")))) (sCons (sRet (eCall C 104 (lCons (eSub (eV 2) (eC (.int 2))) (lCons (eV 1) lNil)))) sNil) sNil) (T_is_terminating_2 C))
def T_is_terminating_4 (C : CallD) : SD := (sCons (sIf (tOr (tCmp .Eq (eV 3) (eC (.str (Str.ofString "return")))) (tOr (tVal (eCall C 83 (lCons (eV 2) (lCons (eV 1) lNil)))) tFalse)) (sCons (sRet (eC (.bool true))) sNil) sNil) (T_is_terminating_3 C))
def T_is_terminating_5 (C : CallD) : SD := (sCons (sAsg 3 (eSub (eV 2) (eC (.int 0)))) (T_is_terminating_4 C))
def T_is_terminating_6 (C : CallD) : SD := (sCons (sAsg 2 (eSub (eV 0) (eC (.int (-1))))) (T_is_terminating_5 C))
/-- statements others last kind -/
def F_is_terminating (C : CallD) : SD := (sCons (sIf (tCmp .Eq (eLen (eV 0)) (eC (.int 0))) (sCons (sRet (eC (.bool false))) sNil) sNil) (T_is_terminating_6 C))
theorem nodup_is_terminating : ([(Str.ofString "statements"), (Str.ofString "others")] ++ [(Str.ofString "last"), (Str.ofString "kind")] : List Str).Nodup := by decide +kernel
theorem e_is_terminating (G : Gnd (KK w) base) {d1 d2 : PyData} {Q : PyData → Prop} (hQ : F_is_terminating (SemCall prog w X n) [some d1, some d2, none, none] (retQ Q)) : SemCall prog w X (n + 1) 104 [d1, d2] Q :=
  sem_entry (xs := [(Str.ofString "statements"), (Str.ofString "others")]) (rest := [(Str.ofString "last"), (Str.ofString "kind")]) (dsF := [d1, d2]) (F := F_is_terminating (SemCall prog w X n)) G rfl (by kernel_rfl)
   (r_scons (r_if (r_tcmp (r_len G (by kernel_rfl) (ns_len w) (r_var 0 rfl nd_statements)) r_int) (r_scons (r_ret r_bool) r_snil) r_snil) (r_scons (r_asg 2 rfl (by kernel_rfl) nodup_is_terminating (r_sub (r_var 0 rfl nd_statements) r_neg)) (r_scons (r_asg 3 rfl (by kernel_rfl) nodup_is_terminating (r_sub (r_var 2 rfl nd_last) r_int)) (r_scons (r_if (r_tbool (r_aor (r_tcmp (r_var 3 rfl nd_kind) r_str) (r_aor (r_tval (r_call G 83 (by kernel_rfl) (ns_is_panic w) (keep_is_panic w) (r_cons (r_var 2 rfl nd_last) (r_cons (r_var 1 rfl nd_others) r_nil)))) r_aor0))) (r_scons (r_ret r_bool) r_snil) r_snil) (r_scons (r_if (r_tcmp (r_var 3 rfl nd_kind) r_str) (r_scons (r_ret (r_call G 104 (by kernel_rfl) (ns_is_terminating w) (keep_is_terminating w) (r_cons (r_sub (r_var 2 rfl nd_last) r_int) (r_cons (r_var 1 rfl nd_others) r_nil)))) r_snil) r_snil) (r_scons (r_if (r_tcmp (r_var 3 rfl nd_kind) r_str) (r_scons (r_if (r_tbool (r_aor (r_tcmp (r_sub (r_var 2 rfl nd_last) r_int) r_none) (r_aor (r_tnot (r_tval (r_call G 104 (by kernel_rfl) (ns_is_terminating w) (keep_is_terminating w) (r_cons (r_sub (r_sub (r_var 2 rfl nd_last) r_int) r_int) (r_cons (r_var 1 rfl nd_others) r_nil))))) r_aor0))) (r_scons (r_ret r_bool) r_snil) r_snil) (r_scons (r_ret (r_call G 104 (by kernel_rfl) (ns_is_terminating w) (keep_is_terminating w) (r_cons (r_tup (r_cons (r_sub (r_var 2 rfl nd_last) r_int) r_nil)) (r_cons (r_var 1 rfl nd_others) r_nil)))) r_snil)) r_snil) (r_scons (r_if (r_tcmp (r_var 3 rfl nd_kind) r_str) (r_scons (r_ret (r_and2 (r_cmp (r_sub (r_var 2 rfl nd_last) r_int) r_none) (r_not (r_call G 76 (by kernel_rfl) (ns_has_break w) (keep_has_break w) (r_cons (r_sub (r_sub (r_var 2 rfl nd_last) r_int) r_int) (r_cons (r_sub (r_var 2 rfl nd_last) r_int) r_nil)))))) r_snil) r_snil) (r_scons (r_if (r_tcmp (r_var 3 rfl nd_kind) (r_ctup [(.str (Str.ofString "switch")), (.str (Str.ofString "typeswitch")), (.str (Str.ofString "choose"))] (r_cons r_str (r_cons r_str (r_cons r_str r_nil))))) (r_scons (r_ret (r_call G 95 (by kernel_rfl) (ns_ends_by_cases w) (keep_ends_by_cases w) (r_cons (r_var 2 rfl nd_last) (r_cons (r_var 1 rfl nd_others) r_nil)))) r_snil) r_snil) (r_scons (r_ret r_bool) r_snil)))))))))
   (fun s us st _ r => by cases r with | cons a0 r => cases r with | cons a1 r => cases r with | nil => exact ⟨_, binds_K (G.K.keeps st) rfl rfl rfl rfl rfl, .cons a0 (.cons a1 (.nil))⟩) nodup_is_terminating rfl (by decide +kernel) (by decide +kernel) (by kernel_rfl) (by kernel_rfl) (by kernel_rfl) hQ
theorem e_is_terminating1 (G : Gnd (KK w) base) {d1 : PyData} {Q : PyData → Prop} (hQ : F_is_terminating (SemCall prog w X n) [some d1, some (.tuple []), none, none] (retQ Q)) : SemCall prog w X (n + 1) 104 [d1] Q :=
  sem_entry (xs := [(Str.ofString "statements"), (Str.ofString "others")]) (rest := [(Str.ofString "last"), (Str.ofString "kind")]) (dsF := [d1, (.tuple [])]) (F := F_is_terminating (SemCall prog w X n)) G rfl (by kernel_rfl)
   (r_scons (r_if (r_tcmp (r_len G (by kernel_rfl) (ns_len w) (r_var 0 rfl nd_statements)) r_int) (r_scons (r_ret r_bool) r_snil) r_snil) (r_scons (r_asg 2 rfl (by kernel_rfl) nodup_is_terminating (r_sub (r_var 0 rfl nd_statements) r_neg)) (r_scons (r_asg 3 rfl (by kernel_rfl) nodup_is_terminating (r_sub (r_var 2 rfl nd_last) r_int)) (r_scons (r_if (r_tbool (r_aor (r_tcmp (r_var 3 rfl nd_kind) r_str) (r_aor (r_tval (r_call G 83 (by kernel_rfl) (ns_is_panic w) (keep_is_panic w) (r_cons (r_var 2 rfl nd_last) (r_cons (r_var 1 rfl nd_others) r_nil)))) r_aor0))) (r_scons (r_ret r_bool) r_snil) r_snil) (r_scons (r_if (r_tcmp (r_var 3 rfl nd_kind) r_str) (r_scons (r_ret (r_call G 104 (by kernel_rfl) (ns_is_terminating w) (keep_is_terminating w) (r_cons (r_sub (r_var 2 rfl nd_last) r_int) (r_cons (r_var 1 rfl nd_others) r_nil)))) r_snil) r_snil) (r_scons (r_if (r_tcmp (r_var 3 rfl nd_kind) r_str) (r_scons (r_if (r_tbool (r_aor (r_tcmp (r_sub (r_var 2 rfl nd_last) r_int) r_none) (r_aor (r_tnot (r_tval (r_call G 104 (by kernel_rfl) (ns_is_terminating w) (keep_is_terminating w) (r_cons (r_sub (r_sub (r_var 2 rfl nd_last) r_int) r_int) (r_cons (r_var 1 rfl nd_others) r_nil))))) r_aor0))) (r_scons (r_ret r_bool) r_snil) r_snil) (r_scons (r_ret (r_call G 104 (by kernel_rfl) (ns_is_terminating w) (keep_is_terminating w) (r_cons (r_tup (r_cons (r_sub (r_var 2 rfl nd_last) r_int) r_nil)) (r_cons (r_var 1 rfl nd_others) r_nil)))) r_snil)) r_snil) (r_scons (r_if (r_tcmp (r_var 3 rfl nd_kind) r_str) (r_scons (r_ret (r_and2 (r_cmp (r_sub (r_var 2 rfl nd_last) r_int) r_none) (r_not (r_call G 76 (by kernel_rfl) (ns_has_break w) (keep_has_break w) (r_cons (r_sub (r_sub (r_var 2 rfl nd_last) r_int) r_int) (r_cons (r_sub (r_var 2 rfl nd_last) r_int) r_nil)))))) r_snil) r_snil) (r_scons (r_if (r_tcmp (r_var 3 rfl nd_kind) (r_ctup [(.str (Str.ofString "switch")), (.str (Str.ofString "typeswitch")), (.str (Str.ofString "choose"))] (r_cons r_str (r_cons r_str (r_cons r_str r_nil))))) (r_scons (r_ret (r_call G 95 (by kernel_rfl) (ns_ends_by_cases w) (keep_ends_by_cases w) (r_cons (r_var 2 rfl nd_last) (r_cons (r_var 1 rfl nd_others) r_nil)))) r_snil) r_snil) (r_scons (r_ret r_bool) r_snil)))))))))
   (fun s us st _ r => by
     rcases r with _ | ⟨a0, r⟩
     cases r with | nil => exact ⟨[_, .ref 96], binds_K (G.K.keeps st) rfl rfl rfl rfl rfl, .cons a0 (.cons (.flat rfl (Reads.keeps st (rd_empty G))) .nil)⟩) nodup_is_terminating rfl (by decide +kernel) (by decide +kernel) (by kernel_rfl) (by kernel_rfl) (by kernel_rfl) hQ
/-- some -/
def F_law_block (C : CallD) : SD := (sCons (sRet (eTup (lCons (eC (.str (Str.ofString "block"))) (lCons (eC (.int 2)) (lCons (eTupOf (eV 0)) lNil))))) sNil)
theorem nodup_law_block : ([(Str.ofString "some")] ++ [] : List Str).Nodup := by decide +kernel
theorem e_law_block (G : Gnd (KK w) base) {d1 : PyData} {Q : PyData → Prop} (hQ : F_law_block (SemCall prog w X n) [some d1] (retQ Q)) : SemCall prog w X (n + 1) 179 [d1] Q :=
  sem_entry (xs := [(Str.ofString "some")]) (rest := []) (dsF := [d1]) (F := F_law_block (SemCall prog w X n)) G rfl (by kernel_rfl)
   (r_scons (r_ret (r_tup (r_cons r_str (r_cons r_int (r_cons (r_tupof G (by kernel_rfl) (ns_tuple w) (r_var 0 rfl nd_some)) r_nil))))) r_snil)
   (fun s us _ _ r => hb1 (fun _ => rfl) us r) nodup_law_block rfl (by decide +kernel) (by decide +kernel) (by kernel_rfl) (by kernel_rfl) (by kernel_rfl) hQ
def T_law_held_0 (C : CallD) : SD := (sCons (sIf (tCmp .In (eV 1) (eC (.list [(.str (Str.ofString "switch")), (.str (Str.ofString "typeswitch")), (.str (Str.ofString "choose"))]))) (sCons (sRet (eComp [(Str.ofString "told"), (Str.ofString "body")] [] (iSeq (eSub (eV 0) (eC (.int (-1))))) (gPair 0 1) tTrue (eV 1))) sNil) sNil) (sCons (sRet (eC (.list []))) sNil))
def T_law_held_1 (C : CallD) : SD := (sCons (sIf (tCmp .Eq (eV 1) (eC (.str (Str.ofString "for")))) (sCons (sRet (eLst (lCons (eSub (eSub (eV 0) (eC (.int 6))) (eC (.int 2))) lNil))) sNil) sNil) (T_law_held_0 C))
def T_law_held_2 (C : CallD) : SD := (sCons (sIf (tCmp .Eq (eV 1) (eC (.str (Str.ofString "if")))) (sCons (sRet (eAdd (eLst (lCons (eSub (eSub (eV 0) (eC (.int 4))) (eC (.int 2))) lNil)) (eComp [(Str.ofString "other")] [] (iSeq (eDrop 5 (eV 0))) (gName 0) (tCmp .IsNot (eV 0) (eC .none)) (eTup (lCons (eV 0) lNil))))) sNil) sNil) (T_law_held_1 C))
def T_law_held_3 (C : CallD) : SD := (sCons (sIf (tCmp .Eq (eV 1) (eC (.str (Str.ofString "block")))) (sCons (sRet (eLst (lCons (eSub (eV 0) (eC (.int 2))) lNil))) sNil) sNil) (T_law_held_2 C))
/-- statement kind -/
def F_law_held (C : CallD) : SD := (sCons (sAsg 1 (eSub (eV 0) (eC (.int 0)))) (T_law_held_3 C))
theorem nodup_law_held : ([(Str.ofString "statement")] ++ [(Str.ofString "kind")] : List Str).Nodup := by decide +kernel
theorem e_law_held (G : Gnd (KK w) base) {d1 : PyData} {Q : PyData → Prop} (hQ : F_law_held (SemCall prog w X n) [some d1, none] (retQ Q)) : SemCall prog w X (n + 1) 210 [d1] Q :=
  sem_entry (xs := [(Str.ofString "statement")]) (rest := [(Str.ofString "kind")]) (dsF := [d1]) (F := F_law_held (SemCall prog w X n)) G rfl (by kernel_rfl)
   (r_scons (r_asg 1 rfl (by kernel_rfl) nodup_law_held (r_sub (r_var 0 rfl nd_statement) r_int)) (r_scons (r_if (r_tcmp (r_var 1 rfl nd_kind) r_str) (r_scons (r_ret (r_lst (r_cons (r_sub (r_var 0 rfl nd_statement) r_int) r_nil))) r_snil) r_snil) (r_scons (r_if (r_tcmp (r_var 1 rfl nd_kind) r_str) (r_scons (r_ret (r_add (r_lst (r_cons (r_sub (r_sub (r_var 0 rfl nd_statement) r_int) r_int) r_nil)) (r_comp [(Str.ofString "other")] [] (⟨by kernel_rfl, by decide +kernel, by decide +kernel, by decide +kernel, by decide +kernel, by decide +kernel⟩) (r_seq (r_drop 5 (by decide) (r_var 0 rfl nd_statement))) (r_gname 0 rfl (by kernel_rfl) (by decide +kernel)) (r_ts1 (r_tcmp (r_var 0 rfl nd_other) r_none)) (r_tup (r_cons (r_var 0 rfl nd_other) r_nil))))) r_snil) r_snil) (r_scons (r_if (r_tcmp (r_var 1 rfl nd_kind) r_str) (r_scons (r_ret (r_lst (r_cons (r_sub (r_sub (r_var 0 rfl nd_statement) r_int) r_int) r_nil))) r_snil) r_snil) (r_scons (r_if (r_tcmp (r_var 1 rfl nd_kind) (r_clst [(.str (Str.ofString "switch")), (.str (Str.ofString "typeswitch")), (.str (Str.ofString "choose"))] (r_cons r_str (r_cons r_str (r_cons r_str r_nil))))) (r_scons (r_ret (r_comp [(Str.ofString "told"), (Str.ofString "body")] [] (⟨by kernel_rfl, by decide +kernel, by decide +kernel, by decide +kernel, by decide +kernel, by decide +kernel⟩) (r_seq (r_sub (r_var 0 rfl nd_statement) r_neg)) (r_gpair 0 1 rfl (by kernel_rfl) rfl (by kernel_rfl) (by decide +kernel)) r_ts0 (r_var 1 rfl nd_body))) r_snil) r_snil) (r_scons (r_ret (r_clst [] r_nil)) r_snil))))))
   (fun s us _ _ r => hb1 (fun _ => rfl) us r) nodup_law_held rfl (by decide +kernel) (by decide +kernel) (by kernel_rfl) (by kernel_rfl) (by kernel_rfl) hQ
/-- statement -/
def F_law_labels (C : CallD) : SD := (sCons (sRet (eIf (tCmp .In (eSub (eV 0) (eC (.int 0))) (eC (.list [(.str (Str.ofString "for")), (.str (Str.ofString "switch")), (.str (Str.ofString "typeswitch")), (.str (Str.ofString "choose"))]))) (eLst (lCons (eSub (eV 0) (eC (.int 2))) lNil)) (eC (.list [])))) sNil)
theorem nodup_law_labels : ([(Str.ofString "statement")] ++ [] : List Str).Nodup := by decide +kernel
theorem e_law_labels (G : Gnd (KK w) base) {d1 : PyData} {Q : PyData → Prop} (hQ : F_law_labels (SemCall prog w X n) [some d1] (retQ Q)) : SemCall prog w X (n + 1) 217 [d1] Q :=
  sem_entry (xs := [(Str.ofString "statement")]) (rest := []) (dsF := [d1]) (F := F_law_labels (SemCall prog w X n)) G rfl (by kernel_rfl)
   (r_scons (r_ret (r_ifexp (r_tcmp (r_sub (r_var 0 rfl nd_statement) r_int) (r_clst [(.str (Str.ofString "for")), (.str (Str.ofString "switch")), (.str (Str.ofString "typeswitch")), (.str (Str.ofString "choose"))] (r_cons r_str (r_cons r_str (r_cons r_str (r_cons r_str r_nil)))))) (r_lst (r_cons (r_sub (r_var 0 rfl nd_statement) r_int) r_nil)) (r_clst [] r_nil))) r_snil)
   (fun s us _ _ r => hb1 (fun _ => rfl) us r) nodup_law_labels rfl (by decide +kernel) (by decide +kernel) (by kernel_rfl) (by kernel_rfl) (by kernel_rfl) hQ
def B_law_leaves_0 (C : CallD) : SD := (sCons (sAsg 3 (eAdd (eV 3) (eCall C 224 (lCons (eV 5) (lCons (eV 1) (lCons (eAnd (eV 2) (eCmp .Eq (eCall C 217 (lCons (eV 4) lNil)) (eC (.list [])))) lNil)))))) sNil)
def T_law_leaves_0 (C : CallD) : SD := (sCons (sFor 5 (iSeq (eCall C 210 (lCons (eV 4) lNil))) (B_law_leaves_0 C)) sNil)
def B_law_leaves_1 (C : CallD) : SD := (sCons (sIf (tCmp .Eq (eSub (eV 4) (eC (.int 0))) (eC (.str (Str.ofString "break")))) (sCons (sAsg 3 (eAdd (eV 3) (eInt (eIf (tCmp .Is (eSub (eV 4) (eC (.int 2))) (eC .none)) (eV 2) (eCmp .Eq (eSub (eV 4) (eC (.int 2))) (eV 1)))))) sNil) sNil) (T_law_leaves_0 C))
def T_law_leaves_1 (C : CallD) : SD := (sCons (sFor 4 (iSeq (eV 0)) (B_law_leaves_1 C)) (sCons (sRet (eV 3)) sNil))
/-- body label is_near many statement inner -/
def F_law_leaves (C : CallD) : SD := (sCons (sAsg 3 (eC (.int 0))) (T_law_leaves_1 C))
theorem nodup_law_leaves : ([(Str.ofString "body"), (Str.ofString "label"), (Str.ofString "is_near")] ++ [(Str.ofString "many"), (Str.ofString "statement"), (Str.ofString "inner")] : List Str).Nodup := by decide +kernel
theorem e_law_leaves (G : Gnd (KK w) base) {d1 d2 d3 : PyData} {Q : PyData → Prop} (hQ : F_law_leaves (SemCall prog w X n) [some d1, some d2, some d3, none, none, none] (retQ Q)) : SemCall prog w X (n + 1) 224 [d1, d2, d3] Q :=
  sem_entry (xs := [(Str.ofString "body"), (Str.ofString "label"), (Str.ofString "is_near")]) (rest := [(Str.ofString "many"), (Str.ofString "statement"), (Str.ofString "inner")]) (dsF := [d1, d2, d3]) (F := F_law_leaves (SemCall prog w X n)) G rfl (by kernel_rfl)
   (r_scons (r_asg 3 rfl (by kernel_rfl) nodup_law_leaves r_int) (r_scons (r_for 4 rfl (by kernel_rfl) nodup_law_leaves (r_seq (r_var 0 rfl nd_body)) (r_scons (r_if (r_tcmp (r_sub (r_var 4 rfl nd_statement) r_int) r_str) (r_scons (r_asg 3 rfl (by kernel_rfl) nodup_law_leaves (r_add (r_var 3 rfl nd_many) (r_toint G (by kernel_rfl) (ns_int w) (r_ifexp (r_tcmp (r_sub (r_var 4 rfl nd_statement) r_int) r_none) (r_var 2 rfl nd_is_near) (r_cmp (r_sub (r_var 4 rfl nd_statement) r_int) (r_var 1 rfl nd_label)))))) r_snil) r_snil) (r_scons (r_for 5 rfl (by kernel_rfl) nodup_law_leaves (r_seq (r_call G 210 (by kernel_rfl) (ns_law_held w) (keep_law_held w) (r_cons (r_var 4 rfl nd_statement) r_nil))) (r_scons (r_asg 3 rfl (by kernel_rfl) nodup_law_leaves (r_add (r_var 3 rfl nd_many) (r_call G 224 (by kernel_rfl) (ns_law_leaves w) (keep_law_leaves w) (r_cons (r_var 5 rfl nd_inner) (r_cons (r_var 1 rfl nd_label) (r_cons (r_and2 (r_var 2 rfl nd_is_near) (r_cmp (r_call G 217 (by kernel_rfl) (ns_law_labels w) (keep_law_labels w) (r_cons (r_var 4 rfl nd_statement) r_nil)) (r_clst [] r_nil))) r_nil)))))) r_snil)) r_snil))) (r_scons (r_ret (r_var 3 rfl nd_many)) r_snil)))
   (fun s us _ _ r => hb3 (fun _ _ _ => rfl) us r) nodup_law_leaves rfl (by decide +kernel) (by decide +kernel) (by kernel_rfl) (by kernel_rfl) (by kernel_rfl) hQ
def T_law_is_open_0 (C : CallD) : SD := (sCons (sIf (tCmp .Eq (eV 2) (eC (.str (Str.ofString "for")))) (sCons (sRet (eOr (eCmp .IsNot (eSub (eV 1) (eC (.int 4))) (eC .none)) (eCmp .Gt (eCall C 224 (lCons (eSub (eV 3) (eC (.int 0))) (lCons (eSub (eV 1) (eC (.int 2))) (lCons (eC (.bool true)) lNil)))) (eC (.int 0))))) sNil) sNil) (sCons (sRet (eOr (eCmp .NotIn (eV 2) (eC (.list [(.str (Str.ofString "switch")), (.str (Str.ofString "typeswitch")), (.str (Str.ofString "choose"))]))) (eCall C 236 (lCons (eV 1) lNil)))) sNil))
def T_law_is_open_1 (C : CallD) : SD := (sCons (sIf (tCmp .Eq (eV 2) (eC (.str (Str.ofString "if")))) (sCons (sRet (eOr (eCmp .Eq (eLen (eV 3)) (eC (.int 1))) (eOr (eCall C 231 (lCons (eSub (eV 3) (eC (.int 0))) lNil)) (eCall C 231 (lCons (eSub (eV 3) (eC (.int 1))) lNil))))) sNil) sNil) (T_law_is_open_0 C))
def T_law_is_open_2 (C : CallD) : SD := (sCons (sIf (tCmp .Eq (eV 2) (eC (.str (Str.ofString "block")))) (sCons (sRet (eCall C 231 (lCons (eSub (eV 3) (eC (.int 0))) lNil))) sNil) sNil) (T_law_is_open_1 C))
def T_law_is_open_3 (C : CallD) : SD := (sCons (sIf (tOr (tCmp .Eq (eV 2) (eC (.str (Str.ofString "return")))) (tOr (tAnd (tCmp .Eq (eV 2) (eC (.str (Str.ofString "expr")))) (tAnd (tCmp .Eq (eSub (eSub (eSub (eV 1) (eC (.int 2))) (eC (.int 2))) (eC (.int 2))) (eC (.str (Str.ofString "panic")))) (tAnd (tCmp .NotEq (eSub (eSub (eV 1) (eC (.int 2))) (eC (.int 1))) (eC (.int 8))) tTrue))) tFalse)) (sCons (sRet (eC (.bool false))) sNil) sNil) (T_law_is_open_2 C))
def T_law_is_open_4 (C : CallD) : SD := (sCons (sAsg2 2 3 (eSub (eV 1) (eC (.int 0))) (eCall C 210 (lCons (eV 1) lNil))) (T_law_is_open_3 C))
def T_law_is_open_5 (C : CallD) : SD := (sCons (sAsg 1 (eSub (eV 0) (eC (.int (-1))))) (T_law_is_open_4 C))
/-- body last kind held -/
def F_law_is_open (C : CallD) : SD := (sCons (sIf (tCmp .Eq (eV 0) (eC (.tuple []))) (sCons (sRet (eC (.bool true))) sNil) sNil) (T_law_is_open_5 C))
theorem nodup_law_is_open : ([(Str.ofString "body")] ++ [(Str.ofString "last"), (Str.ofString "kind"), (Str.ofString "held")] : List Str).Nodup := by decide +kernel
theorem e_law_is_open (G : Gnd (KK w) base) {d1 : PyData} {Q : PyData → Prop} (hQ : F_law_is_open (SemCall prog w X n) [some d1, none, none, none] (retQ Q)) : SemCall prog w X (n + 1) 231 [d1] Q :=
  sem_entry (xs := [(Str.ofString "body")]) (rest := [(Str.ofString "last"), (Str.ofString "kind"), (Str.ofString "held")]) (dsF := [d1]) (F := F_law_is_open (SemCall prog w X n)) G rfl (by kernel_rfl)
   (r_scons (r_if (r_tcmp (r_var 0 rfl nd_body) (r_ctup [] r_nil)) (r_scons (r_ret r_bool) r_snil) r_snil) (r_scons (r_asg 1 rfl (by kernel_rfl) nodup_law_is_open (r_sub (r_var 0 rfl nd_body) r_neg)) (r_scons (r_asg2 2 3 rfl rfl (by kernel_rfl) (by kernel_rfl) nodup_law_is_open (by decide +kernel) (r_sub (r_var 1 rfl nd_last) r_int) (r_call G 210 (by kernel_rfl) (ns_law_held w) (keep_law_held w) (r_cons (r_var 1 rfl nd_last) r_nil))) (r_scons (r_if (r_tbool (r_aor (r_tcmp (r_var 2 rfl nd_kind) r_str) (r_aor (r_tbool (r_aand (r_tcmp (r_var 2 rfl nd_kind) r_str) (r_aand (r_tcmp (r_sub (r_sub (r_sub (r_var 1 rfl nd_last) r_int) r_int) r_int) r_str) (r_aand (r_tcmp (r_sub (r_sub (r_var 1 rfl nd_last) r_int) r_int) r_int) r_aand0)))) r_aor0))) (r_scons (r_ret r_bool) r_snil) r_snil) (r_scons (r_if (r_tcmp (r_var 2 rfl nd_kind) r_str) (r_scons (r_ret (r_call G 231 (by kernel_rfl) (ns_law_is_open w) (keep_law_is_open w) (r_cons (r_sub (r_var 3 rfl nd_held) r_int) r_nil))) r_snil) r_snil) (r_scons (r_if (r_tcmp (r_var 2 rfl nd_kind) r_str) (r_scons (r_ret (r_or3 (r_cmp (r_len G (by kernel_rfl) (ns_len w) (r_var 3 rfl nd_held)) r_int) (r_call G 231 (by kernel_rfl) (ns_law_is_open w) (keep_law_is_open w) (r_cons (r_sub (r_var 3 rfl nd_held) r_int) r_nil)) (r_call G 231 (by kernel_rfl) (ns_law_is_open w) (keep_law_is_open w) (r_cons (r_sub (r_var 3 rfl nd_held) r_int) r_nil)))) r_snil) r_snil) (r_scons (r_if (r_tcmp (r_var 2 rfl nd_kind) r_str) (r_scons (r_ret (r_or2 (r_cmp (r_sub (r_var 1 rfl nd_last) r_int) r_none) (r_cmp (r_call G 224 (by kernel_rfl) (ns_law_leaves w) (keep_law_leaves w) (r_cons (r_sub (r_var 3 rfl nd_held) r_int) (r_cons (r_sub (r_var 1 rfl nd_last) r_int) (r_cons r_bool r_nil)))) r_int))) r_snil) r_snil) (r_scons (r_ret (r_or2 (r_cmp (r_var 2 rfl nd_kind) (r_clst [(.str (Str.ofString "switch")), (.str (Str.ofString "typeswitch")), (.str (Str.ofString "choose"))] (r_cons r_str (r_cons r_str (r_cons r_str r_nil))))) (r_call G 236 (by kernel_rfl) (ns_law_are_open w) (keep_law_are_open w) (r_cons (r_var 1 rfl nd_last) r_nil)))) r_snil))))))))
   (fun s us _ _ r => hb1 (fun _ => rfl) us r) nodup_law_is_open rfl (by decide +kernel) (by decide +kernel) (by kernel_rfl) (by kernel_rfl) (by kernel_rfl) hQ
def T_law_are_open_0 (C : CallD) : SD := (sCons (sIf (tCmp .NotEq (eComp [(Str.ofString "body")] [] (iSeq (eV 2)) (gName 0) (tVal (eCall C 231 (lCons (eV 0) lNil))) (eV 0)) (eC (.list []))) (sCons (sRet (eC (.bool true))) sNil) sNil) (sCons (sRet (eCmp .Gt (eSum (eComp [(Str.ofString "body")] [((Str.ofString "statement"), 0)] (iSeq (eV 1)) (gName 0) tTrue (eCall C 224 (lCons (eV 0) (lCons (eSub (eV 1) (eC (.int 2))) (lCons (eC (.bool true)) lNil)))))) (eC (.int 0)))) sNil))
def T_law_are_open_1 (C : CallD) : SD := (sCons (sAsgC 2 [(Str.ofString "body")] [] (iSeq (eV 1)) (gName 0) (tOr (tCmp .Eq (eV 0) (eC (.tuple []))) (tOr (tCmp .NotEq (eSub (eSub (eV 0) (eC (.int (-1)))) (eC (.int 0))) (eC (.str (Str.ofString "fallthrough")))) tFalse)) (eV 0)) (T_law_are_open_0 C))
def T_law_are_open_2 (C : CallD) : SD := (sCons (sAsg 1 (eCall C 210 (lCons (eV 0) lNil))) (T_law_are_open_1 C))
/-- statement held some -/
def F_law_are_open (C : CallD) : SD := (sCons (sIf (tAnd (tCmp .NotEq (eSub (eV 0) (eC (.int 0))) (eC (.str (Str.ofString "choose")))) (tAnd (tCmp .NotIn (eC .none) (eComp [(Str.ofString "told"), (Str.ofString "body")] [] (iSeq (eSub (eV 0) (eC (.int (-1))))) (gPair 0 1) tTrue (eV 0))) tTrue)) (sCons (sRet (eC (.bool true))) sNil) sNil) (T_law_are_open_2 C))
theorem nodup_law_are_open : ([(Str.ofString "statement")] ++ [(Str.ofString "held"), (Str.ofString "some")] : List Str).Nodup := by decide +kernel
theorem e_law_are_open (G : Gnd (KK w) base) {d1 : PyData} {Q : PyData → Prop} (hQ : F_law_are_open (SemCall prog w X n) [some d1, none, none] (retQ Q)) : SemCall prog w X (n + 1) 236 [d1] Q :=
  sem_entryC (xs := [(Str.ofString "statement")]) (rest := [(Str.ofString "held"), (Str.ofString "some")]) (F := F_law_are_open (SemCall prog w X n)) G rfl (by kernel_rfl)
   (r_scons (r_if (r_tbool (r_aand (r_tcmp (r_sub (r_var 0 rfl nd_statement) r_int) r_str) (r_aand (r_tcmp r_none (r_comp [(Str.ofString "told"), (Str.ofString "body")] [] (⟨by kernel_rfl, by decide +kernel, by decide +kernel, by decide +kernel, by decide +kernel, by decide +kernel⟩) (r_seq (r_sub (r_var 0 rfl nd_statement) r_neg)) (r_gpair 0 1 rfl (by kernel_rfl) rfl (by kernel_rfl) (by decide +kernel)) r_ts0 (r_var 0 rfl nd_told))) r_aand0))) (r_scons (r_ret r_bool) r_snil) r_snil) (r_scons (r_asg 1 rfl (by kernel_rfl) nodup_law_are_open (r_call G 210 (by kernel_rfl) (ns_law_held w) (keep_law_held w) (r_cons (r_var 0 rfl nd_statement) r_nil))) (r_scons (r_asgc 2 [(Str.ofString "body")] [] (⟨by kernel_rfl, by decide +kernel, by decide +kernel, by decide +kernel, by decide +kernel, by decide +kernel⟩) rfl (by kernel_rfl) nodup_law_are_open (by kernel_rfl) (r_seq (r_var 1 rfl nd_held)) (r_gname 0 rfl (by kernel_rfl) (by decide +kernel)) (r_ts1 (r_tbool (r_aor (r_tcmp (r_var 0 rfl nd_body) (r_ctup [] r_nil)) (r_aor (r_tcmp (r_sub (r_sub (r_var 0 rfl nd_body) r_neg) r_int) r_str) r_aor0)))) (r_var 0 rfl nd_body)) (r_scons (r_if (r_tcmp (r_comp [(Str.ofString "body")] [] (⟨by kernel_rfl, by decide +kernel, by decide +kernel, by decide +kernel, by decide +kernel, by decide +kernel⟩) (r_seq (r_var 2 rfl nd_some)) (r_gname 0 rfl (by kernel_rfl) (by decide +kernel)) (r_ts1 (r_tval (r_call G 231 (by kernel_rfl) (ns_law_is_open w) (keep_law_is_open w) (r_cons (r_var 0 rfl nd_body) r_nil)))) (r_var 0 rfl nd_body)) (r_clst [] r_nil)) (r_scons (r_ret r_bool) r_snil) r_snil) (r_scons (r_ret (r_cmp (r_sum G (by kernel_rfl) (ns_sum w) (r_comp [(Str.ofString "body")] [((Str.ofString "statement"), 0)] (⟨by kernel_rfl, by decide +kernel, by decide +kernel, by decide +kernel, by decide +kernel, by decide +kernel⟩) (r_seq (r_var 1 rfl nd_held)) (r_gname 0 rfl (by kernel_rfl) (by decide +kernel)) r_ts0 (r_call G 224 (by kernel_rfl) (ns_law_leaves w) (keep_law_leaves w) (r_cons (r_var 0 rfl nd_body) (r_cons (r_sub (r_var 1 rfl nd_statement) r_int) (r_cons r_bool r_nil)))))) r_int)) r_snil)))))
   (fun us h => by match us, h with | [u1], _ => rfl) nodup_law_are_open rfl (by decide +kernel) (by kernel_rfl) (by kernel_rfl) (by kernel_rfl) hQ
def T_law_statement_right_0 (C : CallD) : SD := (sCons (sIf (tCmp .NotEq (eCall C 90 (lCons (eV 2) (lCons (eC (.tuple [(.int 8)])) lNil))) (eV 3)) (sCons (sRet (eC (.bool false))) sNil) sNil) sNil)
def B_law_statement_right_0 (C : CallD) : SD := (sCons (sAsg 3 (eOr (eAnd (eCmp .NotEq (eV 2) (eC (.tuple []))) (eCmp .Eq (eSub (eSub (eV 2) (eC (.int (-1)))) (eC (.int 0))) (eC (.str (Str.ofString "fallthrough"))))) (eNot (eCall C 231 (lCons (eV 2) lNil))))) (T_law_statement_right_0 C))
def T_law_statement_right_1 (C : CallD) : SD := (sCons (sFor 2 (iSeq (eV 1)) (B_law_statement_right_0 C)) sNil)
def T_law_statement_right_2 (C : CallD) : SD := (sCons (sIf (tCmp .In (eSub (eV 0) (eC (.int 0))) (eC (.list [(.str (Str.ofString "switch")), (.str (Str.ofString "typeswitch")), (.str (Str.ofString "choose"))]))) (sCons (sIf (tOr (tCmp .NotEq (eCall C 63 (lCons (eV 0) lNil)) (eSub (eV 0) (eC (.int (-1))))) (tOr (tCmp .NotEq (eCall C 95 (lCons (eV 0) (lCons (eC (.tuple [(.int 8)])) lNil))) (eNot (eCall C 236 (lCons (eV 0) lNil)))) tFalse)) (sCons (sRet (eC (.bool false))) sNil) sNil) (T_law_statement_right_1 C)) sNil) (sCons (sRet (eCmp .Eq (eComp [(Str.ofString "body")] [] (iSeq (eV 1)) (gName 0) (tNot (tVal (eCall C 246 (lCons (eV 0) lNil)))) (eV 0)) (eC (.list [])))) sNil))
def T_law_statement_right_3 (C : CallD) : SD := (sCons (sIf (tCmp .NotEq (eCall C 68 (lCons (eV 0) lNil)) (eV 1)) (sCons (sRet (eC (.bool false))) sNil) sNil) (T_law_statement_right_2 C))
/-- statement held body is_ended -/
def F_law_statement_right (C : CallD) : SD := (sCons (sAsg 1 (eCall C 210 (lCons (eV 0) lNil))) (T_law_statement_right_3 C))
theorem nodup_law_statement_right : ([(Str.ofString "statement")] ++ [(Str.ofString "held"), (Str.ofString "body"), (Str.ofString "is_ended")] : List Str).Nodup := by decide +kernel
theorem e_law_statement_right (G : Gnd (KK w) base) {d1 : PyData} {Q : PyData → Prop} (hQ : F_law_statement_right (SemCall prog w X n) [some d1, none, none, none] (retQ Q)) : SemCall prog w X (n + 1) 241 [d1] Q :=
  sem_entry (xs := [(Str.ofString "statement")]) (rest := [(Str.ofString "held"), (Str.ofString "body"), (Str.ofString "is_ended")]) (dsF := [d1]) (F := F_law_statement_right (SemCall prog w X n)) G rfl (by kernel_rfl)
   (r_scons (r_asg 1 rfl (by kernel_rfl) nodup_law_statement_right (r_call G 210 (by kernel_rfl) (ns_law_held w) (keep_law_held w) (r_cons (r_var 0 rfl nd_statement) r_nil))) (r_scons (r_if (r_tcmp (r_call G 68 (by kernel_rfl) (ns_inner_lists w) (keep_inner_lists w) (r_cons (r_var 0 rfl nd_statement) r_nil)) (r_var 1 rfl nd_held)) (r_scons (r_ret r_bool) r_snil) r_snil) (r_scons (r_if (r_tcmp (r_sub (r_var 0 rfl nd_statement) r_int) (r_clst [(.str (Str.ofString "switch")), (.str (Str.ofString "typeswitch")), (.str (Str.ofString "choose"))] (r_cons r_str (r_cons r_str (r_cons r_str r_nil))))) (r_scons (r_if (r_tbool (r_aor (r_tcmp (r_call G 63 (by kernel_rfl) (ns_case_rows w) (keep_case_rows w) (r_cons (r_var 0 rfl nd_statement) r_nil)) (r_sub (r_var 0 rfl nd_statement) r_neg)) (r_aor (r_tcmp (r_call G 95 (by kernel_rfl) (ns_ends_by_cases w) (keep_ends_by_cases w) (r_cons (r_var 0 rfl nd_statement) (r_cons (r_ctup [(.int 8)] (r_cons r_int r_nil)) r_nil))) (r_not (r_call G 236 (by kernel_rfl) (ns_law_are_open w) (keep_law_are_open w) (r_cons (r_var 0 rfl nd_statement) r_nil)))) r_aor0))) (r_scons (r_ret r_bool) r_snil) r_snil) (r_scons (r_for 2 rfl (by kernel_rfl) nodup_law_statement_right (r_seq (r_var 1 rfl nd_held)) (r_scons (r_asg 3 rfl (by kernel_rfl) nodup_law_statement_right (r_or2 (r_and2 (r_cmp (r_var 2 rfl nd_body) (r_ctup [] r_nil)) (r_cmp (r_sub (r_sub (r_var 2 rfl nd_body) r_neg) r_int) r_str)) (r_not (r_call G 231 (by kernel_rfl) (ns_law_is_open w) (keep_law_is_open w) (r_cons (r_var 2 rfl nd_body) r_nil))))) (r_scons (r_if (r_tcmp (r_call G 90 (by kernel_rfl) (ns_is_case_ended w) (keep_is_case_ended w) (r_cons (r_var 2 rfl nd_body) (r_cons (r_ctup [(.int 8)] (r_cons r_int r_nil)) r_nil))) (r_var 3 rfl nd_is_ended)) (r_scons (r_ret r_bool) r_snil) r_snil) r_snil))) r_snil)) r_snil) (r_scons (r_ret (r_cmp (r_comp [(Str.ofString "body")] [] (⟨by kernel_rfl, by decide +kernel, by decide +kernel, by decide +kernel, by decide +kernel, by decide +kernel⟩) (r_seq (r_var 1 rfl nd_held)) (r_gname 0 rfl (by kernel_rfl) (by decide +kernel)) (r_ts1 (r_tnot (r_tval (r_call G 246 (by kernel_rfl) (ns_law_body_right w) (keep_law_body_right w) (r_cons (r_var 0 rfl nd_body) r_nil))))) (r_var 0 rfl nd_body)) (r_clst [] r_nil))) r_snil))))
   (fun s us _ _ r => hb1 (fun _ => rfl) us r) nodup_law_statement_right rfl (by decide +kernel) (by decide +kernel) (by kernel_rfl) (by kernel_rfl) (by kernel_rfl) hQ
/-- body -/
def F_law_body_right (C : CallD) : SD := (sCons (sIf (tCmp .NotEq (eCall C 104 (lCons (eV 0) (lCons (eC (.tuple [(.int 8)])) lNil))) (eNot (eCall C 231 (lCons (eV 0) lNil)))) (sCons (sRet (eC (.bool false))) sNil) sNil) (sCons (sRet (eCmp .Eq (eComp [(Str.ofString "statement")] [] (iSeq (eV 0)) (gName 0) (tNot (tVal (eCall C 241 (lCons (eV 0) lNil)))) (eV 0)) (eC (.list [])))) sNil))
theorem nodup_law_body_right : ([(Str.ofString "body")] ++ [] : List Str).Nodup := by decide +kernel
theorem e_law_body_right (G : Gnd (KK w) base) {d1 : PyData} {Q : PyData → Prop} (hQ : F_law_body_right (SemCall prog w X n) [some d1] (retQ Q)) : SemCall prog w X (n + 1) 246 [d1] Q :=
  sem_entry (xs := [(Str.ofString "body")]) (rest := []) (dsF := [d1]) (F := F_law_body_right (SemCall prog w X n)) G rfl (by kernel_rfl)
   (r_scons (r_if (r_tcmp (r_call G 104 (by kernel_rfl) (ns_is_terminating w) (keep_is_terminating w) (r_cons (r_var 0 rfl nd_body) (r_cons (r_ctup [(.int 8)] (r_cons r_int r_nil)) r_nil))) (r_not (r_call G 231 (by kernel_rfl) (ns_law_is_open w) (keep_law_is_open w) (r_cons (r_var 0 rfl nd_body) r_nil)))) (r_scons (r_ret r_bool) r_snil) r_snil) (r_scons (r_ret (r_cmp (r_comp [(Str.ofString "statement")] [] (⟨by kernel_rfl, by decide +kernel, by decide +kernel, by decide +kernel, by decide +kernel, by decide +kernel⟩) (r_seq (r_var 0 rfl nd_body)) (r_gname 0 rfl (by kernel_rfl) (by decide +kernel)) (r_ts1 (r_tnot (r_tval (r_call G 241 (by kernel_rfl) (ns_law_statement_right w) (keep_law_statement_right w) (r_cons (r_var 0 rfl nd_statement) r_nil))))) (r_var 0 rfl nd_statement)) (r_clst [] r_nil))) r_snil))
   (fun s us _ _ r => hb1 (fun _ => rfl) us r) nodup_law_body_right rfl (by decide +kernel) (by decide +kernel) (by kernel_rfl) (by kernel_rfl) (by kernel_rfl) hQ
def T_law_wound_0 (r : Addr) (C : CallD) : SD := (sCons (sReel 0 r 1 (eBin .Mod (eAdd (eBin .Mult (eReel 0 r 1) (eC (.int 39373))) (eC (.int 7))) (eC (.int 2147483647)))) (sCons (sRet (eBin .Mod (eBin .FloorDiv (eBin .Mod (eBin .Mult (eReel 0 r 1) (eReel 0 r 1)) (eC (.int 2147483629))) (eC (.int 32))) (eV 1))) sNil))
def T_law_wound_1 (r : Addr) (C : CallD) : SD := (sCons (sReel 0 r 0 (eBin .FloorDiv (eReel 0 r 0) (eV 1))) (sCons (sRet (eV 2)) sNil))
/-- reel many found -/
def F_law_wound (r : Addr) (C : CallD) : SD := (sCons (sIf (tCmp .Gt (eReel 0 r 0) (eC (.int 0))) (sCons (sAsg 2 (eBin .Mod (eReel 0 r 0) (eV 1))) (T_law_wound_1 r C)) sNil) (T_law_wound_0 r C))
theorem nodup_law_wound : ([(Str.ofString "reel"), (Str.ofString "many")] ++ [(Str.ofString "found")] : List Str).Nodup := by decide +kernel
theorem e_law_wound (G : Gnd (KK w) base) {r : Addr} (rx : RX X r) {d1 d2 : PyData} {Q : PyData → Prop} (hQ : F_law_wound r (SemCall prog w X n) [some d1, some d2, none] (retQ Q)) : SemCall prog w X (n + 1) 165 [d1, d2] Q :=
  sem_entry (xs := [(Str.ofString "reel"), (Str.ofString "many")]) (rest := [(Str.ofString "found")]) (dsF := [d1, d2]) (F := F_law_wound r (SemCall prog w X n)) G rfl (by kernel_rfl)
   (r_scons (r_if (r_tcmp (r_reel rx 0 rfl nd_reel) r_int) (r_scons (r_asg 2 rfl (by kernel_rfl) nodup_law_wound (r_bin (r_reel rx 0 rfl nd_reel) (r_var 1 rfl nd_many))) (r_scons (r_setreel rx 0 rfl nd_reel (r_bin (r_reel rx 0 rfl nd_reel) (r_var 1 rfl nd_many))) (r_scons (r_ret (r_var 2 rfl nd_found)) r_snil))) r_snil) (r_scons (r_setreel rx 0 rfl nd_reel (r_bin (r_add (r_bin (r_reel rx 0 rfl nd_reel) r_int) r_int) r_int)) (r_scons (r_ret (r_bin (r_bin (r_bin (r_bin (r_reel rx 0 rfl nd_reel) (r_reel rx 0 rfl nd_reel)) r_int) r_int) (r_var 1 rfl nd_many))) r_snil)))
   (fun s us _ _ r => hb2 (fun _ _ => rfl) us r) nodup_law_wound rfl (by decide +kernel) (by decide +kernel) (by kernel_rfl) (by kernel_rfl) (by kernel_rfl) hQ
/-- reel some -/
def F_law_one (C : CallD) : SD := (sCons (sRet (eSub (eV 1) (eCall C 165 (lCons (eV 0) (lCons (eLen (eV 1)) lNil))))) sNil)
theorem nodup_law_one : ([(Str.ofString "reel"), (Str.ofString "some")] ++ [] : List Str).Nodup := by decide +kernel
theorem e_law_one (G : Gnd (KK w) base) {d1 d2 : PyData} {Q : PyData → Prop} (hQ : F_law_one (SemCall prog w X n) [some d1, some d2] (retQ Q)) : SemCall prog w X (n + 1) 172 [d1, d2] Q :=
  sem_entry (xs := [(Str.ofString "reel"), (Str.ofString "some")]) (rest := []) (dsF := [d1, d2]) (F := F_law_one (SemCall prog w X n)) G rfl (by kernel_rfl)
   (r_scons (r_ret (r_sub (r_var 1 rfl nd_some) (r_call G 165 (by kernel_rfl) (ns_law_wound w) (keep_law_wound w) (r_cons (r_var 0 rfl nd_reel) (r_cons (r_len G (by kernel_rfl) (ns_len w) (r_var 1 rfl nd_some)) r_nil))))) r_snil)
   (fun s us _ _ r => hb2 (fun _ _ => rfl) us r) nodup_law_one rfl (by decide +kernel) (by decide +kernel) (by kernel_rfl) (by kernel_rfl) (by kernel_rfl) hQ
/-- reel name panics -/
def F_law_leaf (C : CallD) : SD := (sCons (sUnp 1 2 (eC (.tuple [(.tuple [(.str (Str.ofString "name")), (.int 3), (.str (Str.ofString "x"))]), (.tuple [(.str (Str.ofString "call")), (.int 9), (.tuple [(.str (Str.ofString "name")), (.int 9), (.str (Str.ofString "panic"))]), (.tuple []), (.bool false)])]))) (sCons (sRet (eCall C 172 (lCons (eV 0) (lCons (eLst (lCons (eC (.tuple [(.str (Str.ofString "return")), (.int 3), (.tuple [])])) (lCons (eTup (lCons (eC (.str (Str.ofString "expr"))) (lCons (eC (.int 3)) (lCons (eV 2) lNil)))) (lCons (eC (.tuple [(.str (Str.ofString "expr")), (.int 3), (.tuple [(.str (Str.ofString "call")), (.int 8), (.tuple [(.str (Str.ofString "name")), (.int 8), (.str (Str.ofString "panic"))]), (.tuple []), (.bool false)])])) (lCons (eC (.tuple [(.str (Str.ofString "expr")), (.int 3), (.tuple [(.str (Str.ofString "call")), (.int 7), (.tuple [(.str (Str.ofString "name")), (.int 7), (.str (Str.ofString "f"))]), (.tuple []), (.bool false)])])) (lCons (eTup (lCons (eC (.str (Str.ofString "step"))) (lCons (eC (.int 3)) (lCons (eV 1) (lCons (eC (.str (Str.ofString "++"))) lNil))))) (lCons (eC (.tuple [(.str (Str.ofString "break")), (.int 3), .none])) (lCons (eC (.tuple [(.str (Str.ofString "break")), (.int 3), (.str (Str.ofString "A"))])) (lCons (eC (.tuple [(.str (Str.ofString "break")), (.int 3), (.str (Str.ofString "B"))])) (lCons (eC (.tuple [(.str (Str.ofString "continue")), (.int 3), .none])) (lCons (eC (.tuple [(.str (Str.ofString "return")), (.int 3), (.tuple [])])) lNil))))))))))) lNil)))) sNil))
theorem nodup_law_leaf : ([(Str.ofString "reel")] ++ [(Str.ofString "name"), (Str.ofString "panics")] : List Str).Nodup := by decide +kernel
theorem e_law_leaf (G : Gnd (KK w) base) {d1 : PyData} {Q : PyData → Prop} (hQ : F_law_leaf (SemCall prog w X n) [some d1, none, none] (retQ Q)) : SemCall prog w X (n + 1) 186 [d1] Q :=
  sem_entry (xs := [(Str.ofString "reel")]) (rest := [(Str.ofString "name"), (Str.ofString "panics")]) (dsF := [d1]) (F := F_law_leaf (SemCall prog w X n)) G rfl (by kernel_rfl)
   (r_scons (r_unp 1 2 rfl rfl (by kernel_rfl) (by kernel_rfl) nodup_law_leaf (by decide +kernel) (r_ctup [(.tuple [(.str (Str.ofString "name")), (.int 3), (.str (Str.ofString "x"))]), (.tuple [(.str (Str.ofString "call")), (.int 9), (.tuple [(.str (Str.ofString "name")), (.int 9), (.str (Str.ofString "panic"))]), (.tuple []), (.bool false)])] (r_cons (r_ctup [(.str (Str.ofString "name")), (.int 3), (.str (Str.ofString "x"))] (r_cons r_str (r_cons r_int (r_cons r_str r_nil)))) (r_cons (r_ctup [(.str (Str.ofString "call")), (.int 9), (.tuple [(.str (Str.ofString "name")), (.int 9), (.str (Str.ofString "panic"))]), (.tuple []), (.bool false)] (r_cons r_str (r_cons r_int (r_cons (r_ctup [(.str (Str.ofString "name")), (.int 9), (.str (Str.ofString "panic"))] (r_cons r_str (r_cons r_int (r_cons r_str r_nil)))) (r_cons (r_ctup [] r_nil) (r_cons r_bool r_nil)))))) r_nil)))) (r_scons (r_ret (r_call G 172 (by kernel_rfl) (ns_law_one w) (keep_law_one w) (r_cons (r_var 0 rfl nd_reel) (r_cons (r_lst (r_cons (r_ctup [(.str (Str.ofString "return")), (.int 3), (.tuple [])] (r_cons r_str (r_cons r_int (r_cons (r_ctup [] r_nil) r_nil)))) (r_cons (r_tup (r_cons r_str (r_cons r_int (r_cons (r_var 2 rfl nd_panics) r_nil)))) (r_cons (r_ctup [(.str (Str.ofString "expr")), (.int 3), (.tuple [(.str (Str.ofString "call")), (.int 8), (.tuple [(.str (Str.ofString "name")), (.int 8), (.str (Str.ofString "panic"))]), (.tuple []), (.bool false)])] (r_cons r_str (r_cons r_int (r_cons (r_ctup [(.str (Str.ofString "call")), (.int 8), (.tuple [(.str (Str.ofString "name")), (.int 8), (.str (Str.ofString "panic"))]), (.tuple []), (.bool false)] (r_cons r_str (r_cons r_int (r_cons (r_ctup [(.str (Str.ofString "name")), (.int 8), (.str (Str.ofString "panic"))] (r_cons r_str (r_cons r_int (r_cons r_str r_nil)))) (r_cons (r_ctup [] r_nil) (r_cons r_bool r_nil)))))) r_nil)))) (r_cons (r_ctup [(.str (Str.ofString "expr")), (.int 3), (.tuple [(.str (Str.ofString "call")), (.int 7), (.tuple [(.str (Str.ofString "name")), (.int 7), (.str (Str.ofString "f"))]), (.tuple []), (.bool false)])] (r_cons r_str (r_cons r_int (r_cons (r_ctup [(.str (Str.ofString "call")), (.int 7), (.tuple [(.str (Str.ofString "name")), (.int 7), (.str (Str.ofString "f"))]), (.tuple []), (.bool false)] (r_cons r_str (r_cons r_int (r_cons (r_ctup [(.str (Str.ofString "name")), (.int 7), (.str (Str.ofString "f"))] (r_cons r_str (r_cons r_int (r_cons r_str r_nil)))) (r_cons (r_ctup [] r_nil) (r_cons r_bool r_nil)))))) r_nil)))) (r_cons (r_tup (r_cons r_str (r_cons r_int (r_cons (r_var 1 rfl nd_name) (r_cons r_str r_nil))))) (r_cons (r_ctup [(.str (Str.ofString "break")), (.int 3), .none] (r_cons r_str (r_cons r_int (r_cons r_none r_nil)))) (r_cons (r_ctup [(.str (Str.ofString "break")), (.int 3), (.str (Str.ofString "A"))] (r_cons r_str (r_cons r_int (r_cons r_str r_nil)))) (r_cons (r_ctup [(.str (Str.ofString "break")), (.int 3), (.str (Str.ofString "B"))] (r_cons r_str (r_cons r_int (r_cons r_str r_nil)))) (r_cons (r_ctup [(.str (Str.ofString "continue")), (.int 3), .none] (r_cons r_str (r_cons r_int (r_cons r_none r_nil)))) (r_cons (r_ctup [(.str (Str.ofString "return")), (.int 3), (.tuple [])] (r_cons r_str (r_cons r_int (r_cons (r_ctup [] r_nil) r_nil)))) r_nil))))))))))) r_nil)))) r_snil))
   (fun s us _ _ r => hb1 (fun _ => rfl) us r) nodup_law_leaf rfl (by decide +kernel) (by decide +kernel) (by kernel_rfl) (by kernel_rfl) (by kernel_rfl) hQ
/-- reel deep -/
def F_law_body (C : CallD) : SD := (sCons (sRet (eTupOf (eComp [(Str.ofString "turn")] [((Str.ofString "reel"), 0), ((Str.ofString "deep"), 1)] (iRange (eCall C 172 (lCons (eV 0) (lCons (eC (.list [(.int 1), (.int 1), (.int 2), (.int 0)])) lNil)))) (gName 0) tTrue (eCall C 205 (lCons (eV 1) (lCons (eV 2) lNil)))))) sNil)
theorem nodup_law_body : ([(Str.ofString "reel"), (Str.ofString "deep")] ++ [] : List Str).Nodup := by decide +kernel
theorem e_law_body (G : Gnd (KK w) base) {d1 d2 : PyData} {Q : PyData → Prop} (hQ : F_law_body (SemCall prog w X n) [some d1, some d2] (retQ Q)) : SemCall prog w X (n + 1) 191 [d1, d2] Q :=
  sem_entryC (xs := [(Str.ofString "reel"), (Str.ofString "deep")]) (rest := []) (F := F_law_body (SemCall prog w X n)) G rfl (by kernel_rfl)
   (r_scons (r_ret (r_tupof G (by kernel_rfl) (ns_tuple w) (r_comp [(Str.ofString "turn")] [((Str.ofString "reel"), 0), ((Str.ofString "deep"), 1)] (⟨by kernel_rfl, by decide +kernel, by decide +kernel, by decide +kernel, by decide +kernel, by decide +kernel⟩) (r_range G (by kernel_rfl) (ns_range w) (r_call G 172 (by kernel_rfl) (ns_law_one w) (keep_law_one w) (r_cons (r_var 0 rfl nd_reel) (r_cons (r_clst [(.int 1), (.int 1), (.int 2), (.int 0)] (r_cons r_int (r_cons r_int (r_cons r_int (r_cons r_int r_nil))))) r_nil)))) (r_gname 0 rfl (by kernel_rfl) (by decide +kernel)) r_ts0 (r_call G 205 (by kernel_rfl) (ns_law_statement w) (keep_law_statement w) (r_cons (r_var 1 rfl nd_reel) (r_cons (r_var 2 rfl nd_deep) r_nil)))))) r_snil)
   (fun us h => by match us, h with | [u1, u2], _ => rfl) nodup_law_body rfl (by decide +kernel) (by kernel_rfl) (by kernel_rfl) (by kernel_rfl) hQ
def T_law_statement_0 (C : CallD) : SD := (sCons (sAsg 7 (eTup (lCons (eC (.str (Str.ofString "recv"))) (lCons (eC (.int 3)) (lCons (eC (.tuple [])) (lCons (eC (.bool false)) (lCons (eV 3) lNil))))))) (sCons (sRet (eTup (lCons (eC (.str (Str.ofString "choose"))) (lCons (eC (.int 3)) (lCons (eV 4) (lCons (eCall C 198 (lCons (eV 0) (lCons (eBin .Sub (eV 1) (eC (.int 1))) (lCons (eV 7) lNil)))) lNil)))))) sNil))
def T_law_statement_1 (C : CallD) : SD := (sCons (sIf (tCmp .Eq (eV 2) (eC (.int 7))) (sCons (sRet (eTup (lCons (eC (.str (Str.ofString "typeswitch"))) (lCons (eC (.int 3)) (lCons (eV 4) (lCons (eC .none) (lCons (eC .none) (lCons (eV 3) (lCons (eCall C 198 (lCons (eV 0) (lCons (eBin .Sub (eV 1) (eC (.int 1))) (lCons (eC (.tuple [(.tuple [(.str (Str.ofString "name")), (.int 3), .none, (.str (Str.ofString "int"))])])) lNil)))) lNil))))))))) sNil) sNil) (T_law_statement_0 C))
def T_law_statement_2 (C : CallD) : SD := (sCons (sIf (tCmp .Eq (eV 2) (eC (.int 6))) (sCons (sRet (eTup (lCons (eC (.str (Str.ofString "switch"))) (lCons (eC (.int 3)) (lCons (eV 4) (lCons (eC .none) (lCons (eV 3) (lCons (eCall C 198 (lCons (eV 0) (lCons (eBin .Sub (eV 1) (eC (.int 1))) (lCons (eTup (lCons (eV 3) lNil)) lNil)))) lNil)))))))) sNil) sNil) (T_law_statement_1 C))
def T_law_statement_3 (C : CallD) : SD := (sCons (sIf (tCmp .Lt (eV 2) (eC (.int 6))) (sCons (sAsg 6 (eIf (tCmp .Eq (eV 2) (eC (.int 4))) (eC .none) (eCall C 172 (lCons (eV 0) (lCons (eLst (lCons (eV 3) (lCons (eC .none) lNil))) lNil))))) (sCons (sRet (eTup (lCons (eC (.str (Str.ofString "for"))) (lCons (eC (.int 3)) (lCons (eV 4) (lCons (eC .none) (lCons (eV 6) (lCons (eC .none) (lCons (eCall C 179 (lCons (eCall C 191 (lCons (eV 0) (lCons (eBin .Sub (eV 1) (eC (.int 1))) lNil))) lNil)) lNil))))))))) sNil)) sNil) (T_law_statement_2 C))
def T_law_statement_4 (C : CallD) : SD := (sCons (sIf (tCmp .Eq (eV 2) (eC (.int 3))) (sCons (sAsg 5 (eSub (eLst (lCons (eC .none) (lCons (eCall C 179 (lCons (eCall C 191 (lCons (eV 0) (lCons (eBin .Sub (eV 1) (eC (.int 1))) lNil))) lNil)) lNil))) (eCall C 165 (lCons (eV 0) (lCons (eC (.int 2)) lNil))))) (sCons (sRet (eTup (lCons (eC (.str (Str.ofString "if"))) (lCons (eC (.int 3)) (lCons (eC .none) (lCons (eV 3) (lCons (eCall C 179 (lCons (eCall C 191 (lCons (eV 0) (lCons (eBin .Sub (eV 1) (eC (.int 1))) lNil))) lNil)) (lCons (eV 5) lNil)))))))) sNil)) sNil) (T_law_statement_3 C))
def T_law_statement_5 (C : CallD) : SD := (sCons (sIf (tCmp .Eq (eV 2) (eC (.int 2))) (sCons (sRet (eCall C 179 (lCons (eCall C 191 (lCons (eV 0) (lCons (eBin .Sub (eV 1) (eC (.int 1))) lNil))) lNil))) sNil) sNil) (T_law_statement_4 C))
def T_law_statement_6 (C : CallD) : SD := (sCons (sAsg2 3 4 (eC (.tuple [(.str (Str.ofString "name")), (.int 3), (.str (Str.ofString "x"))])) (eCall C 172 (lCons (eV 0) (lCons (eC (.list [.none, .none, (.str (Str.ofString "A")), (.str (Str.ofString "B"))])) lNil)))) (T_law_statement_5 C))
def T_law_statement_7 (C : CallD) : SD := (sCons (sIf (tCmp .Lt (eV 2) (eC (.int 2))) (sCons (sRet (eCall C 186 (lCons (eV 0) lNil))) sNil) sNil) (T_law_statement_6 C))
/-- reel deep way name label other test receive -/
def F_law_statement (C : CallD) : SD := (sCons (sAsg 2 (eIf (tCmp .Gt (eV 1) (eC (.int 0))) (eCall C 165 (lCons (eV 0) (lCons (eC (.int 9)) lNil))) (eC (.int 0)))) (T_law_statement_7 C))
theorem nodup_law_statement : ([(Str.ofString "reel"), (Str.ofString "deep")] ++ [(Str.ofString "way"), (Str.ofString "name"), (Str.ofString "label"), (Str.ofString "other"), (Str.ofString "test"), (Str.ofString "receive")] : List Str).Nodup := by decide +kernel
theorem e_law_statement (G : Gnd (KK w) base) {d1 d2 : PyData} {Q : PyData → Prop} (hQ : F_law_statement (SemCall prog w X n) [some d1, some d2, none, none, none, none, none, none] (retQ Q)) : SemCall prog w X (n + 1) 205 [d1, d2] Q :=
  sem_entry (xs := [(Str.ofString "reel"), (Str.ofString "deep")]) (rest := [(Str.ofString "way"), (Str.ofString "name"), (Str.ofString "label"), (Str.ofString "other"), (Str.ofString "test"), (Str.ofString "receive")]) (dsF := [d1, d2]) (F := F_law_statement (SemCall prog w X n)) G rfl (by kernel_rfl)
   (r_scons (r_asg 2 rfl (by kernel_rfl) nodup_law_statement (r_ifexp (r_tcmp (r_var 1 rfl nd_deep) r_int) (r_call G 165 (by kernel_rfl) (ns_law_wound w) (keep_law_wound w) (r_cons (r_var 0 rfl nd_reel) (r_cons r_int r_nil))) r_int)) (r_scons (r_if (r_tcmp (r_var 2 rfl nd_way) r_int) (r_scons (r_ret (r_call G 186 (by kernel_rfl) (ns_law_leaf w) (keep_law_leaf w) (r_cons (r_var 0 rfl nd_reel) r_nil))) r_snil) r_snil) (r_scons (r_asg2 3 4 rfl rfl (by kernel_rfl) (by kernel_rfl) nodup_law_statement (by decide +kernel) (r_ctup [(.str (Str.ofString "name")), (.int 3), (.str (Str.ofString "x"))] (r_cons r_str (r_cons r_int (r_cons r_str r_nil)))) (r_call G 172 (by kernel_rfl) (ns_law_one w) (keep_law_one w) (r_cons (r_var 0 rfl nd_reel) (r_cons (r_clst [.none, .none, (.str (Str.ofString "A")), (.str (Str.ofString "B"))] (r_cons r_none (r_cons r_none (r_cons r_str (r_cons r_str r_nil))))) r_nil)))) (r_scons (r_if (r_tcmp (r_var 2 rfl nd_way) r_int) (r_scons (r_ret (r_call G 179 (by kernel_rfl) (ns_law_block w) (keep_law_block w) (r_cons (r_call G 191 (by kernel_rfl) (ns_law_body w) (keep_law_body w) (r_cons (r_var 0 rfl nd_reel) (r_cons (r_bin (r_var 1 rfl nd_deep) r_int) r_nil))) r_nil))) r_snil) r_snil) (r_scons (r_if (r_tcmp (r_var 2 rfl nd_way) r_int) (r_scons (r_asg 5 rfl (by kernel_rfl) nodup_law_statement (r_sub (r_lst (r_cons r_none (r_cons (r_call G 179 (by kernel_rfl) (ns_law_block w) (keep_law_block w) (r_cons (r_call G 191 (by kernel_rfl) (ns_law_body w) (keep_law_body w) (r_cons (r_var 0 rfl nd_reel) (r_cons (r_bin (r_var 1 rfl nd_deep) r_int) r_nil))) r_nil)) r_nil))) (r_call G 165 (by kernel_rfl) (ns_law_wound w) (keep_law_wound w) (r_cons (r_var 0 rfl nd_reel) (r_cons r_int r_nil))))) (r_scons (r_ret (r_tup (r_cons r_str (r_cons r_int (r_cons r_none (r_cons (r_var 3 rfl nd_name) (r_cons (r_call G 179 (by kernel_rfl) (ns_law_block w) (keep_law_block w) (r_cons (r_call G 191 (by kernel_rfl) (ns_law_body w) (keep_law_body w) (r_cons (r_var 0 rfl nd_reel) (r_cons (r_bin (r_var 1 rfl nd_deep) r_int) r_nil))) r_nil)) (r_cons (r_var 5 rfl nd_other) r_nil)))))))) r_snil)) r_snil) (r_scons (r_if (r_tcmp (r_var 2 rfl nd_way) r_int) (r_scons (r_asg 6 rfl (by kernel_rfl) nodup_law_statement (r_ifexp (r_tcmp (r_var 2 rfl nd_way) r_int) r_none (r_call G 172 (by kernel_rfl) (ns_law_one w) (keep_law_one w) (r_cons (r_var 0 rfl nd_reel) (r_cons (r_lst (r_cons (r_var 3 rfl nd_name) (r_cons r_none r_nil))) r_nil))))) (r_scons (r_ret (r_tup (r_cons r_str (r_cons r_int (r_cons (r_var 4 rfl nd_label) (r_cons r_none (r_cons (r_var 6 rfl nd_test) (r_cons r_none (r_cons (r_call G 179 (by kernel_rfl) (ns_law_block w) (keep_law_block w) (r_cons (r_call G 191 (by kernel_rfl) (ns_law_body w) (keep_law_body w) (r_cons (r_var 0 rfl nd_reel) (r_cons (r_bin (r_var 1 rfl nd_deep) r_int) r_nil))) r_nil)) r_nil))))))))) r_snil)) r_snil) (r_scons (r_if (r_tcmp (r_var 2 rfl nd_way) r_int) (r_scons (r_ret (r_tup (r_cons r_str (r_cons r_int (r_cons (r_var 4 rfl nd_label) (r_cons r_none (r_cons (r_var 3 rfl nd_name) (r_cons (r_call G 198 (by kernel_rfl) (ns_law_cases w) (keep_law_cases w) (r_cons (r_var 0 rfl nd_reel) (r_cons (r_bin (r_var 1 rfl nd_deep) r_int) (r_cons (r_tup (r_cons (r_var 3 rfl nd_name) r_nil)) r_nil)))) r_nil)))))))) r_snil) r_snil) (r_scons (r_if (r_tcmp (r_var 2 rfl nd_way) r_int) (r_scons (r_ret (r_tup (r_cons r_str (r_cons r_int (r_cons (r_var 4 rfl nd_label) (r_cons r_none (r_cons r_none (r_cons (r_var 3 rfl nd_name) (r_cons (r_call G 198 (by kernel_rfl) (ns_law_cases w) (keep_law_cases w) (r_cons (r_var 0 rfl nd_reel) (r_cons (r_bin (r_var 1 rfl nd_deep) r_int) (r_cons (r_ctup [(.tuple [(.str (Str.ofString "name")), (.int 3), .none, (.str (Str.ofString "int"))])] (r_cons (r_ctup [(.str (Str.ofString "name")), (.int 3), .none, (.str (Str.ofString "int"))] (r_cons r_str (r_cons r_int (r_cons r_none (r_cons r_str r_nil))))) r_nil)) r_nil)))) r_nil))))))))) r_snil) r_snil) (r_scons (r_asg 7 rfl (by kernel_rfl) nodup_law_statement (r_tup (r_cons r_str (r_cons r_int (r_cons (r_ctup [] r_nil) (r_cons r_bool (r_cons (r_var 3 rfl nd_name) r_nil))))))) (r_scons (r_ret (r_tup (r_cons r_str (r_cons r_int (r_cons (r_var 4 rfl nd_label) (r_cons (r_call G 198 (by kernel_rfl) (ns_law_cases w) (keep_law_cases w) (r_cons (r_var 0 rfl nd_reel) (r_cons (r_bin (r_var 1 rfl nd_deep) r_int) (r_cons (r_var 7 rfl nd_receive) r_nil)))) r_nil)))))) r_snil))))))))))
   (fun s us _ _ r => hb2 (fun _ _ => rfl) us r) nodup_law_statement rfl (by decide +kernel) (by decide +kernel) (by kernel_rfl) (by kernel_rfl) (by kernel_rfl) hQ
def T_law_reel_0 (C : CallD) : SD := (sCons (sAsg 2 (eMax (eV 1) (eBin .Sub (eC (.int (-1))) (eV 1)))) (sCons (sRet (eLst (lCons (eIf (tCmp .GtE (eV 2) (eBin .Pow (eC (.int 10)) (eC (.int 18)))) (eV 2) (eC (.int 0))) (lCons (eBin .Mod (eBin .Mult (eAdd (eBin .Mod (eV 2) (eC (.int 2147483629))) (eC (.int 17))) (eC (.int 48271))) (eC (.int 2147483647))) lNil)))) sNil))
/-- script told size -/
def F_law_reel (C : CallD) : SD := (sCons (sAsg 1 (eIf (tCmp .Gt (eLen (eV 0)) (eC (.int 0))) (eSub (eV 0) (eC (.int 0))) (eC (.int 0)))) (T_law_reel_0 C))
theorem nodup_law_reel : ([(Str.ofString "script")] ++ [(Str.ofString "told"), (Str.ofString "size")] : List Str).Nodup := by decide +kernel
theorem e_law_reel (G : Gnd (KK w) base) {d1 : PyData} {Q : PyData → Prop} (hQ : F_law_reel (SemCall prog w X n) [some d1, none, none] (retQ Q)) : SemCall prog w X (n + 1) 158 [d1] Q :=
  sem_entry (xs := [(Str.ofString "script")]) (rest := [(Str.ofString "told"), (Str.ofString "size")]) (dsF := [d1]) (F := F_law_reel (SemCall prog w X n)) G rfl (by kernel_rfl)
   (r_scons (r_asg 1 rfl (by kernel_rfl) nodup_law_reel (r_ifexp (r_tcmp (r_len G (by kernel_rfl) (ns_len w) (r_var 0 rfl nd_script)) r_int) (r_sub (r_var 0 rfl nd_script) r_int) r_int)) (r_scons (r_asg 2 rfl (by kernel_rfl) nodup_law_reel (r_max G (by kernel_rfl) (ns_max w) (r_var 1 rfl nd_told) (r_bin r_neg (r_var 1 rfl nd_told)))) (r_scons (r_ret (r_lst (r_cons (r_ifexp (r_tcmp (r_var 2 rfl nd_size) (r_bin r_int r_int)) (r_var 2 rfl nd_size) r_int) (r_cons (r_bin (r_bin (r_add (r_bin (r_var 2 rfl nd_size) r_int) r_int) r_int) r_int) r_nil)))) r_snil)))
   (fun s us _ _ r => hb1 (fun _ => rfl) us r) nodup_law_reel rfl (by decide +kernel) (by decide +kernel) (by kernel_rfl) (by kernel_rfl) (by kernel_rfl) hQ
end
end Mine

namespace Mine

/-! data of bounded depth, tuples alone -/
mutual
def fit : PyData → Nat → Bool
  | .none, _ => true
  | .bool _, _ => true
  | .int _, _ => true
  | .str x, _ => PyData.strOk x
  | .list _, _ => false
  | .tuple xs, D => match D with
    | 0 => false
    | D + 1 => fits xs D
  | .dict _, _ => false
def fits : List PyData → Nat → Bool
  | [], _ => true
  | x :: r, D => fit x D && fits r D
end
mutual
theorem fit_all : ∀ {D D' : Nat} {d : PyData}, fit d D = true → D ≤ D' → lf d = true ∧ PyData.canLay0 d = true ∧ PyData.depth d ≤ D ∧ fit d D' = true
  | _, _, .none, _, _ => ⟨rfl, rfl, Nat.zero_le _, rfl⟩
  | _, _, .bool _, _, _ => ⟨rfl, rfl, Nat.zero_le _, rfl⟩
  | _, _, .int _, _, _ => ⟨rfl, rfl, Nat.zero_le _, rfl⟩
  | _, _, .str _, h, _ => ⟨rfl, h, Nat.zero_le _, h⟩
  | _, _, .list _, h, _ => nomatch h
  | 0, _, .tuple _, h, _ => nomatch h
  | D + 1, 0, .tuple _, _, l => nomatch l
  | D + 1, D' + 1, .tuple xs, h, l => by
    obtain ⟨a, b, c, e⟩ := fits_all (D := D) (D' := D') (xs := xs) h (Nat.le_of_succ_le_succ l)
    exact ⟨a, b, Nat.succ_le_succ c, e⟩
  | _, _, .dict _, h, _ => nomatch h
theorem fits_all : ∀ {D D' : Nat} {xs : List PyData}, fits xs D = true → D ≤ D' → lfs xs = true ∧ PyData.canLayAll0 xs = true ∧ PyData.depthAll xs ≤ D ∧ fits xs D' = true
  | _, _, [], _, _ => ⟨rfl, rfl, Nat.zero_le _, rfl⟩
  | D, D', x :: r, h, l => by
    rw [fits, Bool.and_eq_true] at h
    obtain ⟨a, b, c, e⟩ := fit_all h.1 l
    obtain ⟨a', b', c', e'⟩ := fits_all h.2 l
    exact ⟨by rw [lfs, a, a']; rfl, by rw [PyData.canLayAll0, b, b']; rfl, by rw [PyData.depthAll]; exact Nat.max_le.mpr ⟨c, c'⟩, by rw [fits, e, e']; rfl⟩
end
theorem fit_lf {D : Nat} {d : PyData} (h : fit d D = true) : lf d = true := (fit_all h (Nat.le_refl _)).1
theorem fits_lf {D : Nat} {d : List PyData} (h : fits d D = true) : lfs d = true := (fits_all h (Nat.le_refl _)).1
theorem fit_mono {D D' : Nat} {d : PyData} (h : fit d D = true) (l : D ≤ D') : fit d D' = true := (fit_all h l).2.2.2
theorem fit_shaped {D : Nat} {d : PyData} (h : fit d D = true) (l : D ≤ 64) : shaped d = true := by
  rw [shaped, (fit_all h l).2.1, decide_eq_true (Nat.le_trans (fit_all h l).2.2.1 l)]; rfl
theorem fits_shapedL {D : Nat} {xs : List PyData} (h : fits xs D = true) (l : D ≤ 63) : shaped (.list xs) = true := by
  rw [shaped, PyData.canLay0, (fits_all h l).2.1, decide_eq_true (show (PyData.list xs).depth ≤ 64 from by rw [PyData.depth]; have := (fits_all h l).2.2.1; omega)]; rfl

theorem idx_last {xs : List PyData} (h : small xs = true) : idx? (-1) xs = xs.getLast? := by
  have := of_decide_eq_true h
  rw [idx?, if_pos (by decide), List.getLast?_eq_getElem?]
  cases xs with
  | nil => rfl
  | cons x r =>
    have e : seqIndex? (-1) (x :: r).length = some r.length := by
      rw [seqIndex?]; simp; omega
    rw [e]; rfl
end Mine

namespace Mine

abbrev sN (s : String) : PyData := .str (Str.ofString s)
inductive Lb where
  | N | A | B
  deriving DecidableEq
def lb : Lb → PyData
  | .N => .none
  | .A => sN "A"
  | .B => sN "B"
inductive Leaf where
  | ret | p9 | p8 | cf | step | brk (l : Lb) | cont | fall
def nmx : PyData := .tuple [sN "name", .int 3, sN "x"]
def eCallOf (j k : Int) (f : String) : PyData := .tuple [sN "expr", .int 3, .tuple [sN "call", .int k, .tuple [sN "name", .int k, sN f], .tuple [], .bool false]]
def eLeaf : Leaf → PyData
  | .ret => .tuple [sN "return", .int 3, .tuple []]
  | .p9 => eCallOf 9 9 "panic"
  | .p8 => eCallOf 8 8 "panic"
  | .cf => eCallOf 7 7 "f"
  | .step => .tuple [sN "step", .int 3, nmx, sN "++"]
  | .brk l => .tuple [sN "break", .int 3, lb l]
  | .cont => .tuple [sN "continue", .int 3, .none]
  | .fall => .tuple [sN "fallthrough", .int 3]
/-- what is told of a statement or of a body: how many breaks leave by it, is it terminating, does it end in fallthrough -/
structure Sp where
  lv : Lb → Bool → Nat
  tm : Bool
  fl : Bool
abbrev oth : PyData := .tuple [.int 8]
def pan : Leaf → Bool
  | .p9 => true
  | _ => false
def sFall : Str := Str.ofString "fallthrough"

section
variable (w : World) {base : Heap} (X : Ext base)
structure SOK (n : Nat) (d : PyData) (sp : Sp) : Prop where
  tup : ∃ k r, d = .tuple (.str k :: r) ∧ sp.fl = (k == sFall)
  fit : fit d n = true
  hb : ∀ b l near x4 x5 Q, (0 < sp.lv l near → ∀ m', Q m' (.ret (.bool true))) → (sp.lv l near = 0 → ∀ y4 y5, Q [b, some (lb l), some (.bool near), some d, y4, y5] .nxt) →
    B_has_break_1 (SemCall prog w X n) [b, some (lb l), some (.bool near), some d, x4, x5] Q
  lv : ∀ b l near i x5 Q, (∀ y5, Q [b, some (lb l), some (.bool near), some (.int (i + (sp.lv l near : Int))), some d, y5] .nxt) →
    B_law_leaves_1 (SemCall prog w X n) [b, some (lb l), some (.bool near), some (.int i), some d, x5] Q
  tm : ∀ b x3 Q, Q (.bool sp.tm) → T_is_terminating_5 (SemCall prog w X n) [b, some oth, some d, x3] (retQ Q)
  op : ∀ b x2 x3 Q, Q (.bool (!sp.tm)) → T_law_is_open_4 (SemCall prog w X n) [b, some d, x2, x3] (retQ Q)
  ok : ∀ Q, Q (.bool true) → SemCall prog w X n 241 [d] Q
structure BOK (n : Nat) (d : PyData) (sp : Sp) : Prop where
  tup : ∃ xs, d = .tuple xs ∧ ((xs = [] ∧ sp.fl = false) ∨ ((∃ x r, xs = x :: r) ∧ ∃ k r, idx? (-1) xs = some (.tuple (.str k :: r)) ∧ sp.fl = (k == sFall)))
  fit : fit d n = true
  hb : ∀ l near Q, Q (.bool (decide (0 < sp.lv l near))) → SemCall prog w X n 76 [d, lb l, .bool near] Q
  hb1 : ∀ l Q, Q (.bool (decide (0 < sp.lv l true))) → SemCall prog w X n 76 [d, lb l] Q
  lv : ∀ l near Q, Q (.int (sp.lv l near : Int)) → SemCall prog w X n 224 [d, lb l, .bool near] Q
  tm : ∀ Q, Q (.bool sp.tm) → SemCall prog w X n 104 [d, oth] Q
  op : ∀ Q, Q (.bool (!sp.tm)) → SemCall prog w X n 231 [d] Q
  ce : ∀ Q, Q (.bool (sp.fl || sp.tm)) → SemCall prog w X n 90 [d, oth] Q
  ok : ∀ Q, Q (.bool true) → SemCall prog w X n 246 [d] Q
end
section
variable {w : World} {base : Heap} {X : Ext base} {n : Nat}
def brkLv (b l : Lb) (near : Bool) : Nat := match b with
  | .N => cond near 1 0
  | .A => match l with | .A => 1 | _ => 0
  | .B => match l with | .B => 1 | _ => 0
def leafSp : Leaf → Sp
  | .ret => ⟨fun _ _ => 0, true, false⟩
  | .p9 => ⟨fun _ _ => 0, true, false⟩
  | .brk b => ⟨brkLv b, false, false⟩
  | .fall => ⟨fun _ _ => 0, false, true⟩
  | _ => ⟨fun _ _ => 0, false, false⟩
theorem go {P Q : Prop} (h : Q) (e : Q = P := by kernel_rfl) : P := e ▸ h
theorem leaf_inner (G : Gnd (KK w) base) (l : Leaf) {Q : PyData → Prop} (h : Q (.list [])) : SemCall prog w X (n + 1) 68 [eLeaf l] Q := by
  refine e_inner_lists G ?_
  generalize SemCall prog w X n = C
  cases l
  all_goals exact h
theorem leaf_held (G : Gnd (KK w) base) (l : Leaf) {Q : PyData → Prop} (h : Q (.list [])) : SemCall prog w X (n + 1) 210 [eLeaf l] Q := by
  refine e_law_held G ?_
  generalize SemCall prog w X n = C
  cases l
  all_goals exact h
theorem leaf_panic (G : Gnd (KK w) base) (l : Leaf) {Q : PyData → Prop} (h : Q (.bool (pan l))) : SemCall prog w X (n + 1) 83 [eLeaf l, oth] Q := by
  refine e_is_panic G ?_
  generalize SemCall prog w X n = C
  cases l
  all_goals exact h
theorem leaf_ok (G : Gnd (KK w) base) (l : Leaf) : SOK w X (n + 4) (eLeaf l) (leafSp l) where
  tup := by cases l <;> exact ⟨_, _, rfl, by kernel_rfl⟩
  fit := by
    rcases l with _ | _ | _ | _ | _ | b | _ | _
    case brk => cases b <;> kernel_rfl
    all_goals kernel_rfl
  hb := by
    intro b l1 near x4 x5 Q h1 h0
    have hi : ∀ Q, Q (.list []) → SemCall prog w X (n + 4) 68 [eLeaf l] Q := fun Q q => leaf_inner G l q
    revert hi
    generalize SemCall prog w X (n + 4) = C
    intro hi
    cases near
    all_goals cases l
    all_goals first | (refine hi _ ?_; exact ⟨rfl, h0 rfl _ _⟩) | skip
    all_goals rename_i lab
    all_goals cases lab <;> cases l1
    all_goals first | exact h1 (by decide) _ | (refine hi _ ?_; exact ⟨rfl, h0 rfl _ _⟩)
  lv := by
    intro b l1 near i x5 Q h
    have hi : ∀ Q, Q (.list []) → SemCall prog w X (n + 4) 210 [eLeaf l] Q := fun Q q => leaf_held G l q
    revert hi
    generalize SemCall prog w X (n + 4) = C
    intro hi
    cases l
    all_goals first | (have h := Int.add_zero i ▸ h; refine hi _ ?_; exact ⟨rfl, h _⟩) | skip
    all_goals rename_i lab
    all_goals cases near <;> cases lab <;> cases l1
    all_goals (refine hi _ ?_; exact ⟨rfl, h _⟩)
  tm := by
    intro b x3 Q h
    have hi : ∀ Q, Q (.bool (pan l)) → SemCall prog w X (n + 4) 83 [eLeaf l, oth] Q := fun Q q => leaf_panic G l q
    revert hi
    generalize SemCall prog w X (n + 4) = C
    intro hi
    cases l
    all_goals first | exact h | (refine hi _ ?_; exact h)
  op := by
    intro b x2 x3 Q h
    have hi : ∀ Q, Q (.list []) → SemCall prog w X (n + 4) 210 [eLeaf l] Q := fun Q q => leaf_held G l q
    revert hi
    generalize SemCall prog w X (n + 4) = C
    intro hi
    cases l
    all_goals (refine hi _ ?_; exact h)
  ok := by
    intro Q h
    refine e_law_statement_right (n := n + 3) G ?_
    have hi : ∀ Q, Q (.list []) → SemCall prog w X (n + 3) 68 [eLeaf l] Q := fun Q q => leaf_inner G l q
    have hh : ∀ Q, Q (.list []) → SemCall prog w X (n + 3) 210 [eLeaf l] Q := fun Q q => leaf_held G l q
    revert hi hh
    generalize SemCall prog w X (n + 3) = C
    intro hi hh
    refine hh _ ?_
    refine hi _ ?_
    cases l
    all_goals exact ⟨rfl, rfl, rfl, rfl, rfl, rfl, rfl, h⟩
end
end Mine

namespace Mine
section
variable {w : World} {base : Heap} {X : Ext base} {n : Nat}

theorem BOK.mono {d : PyData} {sp : Sp} (h : BOK w X n d sp) {m : Nat} (l : n ≤ m) : BOK w X m d sp where
  tup := h.tup
  fit := fit_mono h.fit l
  hb := fun a b Q q => (h.hb a b Q q).less l
  hb1 := fun a Q q => (h.hb1 a Q q).less l
  lv := fun a b Q q => (h.lv a b Q q).less l
  tm := fun Q q => (h.tm Q q).less l
  op := fun Q q => (h.op Q q).less l
  ce := fun Q q => (h.ce Q q).less l
  ok := fun Q q => (h.ok Q q).less l

inductive SOKs (w : World) (X : Ext base) (n : Nat) : List PyData → Sp → Prop
  | nil : SOKs w X n [] ⟨fun _ _ => 0, false, false⟩
  | cons {d : PyData} {ds : List PyData} {sp sq : Sp} : SOK w X n d sp → SOKs w X n ds sq → SOKs w X n (d :: ds) ⟨fun l k => sp.lv l k + sq.lv l k, bif ds.isEmpty then sp.tm else sq.tm, bif ds.isEmpty then sp.fl else sq.fl⟩

theorem SOKs.last {x : PyData} {r : List PyData} {sq : Sp} (h : SOKs w X n (x :: r) sq) : ∃ d sp, (x :: r).getLast? = some d ∧ SOK w X n d sp ∧ sp.tm = sq.tm ∧ sp.fl = sq.fl := by
  induction r generalizing x sq with
  | nil => cases h with | cons a b => cases b with | nil => exact ⟨x, _, rfl, a, rfl, rfl⟩
  | cons y r ih =>
    cases h with | cons a b =>
    obtain ⟨d, sp, e, s, t, f⟩ := ih b
    exact ⟨d, sp, by rw [List.getLast?_cons_cons]; exact e, s, t, f⟩
theorem SOKs.fits {ds : List PyData} {sq : Sp} (h : SOKs w X n ds sq) : fits ds n = true := by
  induction h with
  | nil => rfl
  | cons a _ ih => rw [Mine.fits, a.fit, ih]; rfl

theorem SOKs.hb {ds : List PyData} {sq : Sp} (h : SOKs w X n ds sq) {b : Option PyData} {l : Lb} {near : Bool} {Q : Loc → Flw → Prop} : ∀ {x3 x4 x5 : Option PyData}, (0 < sq.lv l near → ∀ m', Q m' (.ret (.bool true))) →
    (sq.lv l near = 0 → ∀ y3 y4 y5, Q [b, some (lb l), some (.bool near), y3, y4, y5] .nxt) → forQ (B_has_break_1 (SemCall prog w X n)) 3 ds [b, some (lb l), some (.bool near), x3, x4, x5] Q := by
  induction h with
  | nil => intro _ _ _ _ h0; exact h0 rfl _ _ _
  | cons a _ ih =>
    intro x3 x4 x5 h1 h0
    refine a.hb b l near x4 x5 _ (fun p m' => h1 (Nat.add_pos_left p _) m') fun z y4 y5 => ?_
    exact ih (fun p m' => h1 (Nat.add_pos_right _ p) m') fun z' => h0 (by show _ + _ = 0; rw [z, z'])
theorem SOKs.lv {ds : List PyData} {sq : Sp} (h : SOKs w X n ds sq) {b : Option PyData} {l : Lb} {near : Bool} {Q : Loc → Flw → Prop} : ∀ {i : Int} {x4 x5 : Option PyData},
    (∀ y4 y5, Q [b, some (lb l), some (.bool near), some (.int (i + (sq.lv l near : Int))), y4, y5] .nxt) → forQ (B_law_leaves_1 (SemCall prog w X n)) 4 ds [b, some (lb l), some (.bool near), some (.int i), x4, x5] Q := by
  induction h with
  | nil => intro i _ _ h; have h := Int.add_zero i ▸ h; exact h _ _
  | cons a _ ih =>
    intro i x4 x5 h
    refine a.lv b l near i x5 _ fun y5 => ?_
    refine ih fun y4 y5 => ?_
    have := h y4 y5
    rw [Int.natCast_add, ← Int.add_assoc] at this
    exact this
theorem idxQ_last {xs : List PyData} {d : PyData} {Q : PyData → Prop} (e : idx? (-1) xs = some d) (h : Q d) : idxQ (.tuple xs) (.int (-1)) Q := by
  show (match idx? (-1) xs with | some d => Q d | none => False)
  rw [e]
  exact h
theorem idx_zero {x : PyData} {r : List PyData} : idx? 0 (x :: r) = some x := by
  have e : seqIndex? 0 (x :: r).length = some 0 := by
    rw [seqIndex?]; simp
  rw [idx?, if_pos (by decide), e]; rfl
theorem idxQ_zero {x : PyData} {r : List PyData} {Q : PyData → Prop} (h : Q x) : idxQ (.tuple (x :: r)) (.int 0) Q := by
  show (match idx? 0 (x :: r) with | some d => Q d | none => False)
  rw [idx_zero]
  exact h
theorem idxQ_zeroL {x : PyData} {r : List PyData} {Q : PyData → Prop} (h : Q x) : idxQ (.list (x :: r)) (.int 0) Q := by
  show (match idx? 0 (x :: r) with | some d => Q d | none => False)
  rw [idx_zero]
  exact h

theorem comp_none {C : CallD} {a : Addr} {ds : List PyData} {Q : PyData → Prop} (ok : ∀ x ∈ ds, ∀ Q, Q (.bool true) → C a [x] Q) (q : Q (.list [])) : ∀ {y : Option PyData}, compQ (gName 0) (tNot (tVal (eCall C a (lCons (eV 0) lNil)))) (eV 0) ds [] [y] Q := by
  induction ds with
  | nil => intro y; exact ⟨rfl, q⟩
  | cons x r ih =>
    intro y
    refine ok x (.head _) _ ?_
    exact ih fun z hz => ok z (.tail _ hz)

theorem body_ok (G : Gnd (KK w) base) {ds : List PyData} {sq : Sp} (h : SOKs w X n ds sq) (sm : small ds = true) (hn : n ≤ 60) : BOK w X (n + 2) (.tuple ds) sq := by
  have tm : ∀ Q, Q (.bool sq.tm) → SemCall prog w X (n + 1) 104 [.tuple ds, oth] Q := fun Q q => by
    refine e_is_terminating G ?_
    cases ds with
    | nil => cases h; exact ⟨rfl, q⟩
    | cons x r =>
      obtain ⟨d, sp, e, s, t, f⟩ := h.last
      have g := s.tm (some (.tuple (x :: r))) none Q (t ▸ q)
      refine ⟨sm, ?_⟩
      refine idxQ_last ((idx_last sm).trans e) ?_
      exact g
  have op : ∀ Q, Q (.bool (!sq.tm)) → SemCall prog w X (n + 1) 231 [.tuple ds] Q := fun Q q => by
    refine e_law_is_open G ?_
    cases ds with
    | nil => cases h; exact ⟨rfl, rfl, q⟩
    | cons x r =>
      obtain ⟨d, sp, e, s, t, f⟩ := h.last
      have g := s.op (some (.tuple (x :: r))) none none Q (t ▸ q)
      refine ⟨fit_shaped (D := n + 1) h.fits (by omega), rfl, ?_⟩
      refine idxQ_last ((idx_last sm).trans e) ?_
      exact g
  have tup : ∃ xs, PyData.tuple ds = .tuple xs ∧ ((xs = [] ∧ sq.fl = false) ∨ ((∃ x r, xs = x :: r) ∧ ∃ k r, idx? (-1) xs = some (.tuple (.str k :: r)) ∧ sq.fl = (k == sFall))) := by
    cases ds with
    | nil => cases h; exact ⟨_, rfl, .inl ⟨rfl, rfl⟩⟩
    | cons x r =>
      obtain ⟨d, sp, e, s, t, f⟩ := h.last
      obtain ⟨k, r', rfl, g⟩ := s.tup
      exact ⟨_, rfl, .inr ⟨⟨_, _, rfl⟩, k, r', (idx_last sm).trans e, f ▸ g⟩⟩
  have fit : Mine.fit (.tuple ds) (n + 1) = true := h.fits
  refine ⟨tup, fit_mono fit (Nat.le_succ _), ?_, ?_, ?_, fun Q q => (tm Q q).less (Nat.le_succ _), fun Q q => (op Q q).less (Nat.le_succ _), ?_, ?_⟩
  · intro l near Q q
    refine SemCall.less (k := n + 1) (e_has_break G ?_) (Nat.le_succ _)
    refine ⟨sm, ?_⟩
    refine h.hb (fun p m' => ?_) (fun p y3 y4 y5 => ?_)
    · rw [decide_eq_true p] at q; exact q
    · rw [p] at q; exact q
  · intro l Q q
    refine SemCall.less (k := n + 1) (e_has_break1 G ?_) (Nat.le_succ _)
    refine ⟨sm, ?_⟩
    refine h.hb (fun p m' => ?_) (fun p y3 y4 y5 => ?_)
    · rw [decide_eq_true p] at q; exact q
    · rw [p] at q; exact q
  · intro l near Q q
    refine SemCall.less (k := n + 1) (e_law_leaves G ?_) (Nat.le_succ _)
    refine ⟨sm, ?_⟩
    refine h.lv fun y4 y5 => ?_
    rw [Int.zero_add]
    exact q
  · intro Q q
    refine e_is_case_ended (n := n + 1) G ?_
    revert tm
    generalize SemCall prog w X (n + 1) = C
    intro tm
    cases ds with
    | nil => cases h; refine ⟨rfl, rfl, ?_⟩; exact tm _ q
    | cons x r =>
      obtain ⟨d, sp, e, s, t, f⟩ := h.last
      obtain ⟨k, r', rfl, g⟩ := s.tup
      refine ⟨fit_shaped fit (by omega), rfl, ?_⟩
      refine idxQ_last ((idx_last sm).trans e) ?_
      rw [← f, g] at q
      refine idxQ_zero ?_
      show stopQ .Or (.bool (k == sFall)) Q (C 104 [.tuple (x :: r), oth] Q)
      revert q
      cases k == sFall with
      | true => exact id
      | false => exact tm _
  · intro Q q
    refine e_law_body_right (n := n + 1) G ?_
    have ok : ∀ x ∈ ds, ∀ Q, Q (.bool true) → SemCall prog w X (n + 1) 241 [x] Q := by
      clear tm op tup fit sm
      induction h with
      | nil => intro x hx; cases hx
      | cons a _ ih =>
        intro x hx Q q
        cases hx with
        | head => exact (a.ok Q q).less (Nat.le_succ _)
        | tail _ hx => exact ih x hx Q q
    revert tm op ok
    generalize SemCall prog w X (n + 1) = C
    intro tm op ok
    refine tm _ ?_
    refine op _ ?_
    cases sq.tm
    all_goals exact ⟨rfl, sm, comp_none ok ⟨rfl, rfl, q⟩⟩
end
end Mine

namespace Mine

abbrev PS := PyData × Sp
inductive SK where
  | sw | ts | ch
def told : SK → PyData
  | .sw => .tuple [nmx]
  | .ts => .tuple [.tuple [sN "name", .int 3, .none, sN "int"]]
  | .ch => .tuple [sN "recv", .int 3, .tuple [], .bool false, nmx]
def rowE (k : SK) (r : Bool × PS) : PyData := .tuple [cond r.1 .none (told k), r.2.1]
def rowsE (k : SK) (rows : List (Bool × PS)) : PyData := .tuple (rows.map (rowE k))
def blockE (b : PyData) : PyData := .tuple [sN "block", .int 2, b]
inductive Cm where
  | block (b : PS)
  | ite (b : PS)
  | ite2 (b : PS) (o : PS)
  | loop (l : Lb) (t : Bool) (b : PS)
  | sw (k : SK) (l : Lb) (rows : List (Bool × PS))
def encC : Cm → PyData
  | .block b => blockE b.1
  | .ite b => .tuple [sN "if", .int 3, .none, nmx, blockE b.1, .none]
  | .ite2 b o => .tuple [sN "if", .int 3, .none, nmx, blockE b.1, o.1]
  | .loop l t b => .tuple [sN "for", .int 3, lb l, .none, cond t .none nmx, .none, blockE b.1]
  | .sw .sw l rows => .tuple [sN "switch", .int 3, lb l, .none, nmx, rowsE .sw rows]
  | .sw .ts l rows => .tuple [sN "typeswitch", .int 3, lb l, .none, .none, nmx, rowsE .ts rows]
  | .sw .ch l rows => .tuple [sN "choose", .int 3, lb l, rowsE .ch rows]
def bodies : Cm → List PS
  | .block b => [b]
  | .ite b => [b]
  | .ite2 b o => [b, (.tuple [o.1], o.2)]
  | .loop l t b => [b]
  | .sw k l rows => rows.map (·.2)
def held (c : Cm) : List PyData := (bodies c).map (·.1)
def labs : Cm → List PyData
  | .loop l t b => [lb l]
  | .sw k l rows => [lb l]
  | _ => []
def labd : Cm → Bool
  | .loop l t b => true
  | .sw k l rows => true
  | _ => false
def sumLv (ps : List PS) (l : Lb) (k : Bool) : Nat := (ps.map fun p => p.2.lv l k).sum
def allCe (ps : List PS) : Bool := ps.all fun p => p.2.fl || p.2.tm
def isCh : SK → Bool
  | .ch => true
  | _ => false
def tmC : Cm → Bool
  | .block b => b.2.tm
  | .ite b => false
  | .ite2 b o => b.2.tm && o.2.tm
  | .loop l t b => t && !decide (0 < b.2.lv l true)
  | .sw k l rows => (isCh k || rows.any (·.1)) && (allCe (rows.map (·.2)) && !decide (0 < sumLv (rows.map (·.2)) l true))
def spC (c : Cm) : Sp := ⟨fun l k => sumLv (bodies c) l (k && !labd c), tmC c, false⟩

section
variable {w : World} {base : Heap} {X : Ext base} {n : Nat}
def AllB (w : World) (X : Ext base) (n : Nat) (ps : List PS) : Prop := ∀ p ∈ ps, BOK w X n p.1 p.2

theorem hold_hb {ps : List PS} (h : AllB w X n ps) {b d : Option PyData} {l : Lb} {nr near : Bool} {Q : Loc → Flw → Prop} : ∀ {x5 : Option PyData}, (0 < sumLv ps l near → ∀ m', Q m' (.ret (.bool true))) →
    (sumLv ps l near = 0 → ∀ y5, Q [b, some (lb l), some (.bool nr), d, some (.bool near), y5] .nxt) →
    forQ (B_has_break_0 (SemCall prog w X n)) 5 (ps.map (·.1)) [b, some (lb l), some (.bool nr), d, some (.bool near), x5] Q := by
  induction ps with
  | nil => intro _ _ h0; exact h0 rfl _
  | cons p r ih =>
    intro x5 h1 h0
    have ih := @ih (fun z hz => h z (.tail _ hz))
    have hp := (h p (.head _)).hb l near
    revert ih hp
    generalize SemCall prog w X n = C
    intro ih hp
    refine hp _ ?_
    have e : sumLv (p :: r) l near = p.2.lv l near + sumLv r l near := rfl
    rw [e] at h1 h0
    by_cases z : 0 < p.2.lv l near
    · rw [decide_eq_true z]
      exact h1 (Nat.add_pos_left z _) _
    · rw [decide_eq_false z]
      exact ih (fun q => h1 (Nat.add_pos_right _ q)) fun q => h0 (by omega)
theorem hold_lv {ps : List PS} (h : AllB w X n ps) {b : Option PyData} {d : PyData} {ls : List PyData} {l : Lb} {nr : Bool} {Q : Loc → Flw → Prop} (hls : ∀ Q, Q (.list ls) → SemCall prog w X n 217 [d] Q) (sh : fits ls 0 = true) : ∀ {i : Int} {x5 : Option PyData},
    (∀ y5, Q [b, some (lb l), some (.bool nr), some (.int (i + (sumLv ps l (nr && ls.isEmpty) : Int))), some d, y5] .nxt) →
    forQ (B_law_leaves_0 (SemCall prog w X n)) 5 (ps.map (·.1)) [b, some (lb l), some (.bool nr), some (.int i), some d, x5] Q := by
  induction ps with
  | nil => intro i _ h; have h := Int.add_zero i ▸ h; exact h _
  | cons p r ih =>
    intro i x5 g
    have ih := @ih (fun z hz => h z (.tail _ hz))
    have hp := (h p (.head _)).lv l
    revert ih hp hls
    generalize SemCall prog w X n = C
    intro hls ih hp
    have e : sumLv (p :: r) l (nr && ls.isEmpty) = p.2.lv l (nr && ls.isEmpty) + sumLv r l (nr && ls.isEmpty) := rfl
    rw [e, Int.natCast_add] at g
    simp only [← Int.add_assoc] at g
    cases nr with
    | false => exact hp _ _ (ih g)
    | true =>
      refine hls _ ?_
      refine ⟨fits_shapedL sh (by omega), rfl, ?_⟩
      cases ls with
      | nil => exact hp _ _ (ih g)
      | cons x t => exact hp _ _ (ih g)

theorem fits_rows {k : SK} {rows : List (Bool × PS)} (h : AllB w X (n + 3) (rows.map (·.2))) : fit (rowsE k rows) (n + 5) = true := by
  show fits (rows.map (rowE k)) (n + 4) = true
  induction rows with
  | nil => rfl
  | cons r t ih =>
    have a := (h r.2 (.head _)).fit
    have : fit (rowE k r) (n + 4) = true := by
      show (fit (cond r.1 .none (told k)) (n + 3) && (fit r.2.1 (n + 3) && true)) = true
      rw [a]
      cases r.1 <;> cases k <;> kernel_rfl
    rw [List.map_cons, fits, this, ih fun z hz => h z (.tail _ hz)]; rfl
theorem fits_lb {l : Lb} : fit (lb l) n = true := by cases l <;> kernel_rfl
theorem fit_bodies {ps : List PS} (h : AllB w X n ps) : fits (ps.map (·.1)) n = true := by
  induction ps with
  | nil => rfl
  | cons p r ih => rw [List.map_cons, fits, (h p (.head _)).fit, ih fun z hz => h z (.tail _ hz)]; rfl
theorem fit_C {c : Cm} (h : AllB w X (n + 3) (bodies c)) : fit (encC c) (n + 6) = true := by
  rcases c with b | b | ⟨b, o⟩ | ⟨l, t, b⟩ | ⟨k, l, rows⟩
  · have a := fit_mono (h b (.head _)).fit (show n + 3 ≤ n + 5 by omega)
    show (fit (sN "block") (n + 5) && (true && (fit b.1 (n + 5) && true))) = true
    rw [a]; kernel_rfl
  · have a := fit_mono (h b (.head _)).fit (show n + 3 ≤ n + 4 by omega)
    show (fit (sN "if") (n + 5) && (true && (true && (fit nmx (n + 5) && ((fit (sN "block") (n + 4) && (true && (fit b.1 (n + 4) && true))) && (true && true)))))) = true
    rw [a]; kernel_rfl
  · have a := fit_mono (h b (.head _)).fit (show n + 3 ≤ n + 4 by omega)
    have q := (h (.tuple [o.1], o.2) (.tail _ (.head _))).fit
    have q : (fit o.1 (n + 2) && true) = true := q
    rw [Bool.and_true] at q
    have q := fit_mono q (show n + 2 ≤ n + 5 by omega)
    show (fit (sN "if") (n + 5) && (true && (true && (fit nmx (n + 5) && ((fit (sN "block") (n + 4) && (true && (fit b.1 (n + 4) && true))) && (fit o.1 (n + 5) && true)))))) = true
    rw [a, q]; kernel_rfl
  · have a := fit_mono (h b (.head _)).fit (show n + 3 ≤ n + 4 by omega)
    show (fit (sN "for") (n + 5) && (true && (fit (lb l) (n + 5) && (true && (fit (cond t .none nmx) (n + 5) && (true && ((fit (sN "block") (n + 4) && (true && (fit b.1 (n + 4) && true))) && true))))))) = true
    rw [a, fits_lb]; cases t <;> kernel_rfl
  · have a := fits_rows (k := k) h
    cases k
    · show (fit (sN "switch") (n + 5) && (true && (fit (lb l) (n + 5) && (true && (fit nmx (n + 5) && (fit (rowsE .sw rows) (n + 5) && true)))))) = true
      rw [a, fits_lb]; kernel_rfl
    · show (fit (sN "typeswitch") (n + 5) && (true && (fit (lb l) (n + 5) && (true && (true && (fit nmx (n + 5) && (fit (rowsE .ts rows) (n + 5) && true))))))) = true
      rw [a, fits_lb]; kernel_rfl
    · show (fit (sN "choose") (n + 5) && (true && (fit (lb l) (n + 5) && (fit (rowsE .ch rows) (n + 5) && true)))) = true
      rw [a, fits_lb]; kernel_rfl
end
end Mine

namespace Mine
section
variable {w : World} {base : Heap} {X : Ext base} {n : Nat}
/-- case_rows -/
def CR (w : World) (X : Ext base) : Prop := ∀ (n : Nat) (k : SK) (l : Lb) (rows : List (Bool × PS)) (Q : PyData → Prop), Q (rowsE k rows) → SemCall prog w X (n + 1) 63 [encC (.sw k l rows)] Q

theorem comp_last {k : SK} {rows : List (Bool × PS)} {Q : PyData → Prop} (h : ∀ p ∈ rows, lf p.2.1 = true) : ∀ {acc : List PyData} {y : Option PyData}, small (acc ++ rows.map (·.2.1)) = true → Q (.list (acc ++ rows.map (·.2.1))) →
    compQ (gName 0) tTrue (eSub (eV 0) (eC (.int (-1)))) (rows.map (rowE k)) acc [y] Q := by
  induction rows with
  | nil => intro acc y s q; rw [List.map_nil, List.append_nil] at s q; exact ⟨s, q⟩
  | cons p r ih =>
    intro acc y s q
    have e : acc ++ List.map (·.2.1) (p :: r) = (acc ++ [p.2.1]) ++ List.map (·.2.1) r := by rw [List.append_assoc]; rfl
    have sa : small acc = true := by
      have := of_decide_eq_true s
      rw [List.length_append] at this
      exact decide_eq_true (by omega)
    rw [e] at s q
    exact ⟨h p (.head _), sa, ih (fun z hz => h z (.tail _ hz)) s q⟩
theorem comp_snd {k : SK} {rows : List (Bool × PS)} {Q : PyData → Prop} (h : ∀ p ∈ rows, lf p.2.1 = true) : ∀ {acc : List PyData} {y z : Option PyData}, small (acc ++ rows.map (·.2.1)) = true → Q (.list (acc ++ rows.map (·.2.1))) →
    compQ (gPair 0 1) tTrue (eV 1) (rows.map (rowE k)) acc [y, z] Q := by
  induction rows with
  | nil => intro acc y z s q; rw [List.map_nil, List.append_nil] at s q; exact ⟨s, q⟩
  | cons p r ih =>
    intro acc y z s q
    have e : acc ++ List.map (·.2.1) (p :: r) = (acc ++ [p.2.1]) ++ List.map (·.2.1) r := by rw [List.append_assoc]; rfl
    have sa : small acc = true := by
      have := of_decide_eq_true s
      rw [List.length_append] at this
      exact decide_eq_true (by omega)
    rw [e] at s q
    exact ⟨h p (.head _), sa, ih (fun z hz => h z (.tail _ hz)) s q⟩
def okC : Cm → Bool
  | .sw k l rows => decide (rows.length ≤ 100)
  | _ => true
theorem okC_small {k : SK} {l : Lb} {rows : List (Bool × PS)} (h : okC (.sw k l rows) = true) {α : Type} (f : α → PyData) (g : Bool × PS → α) : small (rows.map fun p => f (g p)) = true := by
  have := of_decide_eq_true h
  exact decide_eq_true (by rw [List.length_map]; omega)

theorem one_tup {o : PyData} {sp : Sp} (h : BOK w X n (.tuple [o]) sp) : lf o = true ∧ ∃ k r, o = .tuple (.str k :: r) := by
  obtain ⟨xs, e, h'⟩ := h.tup
  cases e
  rcases h' with ⟨e, _⟩ | ⟨_, k, r, e, _⟩
  · cases e
  · have a : (lf o && true) = true := fit_lf h.fit
    rw [Bool.and_true] at a
    exact ⟨a, k, r, Option.some.inj e⟩
theorem C_inner (cr : CR w X) (G : Gnd (KK w) base) {c : Cm} (hc : okC c = true) {m : Nat} (h : AllB w X m (bodies c)) {Q : PyData → Prop} (q : Q (.list (held c))) : SemCall prog w X (n + 2) 68 [encC c] Q := by
  refine e_inner_lists (n := n + 1) G ?_
  have cr := cr n
  revert cr
  generalize SemCall prog w X (n + 1) = C
  intro cr
  rcases c with b | b | ⟨b, o⟩ | ⟨l, t, b⟩ | ⟨k, l, rows⟩
  · have a := fit_lf (h b (.head _)).fit
    refine ⟨?_, rfl, q⟩
    rw [lfs, a]; rfl
  · have a := fit_lf (h b (.head _)).fit
    refine ⟨?_, rfl, rfl, q⟩
    rw [lfs, a]; rfl
  · have a := fit_lf (h b (.head _)).fit
    obtain ⟨o, so⟩ := o
    obtain ⟨a2, kk, rr, rfl⟩ := one_tup (h (.tuple [o], so) (.tail _ (.head _)))
    have l1 : lfs [b.1] = true := by rw [lfs, a]; rfl
    have l2 : lfs [.tuple (.str kk :: rr)] = true := by rw [lfs, a2]; rfl
    have l3 : lfs [.tuple [.tuple (.str kk :: rr)]] = true := by rw [lfs, lf, l2]; rfl
    exact ⟨l1, rfl, l2, rfl, l3, rfl, rfl, q⟩
  · have a := fit_lf (h b (.head _)).fit
    refine ⟨?_, rfl, q⟩
    rw [lfs, a]; rfl
  · have e : held (.sw k l rows) = rows.map (·.2.1) := List.map_map
    rw [e] at q
    have sm := okC_small hc id (·.2.1)
    have sr : small (rows.map (rowE k)) = true := okC_small hc (rowE k) id
    have lfr : ∀ p ∈ rows, lf p.2.1 = true := fun p hp => fit_lf (h p.2 (List.mem_map_of_mem hp)).fit
    cases k
    all_goals refine ⟨rfl, ?_⟩
    all_goals refine cr _ l rows _ ?_
    all_goals exact ⟨sr, comp_last lfr sm q⟩
theorem C_held (G : Gnd (KK w) base) {c : Cm} (hc : okC c = true) {m : Nat} (h : AllB w X m (bodies c)) {Q : PyData → Prop} (q : Q (.list (held c))) : SemCall prog w X (n + 1) 210 [encC c] Q := by
  refine e_law_held G ?_
  generalize SemCall prog w X n = C
  rcases c with b | b | ⟨b, o⟩ | ⟨l, t, b⟩ | ⟨k, l, rows⟩
  · have a := fit_lf (h b (.head _)).fit
    refine ⟨?_, rfl, q⟩
    rw [lfs, a]; rfl
  · have a := fit_lf (h b (.head _)).fit
    refine ⟨?_, rfl, ?_⟩
    rw [lfs, a]; rfl
    exact ⟨rfl, rfl, rfl, rfl, rfl, rfl, q⟩
  · have a := fit_lf (h b (.head _)).fit
    obtain ⟨o, so⟩ := o
    obtain ⟨a2, kk, rr, rfl⟩ := one_tup (h (.tuple [o], so) (.tail _ (.head _)))
    have l1 : lfs [b.1] = true := by rw [lfs, a]; rfl
    have l2 : lfs [.tuple (.str kk :: rr)] = true := by rw [lfs, a2]; rfl
    exact ⟨l1, rfl, rfl, rfl, rfl, rfl, l2, rfl, l2, rfl, rfl, rfl, q⟩
  · have a := fit_lf (h b (.head _)).fit
    refine ⟨?_, rfl, q⟩
    rw [lfs, a]; rfl
  · have e : held (.sw k l rows) = rows.map (·.2.1) := List.map_map
    rw [e] at q
    have sm := okC_small hc id (·.2.1)
    have sr : small (rows.map (rowE k)) = true := okC_small hc (rowE k) id
    have lfr : ∀ p ∈ rows, lf p.2.1 = true := fun p hp => fit_lf (h p.2 (List.mem_map_of_mem hp)).fit
    cases k
    all_goals exact ⟨rfl, sr, comp_snd lfr sm q⟩
theorem C_labels (G : Gnd (KK w) base) {c : Cm} {Q : PyData → Prop} (q : Q (.list (labs c))) : SemCall prog w X (n + 1) 217 [encC c] Q := by
  refine e_law_labels G ?_
  generalize SemCall prog w X n = C
  rcases c with b | b | ⟨b, o⟩ | ⟨l, t, b⟩ | ⟨k, l, rows⟩
  · exact q
  · exact q
  · exact q
  · cases l <;> exact ⟨rfl, rfl, q⟩
  · cases k <;> cases l <;> exact ⟨rfl, rfl, q⟩
end
end Mine

namespace Mine
section
variable {w : World} {base : Heap} {X : Ext base} {n : Nat}
theorem small_pre {a b : List PyData} (s : small (a ++ b) = true) : small a = true := by
  have := of_decide_eq_true s
  rw [List.length_append] at this
  exact decide_eq_true (by omega)
theorem eq_nil {xs : List PyData} {Q : Bool → Prop} (h : fits xs 63 = true) (q : Q xs.isEmpty) : eqQ (.list xs) (.list []) Q := by
  refine ⟨fits_shapedL h (Nat.le_refl _), rfl, ?_⟩
  cases xs <;> exact q
theorem small_filter {α : Type} {f : α → PyData} {p : α → Bool} {xs : List α} (h : small (xs.map f) = true) : small ((xs.filter p).map f) = true := by
  have := of_decide_eq_true h
  rw [List.length_map] at this
  have l := List.length_filter_le p xs
  exact decide_eq_true (by rw [List.length_map]; omega)
theorem fits_filter {α : Type} {f : α → PyData} {p : α → Bool} {xs : List α} {D : Nat} (h : fits (xs.map f) D = true) : fits ((xs.filter p).map f) D = true := by
  induction xs with
  | nil => rfl
  | cons x r ih =>
    rw [List.map_cons, fits, Bool.and_eq_true] at h
    rw [List.filter_cons]
    split
    · rw [List.map_cons, fits, h.1, ih h.2]; rfl
    · exact ih h.2

/-- a comprehension that keeps some -/
theorem comp_filter {α : Type} {f : α → PyData} {p : α → Bool} {ft : TD} {Q : PyData → Prop} {xs : List α} (hp : ∀ x ∈ xs, lf (f x) = true ∧ ∀ Q, Q (p x) → ft [some (f x)] Q) : ∀ {acc : List PyData} {y : Option PyData}, small (acc ++ xs.map f) = true →
    Q (.list (acc ++ (xs.filter p).map f)) → compQ (gName 0) ft (eV 0) (xs.map f) acc [y] Q := by
  induction xs with
  | nil => intro acc y s q; rw [List.map_nil, List.append_nil] at s; rw [List.filter_nil, List.map_nil, List.append_nil] at q; exact ⟨s, q⟩
  | cons x r ih =>
    intro acc y s q
    have ih := @ih fun z hz => hp z (.tail _ hz)
    obtain ⟨l, hx⟩ := hp x (.head _)
    have e : acc ++ (x :: r).map f = (acc ++ [f x]) ++ r.map f := by rw [List.append_assoc]; rfl
    rw [e] at s
    rw [List.filter_cons] at q
    refine hx _ ?_
    revert q
    cases p x with
    | true =>
      intro q
      refine ⟨l, small_pre (small_pre s), ih s ?_⟩
      rw [List.append_assoc]
      exact q
    | false =>
      intro q
      refine ih ?_ q
      have := of_decide_eq_true s
      rw [List.length_append, List.length_append] at this
      exact decide_eq_true (by rw [List.length_append]; omega)

theorem ends_loop {k : SK} {l : Lb} {rows : List (Bool × PS)} (h : AllB w X n (rows.map (·.2))) {a b : Option PyData} {Q : Loc → Flw → Prop} : ∀ {x : Option PyData},
    (match allCe (rows.map (·.2)) && !decide (0 < sumLv (rows.map (·.2)) l true) with | true => ∀ y, Q [a, some oth, b, some (lb l), y] .nxt | false => ∀ m', Q m' (.ret (.bool false))) →
    forQ (B_ends_by_cases_0 (SemCall prog w X n)) 4 (rows.map (rowE k)) [a, some oth, b, some (lb l), x] Q := by
  induction rows with
  | nil => intro x q; exact q _
  | cons r t ih =>
    intro x q
    have ih := @ih fun z hz => h z (.tail _ hz)
    have h1 := (h r.2 (.head _)).ce
    have h2 := (h r.2 (.head _)).hb1 l
    revert ih h1 h2
    generalize SemCall prog w X n = C
    intro ih h1 h2
    have e1 : sumLv ((r :: t).map (·.2)) l true = r.2.2.lv l true + sumLv (t.map (·.2)) l true := rfl
    have e2 : allCe ((r :: t).map (·.2)) = ((r.2.2.fl || r.2.2.tm) && allCe (t.map (·.2))) := rfl
    rw [e1, e2] at q
    refine h1 _ ?_
    cases z : (r.2.2.fl || r.2.2.tm) with
    | false => rw [z] at q; exact q _
    | true =>
      rw [z] at q
      refine h2 _ ?_
      by_cases p : 0 < r.2.2.lv l true
      · rw [decide_eq_true p]
        rw [decide_eq_true (Nat.add_pos_left p _), Bool.not_true, Bool.and_false] at q
        exact q _
      · rw [decide_eq_false p]
        have p : r.2.2.lv l true = 0 := by omega
        rw [p, Nat.zero_add, Bool.true_and] at q
        exact ih q
theorem none_rows {rows : List (Bool × PS)} {k : SK} : ((rows.filter (·.1)).map (rowE k)).isEmpty = !rows.any (·.1) := by
  induction rows with
  | nil => rfl
  | cons r t ih =>
    rw [List.filter_cons, List.any_cons]
    split
    · rename_i h; rw [h]; rfl
    · rename_i h; rw [ih, Bool.eq_false_iff.mpr h]; rfl
theorem sw_ends (cr : CR w X) (G : Gnd (KK w) base) {k : SK} {l : Lb} {rows : List (Bool × PS)} (hc : okC (.sw k l rows) = true) (h : AllB w X (n + 3) (rows.map (·.2))) (hn : n ≤ 50) {Q : PyData → Prop} (q : Q (.bool (tmC (.sw k l rows)))) :
    SemCall prog w X (n + 4) 95 [encC (.sw k l rows), oth] Q := by
  refine e_ends_by_cases (n := n + 3) G ?_
  have cr := cr (n + 2)
  have lp := @ends_loop w base X (n + 3) k l rows h
  have sr : small (rows.map (rowE k)) = true := okC_small hc (rowE k) id
  have fr : fits (rows.map (rowE k)) (n + 4) = true := fits_rows h
  have lr : ∀ r ∈ rows, lf (rowE k r) = true := fun r hr => lfs_all (fits_lf fr) _ (List.mem_map_of_mem hr)
  have f63 : fits ((rows.filter (·.1)).map (rowE k)) 63 = true := (fits_all (fits_filter fr) (by omega)).2.2.2
  revert cr lp
  generalize SemCall prog w X (n + 3) = C
  intro cr lp
  have fin : Q (.bool (allCe (rows.map (·.2)) && !decide (0 < sumLv (rows.map (·.2)) l true))) → ∀ a c, T_ends_by_cases_0 C [a, some oth, some (rowsE k rows), some (lb l), c] (retQ Q) := by
    intro q a c
    refine ⟨sr, lp ?_⟩
    revert q
    cases (allCe (rows.map (·.2)) && !decide (0 < sumLv (rows.map (·.2)) l true)) with
    | true => exact fun q _ => q
    | false => exact fun q _ => q
  have none : k ≠ .ch → ∀ Q : Bool → Prop, Q (!rows.any (·.1)) → ∀ m : Loc, m[2]? = some (some (rowsE k rows)) → (eComp [(Str.ofString "row")] [] (iSeq (eV 2)) (gName 0) (tCmp .Is (eSub (eV 0) (eC (.int 0))) (eC .none)) (eV 0)) m fun d => eqQ d (.list []) Q := by
    intro _ Q q m hm
    refine ⟨rfl, ?_⟩
    show getV m 2 _
    unfold getV
    rw [hm]
    refine ⟨sr, comp_filter (p := (·.1)) (fun r hr => ⟨lr r hr, fun Q' q' => ?_⟩) sr (eq_nil (by rw [List.nil_append]; exact f63) ?_)⟩
    · rcases r with ⟨_ | _, p⟩
      · cases k <;> exact q'
      · exact q'
    · rw [List.nil_append, none_rows]; exact q
  cases k
  · refine cr _ _ _ _ ?_
    refine none nofun _ ?_ _ rfl
    have e : tmC (.sw .sw l rows) = (rows.any (·.1) && (allCe (rows.map (·.2)) && !decide (0 < sumLv (rows.map (·.2)) l true))) := by rw [tmC]; rfl
    rw [e] at q
    revert q
    cases rows.any (·.1) with
    | true => exact fun q => fin q _ _
    | false => exact fun q => q
  · refine cr _ _ _ _ ?_
    refine none nofun _ ?_ _ rfl
    have e : tmC (.sw .ts l rows) = (rows.any (·.1) && (allCe (rows.map (·.2)) && !decide (0 < sumLv (rows.map (·.2)) l true))) := by rw [tmC]; rfl
    rw [e] at q
    revert q
    cases rows.any (·.1) with
    | true => exact fun q => fin q _ _
    | false => exact fun q => q
  · refine cr _ _ _ _ ?_
    exact fin q _ _
end
end Mine

namespace Mine
section
variable {w : World} {base : Heap} {X : Ext base} {n : Nat}
theorem ne_nil {xs : List PyData} {Q : Bool → Prop} (h : fits xs 63 = true) (q : Q (!xs.isEmpty)) : cmpQ .NotEq (.list xs) (.list []) Q := eq_nil (Q := fun c => Q (!c)) h q
def fstE (k : SK) (r : Bool × PS) : PyData := cond r.1 .none (told k)
theorem comp_fst {k : SK} {rows : List (Bool × PS)} {Q : PyData → Prop} : ∀ {acc : List PyData} {y z : Option PyData}, small (acc ++ rows.map (fstE k)) = true → Q (.list (acc ++ rows.map (fstE k))) →
    compQ (gPair 0 1) tTrue (eV 0) (rows.map (rowE k)) acc [y, z] Q := by
  induction rows with
  | nil => intro acc y z s q; rw [List.map_nil, List.append_nil] at s q; exact ⟨s, q⟩
  | cons p r ih =>
    intro acc y z s q
    have e : acc ++ List.map (fstE k) (p :: r) = (acc ++ [fstE k p]) ++ List.map (fstE k) r := by rw [List.append_assoc]; rfl
    rw [e] at s q
    refine ⟨?_, small_pre (small_pre s), ih s q⟩
    obtain ⟨b, _⟩ := p
    cases b <;> cases k <;> rfl
theorem in_none {k : SK} {rows : List (Bool × PS)} {Q : Bool → Prop} (q : Q (!rows.any (·.1))) : cmpQ .NotIn .none (.list (rows.map (fstE k))) Q := by
  refine ⟨?_, rfl, ?_⟩
  · clear q
    induction rows with
    | nil => rfl
    | cons r t ih =>
      have : (fstE k r).canLay0 = true := by obtain ⟨b, _⟩ := r; cases b <;> cases k <;> kernel_rfl
      rw [List.map_cons, PyData.canLayAll0, this, ih]; rfl
  · have e : ((rows.map (fstE k)).any fun y => PyData.eqv y .none) = rows.any (·.1) := by
      clear q
      induction rows with
      | nil => rfl
      | cons r t ih =>
        have : PyData.eqv (fstE k r) .none = r.1 := by obtain ⟨b, _⟩ := r; cases b <;> cases k <;> rfl
        rw [List.map_cons, List.any_cons, List.any_cons, this, ih]
    rw [e]; exact q
theorem not_fall {p : PS} (h : BOK w X n p.1 p.2) (hn : n ≤ 64) {Q : Bool → Prop} (q : Q (!p.2.fl)) :
    (tOr (tCmp .Eq (eV 0) (eC (.tuple []))) (tOr (tCmp .NotEq (eSub (eSub (eV 0) (eC (.int (-1)))) (eC (.int 0))) (eC (.str (Str.ofString "fallthrough")))) tFalse)) [some p.1] Q := by
  obtain ⟨xs, e, h'⟩ := h.tup
  have f := fit_shaped h.fit hn
  rw [e] at f
  rw [e]
  rcases h' with ⟨rfl, e2⟩ | ⟨⟨x, r, rfl⟩, k, r', e3, e2⟩
  · rw [e2] at q
    exact ⟨rfl, rfl, q⟩
  · rw [e2] at q
    refine ⟨f, rfl, ?_⟩
    refine idxQ_last e3 ?_
    refine idxQ_zero ?_
    show (match !(k == sFall) with | true => Q true | false => Q false)
    revert q
    cases k == sFall <;> exact id
theorem ints_map {ps : List PS} {g : PS → Nat} : ints? (ps.map fun p => .int (g p : Int)) = some (ps.map fun p => (g p : Int)) := by
  induction ps with
  | nil => rfl
  | cons p r ih => rw [List.map_cons, ints?, ih]; rfl
theorem sum_cast {ps : List PS} {g : PS → Nat} : (ps.map fun p => (g p : Int)).sum = (((ps.map g).sum : Nat) : Int) := by
  induction ps with
  | nil => rfl
  | cons p r ih => rw [List.map_cons, List.map_cons, List.sum_cons, List.sum_cons, ih, Int.natCast_add]
theorem comp_ints {C : CallD} {ps : List PS} {l : Lb} {d : PyData} (hd : ∀ y Q, Q (lb l) → eSub (eV 1) (eC (.int 2)) [y, some d] Q) (h : ∀ p ∈ ps, ∀ Q, Q (.int (p.2.lv l true : Int)) → C 224 [p.1, lb l, .bool true] Q) {Q : PyData → Prop} :
    ∀ {acc : List PyData} {y : Option PyData}, small (acc ++ ps.map fun p => .int (p.2.lv l true : Int)) = true → Q (.list (acc ++ ps.map fun p => .int (p.2.lv l true : Int))) →
    compQ (gName 0) tTrue (eCall C 224 (lCons (eV 0) (lCons (eSub (eV 1) (eC (.int 2))) (lCons (eC (.bool true)) lNil)))) (ps.map (·.1)) acc [y, some d] Q := by
  induction ps with
  | nil => intro acc y s q; rw [List.map_nil, List.append_nil] at s q; exact ⟨s, q⟩
  | cons p r ih =>
    intro acc y s q
    have e : acc ++ List.map (fun p : PS => PyData.int (p.2.lv l true : Int)) (p :: r) = (acc ++ [.int (p.2.lv l true : Int)]) ++ List.map (fun p : PS => PyData.int (p.2.lv l true : Int)) r := by rw [List.append_assoc]; rfl
    rw [e] at s q
    refine hd (some p.1) _ ?_
    refine h p (.head _) _ ?_
    exact ⟨rfl, small_pre (small_pre s), ih (fun z hz => h z (.tail _ hz)) s q⟩
theorem open_law {ps : List PS} {l : Lb} : (!((ps.filter fun p => !p.2.fl).filter fun p => !p.2.tm).isEmpty || decide ((0 : Int) < ((sumLv ps l true : Nat) : Int))) = !(allCe ps && !decide (0 < sumLv ps l true)) := by
  have e : decide ((0 : Int) < ((sumLv ps l true : Nat) : Int)) = decide (0 < sumLv ps l true) := by
    by_cases h : 0 < sumLv ps l true
    · rw [decide_eq_true h, decide_eq_true (by omega)]
    · rw [decide_eq_false h, decide_eq_false (by omega)]
  have e2 : ((ps.filter fun p => !p.2.fl).filter fun p => !p.2.tm).isEmpty = allCe ps := by
    clear e
    induction ps with
    | nil => rfl
    | cons p r ih =>
      rw [List.filter_cons, allCe, List.all_cons]
      cases p.2.fl
      · rw [if_pos (show (!false) = true from rfl), List.filter_cons]
        cases p.2.tm
        · rfl
        · rw [if_neg (by decide)]; exact ih
      · rw [if_neg (by decide)]; exact ih
  rw [e, e2]
  cases allCe ps <;> cases decide (0 < sumLv ps l true) <;> rfl
theorem sw_open (G : Gnd (KK w) base) {k : SK} {l : Lb} {rows : List (Bool × PS)} (hc : okC (.sw k l rows) = true) (h : AllB w X (n + 3) (rows.map (·.2))) (hn : n ≤ 50) {Q : PyData → Prop} (q : Q (.bool (!tmC (.sw k l rows)))) :
    SemCall prog w X (n + 4) 236 [encC (.sw k l rows)] Q := by
  refine e_law_are_open (n := n + 3) G ?_
  have hh : ∀ Q, Q (.list (held (.sw k l rows))) → SemCall prog w X (n + 3) 210 [encC (.sw k l rows)] Q := fun Q q => C_held (n := n + 2) G hc h q
  have ho : ∀ p ∈ rows.map (·.2), ∀ Q, Q (.bool (!p.2.tm)) → SemCall prog w X (n + 3) 231 [p.1] Q := fun p hp => (h p hp).op
  have hl : ∀ p ∈ rows.map (·.2), ∀ Q, Q (.int (p.2.lv l true : Int)) → SemCall prog w X (n + 3) 224 [p.1, lb l, .bool true] Q := fun p hp => (h p hp).lv l true
  revert hh ho hl
  generalize SemCall prog w X (n + 3) = C
  intro hh ho hl
  have fb := fit_bodies h
  have lfd : lf (encC (.sw k l rows)) = true := fit_lf (fit_C h)
  have lb1 : ∀ p ∈ rows.map (·.2), lf p.1 = true := fun p hp => fit_lf (h p hp).fit
  have sb : small ((rows.map (·.2)).map (·.1)) = true := by rw [List.map_map]; exact okC_small hc id (·.2.1)
  have sr : small (rows.map (rowE k)) = true := okC_small hc (rowE k) id
  have sf : small (rows.map (fstE k)) = true := okC_small hc (fstE k) id
  have si : small ((rows.map (·.2)).map fun p => .int (p.2.lv l true : Int)) = true := by rw [List.map_map]; exact okC_small hc (fun p => .int (p.2.2.lv l true : Int)) id
  have f63 : fits ((((rows.map (·.2)).filter fun p => !p.2.fl).filter fun p => !p.2.tm).map (·.1)) 63 = true := (fits_all (fits_filter (fits_filter fb)) (by omega)).2.2.2
  have fin : Q (.bool (!((((rows.map (·.2)).filter fun p => !p.2.fl).filter fun p => !p.2.tm)).isEmpty || decide ((0 : Int) < ((sumLv (rows.map (·.2)) l true : Nat) : Int)))) →
      (∀ y Q, Q (lb l) → eSub (eV 1) (eC (.int 2)) [y, some (encC (.sw k l rows))] Q) → ∀ a b, T_law_are_open_2 C [some (encC (.sw k l rows)), a, b] (retQ Q) := by
    intro q hd a b
    refine hh _ ?_
    refine ⟨rfl, sb, comp_filter (p := fun p => !p.2.fl) (fun p hp => ⟨lb1 p hp, fun Q' q' => not_fall (h p hp) (by omega) q'⟩) sb ?_⟩
    refine ⟨rfl, small_filter sb, comp_filter (p := fun p => !p.2.tm) (fun p hp => ⟨lb1 p ((List.mem_filter.mp hp).1), fun Q' q' => ?_⟩) (small_filter sb) ?_⟩
    · refine ho p ((List.mem_filter.mp hp).1) _ ?_
      exact q'
    rw [List.nil_append]
    unfold eC
    refine ne_nil f63 ?_
    rw [List.nil_append, List.isEmpty_map]
    revert q
    cases (((rows.map (·.2)).filter fun p => !p.2.fl).filter fun p => !p.2.tm).isEmpty with
    | false => exact fun q => q
    | true =>
      intro q
      refine ⟨by show ((lf (encC (.sw k l rows)) || _) && true) = true; rw [lfd]; rfl, sb, comp_ints hd hl (by rw [List.nil_append]; exact si) ?_⟩
      rw [List.nil_append]
      show (match ints? ((rows.map (·.2)).map fun p => .int (p.2.lv l true : Int)) with | some ns => _ | none => False)
      rw [ints_map]
      show Q (.bool (decide ((0 : Int) < ((rows.map (·.2)).map fun p => (p.2.lv l true : Int)).sum)))
      rw [sum_cast]
      exact q
  rw [tmC] at q
  cases k
  · refine ⟨rfl, sr, comp_fst (by rw [List.nil_append]; exact sf) ?_⟩
    rw [List.nil_append]
    refine in_none ?_
    revert q
    cases rows.any (·.1) with
    | false => exact fun q => q
    | true => exact fun q => fin (open_law ▸ q) (fun y Q q => by cases l <;> exact q) _ _
  · refine ⟨rfl, sr, comp_fst (by rw [List.nil_append]; exact sf) ?_⟩
    rw [List.nil_append]
    refine in_none ?_
    revert q
    cases rows.any (·.1) with
    | false => exact fun q => q
    | true => exact fun q => fin (open_law ▸ q) (fun y Q q => by cases l <;> exact q) _ _
  · exact fin (open_law ▸ q) (fun y Q q => by cases l <;> exact q) _ _
end
end Mine

namespace Mine
section
variable {w : World} {base : Heap} {X : Ext base} {n : Nat}
theorem AllB.mono {ps : List PS} (h : AllB w X n ps) {m : Nat} (l : n ≤ m) : AllB w X m ps := fun p hp => (h p hp).mono l
theorem small_held {c : Cm} (h : okC c = true) : small (held c) = true := by
  rcases c with b | b | ⟨b, o⟩ | ⟨l, t, b⟩ | ⟨k, l, rows⟩
  · rfl
  · rfl
  · rfl
  · rfl
  · rw [held, bodies, List.map_map]; exact okC_small h id (·.2.1)
theorem C_panic (G : Gnd (KK w) base) (c : Cm) {o : PyData} {Q : PyData → Prop} (q : Q (.bool false)) : SemCall prog w X (n + 1) 83 [encC c, o] Q := by
  refine e_is_panic G ?_
  generalize SemCall prog w X n = C
  rcases c with b | b | ⟨b, o⟩ | ⟨l, t, b⟩ | ⟨_ | _ | _, l, rows⟩
  all_goals exact q
theorem right_body {d : PyData} {sp : Sp} (h : BOK w X n d sp) (hn : n ≤ 64) {a b y : Option PyData} {Q : Loc → Flw → Prop} (q : ∀ z, Q [a, b, some d, z] .nxt) : B_law_statement_right_0 (SemCall prog w X n) [a, b, some d, y] Q := by
  have h1 := h.ce
  have h2 := h.op
  obtain ⟨xs, e, h'⟩ := h.tup
  have f := fit_shaped h.fit hn
  clear h
  subst e
  revert h1 h2
  generalize SemCall prog w X n = C
  intro h1 h2
  have fin : T_law_statement_right_0 C [a, b, some (.tuple xs), some (.bool (sp.fl || sp.tm))] Q := by
    refine h1 _ ?_
    cases (sp.fl || sp.tm)
    all_goals exact q _
  rcases h' with ⟨rfl, e2⟩ | ⟨⟨x, t, rfl⟩, k, r', e3, e2⟩
  · refine ⟨f, rfl, ?_⟩
    refine h2 _ ?_
    rw [e2] at fin
    revert fin
    cases sp.tm
    all_goals exact id
  · refine ⟨f, rfl, ?_⟩
    refine idxQ_last e3 ?_
    refine idxQ_zero ?_
    show stopQ .Or (.bool (k == sFall)) (fun d => T_law_statement_right_0 C [a, b, some (.tuple (x :: t)), some d] Q) (C 231 [.tuple (x :: t)] fun d => notQ d fun d => T_law_statement_right_0 C [a, b, some (.tuple (x :: t)), some d] Q)
    rw [← e2]
    revert fin
    cases sp.fl
    · intro fin
      refine h2 _ ?_
      revert fin
      cases sp.tm
      all_goals exact id
    · exact id
theorem right_loop {ps : List PS} (h : AllB w X n ps) (hn : n ≤ 64) {a b : Option PyData} {Q : Loc → Flw → Prop} : ∀ {x y : Option PyData}, (∀ y z, Q [a, b, y, z] .nxt) → forQ (B_law_statement_right_0 (SemCall prog w X n)) 2 (ps.map (·.1)) [a, b, x, y] Q := by
  induction ps with
  | nil => intro x y q; exact q _ _
  | cons p r ih => intro x y q; exact right_body (h p (.head _)) hn fun z => ih (fun z hz => h z (.tail _ hz)) q
end
end Mine

namespace Mine
section
variable {w : World} {base : Heap} {X : Ext base} {n : Nat}
theorem C_ok (cr : CR w X) (G : Gnd (KK w) base) {c : Cm} (hc : okC c = true) (h : AllB w X (n + 3) (bodies c)) (hn : n ≤ 50) : SOK w X (n + 6) (encC c) (spC c) where
  tup := by
    rcases c with b | b | ⟨b, o⟩ | ⟨l, t, b⟩ | ⟨_ | _ | _, l, rows⟩
    all_goals exact ⟨_, _, rfl, by kernel_rfl⟩
  fit := fit_C h
  hb := by
    intro b l near x4 x5 Q h1 h0
    have hi : ∀ Q, Q (.list (held c)) → SemCall prog w X (n + 6) 68 [encC c] Q := fun Q q => C_inner (n := n + 4) cr G hc h q
    have lp := @hold_hb w base X (n + 6) _ (h.mono (by omega)) b (some (encC c)) l near (near && !labd c)
    have sm := small_held hc
    revert hi lp
    generalize SemCall prog w X (n + 6) = C
    intro hi lp
    clear h hc cr
    cases near
    all_goals rcases c with b | b | ⟨b, o⟩ | ⟨l, t, b⟩ | ⟨_ | _ | _, l, rows⟩
    all_goals refine hi _ ⟨sm, ?_⟩
    all_goals exact lp (fun p m' => h1 p m') (fun p y5 => h0 p _ y5)
  lv := by
    intro b l near i x5 Q q
    have hi : ∀ Q, Q (.list (held c)) → SemCall prog w X (n + 6) 210 [encC c] Q := fun Q q => C_held (n := n + 5) G hc h q
    have e : (labs c).isEmpty = !labd c := by rcases c with b | b | ⟨b, o⟩ | ⟨l, t, b⟩ | ⟨k, l, rows⟩ <;> rfl
    have fl : fits (labs c) 0 = true := by
      rcases c with b | b | ⟨b, o⟩ | ⟨l, t, b⟩ | ⟨k, l, rows⟩
      case loop => rw [labs, fits, fits_lb]; rfl
      case sw => rw [labs, fits, fits_lb]; rfl
      all_goals rfl
    have lp : ∀ Q, (∀ y5, Q [b, some (lb l), some (.bool near), some (.int (i + (sumLv (bodies c) l (near && !labd c) : Int))), some (encC c), y5] .nxt) → forQ (B_law_leaves_0 (SemCall prog w X (n + 6))) 5 (held c) [b, some (lb l), some (.bool near), some (.int i), some (encC c), x5] Q :=
      fun Q q => hold_lv (h.mono (by omega)) (fun Q q => C_labels (n := n + 5) G q) fl (by rw [e]; exact q)
    have sm := small_held hc
    revert hi lp
    generalize SemCall prog w X (n + 6) = C
    intro hi lp
    clear e fl h hc cr
    rcases c with b | b | ⟨b, o⟩ | ⟨l, t, b⟩ | ⟨_ | _ | _, l, rows⟩
    all_goals refine hi _ ⟨sm, ?_⟩
    all_goals exact lp _ q
  tm := by
    intro b x3 Q q
    have hp : ∀ Q, Q (.bool false) → SemCall prog w X (n + 6) 83 [encC c, oth] Q := fun Q q => C_panic (n := n + 5) G c q
    have hB := h.mono (m := n + 6) (by omega)
    have q : Q (.bool (tmC c)) := q
    rcases c with b | b | ⟨b, o⟩ | ⟨l, t, b⟩ | ⟨k, l, rows⟩
    · have h1 := (hB b (.head _)).tm
      revert hp h1
      generalize SemCall prog w X (n + 6) = C
      intro hp h1
      exact hp _ (h1 _ q)
    · revert hp
      generalize SemCall prog w X (n + 6) = C
      intro hp
      exact hp _ q
    · have h1 := (hB b (.head _)).tm
      obtain ⟨o, so⟩ := o
      have h2 := (hB (.tuple [o], so) (.tail _ (.head _))).tm
      have ot := one_tup (hB (.tuple [o], so) (.tail _ (.head _)))
      clear hB h hc
      revert hp h1 h2
      generalize SemCall prog w X (n + 6) = C
      intro h1 hp h2
      obtain ⟨a2, kk, rr, rfl⟩ := ot
      refine hp _ ?_
      refine h1 _ ?_
      have e : tmC (.ite2 b (.tuple (.str kk :: rr), so)) = (b.2.tm && so.tm) := rfl
      rw [e] at q
      revert q
      cases b.2.tm
      · exact id
      · intro q
        have l2 : lfs [.tuple (.str kk :: rr)] = true := by rw [lfs, a2]; rfl
        exact ⟨l2, rfl, h2 _ q⟩
    · have h1 := (hB b (.head _)).hb1 l
      revert hp h1
      generalize SemCall prog w X (n + 6) = C
      intro hp h1
      refine hp _ ?_
      cases t
      · exact q
      · exact h1 _ q
    · have h1 : ∀ Q, Q (.bool (tmC (.sw k l rows))) → SemCall prog w X (n + 6) 95 [encC (.sw k l rows), oth] Q := fun Q q => (sw_ends cr G hc h hn q).less (by omega)
      revert hp h1
      generalize SemCall prog w X (n + 6) = C
      intro hp h1
      cases k
      all_goals exact hp _ (h1 _ q)
  op := by
    intro b x2 x3 Q q
    have hi : ∀ Q, Q (.list (held c)) → SemCall prog w X (n + 6) 210 [encC c] Q := fun Q q => C_held (n := n + 5) G hc h q
    have hB := h.mono (m := n + 6) (by omega)
    have q : Q (.bool (!tmC c)) := q
    rcases c with b | b | ⟨b, o⟩ | ⟨l, t, b⟩ | ⟨k, l, rows⟩
    · have h1 := (hB b (.head _)).op
      revert hi h1
      generalize SemCall prog w X (n + 6) = C
      intro hi h1
      exact hi _ (h1 _ q)
    · revert hi
      generalize SemCall prog w X (n + 6) = C
      intro hi
      exact hi _ ⟨rfl, q⟩
    · have h1 := (hB b (.head _)).op
      have h2 := (hB (.tuple [o.1], o.2) (.tail _ (.head _))).op
      revert hi h1 h2
      generalize SemCall prog w X (n + 6) = C
      intro hi h1 h2
      refine hi _ ⟨rfl, ?_⟩
      refine h1 _ ?_
      have e : tmC (.ite2 b o) = (b.2.tm && o.2.tm) := rfl
      rw [e] at q
      revert q
      cases b.2.tm
      · exact id
      · exact fun q => h2 _ q
    · have h1 := (hB b (.head _)).lv l true
      revert hi h1
      generalize SemCall prog w X (n + 6) = C
      intro hi h1
      refine hi _ ?_
      cases t
      · exact q
      · refine h1 _ ?_
        have e : decide ((0 : Int) < ((b.2.lv l true : Nat) : Int)) = (!tmC (.loop l true b)) := by
          show _ = (!(true && !decide (0 < b.2.lv l true)))
          rw [Bool.true_and, Bool.not_not]
          by_cases h : 0 < b.2.lv l true
          · rw [decide_eq_true h, decide_eq_true (by omega)]
          · rw [decide_eq_false h, decide_eq_false (by omega)]
        rw [← e] at q
        exact q
    · have h1 : ∀ Q, Q (.bool (!tmC (.sw k l rows))) → SemCall prog w X (n + 6) 236 [encC (.sw k l rows)] Q := fun Q q => (sw_open G hc h hn q).less (by omega)
      revert hi h1
      generalize SemCall prog w X (n + 6) = C
      intro hi h1
      cases k
      all_goals exact hi _ (h1 _ q)
  ok := by
    intro Q q
    refine e_law_statement_right (n := n + 5) G ?_
    have hh : ∀ Q, Q (.list (held c)) → SemCall prog w X (n + 5) 210 [encC c] Q := fun Q q => C_held (n := n + 4) G hc h q
    have hi : ∀ Q, Q (.list (held c)) → SemCall prog w X (n + 5) 68 [encC c] Q := fun Q q => C_inner (n := n + 3) cr G hc h q
    have hB := h.mono (m := n + 5) (by omega)
    have ok : ∀ x ∈ held c, ∀ Q, Q (.bool true) → SemCall prog w X (n + 5) 246 [x] Q := fun x hx => by
      obtain ⟨p, hp, rfl⟩ := List.mem_map.mp hx
      exact (hB p hp).ok
    have fh : fits (held c) 63 = true := (fits_all (fit_bodies h) (by omega)).2.2.2
    have sh := fits_shapedL fh (Nat.le_refl _)
    have sm := small_held hc
    have er := eqv_refl _ (canLay_of_shaped sh)
    rcases c with b | b | ⟨b, o⟩ | ⟨l, t, b⟩ | ⟨k, l, rows⟩
    case sw =>
      have cr1 := cr (n + 4) k l rows
      have h1 : ∀ Q, Q (.bool (tmC (.sw k l rows))) → SemCall prog w X (n + 5) 95 [encC (.sw k l rows), oth] Q := fun Q q => (sw_ends cr G hc h hn q).less (by omega)
      have h2 : ∀ Q, Q (.bool (!tmC (.sw k l rows))) → SemCall prog w X (n + 5) 236 [encC (.sw k l rows)] Q := fun Q q => (sw_open G hc h hn q).less (by omega)
      have rl : ∀ (m : Loc) (Q : Loc → Flw → Prop), _ := fun m Q => @right_loop w base X (n + 5) _ hB (by omega) (some (encC (.sw k l rows))) (some (.list (held (.sw k l rows)))) Q none none
      have fr := fit_shaped (fits_rows (k := k) h) (by omega)
      have err := eqv_refl _ (canLay_of_shaped fr)
      clear h hB fh hc cr
      revert hh hi ok cr1 h1 h2 rl
      generalize SemCall prog w X (n + 5) = C
      intro hh hi ok cr1 h1 h2 rl
      have fin : T_law_statement_right_1 C [some (encC (.sw k l rows)), some (.list (held (.sw k l rows))), none, none] (fun m' fl => match fl with | .nxt => sCons (sRet (eCmp .Eq (eComp [(Str.ofString "body")] [] (iSeq (eV 1)) (gName 0) (tNot (tVal (eCall C 246 (lCons (eV 0) lNil)))) (eV 0)) (eC (.list [])))) sNil m' (retQ Q) | .ret d => retQ Q m' (.ret d)) :=
        ⟨sm, rl [] _ fun y z => ⟨rfl, sm, comp_none ok ⟨rfl, rfl, q⟩⟩⟩
      cases k
      all_goals
        refine hh _ ?_
        refine hi _ ?_
        refine ⟨sh, sh, ?_⟩
        rw [er]
        refine cr1 _ ?_
        refine ⟨fr, fr, ?_⟩
        rw [err]
        refine h1 _ ?_
        refine h2 _ ?_
        revert fin
        generalize tmC _ = tt
        cases tt
        all_goals exact id
    all_goals
      clear h hB fh hc cr
      revert hh hi ok
      generalize SemCall prog w X (n + 5) = C
      intro hh hi ok
      refine hh _ ?_
      refine hi _ ?_
      refine ⟨sh, sh, ?_⟩
      rw [er]
      exact ⟨rfl, sm, comp_none ok ⟨rfl, rfl, q⟩⟩
end
end Mine

namespace Mine
section
variable {w : World} {base : Heap} {X : Ext base} {n : Nat}
def Dplaces : List (PyData × PyData) := [(sN "switch", .int 5), (sN "typeswitch", .int 6), (sN "choose", .int 3)]
def F_case_rows : SD := fun m Q => m[1]? = some none ∧ eV 0 m fun a => (eSub (eV 0) (eC (.int 0))) m fun b => tabQ Dplaces a b fun d => Q m (.ret d)
theorem nodup_case_rows : ([Str.ofString "statement"] ++ [Str.ofString "places"] : List Str).Nodup := by decide +kernel
theorem e_case_rows (G : Gnd (KK w) base) {d1 : PyData} {Q : PyData → Prop} (hQ : F_case_rows [some d1, none] (retQ Q)) : SemCall prog w X (n + 1) 63 [d1] Q :=
  sem_entry (xs := [Str.ofString "statement"]) (rest := [Str.ofString "places"]) (dsF := [d1]) (F := F_case_rows) G rfl (by kernel_rfl)
   (r_table (D := Dplaces) (sk := .str) (i := 1) rfl (by kernel_rfl) nodup_case_rows (r_var 0 rfl nd_statement) (r_sub (r_var 0 rfl nd_statement) r_int) (by kernel_rfl) (by kernel_rfl) (by decide +kernel) rfl rfl (by intro h; cases h) (by decide) (by unfold Shaped; kernel_rfl) G.nolim (by kernel_rfl))
   (fun s us _ _ r => hb1 (fun _ => rfl) us r) nodup_case_rows rfl (by decide +kernel) (by decide +kernel) (by kernel_rfl) (by kernel_rfl) (by kernel_rfl) hQ
theorem case_rows_ok (G : Gnd (KK w) base) : CR w X := by
  intro n k l rows Q q
  refine e_case_rows G ?_
  cases k
  all_goals exact ⟨rfl, by kernel_rfl, q⟩
end
end Mine

namespace Mine
section
variable {w : World} {base : Heap} {X : Ext base} {n : Nat} {r : Addr}
theorem wound_ok (G : Gnd (KK w) base) (rx : RX X r) {many : Int} (h1 : 1 ≤ many) (h2 : many ≤ 1000) {Q : PyData → Prop} (q : ∀ k, 0 ≤ k → k < many → Q (.int k)) : SemCall prog w X (n + 1) 165 [hdl r, .int many] Q := by
  refine e_law_wound G rx ?_
  generalize SemCall prog w X n = C
  have fm : ∀ x : Int, 0 ≤ x.fmod many ∧ x.fmod many < many := fun x => ⟨Int.fmod_nonneg_of_pos _ (by omega), Int.fmod_lt_of_pos _ (by omega)⟩
  have fin1 : ∀ k, 0 ≤ k → k < many → T_law_wound_1 r C [some (hdl r), some (.int many), some (.int k)] (retQ Q) := fun k k0 k1 =>
    ⟨rfl, .inl rfl, rfl, .inl rfl, fun j hj => ⟨⟨by omega, by omega⟩, ⟨Int.fdiv_nonneg hj.1 (by omega), fun z => by omega⟩, q k k0 k1⟩⟩
  have fin0 : T_law_wound_0 r C [some (hdl r), some (.int many), none] (retQ Q) :=
    ⟨rfl, .inr rfl, rfl, .inr rfl, fun j hj => ⟨⟨by decide, by decide⟩, ⟨by decide, ⟨Int.fmod_nonneg_of_pos _ (by decide), fun _ => Int.lt_trans (Int.fmod_lt_of_pos _ (by decide)) (by decide)⟩,
      rfl, .inr rfl, fun a ha => ⟨rfl, .inr rfl, fun b hb => ⟨⟨by have := hb.1; omega, by have := hb.2 rfl; omega⟩, ⟨by decide, ⟨⟨by decide, by decide⟩, ⟨by omega, q _ (fm _).1 (fm _).2⟩⟩⟩⟩⟩⟩⟩⟩
  refine ⟨rfl, .inl rfl, fun j hj => ?_⟩
  show (match decide ((0 : Int) < j) with
    | true => sCons (sAsg 2 (eBin .Mod (eReel 0 r 0) (eV 1))) (T_law_wound_1 r C) [some (hdl r), some (.int many), none] (fun m' fl => match fl with | .nxt => T_law_wound_0 r C m' (retQ Q) | .ret d => retQ Q m' (.ret d))
    | false => T_law_wound_0 r C [some (hdl r), some (.int many), none] (retQ Q))
  cases decide ((0 : Int) < j) with
  | false => exact fin0
  | true => exact ⟨rfl, .inl rfl, fun j hj => ⟨by omega, fin1 _ (fm _).1 (fm _).2⟩⟩
end
end Mine

namespace Mine
section
variable {w : World} {base : Heap} {X : Ext base} {n : Nat} {r : Addr}
theorem idxQ_at {xs : List PyData} {k : Int} {Q : PyData → Prop} (h0 : 0 ≤ k) (h1 : k < xs.length) (sm : small xs = true) (q : ∀ x ∈ xs, Q x) : idxQ (.list xs) (.int k) Q := by
  have sm := of_decide_eq_true sm
  have e : idx? k xs = some (xs[k.toNat]'(by omega)) := by
    have e1 : seqIndex? k xs.length = some k.toNat := by
      rw [seqIndex?]
      rw [if_neg (show ¬ k < 0 by omega)]
      rw [decide_eq_true h0, decide_eq_true h1]; rfl
    rw [idx?, decide_eq_true (show -1000 ≤ k by omega), decide_eq_true (show k < 1000 by omega), e1]
    exact List.getElem?_eq_getElem (by omega)
  show (match (if decide (0 ≤ k) = true then idx? k xs else none) with | some d => Q d | none => False)
  rw [if_pos (decide_eq_true h0), e]
  exact q _ (List.getElem_mem _)
theorem one_ok (G : Gnd (KK w) base) (rx : RX X r) {xs : List PyData} (h1 : 1 ≤ xs.length) (sm : small xs = true) {Q : PyData → Prop} (q : ∀ x ∈ xs, Q x) : SemCall prog w X (n + 2) 172 [hdl r, .list xs] Q := by
  refine e_law_one (n := n + 1) G ?_
  have hl := of_decide_eq_true sm
  have hw : ∀ Q, (∀ k : Int, 0 ≤ k → k < xs.length → Q (.int k)) → SemCall prog w X (n + 1) 165 [hdl r, .int xs.length] Q := fun Q q => wound_ok G rx (by omega) (by omega) q
  revert hw
  generalize SemCall prog w X (n + 1) = C
  intro hw
  exact ⟨sm, hw _ fun k k0 k1 => idxQ_at k0 k1 sm q⟩
theorem law_leaf_ok (G : Gnd (KK w) base) (rx : RX X r) {Q : PyData → Prop} (q : ∀ l, Q (eLeaf l)) : SemCall prog w X (n + 3) 186 [hdl r] Q := by
  refine e_law_leaf (n := n + 2) G ?_
  have ho : ∀ xs, 1 ≤ xs.length → small xs = true → (∀ x ∈ xs, Q x) → SemCall prog w X (n + 2) 172 [hdl r, .list xs] Q := fun xs a b c => one_ok G rx a b c
  revert ho
  generalize SemCall prog w X (n + 2) = C
  intro ho
  refine ⟨by kernel_rfl, ?_⟩
  refine ⟨by kernel_rfl, rfl, by kernel_rfl, rfl, by kernel_rfl, rfl, ?_⟩
  exact ho ([Leaf.ret, .p9, .p8, .cf, .step, .brk .N, .brk .A, .brk .B, .cont, .ret].map eLeaf) (by decide) rfl fun x hx => by
    obtain ⟨l, _, rfl⟩ := List.mem_map.mp hx
    exact q l
def StmtC (w : World) (X : Ext base) (r : Addr) (d : Int) (room S : Nat) : Prop :=
  ∀ M, S ≤ M → M ≤ 56 → ∀ Q : PyData → Prop, (∀ x sp, SOK w X M x sp → Q x) → SemCall prog w X room 205 [hdl r, .int d] Q
def BodyC (w : World) (X : Ext base) (r : Addr) (d : Int) (room S : Nat) : Prop :=
  ∀ M, S ≤ M → M ≤ 56 → ∀ Q : PyData → Prop, (∀ ds sq, SOKs w X M ds sq → ds.length ≤ 2 → Q (.tuple ds)) → SemCall prog w X room 191 [hdl r, .int d] Q
def CasesC (w : World) (X : Ext base) (r : Addr) (d : Int) (room S : Nat) : Prop :=
  ∀ k M, S ≤ M → M ≤ 56 → ∀ Q : PyData → Prop, (∀ rows : List (Bool × PS), AllB w X M (rows.map (·.2)) → rows.length ≤ 3 → Q (rowsE k rows)) → SemCall prog w X room 198 [hdl r, .int d, told k] Q
theorem small_short {ds : List PyData} (h : ds.length ≤ 100) : small ds = true := decide_eq_true (by omega)
theorem body_of (G : Gnd (KK w) base) (rx : RX X r) {d : Int} {S : Nat} (hs : StmtC w X r d (n + 2) S) : BodyC w X r d (n + 3) S := by
  intro M l1 l2 Q q
  refine e_law_body (n := n + 2) G ?_
  have ho : ∀ xs, 1 ≤ xs.length → small xs = true → ∀ Q : PyData → Prop, (∀ x ∈ xs, Q x) → SemCall prog w X (n + 2) 172 [hdl r, .list xs] Q := fun xs a b Q c => one_ok G rx a b c
  have hs := hs M l1 l2
  revert ho hs
  generalize SemCall prog w X (n + 2) = C
  intro ho hs
  refine ⟨rfl, ho ([1, 1, 2, 0].map fun (i : Nat) => .int i) (by decide) rfl _ fun x hx => ?_⟩
  obtain ⟨k, hk, rfl⟩ := List.mem_map.mp hx
  have hk : k = 1 ∨ k = 2 ∨ k = 0 := by simpa using hk
  have one : lfs [PyData.none] = true := rfl
  rcases hk with rfl | rfl | rfl
  · refine ⟨⟨by decide, by decide⟩, ?_⟩
    refine hs _ fun x sp h => ?_
    exact ⟨fit_lf h.fit, rfl, rfl, rfl, q [x] _ (.cons h .nil) (Nat.le_succ 1)⟩
  · refine ⟨⟨by decide, by decide⟩, ?_⟩
    refine hs _ fun x sp h => ?_
    refine ⟨fit_lf h.fit, rfl, ?_⟩
    refine hs _ fun y sp' h' => ?_
    exact ⟨fit_lf h'.fit, rfl, rfl, rfl, q [x, y] _ (.cons h (.cons h' .nil)) (Nat.le_refl 2)⟩
  · refine ⟨⟨by decide, by decide⟩, ?_⟩
    exact ⟨rfl, rfl, q [] _ .nil (by decide)⟩
theorem block_ok (G : Gnd (KK w) base) {ds : List PyData} (l : lfs ds = true) {Q : PyData → Prop} (q : Q (blockE (.tuple ds))) : SemCall prog w X (n + 1) 179 [.tuple ds] Q := by
  refine e_law_block G ?_
  refine ⟨?_, rfl, q⟩
  show (true && (true && (lfs ds && true))) = true
  rw [l]; rfl
theorem stmt0 (G : Gnd (KK w) base) (rx : RX X r) : StmtC w X r 0 (n + 4) 4 := by
  intro M l1 l2 Q q
  refine e_law_statement (n := n + 3) G ?_
  have h := law_leaf_ok (n := n) (X := X) G rx (Q := Q) fun l => by
    obtain ⟨j, rfl⟩ : ∃ j, M = j + 4 := ⟨M - 4, by omega⟩
    exact q _ _ (leaf_ok G l)
  revert h
  generalize SemCall prog w X (n + 3) = C
  exact id
end
end Mine

namespace Mine
section
variable {w : World} {base : Heap} {X : Ext base} {n : Nat} {r : Addr}
theorem SOKs.lfs {M : Nat} {ds : List PyData} {sq : Sp} (h : SOKs w X M ds sq) : Mine.lfs ds = true := fits_lf h.fits
theorem SOK.lf {M : Nat} {d : PyData} {sp : Sp} (h : SOK w X M d sp) : Mine.lf d = true := fit_lf h.fit
/-- a compound statement of the wanted level -/
theorem C_at (G : Gnd (KK w) base) {c : Cm} (hc : okC c = true) {S M : Nat} (h : AllB w X S (bodies c)) (l1 : S + 3 ≤ M) (l0 : 3 ≤ S) (l2 : M ≤ 56) : SOK w X M (encC c) (spC c) := by
  obtain ⟨j, rfl⟩ : ∃ j, M = j + 6 := ⟨M - 6, by omega⟩
  exact C_ok (case_rows_ok G) G hc (h.mono (by omega)) (by omega)
theorem all1 {M : Nat} {d : PyData} {sp : Sp} (h : BOK w X M d sp) : AllB w X M [(d, sp)] := fun p hp => by
  cases List.mem_singleton.mp hp
  exact h
theorem all2 {M : Nat} {d e : PyData} {sp sq : Sp} (h : BOK w X M d sp) (g : BOK w X M e sq) : AllB w X M [(d, sp), (e, sq)] := fun p hp => by
  rcases List.mem_cons.mp hp with rfl | hp
  · exact h
  · exact all1 g p hp
theorem stmt_of (G : Gnd (KK w) base) (rx : RX X r) {d : Int} {S : Nat} (hd : 0 < d) (hb : BodyC w X r (d - 1) (n + 3) S) (hc : CasesC w X r (d - 1) (n + 3) (S + 2)) (l0 : 4 ≤ S) (l9 : S + 10 ≤ 56) : StmtC w X r d (n + 4) (S + 10) := by
  intro M l1 l2 Q q
  refine e_law_statement (n := n + 3) G ?_
  have hw : ∀ many : Int, 1 ≤ many → many ≤ 1000 → ∀ Q : PyData → Prop, (∀ k, 0 ≤ k → k < many → Q (.int k)) → SemCall prog w X (n + 3) 165 [hdl r, .int many] Q := fun many a b Q c => wound_ok (n := n + 2) G rx a b c
  have ho : ∀ xs, 1 ≤ xs.length → small xs = true → ∀ Q : PyData → Prop, (∀ x ∈ xs, Q x) → SemCall prog w X (n + 3) 172 [hdl r, .list xs] Q := fun xs a b Q c => one_ok (n := n + 1) G rx a b c
  have hl := law_leaf_ok (n := n) (X := X) G rx (Q := Q) fun l => by
    obtain ⟨j, rfl⟩ : ∃ j, M = j + 4 := ⟨M - 4, by omega⟩
    exact q _ _ (leaf_ok G l)
  have hk : ∀ ds, lfs ds = true → ∀ Q : PyData → Prop, Q (blockE (.tuple ds)) → SemCall prog w X (n + 3) 179 [.tuple ds] Q := fun ds l Q q => block_ok (n := n + 2) G l q
  have hb := hb S (Nat.le_refl _) (by omega)
  have hc := fun k => hc k (S + 2) (Nat.le_refl _) (by omega)
  have bd : ∀ {ds sq}, SOKs w X S ds sq → ds.length ≤ 2 → BOK w X (S + 2) (.tuple ds) sq := fun h l => body_ok G h (small_short (by omega)) (by omega)
  have so : ∀ (c : Cm), okC c = true → AllB w X (S + 7) (bodies c) → SOK w X M (encC c) (spC c) := fun c oc h => C_at G oc h (by omega) (by omega) l2
  have oth : ∀ {ds sq}, BOK w X (S + 2) (.tuple ds) sq → BOK w X (S + 7) (.tuple [blockE (.tuple ds)]) _ := fun {ds sq} h =>
    body_ok G (.cons (C_at (M := S + 5) (c := .block (.tuple ds, sq)) G rfl (all1 h) (Nat.le_refl _) (by omega) (by omega)) .nil) rfl (by omega)
  revert hw ho hl hk hb hc
  generalize SemCall prog w X (n + 3) = C
  intro hw ho hl hk hb hc
  have lift : ∀ {ds sq}, BOK w X (S + 2) (.tuple ds) sq → BOK w X (S + 7) (.tuple ds) sq := fun h => h.mono (by omega)
  have labelled : ∀ k : Int, (∀ l, T_law_statement_5 C [some (hdl r), some (.int d), some (.int k), some nmx, some (lb l), none, none, none] (retQ Q)) → T_law_statement_6 C [some (hdl r), some (.int d), some (.int k), none, none, none, none, none] (retQ Q) := fun k h => by
    refine ho ([Lb.N, .N, .A, .B].map lb) (by decide) rfl _ fun x hx => ?_
    obtain ⟨l, _, rfl⟩ := List.mem_map.mp hx
    exact h l
  have rowsOK : ∀ {rows : List (Bool × PS)}, rows.length ≤ 3 → decide (rows.length ≤ 100) = true := fun h => decide_eq_true (by omega)
  show (match decide ((0 : Int) < d) with | true => _ | false => _)
  rw [decide_eq_true hd]
  refine hw 9 (by decide) (by decide) _ fun k k0 k9 => ?_
  have hk9 : k = 0 ∨ k = 1 ∨ k = 2 ∨ k = 3 ∨ k = 4 ∨ k = 5 ∨ k = 6 ∨ k = 7 ∨ k = 8 := by omega
  rcases hk9 with rfl | rfl | rfl | rfl | rfl | rfl | rfl | rfl | rfl
  · exact hl
  · exact hl
  · refine labelled _ fun l => ?_
    refine hb _ fun ds sq h len => ?_
    exact hk ds h.lfs _ (q _ _ (so (.block (.tuple ds, sq)) rfl (all1 (lift (bd h len)))))
  · refine labelled _ fun l => ?_
    refine hb _ fun ds sq h len => ?_
    refine hk ds h.lfs _ ?_
    have b1 := bd h len
    have so1 := oth b1
    refine ⟨fit_lf so1.fit, rfl, ?_⟩
    refine hw 2 (by decide) (by decide) _ fun j j0 j2 => ?_
    have hj : j = 0 ∨ j = 1 := by omega
    rcases hj with rfl | rfl
    · refine hb _ fun ds' sq' h' len' => ?_
      refine hk ds' h'.lfs _ ?_
      have s1 := so (.ite (.tuple ds', sq')) rfl (all1 (lift (bd h' len')))
      exact ⟨s1.lf, rfl, q _ _ s1⟩
    · refine hb _ fun ds' sq' h' len' => ?_
      refine hk ds' h'.lfs _ ?_
      have s1 := so (.ite2 (.tuple ds', sq') (blockE (.tuple ds), _)) rfl (all2 (lift (bd h' len')) so1)
      exact ⟨s1.lf, rfl, q _ _ s1⟩
  · refine labelled _ fun l => ?_
    refine hb _ fun ds sq h len => ?_
    refine hk ds h.lfs _ ?_
    have s1 := so (.loop l true (.tuple ds, sq)) rfl (all1 (lift (bd h len)))
    exact ⟨s1.lf, rfl, q _ _ s1⟩
  · refine labelled _ fun l => ?_
    refine ⟨rfl, rfl, ?_⟩
    refine ho ([false, true].map fun t => cond t .none nmx) (by decide) rfl _ fun x hx => ?_
    obtain ⟨t, _, rfl⟩ := List.mem_map.mp hx
    refine hb _ fun ds sq h len => ?_
    refine hk ds h.lfs _ ?_
    have s1 := so (.loop l t (.tuple ds, sq)) rfl (all1 (lift (bd h len)))
    exact ⟨s1.lf, rfl, q _ _ s1⟩
  · refine labelled _ fun l => ?_
    refine ⟨rfl, rfl, ?_⟩
    refine hc .sw _ fun rows h len => ?_
    have s1 := so (.sw .sw l rows) (rowsOK len) (h.mono (by omega))
    exact ⟨s1.lf, rfl, q _ _ s1⟩
  · refine labelled _ fun l => ?_
    refine hc .ts _ fun rows h len => ?_
    have s1 := so (.sw .ts l rows) (rowsOK len) (h.mono (by omega))
    exact ⟨s1.lf, rfl, q _ _ s1⟩
  · refine labelled _ fun l => ?_
    refine ⟨rfl, rfl, ?_⟩
    refine hc .ch _ fun rows h len => ?_
    have s1 := so (.sw .ch l rows) (rowsOK len) (h.mono (by omega))
    exact ⟨s1.lf, rfl, q _ _ s1⟩
end
end Mine

namespace Mine
section
variable {w : World} {base : Heap} {X : Ext base} {n : Nat} {r : Addr}
theorem nodup_law_cases : ([Str.ofString "reel", Str.ofString "deep", Str.ofString "told"] ++ [Str.ofString "rows", Str.ofString "turn", Str.ofString "body"] : List Str).Nodup := by decide +kernel
theorem nd_rows' : (Str.ofString "rows" == ("__debug__" : Str)) = false := by kernel_rfl
def B_law_cases (C : CallD) : Addr → RD := gCons (gLift (sAsg 5 (eCall C 191 (lCons (eV 0) (lCons (eV 1) lNil))))) (gCons (gAppend 3 (eTup (lCons (eV 2) (lCons (eIf (tCmp .Eq (eCall C 165 (lCons (eV 0) (lCons (eC (.int 4)) lNil))) (eC (.int 0))) (eAdd (eV 5) (eC (.tuple [.tuple [sN "fallthrough", .int 3]]))) (eV 5)) lNil)))) gNil)
def T_law_cases_0 (C : CallD) : Addr → RD := gCons (gTuple 3) gNil
def T_law_cases_1 (C : CallD) : Addr → RD := gCons (gIf (tCmp .Gt (eCall C 165 (lCons (eV 0) (lCons (eC (.int 3)) lNil))) (eC (.int 0))) (gCons (gAppend 3 (eTup (lCons (eC .none) (lCons (eCall C 191 (lCons (eV 0) (lCons (eV 1) lNil))) lNil)))) gNil) gNil) (T_law_cases_0 C)
def F_law_cases (C : CallD) : SD := gStart 3 (gCons (gFor 4 (iRange (eCall C 172 (lCons (eV 0) (lCons (eC (.list [.int 1, .int 2, .int 0])) lNil)))) (B_law_cases C)) (T_law_cases_1 C))
theorem SOKs.snoc {M : Nat} {ds : List PyData} {sq : Sp} (h : SOKs w X M ds sq) {x : PyData} {sp : Sp} (hx : SOK w X M x sp) : ∃ sq', SOKs w X M (ds ++ [x]) sq' := by
  induction h with
  | nil => exact ⟨_, .cons hx .nil⟩
  | cons a _ ih => obtain ⟨sq', h'⟩ := ih; exact ⟨_, .cons a h'⟩
theorem cases_of (G : Gnd (KK w) base) (rx : RX X r) {d : Int} {S : Nat} (hb : BodyC w X r d (n + 2) S) (l0 : 4 ≤ S) (l9 : S + 10 ≤ 56) : CasesC w X r d (n + 3) (S + 2) := by
  intro k M l1 l2 Q q
  refine sem_entry (n := n + 2) (xs := [Str.ofString "reel", Str.ofString "deep", Str.ofString "told"]) (rest := [Str.ofString "rows", Str.ofString "turn", Str.ofString "body"]) (dsF := [hdl r, .int d, told k]) (F := F_law_cases (SemCall prog w X (n + 2))) G rfl (by kernel_rfl)
    (g_start (i := 3) rfl (by kernel_rfl) nodup_law_cases (g_cons (g_for (i := 4) rfl (by kernel_rfl) nodup_law_cases (r_rangeR G (by kernel_rfl) (ns_range w) (r_call G 172 (by kernel_rfl) (ns_law_one w) (keep_law_one w) (r_cons (r_var 0 rfl nd_reel) (r_cons (r_clst [.int 1, .int 2, .int 0] (r_cons r_int (r_cons r_int (r_cons r_int r_nil)))) r_nil))))
      (g_cons (g_lift (r_asg 5 rfl (by kernel_rfl) nodup_law_cases (r_call G 191 (by kernel_rfl) (ns_law_body w) (keep_law_body w) (r_cons (r_var 0 rfl nd_reel) (r_cons (r_var 1 rfl nd_deep) r_nil)))))
        (g_cons (g_append (i := 3) rfl nd_rows' (r_tup (r_cons (r_var 2 rfl nd_told) (r_cons (r_ifexp (r_tcmp (r_call G 165 (by kernel_rfl) (ns_law_wound w) (keep_law_wound w) (r_cons (r_var 0 rfl nd_reel) (r_cons r_int r_nil))) r_int)
            (r_add (r_var 5 rfl nd_body) (r_ctup [.tuple [sN "fallthrough", .int 3]] (r_cons (r_ctup [sN "fallthrough", .int 3] (r_cons r_str (r_cons r_int r_nil))) r_nil))) (r_var 5 rfl nd_body)) r_nil)))) g_nil)))
      (g_cons (g_if (r_tcmp (r_call G 165 (by kernel_rfl) (ns_law_wound w) (keep_law_wound w) (r_cons (r_var 0 rfl nd_reel) (r_cons r_int r_nil))) r_int)
        (g_cons (g_append (i := 3) rfl nd_rows' (r_tup (r_cons r_none (r_cons (r_call G 191 (by kernel_rfl) (ns_law_body w) (keep_law_body w) (r_cons (r_var 0 rfl nd_reel) (r_cons (r_var 1 rfl nd_deep) r_nil))) r_nil)))) g_nil) g_nil)
        (g_cons (g_tuple G (i := 3) rfl nd_rows' (by kernel_rfl) (ns_tuple w)) g_nil))))
    (fun s us _ _ r => hb3 (fun _ _ _ => rfl) us r) nodup_law_cases rfl (by decide +kernel) (by decide +kernel) (by kernel_rfl) (by kernel_rfl) (by kernel_rfl) ?_
  have hw : ∀ many : Int, 1 ≤ many → many ≤ 1000 → ∀ Q : PyData → Prop, (∀ k, 0 ≤ k → k < many → Q (.int k)) → SemCall prog w X (n + 2) 165 [hdl r, .int many] Q := fun many a b Q c => wound_ok (n := n + 1) G rx a b c
  have ho : ∀ xs, 1 ≤ xs.length → small xs = true → ∀ Q : PyData → Prop, (∀ x ∈ xs, Q x) → SemCall prog w X (n + 2) 172 [hdl r, .list xs] Q := fun xs a b Q c => one_ok (n := n) G rx a b c
  have hb := hb S (Nat.le_refl _) (by omega)
  revert hw ho hb
  generalize SemCall prog w X (n + 2) = C
  intro hw ho hb
  have fm : ∀ {a : Addr} {i : Int} {x : PyData}, lf x = true → flatM [some (hdl r), some (.int d), some (told k), some (hdl a), some (.int i), some x] = true := fun {a i x} h => by
    show (true && (true && ((lf (told k) || _) && (true && (true && ((lf x || _) && true)))))) = true
    rw [h]; cases k <;> rfl
  have bd : ∀ {ds sq}, SOKs w X S ds sq → ds.length ≤ 5 → BOK w X M (.tuple ds) sq := fun h l => (body_ok G h (small_short (by omega)) (by omega)).mono l1
  have lt : lf (told k) = true := by cases k <;> rfl
  have snoc : ∀ (rows : List (Bool × PS)) (x : Bool × PS), AllB w X M (rows.map (·.2)) → BOK w X M x.2.1 x.2.2 → AllB w X M ((rows ++ [x]).map (·.2)) := fun rows x h hx p hp => by
    rw [List.map_append] at hp
    rcases List.mem_append.mp hp with hp | hp
    · exact h p hp
    · cases List.mem_singleton.mp hp; exact hx
  have sm : ∀ rows : List (Bool × PS), rows.length ≤ 3 → small (rows.map (rowE k)) = true := fun rows h => decide_eq_true (by rw [List.length_map]; omega)
  have step : ∀ (a : Addr) (rows : List (Bool × PS)) (b : Option PyData) (i : Int) (K : Loc → List PyData → Flw → Prop), AllB w X M (rows.map (·.2)) → rows.length ≤ 2 →
      (∀ (rows' : List (Bool × PS)) (x : PyData), AllB w X M (rows'.map (·.2)) → rows'.length ≤ rows.length + 1 → lf x = true → K [some (hdl r), some (.int d), some (told k), some (hdl a), some (.int i), some x] (rows'.map (rowE k)) .nxt) →
      B_law_cases C a [some (hdl r), some (.int d), some (told k), some (hdl a), some (.int i), b] (rows.map (rowE k)) K := by
    intro a rows b i K ha hl hK
    refine hb _ fun ds sq h len => ?_
    have l1 := h.lfs
    refine ⟨fm l1, rfl, ?_⟩
    refine hw 4 (by decide) (by decide) _ fun j j0 j4 => ?_
    have fin : ∀ ds' sq', SOKs w X S ds' sq' → ds'.length ≤ 3 → lfs [told k, .tuple ds'] = true ∧ small [told k, .tuple ds'] = true ∧ lf (.tuple [told k, .tuple ds']) = true ∧ small (rows.map (rowE k)) = true ∧ K [some (hdl r), some (.int d), some (told k), some (hdl a), some (.int i), some (.tuple ds)] (rows.map (rowE k) ++ [.tuple [told k, .tuple ds']]) .nxt := fun ds' sq' h' len' => by
      have l2 : lfs [told k, .tuple ds'] = true := by show (lf (told k) && (lfs ds' && true)) = true; rw [lt, h'.lfs]; rfl
      refine ⟨l2, rfl, l2, sm rows (by omega), ?_⟩
      have := hK (rows ++ [(false, .tuple ds', sq')]) (.tuple ds) (snoc rows _ ha (bd h' (by omega))) (by rw [List.length_append]; exact Nat.le_refl _) l1
      rw [List.map_append] at this
      exact this
    show (match (j == 0) with | true => _ | false => _)
    cases (j == 0) with
    | true =>
      obtain ⟨j4, e4⟩ : ∃ j, S = j + 4 := ⟨S - 4, by omega⟩
      have hf := leaf_ok (n := j4) (X := X) G .fall
      rw [← e4] at hf
      obtain ⟨sq', h'⟩ := h.snoc hf
      have len' : (ds ++ [eLeaf .fall]).length ≤ 3 := by rw [List.length_append]; exact Nat.succ_le_succ len
      exact ⟨small_short (by exact Nat.le_trans len' (by decide)), fin _ _ h' len'⟩
    | false => exact fin _ _ h (by omega)
  have tail : ∀ (a : Addr) (rows : List (Bool × PS)) (t b : Option PyData), AllB w X M (rows.map (·.2)) → rows.length ≤ 2 → T_law_cases_1 C a [some (hdl r), some (.int d), some (told k), some (hdl a), t, b] (rows.map (rowE k)) (fun m' _ fl => retQ Q m' fl) := by
    intro a rows t b ha hl
    have fin : ∀ rows : List (Bool × PS), AllB w X M (rows.map (·.2)) → rows.length ≤ 3 → T_law_cases_0 C a [some (hdl r), some (.int d), some (told k), some (hdl a), t, b] (rows.map (rowE k)) (fun m' _ fl => retQ Q m' fl) := fun rows ha hl => ⟨rfl, sm rows hl, q rows ha hl⟩
    refine hw 3 (by decide) (by decide) _ fun j j0 j3 => ?_
    show (match decide (0 < j) with | true => _ | false => _)
    cases decide (0 < j) with
    | false => exact fin rows ha (by omega)
    | true =>
      refine ⟨rfl, ?_⟩
      refine hb _ fun ds sq h len => ?_
      have l2 : lfs [.none, .tuple ds] = true := by show (true && (lfs ds && true)) = true; rw [h.lfs]; rfl
      refine ⟨l2, rfl, l2, sm rows (by omega), ?_⟩
      have := fin (rows ++ [(true, .tuple ds, sq)]) (snoc rows _ ha (bd h (by omega))) (by rw [List.length_append]; exact Nat.succ_le_succ hl)
      rw [List.map_append] at this
      exact this
  refine ⟨by show (true && (true && ((lf (told k) || _) && _))) = true; rw [lt]; rfl, fun a => ?_⟩
  refine ho ([1, 2, 0].map fun (i : Nat) => .int i) (by decide) rfl _ fun x hx => ?_
  obtain ⟨j, hj, rfl⟩ := List.mem_map.mp hx
  have hj : j = 1 ∨ j = 2 ∨ j = 0 := by simpa using hj
  have nil : AllB w X M (([] : List (Bool × PS)).map (·.2)) := fun _ h => absurd h List.not_mem_nil
  rcases hj with rfl | rfl | rfl
  · refine ⟨⟨by decide, by decide⟩, ?_⟩
    exact step a [] _ 0 _ nil (by decide) fun rows' x h' l' _ => tail a rows' _ _ h' (Nat.le_trans l' (by decide))
  · refine ⟨⟨by decide, by decide⟩, ?_⟩
    refine step a [] _ 0 _ nil (by decide) fun rows' x h' l' _ => ?_
    exact step a rows' _ 1 _ h' (Nat.le_trans l' (by decide)) fun rows'' x h'' l'' _ => tail a rows'' _ _ h'' (Nat.le_trans l'' (Nat.succ_le_succ l'))
  · refine ⟨⟨by decide, by decide⟩, ?_⟩
    exact tail a [] _ _ nil (by decide)
end
end Mine

namespace Mine
theorem step1 {base : Heap} {prog : Program} {w : World} {X : Ext base} {n : Nat} {sc : Scope} {vs : List Str} {st : Stmt} {ss : List Stmt} {f : SD} (h : DX prog w X n sc vs st f) {env : Env} {A : Around} {E : Value → Shared → Prop} {s : Shared} {m : Loc} (ok : EnvOK sc env) (R : Room n A) (F : FmOK X env vs m s.heap)
    {N : Loc → Prop} (q : f m fun m' fl => fl = .nxt ∧ N m') {P : Flow → Shared → Prop}
    (k : ∀ m' h' tk', N m' → KeepL X env.locals s.heap h' → FmOK X env vs m' h' → wpAny (model prog w) A (execs ss env) P E { s with heap := h', toks := tk' }) : wpAny (model prog w) A (execs (st :: ss) env) P E s := by
  refine wpAny_execs_cons (wpAny_mono (h.1 env A E s m _ ok R F q) (fun fl s₁ p => ?_) fun _ _ x => x)
  obtain ⟨m', h', tk', rfl, kl, F', q⟩ := p
  cases fl with
  | next => exact k m' h' tk' q.2 kl F'
  | ret v => obtain ⟨d, _, q, _⟩ := q; cases q
  | brk => exact q.elim
  | cont => exact q.elim
theorem stepR {base : Heap} {prog : Program} {w : World} {X : Ext base} {n : Nat} {sc : Scope} {vs : List Str} {st : Stmt} {ss : List Stmt} {f : SD} (h : DX prog w X n sc vs st f) {env : Env} {A : Around} {E : Value → Shared → Prop} {s : Shared} {m : Loc} (ok : EnvOK sc env) (R : Room n A) (F : FmOK X env vs m s.heap)
    {N : PyData → Prop} (q : f m fun _ fl => ∃ d, fl = .ret d ∧ N d) {P : Flow → Shared → Prop}
    (k : ∀ v d h' tk', N d → VR X h' v d → KeepL X env.locals s.heap h' → X.I h' → P (.ret v) { s with heap := h', toks := tk' }) : wpAny (model prog w) A (execs (st :: ss) env) P E s := by
  refine wpAny_execs_cons (wpAny_mono (h.1 env A E s m _ ok R F q) (fun fl s₁ p => ?_) fun _ _ x => x)
  obtain ⟨m', h', tk', rfl, kl, F', q⟩ := p
  cases fl with
  | next => obtain ⟨_, q, _⟩ := q; cases q
  | ret v =>
    obtain ⟨d, r, _, e, q⟩ := q
    cases e
    exact k v d h' tk' q r kl F'.inv
  | brk => exact q.elim
  | cont => exact q.elim
theorem call_raw {base : Heap} {prog : Program} {w : World} {X : Ext base} {n : Nat} {sc : Scope} {vs : List Str} {K : Frag} (G : Gnd K base) {x : Str} (f : Addr) {e : Expr} {es : List Expr} {g : LD} {p1 pos : Pos} (hx : sc.names.lookup x = some .globalImplicit) (hf : nsIn K mainGlobals x = some (some (.ref f))) (hk : keepIn K (.ref f) = true)
    (hargs : DL prog w X n sc vs (e :: es) g) {env : Env} {A : Around} {E : Value → Shared → Prop} {s : Shared} {m : Loc} (ok : EnvOK sc env) (R : Room n A) (F : FmOK X env vs m s.heap)
    {N : List PyData → Prop} (q : g m N) {P : Value → Shared → Prop}
    (k : ∀ us ds h' tk', N ds → VRs X h' us ds → Keep X s.heap h' → FmOK X env vs m h' → wpAny (model prog w) A (call (.ref f) us) P E { s with heap := h', toks := tk' })
    (hst : ∀ env, starEach (e :: es) env = (false, eval e env) :: starEach es env := by intro env; rfl)
    (hplain : ∀ env, (backTo pos (starEach es env)).any (·.1) = false := by intro env; rfl) (hd : (x == ("__debug__" : Str)) = false := by kernel_rfl) :
    wpAny (model prog w) A (eval (.Call (.Name x p1) (e :: es) [] pos) env) P E s := by
  obtain ⟨mg, hg⟩ := G.g
  refine Call_Name rfl (Name_function_global ok.kind (ok.gl x hx) (loadGlobal_global (env := env) (by rw [ok.glob]; exact hg.keeps F.stays) (mg_of G.K hg hf) ?_) hd)
  refine callWith_K (h₀ := base) G.K hk (wpAny_mono (hargs.1 env A E s m _ pos ok R F q) (fun v s₁ p => ?_) fun _ _ x => x) (hst env) (hplain env)
  obtain ⟨ds, h₁, t₁, rfl, k₁, i₁, r₁, q₁⟩ := p
  have F₁ := F.keep k₁ i₁
  exact ⟨G.K.keeps F₁.stays, k v ds h₁ t₁ q₁ r₁ k₁ F₁⟩
theorem list_new {base : Heap} {prog : Program} {w : World} {X : Ext base} {n : Nat} {sc : Scope} {vs : List Str} {es : List Expr} {L : LD} {pos : Pos} (h : DL prog w X n sc vs es L) {env : Env} {A : Around} {E : Value → Shared → Prop} {s : Shared} {m : Loc} (ok : EnvOK sc env) (R : Room n A) (F : FmOK X env vs m s.heap)
    {N : List PyData → Prop} (q : L m fun ds => lfs ds = true ∧ small ds = true ∧ N ds) {P : Value → Shared → Prop}
    (k : ∀ r us ds h' tk', Keep X s.heap h' → X.I h' → s.heap.get? r = none → h'.get? r = some { cls := .type "list", data := .seq us } → ReadsAll h' us.toList ds [] → N ds → P (.ref r) { s with heap := h', toks := tk' }) : wpAny (model prog w) A (eval (.List es pos) env) P E s := by
  refine wpAny_List (wpAny_mono (h.1 env A E s m _ pos ok R F q) (fun v s₁ p => ?_) fun _ _ x => x)
  obtain ⟨ds, h₁, t₁, rfl, k₁, i₁, r₁, l₁, sm, q₁⟩ := p
  refine ⟨by rw [r₁.length]; exact small_line sm, k _ v.toArray ds _ t₁ (k₁.trans (Keep.push _ _)) (inv_push i₁ _) ?_ (Heap.get?_push_size _ rfl) (readsAll_seqs i₁ (Keep.push h₁ _).seqs (r₁.reads l₁) l₁) q₁⟩
  cases e : s.heap.get? h₁.objs.size with
  | none => rfl
  | some o => exact absurd (Heap.lt_size (k₁ _ _ (new_off i₁) e)) (Nat.lt_irrefl _)
section
variable {w : World} {base : Heap} {X : Ext base} {n : Nat} {r : Addr}
theorem ns_law_reel (w : World) : nsIn (KK w) mainGlobals (Str.ofString "_law_reel") = some (some (.ref 158)) := by kernel_rfl
theorem keep_law_reel (w : World) : keepIn (KK w) (.ref 158) = true := by kernel_rfl
theorem reel_new (G : Gnd (KK w) base) {A : Around} {E : Value → Shared → Prop} {s : Shared} {v : Value} {zs : List Int} (R : Room (n + 1) A) (st : base.StaysIn s.heap) (iv : X.I s.heap) (rv : VR X s.heap v (.list (zs.map .int))) (sm : small (zs.map .int) = true) {P : Value → Shared → Prop}
    (h : ∀ r h' tk', Keep X s.heap h' → X.I h' → s.heap.get? r = none → ReelAt r h' → P (.ref r) { s with heap := h', toks := tk' }) : wpAny (model prog w) A (call (.ref 158) [v]) P E s := by
  refine entry_raw (n := n) (X := X) (xs := [Str.ofString "script"]) (rest := [Str.ofString "told", Str.ofString "size"]) (dsF := [.list (zs.map .int)]) G rfl (by kernel_rfl) R st iv (BindsTo.of_eq (by rfl)) (us' := [v]) (.cons rv .nil) nodup_law_reel rfl (by decide +kernel) (by decide +kernel) (by kernel_rfl) (by kernel_rfl) (by kernel_rfl)
    fun env E' h₀ tk ok R' F₀ hk₁ fresh => ?_
  refine step1 (s := { s with heap := h₀, toks := tk }) (r_asg 1 rfl (by kernel_rfl) nodup_law_reel (r_ifexp (r_tcmp (r_len G (by kernel_rfl) (ns_len w) (r_var 0 rfl nd_script)) r_int) (r_sub (r_var 0 rfl nd_script) r_int) r_int)) ok R' F₀ (N := fun m => ∃ t, m = [some (.list (zs.map .int)), some (.int t), none]) ?_ ?_
  · refine ⟨sm, ?_⟩
    cases zs with
    | nil => exact ⟨rfl, 0, rfl⟩
    | cons z r =>
      show (match decide ((0 : Int) < (((z :: r).map PyData.int).length : Int)) with | true => _ | false => _)
      rw [decide_eq_true (by show (0 : Int) < ((r.map PyData.int).length + 1 : Nat); omega)]
      refine idxQ_zeroL ?_
      exact ⟨rfl, z, rfl⟩
  · rintro _ h₁ t₁ ⟨t, rfl⟩ kl₁ F₁
    refine step1 (s := { s with heap := h₁, toks := t₁ }) (r_asg 2 rfl (by kernel_rfl) nodup_law_reel (r_max G (by kernel_rfl) (ns_max w) (r_var 1 rfl nd_told) (r_bin r_neg (r_var 1 rfl nd_told)))) ok R' F₁ (N := fun m => ∃ z, 0 ≤ z ∧ m = [some (.list (zs.map .int)), some (.int t), some (.int z)]) ?_ ?_
    · exact ⟨rfl, _, by split <;> omega, rfl⟩
    · rintro _ h₂ t₂ ⟨z, hz, rfl⟩ kl₂ F₂
      refine wpAny_execs_cons (wpAny_Return_some (list_new (s := { s with heap := h₂, toks := t₂ }) (r_cons (r_ifexp (r_tcmp (r_var 2 rfl nd_size) (r_bin r_int r_int)) (r_var 2 rfl nd_size) r_int) (r_cons (r_bin (r_bin (r_add (r_bin (r_var 2 rfl nd_size) r_int) r_int) r_int) r_int) r_nil)) ok R' F₂ (N := fun ds => ∃ a b, ds = [.int a, .int b] ∧ 0 ≤ a ∧ 0 ≤ b ∧ b < 2147483648) ?_ ?_))
      · have fin : ∀ a : Int, 0 ≤ a → (lCons (eBin .Mod (eBin .Mult (eAdd (eBin .Mod (eV 2) (eC (.int 2147483629))) (eC (.int 17))) (eC (.int 48271))) (eC (.int 2147483647))) lNil) [some (.list (zs.map .int)), some (.int t), some (.int z)] fun ds => lfs (.int a :: ds) = true ∧ small (.int a :: ds) = true ∧ ∃ a' b, .int a :: ds = [.int a', .int b] ∧ 0 ≤ a' ∧ 0 ≤ b ∧ b < 2147483648 := fun a ha =>
          ⟨by decide, ⟨⟨by decide, by decide⟩, ⟨by decide, rfl, rfl, a, _, rfl, ha, Int.fmod_nonneg_of_pos _ (by decide), Int.lt_trans (Int.fmod_lt_of_pos _ (by decide)) (by decide)⟩⟩⟩
        refine ⟨⟨rfl, rfl⟩, ?_⟩
        show (match decide ((10 : Int) ^ 18 ≤ z) with | true => _ | false => _)
        cases decide ((10 : Int) ^ 18 ≤ z) with
        | true => exact fin z hz
        | false => exact fin 0 (by decide)
      · rintro r us _ h₃ t₃ k₃ i₃ nr er ra ⟨a, b, rfl, a0, b0, b1⟩
        obtain ⟨va, q1, e1, ra1, ra⟩ := readsAll_uncons ra
        obtain ⟨vb, q2, e2, rb1, ra⟩ := readsAll_uncons ra
        have e3 : q2 = [] := by have := ReadsAll.len ra; exact List.length_eq_zero_iff.mp this
        obtain ⟨ta, rfl⟩ := (VR.flat (X := X) rfl ra1).int_inv
        obtain ⟨tb, rfl⟩ := (VR.flat (X := X) rfl rb1).int_inv
        have eu : us = #[.int a ta, .int b tb] := by rw [← Array.toArray_toList (xs := us), e1, e2, e3]
        have back : ∀ b o, s.heap.get? b = some o → b ∉ X.W → b ≠ env.locals → h₂.get? b = some o := fun b o e nw nl => kl₂ b o nw nl (kl₁ b o nw nl (hk₁ b o e))
        refine h r h₃ t₃ (fun b o nw e => k₃ b o nw (back b o e nw fun z => by rw [z, fresh] at e; cases e)) i₃ ?_ ⟨a, b, ta, tb, ⟨_, er, rfl, 0, by rw [eu]⟩, a0, b0, b1⟩
        cases e : s.heap.get? r with
        | none => rfl
        | some o =>
          by_cases hw : r ∈ X.W
          · exact absurd hw fun hw => by
              obtain ⟨o', e', _⟩ := X.lists _ F₂.inv _ hw
              rw [nr] at e'; cases e'
          · have := back r o e hw fun z => by rw [z, fresh] at e; cases e
            rw [nr] at this; cases this
end
end Mine

namespace Mine
section
variable {w : World} {base : Heap} {X : Ext base} {n : Nat} {r : Addr}
def dLone : PyData := .tuple [sN "switch", .int 3, .none, .none, nmx, .tuple [.tuple [.tuple [nmx], .tuple [eLeaf .ret]]]]
def dLeft : PyData := .tuple [sN "switch", .int 3, .none, .none, nmx, .tuple [.tuple [.none, .tuple [eLeaf (.brk .N)]]]]
def dLoop : PyData := .tuple [sN "for", .int 3, .none, .none, .none, .none, blockE (.tuple [dLeft])]
theorem block_okL (G : Gnd (KK w) base) {ds : List PyData} (l : lfs ds = true) (sm : small ds = true) {Q : PyData → Prop} (q : Q (blockE (.tuple ds))) : SemCall prog w X (n + 1) 179 [.list ds] Q := by
  refine e_law_block G ?_
  refine ⟨sm, ?_, rfl, q⟩
  show (true && (true && (lfs ds && true))) = true
  rw [l]; rfl
def spOne (sp : Sp) : Sp := ⟨fun l k => sp.lv l k + 0, sp.tm, sp.fl⟩
theorem lone_body (G : Gnd (KK w) base) {d : PyData} {sp : Sp} (h : SOK w X n d sp) (hn : n ≤ 60) : BOK w X (n + 2) (.tuple [d]) (spOne sp) := body_ok G (.cons h .nil) rfl hn
theorem ret_body (G : Gnd (KK w) base) : BOK w X 6 (.tuple [eLeaf .ret]) (spOne (leafSp .ret)) := lone_body G (leaf_ok (n := 0) G .ret) (by decide)
theorem brk_body (G : Gnd (KK w) base) : BOK w X 6 (.tuple [eLeaf (.brk .N)]) (spOne (leafSp (.brk .N))) := lone_body G (leaf_ok (n := 0) G (.brk .N)) (by decide)
theorem lone_ok (G : Gnd (KK w) base) : ∃ sp, SOK w X 14 dLone sp := ⟨_, C_at (M := 14) (S := 6) (c := .sw .sw .N [(false, .tuple [eLeaf .ret], spOne (leafSp .ret))]) G rfl (all1 (ret_body G)) (by decide) (by decide) (by decide)⟩
def cLeft : Cm := .sw .sw .N [(true, .tuple [eLeaf (.brk .N)], spOne (leafSp (.brk .N)))]
theorem left_body (G : Gnd (KK w) base) : BOK w X 11 (.tuple [dLeft]) (spOne (spC cLeft)) := lone_body G (C_at (M := 9) (S := 6) (c := cLeft) G rfl (all1 (brk_body G)) (by decide) (by decide) (by decide)) (by decide)
theorem loop_ok (G : Gnd (KK w) base) : ∃ sp, SOK w X 14 dLoop sp := ⟨_, C_at (M := 14) (S := 11) (c := .loop .N true (.tuple [dLeft], spOne (spC cLeft))) G rfl (all1 (left_body G)) (by decide) (by decide) (by decide)⟩
theorem two_ok (G : Gnd (KK w) base) {Q : PyData → Prop} (q : Q (.bool true)) : SemCall prog w X 16 246 [.tuple [dLone, dLoop]] Q := by
  obtain ⟨_, h1⟩ := lone_ok (X := X) G
  obtain ⟨_, h2⟩ := loop_ok (X := X) G
  exact (body_ok G (.cons h1 (.cons h2 .nil)) rfl (by decide)).ok Q q
theorem lone_term (G : Gnd (KK w) base) {Q : PyData → Prop} (q : Q (.bool false)) : SemCall prog w X 8 104 [.tuple [dLone]] Q := by
  refine e_is_terminating1 (n := 7) G ?_
  have hp : ∀ Q, Q (.bool false) → SemCall prog w X 7 83 [dLone, .tuple []] Q := fun Q q => C_panic (n := 6) G (.sw .sw .N [(false, .tuple [eLeaf .ret], ⟨fun _ _ => 0, false, false⟩)]) q
  have he : ∀ Q, Q (.bool false) → SemCall prog w X 7 95 [dLone, .tuple []] Q := fun Q q => by
    refine e_ends_by_cases (n := 6) G ?_
    have cr : ∀ Q, Q (.tuple [.tuple [.tuple [nmx], .tuple [eLeaf .ret]]]) → SemCall prog w X 6 63 [dLone] Q := fun Q q => case_rows_ok G 5 .sw .N [(false, .tuple [eLeaf .ret], ⟨fun _ _ => 0, false, false⟩)] Q q
    revert cr
    generalize SemCall prog w X 6 = C
    intro cr
    refine cr _ ?_
    exact ⟨rfl, rfl, rfl, rfl, rfl, q⟩
  revert hp he
  generalize SemCall prog w X 7 = C
  intro hp he
  exact ⟨rfl, hp _ (he _ q)⟩
theorem loop_term (G : Gnd (KK w) base) {Q : PyData → Prop} (q : Q (.bool true)) : SemCall prog w X 12 104 [.tuple [dLoop]] Q := by
  refine e_is_terminating1 (n := 11) G ?_
  have hp : ∀ Q, Q (.bool false) → SemCall prog w X 11 83 [dLoop, .tuple []] Q := fun Q q => C_panic (n := 10) G (.loop .N true (.tuple [dLeft], ⟨fun _ _ => 0, false, false⟩)) q
  have hb : ∀ Q, Q (.bool false) → SemCall prog w X 11 76 [.tuple [dLeft], .none] Q := fun Q q => (left_body G).hb1 .N Q q
  revert hp hb
  generalize SemCall prog w X 11 = C
  intro hp hb
  exact ⟨rfl, hp _ (hb _ q)⟩
end
end Mine

namespace Mine
/-- what may change once the reel is made -/
def XR (base : Heap) (r : Addr) (hb : base.get? r = none) : Ext base where
  W := [r]
  I := ReelAt r
  lists := fun h ⟨a, b, t, u, ⟨o, e, c, n, d⟩, _⟩ b' hb' => by rw [List.mem_singleton.mp hb']; exact ⟨o, e, c, _, n, d⟩
  stable := fun h h' ⟨a, b, t, u, ⟨o, e, c, n, d⟩, p⟩ k => ⟨a, b, t, u, ⟨o, k r (.head _) o e, c, n, d⟩, p⟩
  off := fun b' hb' => by rw [List.mem_singleton.mp hb']; exact hb
theorem XR_ok {base : Heap} {r : Addr} (hb : base.get? r = none) : RX (XR base r hb) r := ⟨fun _ h => h, fun _ _ _ h _ => h, .head _⟩
section
variable {w : World} {base : Heap} {X : Ext base} {n : Nat} {r : Addr}
/-- the building contracts, depth by depth -/
theorem built (G : Gnd (KK w) base) (rx : RX X r) : BodyC w X r 1 8 14 ∧ StmtC w X r 2 10 24 := by
  have s0 : StmtC w X r 0 4 4 := stmt0 (n := 0) G rx
  have b0 : BodyC w X r 0 5 4 := body_of (n := 2) G rx s0
  have c0 : CasesC w X r 0 6 6 := cases_of (n := 3) G rx b0 (by decide) (by decide)
  have b0' : BodyC w X r 0 6 4 := fun M a b Q q => (b0 M a b Q q).less (by decide)
  have s1 : StmtC w X r 1 7 14 := stmt_of (n := 3) G rx (by decide) b0' c0 (by decide) (by decide)
  have b1 : BodyC w X r 1 8 14 := body_of (n := 5) G rx s1
  have c1 : CasesC w X r 1 9 16 := cases_of (n := 6) G rx b1 (by decide) (by decide)
  have b1' : BodyC w X r 1 9 14 := fun M a b Q q => (b1 M a b Q q).less (by decide)
  exact ⟨b1, stmt_of (n := 6) G rx (by decide) b1' c1 (by decide) (by decide)⟩
theorem nodup_law : ([Str.ofString "script"] ++ [Str.ofString "name", Str.ofString "ends", Str.ofString "lone", Str.ofString "left", Str.ofString "loop", Str.ofString "reel"] : List Str).Nodup := by decide +kernel
theorem nd_script' : (Str.ofString "script" == ("__debug__" : Str)) = false := by kernel_rfl
theorem nd_ends : (Str.ofString "ends" == ("__debug__" : Str)) = false := by kernel_rfl
theorem nd_lone : (Str.ofString "lone" == ("__debug__" : Str)) = false := by kernel_rfl
theorem nd_left : (Str.ofString "left" == ("__debug__" : Str)) = false := by kernel_rfl
theorem nd_loop : (Str.ofString "loop" == ("__debug__" : Str)) = false := by kernel_rfl
end
end Mine

namespace Mine
section
 open PySem.W.X
theorem Mem.all {h₀ h : Heap} {news : List (Addr × Obj)} (D : Mem h₀ h [] news) : ∀ b o, h₀.get? b = some o → h.get? b = some o := fun b o e => D.keep b o e (by rw [show away [] b = true from rfl, Bool.or_true])
/-- a checker just made: itself, its names, what is used, what is open -/
structure LabAt (h₀ h : Heap) (c d u o : Addr) (od : Obj) : Prop where
  gc : h.get? c = some (instObj 147 d)
  gd : h.get? d = some od
  used : lookIn (Str.ofString "used") od = some (some (.ref u))
  opn : lookIn (Str.ofString "open") od = some (some (.ref o))
  gu : h.get? u = some emptyDict
  go : h.get? o = some { cls := .type "list", data := .seq #[] }
  nc : h₀.get? c = none
  nd : h₀.get? d = none
  nu : h₀.get? u = none
  no : h₀.get? o = none
  du : d ≠ u
  dd : ∃ es n, od = { cls := .type "dict", data := .dict es n }
  nolead : lookIn (Str.ofString "lead") od = some none
theorem lab_end {h₀ h : Heap} {a0 a1 a2 a3 a4 a5 : Addr} {o2 o3 o4 o5 : Obj} (D : Mem h₀ h [] [(a0, { cls := .type "list", data := .seq #[] }), (a1, emptyDict), (a2, o2), (a3, o3), (a4, o4), (a5, o5)]) (h4 : o4 = instObj 147 a5)
    (e1 : lookIn (Str.ofString "used") o5 = some (some (.ref a1))) (e2 : lookIn (Str.ofString "open") o5 = some (some (.ref a0))) (e3 : ∃ es n, o5 = { cls := .type "dict", data := .dict es n }) (e4 : lookIn (Str.ofString "lead") o5 = some none) : LabAt h₀ h a4 a5 a1 a0 o5 where
  nolead := e4
  gc := h4 ▸ D.at 4 _ _ rfl
  gd := D.at 5 _ _ rfl
  used := e1
  opn := e2
  gu := D.at 1 _ _ rfl
  go := D.at 0 _ _ rfl
  nc := (D.nw _ (List.mem_of_getElem? (i := 4) rfl)).2
  nd := (D.nw _ (List.mem_of_getElem? (i := 5) rfl)).2
  nu := (D.nw _ (List.mem_of_getElem? (i := 1) rfl)).2
  no := (D.nw _ (List.mem_of_getElem? (i := 0) rfl)).2
  du := (D.ne 1 5 _ _ _ _ rfl rfl rfl).symm
  dd := e3
def LabK (s : Shared) (P : Value → Shared → Prop) : Prop := ∀ c d u o od h' tk', (∀ b ob, s.heap.get? b = some ob → h'.get? b = some ob) → LabAt s.heap h' c d u o od → P (.ref c) { s with heap := h', toks := tk' }
theorem LabK.use {s : Shared} {P : Value → Shared → Prop} (k : LabK s P) {h : Heap} {tk : Nat} {a0 a1 a2 a3 a4 a5 : Addr} {o2 o3 o4 o5 : Obj} (D : Mem s.heap h [] [(a0, { cls := .type "list", data := .seq #[] }), (a1, emptyDict), (a2, o2), (a3, o3), (a4, o4), (a5, o5)]) (h4 : o4 = instObj 147 a5)
    (e1 : lookIn (Str.ofString "used") o5 = some (some (.ref a1))) (e2 : lookIn (Str.ofString "open") o5 = some (some (.ref a0))) (e3 : ∃ es n, o5 = { cls := .type "dict", data := .dict es n }) (e4 : lookIn (Str.ofString "lead") o5 = some none) : P (.ref a4) ⟨h, s.gens, s.drawn, tk, s.os⟩ :=
  k _ _ _ _ _ _ _ (Mem.all D) (lab_end D h4 e1 e2 e3 e4)
local macro_rules | `(tactic| x_close) => `(tactic| (refine LabK.use (by assumption) (by assumption) ?a ?b ?c ?d ?e; (case a => rfl); (case b => rfl); (case c => rfl); (case e => rfl); exact ⟨_, _, rfl⟩))
theorem lab_call {w : World} {e1 e2 : Env} {E : Value → Shared → Prop} {s : Shared} (K : (myK w.params).In s.heap) {P : Value → Shared → Prop}
    (h : LabK s P) :
    wpAny (model PySem.Challenge.pw_xm0165_01 w) ((callerA.deeper e1).deeper e2) (call (.ref 147) []) P E s := by
  x_run
/-- a fault just made: itself, its names -/
structure FaultAt (h₀ h : Heap) (e d : Addr) (od : Obj) (t : Tok) : Prop where
  ge : ∃ a, h.get? e = some { cls := .ref 52, dict := some d, data := .fields #[.ref a, .none, .none, .none, .bool false, .none] }
  gd : h.get? d = some od
  spot : lookIn (Str.ofString "spot") od = some (some (.int 5 t))
  ne : h₀.get? e = none
  nd : h₀.get? d = none
  dd : ∃ es n, od = { cls := .type "dict", data := .dict es n }
theorem fault_end {h₀ h : Heap} {a0 a1 a2 a3 a4 : Addr} {o0 o1 o2 o3 o4 : Obj} {t : Tok} (D : Mem h₀ h [] [(a0, o0), (a1, o1), (a2, o2), (a3, o3), (a4, o4)]) (h4 : o3 = { cls := .ref 52, dict := some a0, data := .fields #[.ref a1, .none, .none, .none, .bool false, .none] })
    (e1 : lookIn (Str.ofString "spot") o0 = some (some (.int 5 t))) (e3 : ∃ es n, o0 = { cls := .type "dict", data := .dict es n }) : FaultAt h₀ h a3 a0 o0 t where
  ge := ⟨a1, h4 ▸ D.at 3 _ _ rfl⟩
  gd := D.at 0 _ _ rfl
  spot := e1
  ne := (D.nw _ (List.mem_of_getElem? (i := 3) rfl)).2
  nd := (D.nw _ (List.mem_of_getElem? (i := 0) rfl)).2
  dd := e3
def FaultK (s : Shared) (u : Tok) (P : Value → Shared → Prop) : Prop := ∀ e d od h' tk', (∀ b ob, s.heap.get? b = some ob → h'.get? b = some ob) → FaultAt s.heap h' e d od u → P (.ref e) { s with heap := h', toks := tk' }
theorem FaultK.use {s : Shared} {P : Value → Shared → Prop} {t : Tok} (k : FaultK s t P) {h : Heap} {tk : Nat} {a0 a1 a2 a3 a4 : Addr} {o0 o1 o2 o3 o4 : Obj} (D : Mem s.heap h [] [(a0, o0), (a1, o1), (a2, o2), (a3, o3), (a4, o4)])
    (h4 : o3 = { cls := .ref 52, dict := some a0, data := .fields #[.ref a1, .none, .none, .none, .bool false, .none] }) (e1 : lookIn (Str.ofString "spot") o0 = some (some (.int 5 t))) (e3 : ∃ es n, o0 = { cls := .type "dict", data := .dict es n }) : P (.ref a3) ⟨h, s.gens, s.drawn, tk, s.os⟩ :=
  k _ _ _ _ _ (Mem.all D) (fault_end D h4 e1 e3)
local macro_rules | `(tactic| x_close) => `(tactic| (refine FaultK.use (by assumption) (by assumption) ?a ?b ?d; (case a => rfl); (case b => rfl); exact ⟨_, _, rfl⟩))
theorem fault_call {w : World} {e1 e2 e3 : Env} {E : Value → Shared → Prop} {s : Shared} {x : Str} {t u : Tok} (K : (myK w.params).In s.heap) (Kb : s.heap.get? (nat_lit 0) = some ⟨.type "dict", none, .dict (bEs w.params) 159, #[]⟩) {P : Value → Shared → Prop}
    (h : FaultK s u P) :
    wpAny (model PySem.Challenge.pw_xm0165_01 w) (((callerA.deeper e1).deeper e2).deeper e3) (call (.ref 52) [.str x t, .int 5 u]) P E s := by
  x_run
end
end Mine

namespace Mine
/-! a fault on its way, its names kept -/
def IsF (d : Addr) (o : Obj) : Prop := o.cls = .ref 52 ∧ o.dict = some d
theorem IsF.map {d : Addr} {o : Obj} (x : IsF d o) (f : Array Value → Array Value) : IsF d (Obj.mapFields f o) := by
  obtain ⟨c, di, da, sl⟩ := o
  cases da <;> exact x
structure Fly (d : Addr) (base : Heap) (l : List Env) (e : Addr) (fl : Value) (h : Heap) : Prop where
  stays : base.StaysIn h
  new : base.get? e = none
  frames : h.FunFrames base l
  tr : ∃ oe vs T oT ts, h.get? e = some oe ∧ IsF d oe ∧ oe.data = .fields vs ∧ vs[1]? = some (.ref T) ∧ base.get? T = none ∧ T ≠ e ∧ h.get? T = some oT ∧ oT.data = .fields ts ∧ ts[3]? = some fl
theorem Fly.there {d : Addr} {base : Heap} {l : List Env} {e : Addr} {fl : Value} {h : Heap} (x : Fly d base l e fl h) : ∃ o vs, h.get? e = some o ∧ IsF d o ∧ o.data = .fields vs := by
  obtain ⟨oe, vs, T, oT, ts, a, b, c, _⟩ := x.tr
  exact ⟨oe, vs, a, b, c⟩
theorem Fly.out {d : Addr} {base : Heap} {env : Env} {l : List Env} {e : Addr} {fl : Value} {h : Heap} (x : Fly d base (env :: l) e fl h) : Fly d base l e fl h := ⟨x.stays, x.new, x.frames.2.2, x.tr⟩
section
variable {M : Model} {A : Around} {E : Value → Shared → Prop} {s : Shared} {d : Addr} {base : Heap} {env : Env} {outer : List Env} {L e : Addr} {Q : Unit → Shared → Prop}
theorem entry_at {oe : Obj} {vs : Array Value} {head : Value} {b : Bool} (hfr : A.frames = some (env :: outer)) (hl : s.heap.FunFrames base (env :: outer)) (hf : env.frame = some L) (st : base.StaysIn s.heap) (ne : base.get? e = none)
    (he : s.heap.get? e = some oe) (io : IsF d oe) (hd : oe.data = .fields vs) (hsz : 1 < vs.size)
    (h : ∀ h', Fly d base (env :: outer) e (rawInt L) h' → s.heap.UpToSlots h' → Q () { s with heap := h' }) :
    wpAny M A (do let a ← frameOf env; let pl ← entryPlaceOf L b; let t ← EntryCells.newEntry head a .none (rawInt L) .none pl; setField (.ref e) 1 t) Q E s := by
  have nf : ∀ b o, s.heap.get? b = some o → (∀ vs, o.data ≠ .fields vs) → b ≠ e := fun b o e1 n z => by
    rw [z, he] at e1; cases e1; exact n vs hd
  have off : e ∉ (env :: outer).filterMap (·.frame) := fun hm => by
    obtain ⟨_, o, ho, n⟩ := hl.mem hm
    exact nf e o ho n rfl
  refine wpAny_bind (wpAny_frameOf_fun hfr hl hf fun h₁ sl => wpAny_bind (wpAny_entryPlaceOf fun pl ip => ?_))
  have he₁ : h₁.get? e = some oe := (sl.2.1 e off).trans he
  have st₁ : base.StaysIn h₁ := fun b o hb => (sl.2.1 b fun hm => by rw [(hl.mem hm).1] at hb; cases hb).trans (st b o hb)
  have lt : e < h₁.objs.size := Heap.lt_size he₁
  unfold EntryCells.newEntry newFields
  refine wpAny_bind (wpAny_newObj_type ?_ (ip.sizeOk5 _ _ _ _ _))
  generalize hT : ([head, Value.ref L, Value.none, rawInt L, Value.none] ++ if pl.isEmpty then List.replicate 6 Value.none else pl).toArray = fs
  have h3 : fs[3]? = some (rawInt L) := by subst hT; rfl
  have up : ∀ b o, h₁.get? b = some o → (h₁.push { cls := .type "traceback", dict := none, data := .fields fs }).get? b = some o := fun b o e1 => Heap.get?_push_of_some _ e1
  refine wpAny_setField (up _ _ he₁) hd hsz (h _ ⟨fun b o hb => ?_, ne, ?_, ?_⟩ fun b o hb n => ?_)
  · exact (Heap.get?_update_other _ _ fun z => by rw [← z, ne] at hb; cases hb).trans (up _ _ (st₁ b o hb))
  · exact hl.of_keeps fun b o hb n => by
      obtain ⟨t, ht⟩ := sl.2.2 b o hb
      exact ⟨_, (Heap.get?_update_other _ _ (Ne.symm (nf b o hb n))).trans (up _ _ ht), rfl⟩
  · have d3 := Obj.data_mapFields hd (·.setIfInBounds 1 (Value.ref h₁.objs.size))
    refine ⟨_, _, h₁.objs.size, { cls := .type "traceback", dict := none, data := .fields fs }, fs, Heap.get?_update_self _ (up _ _ he₁) (Obj.isFreed_of_fields d3), io.map _, d3, by simp [hsz], st₁.fresh, Nat.ne_of_gt lt, ?_, rfl, h3⟩
    exact (Heap.get?_update_other _ _ (Nat.ne_of_lt lt)).trans (Heap.get?_push_size _ rfl)
  · obtain ⟨t, ht⟩ := sl.2.2 b o hb
    exact ⟨t, (Heap.get?_update_other _ _ (Ne.symm (nf b o hb n))).trans (up _ _ ht)⟩
theorem note_first {oe : Obj} {vs : Array Value} (hfr : A.frames = some (env :: outer)) (hl : s.heap.FunFrames base (env :: outer)) (hf : env.frame = some L) (st : base.StaysIn s.heap) (ne : base.get? e = none)
    (he : s.heap.get? e = some oe) (io : IsF d oe) (hd : oe.data = .fields vs) (h1 : vs[1]? = some .none)
    (h : ∀ h', Fly d base (env :: outer) e (rawInt L) h' → s.heap.UpToSlots h' → Q () { s with heap := h' }) : wpAny M A (noteFrame (.ref e) env) Q E s := by
  unfold noteFrame
  simp only [hf]
  refine wpAny_bind (wpAny_field he hd h1 ?_)
  rw [if_neg (by decide)]
  exact entry_at hfr hl hf st ne he io hd (Array.getElem?_eq_some_iff.mp h1).1 h
theorem note_next (hfr : A.frames = some (env :: outer)) (hf : env.frame = some L) (x : Fly d base (env :: outer) e .none s.heap)
    (h : ∀ h', Fly d base (env :: outer) e (rawInt L) h' → s.heap.UpToSlots h' → Q () { s with heap := h' }) : wpAny M A (noteFrame (.ref e) env) Q E s := by
  obtain ⟨st, ne, hl, oe, vs, T, oT, ts, he, io, hd, h1, nT, hTe, hT, dT, h3⟩ := x
  unfold noteFrame
  simp only [hf]
  refine wpAny_bind (wpAny_field he hd h1 ?_)
  rw [if_pos (show (Value.ref T != Value.none) = true from by simp)]
  refine wpAny_bind (wpAny_field hT dT h3 ?_)
  rw [if_neg (show ¬ ((Value.none == rawInt L) = true) from by simp [rawInt])]
  refine wpAny_bind (wpAny_setField hT dT (Array.getElem?_eq_some_iff.mp h3).1 ?_)
  have oth : ∀ b, b ≠ T → (s.heap.update T (Obj.mapFields (·.setIfInBounds 3 Value.none))).get? b = s.heap.get? b := fun b hb => Heap.get?_update_other _ _ (Ne.symm hb)
  have nf : ∀ b o, s.heap.get? b = some o → (∀ vs, o.data ≠ .fields vs) → b ≠ T := fun b o e1 n z => by
    rw [z, hT] at e1; cases e1; exact n ts dT
  refine entry_at (s := { s with heap := _ }) hfr (hl.of_keeps fun b o hb n => ⟨o, (oth b (nf b o hb n)).trans hb, rfl⟩) hf (fun b o hb => (oth b fun z => by rw [z, nT] at hb; cases hb).trans (st b o hb)) ne
    ((oth e (Ne.symm hTe)).trans he) io hd (Array.getElem?_eq_some_iff.mp h1).1 fun h' x u => h h' x fun b o hb n => u b o ((oth b (nf b o hb n)).trans hb) n
theorem flight_off {fl : Value} {l : List Env} (x : Fly d base l e fl s.heap) (h : ∀ h', Fly d base l e .none h' → s.heap.UpToSlots h' → Q () { s with heap := h' }) : wpAny M A (setFlight (.ref e) none) Q E s := by
  obtain ⟨st, ne, hl, oe, vs, T, oT, ts, he, io, hd, h1, nT, hTe, hT, dT, h3⟩ := x
  have oth : ∀ b, b ≠ T → (s.heap.update T (Obj.mapFields (·.setIfInBounds 3 ((none : Option Addr).elim Value.none fun f => rawInt f)))).get? b = s.heap.get? b := fun b hb => Heap.get?_update_other _ _ (Ne.symm hb)
  have nf : ∀ b o, s.heap.get? b = some o → (∀ vs, o.data ≠ .fields vs) → b ≠ T := fun b o e1 n z => by
    rw [z, hT] at e1; cases e1; exact n ts dT
  unfold setFlight
  refine wpAny_bind (wpAny_field he hd h1 ?_)
  rw [if_pos (show (Value.ref T != Value.none) = true from by simp)]
  have sz := (Array.getElem?_eq_some_iff.mp h3).1
  have d3 := Obj.data_mapFields dT (·.setIfInBounds 3 ((none : Option Addr).elim Value.none fun f => rawInt f))
  refine wpAny_setField hT dT sz (h _ ⟨fun b o hb => (oth b fun z => by rw [z, nT] at hb; cases hb).trans (st b o hb), ne, hl.of_keeps fun b o hb n => ⟨o, (oth b (nf b o hb n)).trans hb, rfl⟩, ?_⟩ fun b o hb n => ⟨o.slots, (oth b (nf b o hb n)).trans hb⟩)
  exact ⟨oe, vs, T, _, _, (oth e (Ne.symm hTe)).trans he, io, hd, h1, nT, hTe, Heap.get?_update_self _ hT (Obj.isFreed_of_fields d3), d3, by simp [sz]⟩
/-- the frame in which it was raised is left -/
theorem leave_first {oe : Obj} {vs : Array Value} (hfr : A.frames = some (env :: outer)) (hl : s.heap.FunFrames base (env :: outer)) (hf : env.frame = some L) (st : base.StaysIn s.heap) (ne : base.get? e = none)
    (he : s.heap.get? e = some oe) (io : IsF d oe) (hd : oe.data = .fields vs) (h1 : vs[1]? = some .none)
    (h : ∀ h', Fly d base outer e .none h' → s.heap.UpToSlots h' → Q () { s with heap := h' }) : wpAny M A (leaving env (.ref e)) Q E s := by
  unfold leaving
  exact wpAny_bind (note_first hfr hl hf st ne he io hd h1 fun h₁ x u => flight_off (s := { s with heap := h₁ }) x fun h₂ y v => h h₂ y.out (u.trans v))
end
end Mine

namespace Mine
section
variable {base : Heap} {prog : Program} {w : World} {X : Ext base} {n : Nat} {sc : Scope} {vs : List Str}
/-- the cells of a frame -/
structure CellsOK (base : Heap) (sc : Scope) (env : Env) (h : Heap) : Prop where
  at_ : ∀ x, sc.names.lookup x = some .cell → ∃ c v, env.cells.lookup x = some c ∧ h.IsCell c v ∧ base.get? c = none
  apart : ∀ x y c, env.cells.lookup x = some c → env.cells.lookup y = some c → x = y
theorem CellsOK.keep {env : Env} {h h' : Heap} (x : CellsOK base sc env h) (k : ∀ b o, h.get? b = some o → (∃ c, o.data = .cell c) → h'.get? b = some o) : CellsOK base sc env h' :=
  ⟨fun y hy => let ⟨c, v, a, ⟨o, ho, hd⟩, b⟩ := x.at_ y hy; ⟨c, v, a, ⟨o, k _ _ ho ⟨_, hd⟩, hd⟩, b⟩, x.apart⟩
theorem CellsOK.keepL {env : Env} {m : Loc} {h h' : Heap} (x : CellsOK base sc env h) (F : FmOK X env vs m h) (k : KeepL X env.locals h h') : CellsOK base sc env h' :=
  x.keep fun b o e q => k b o (cell_off F.inv e q) (fun z => by
    obtain ⟨mv, hn⟩ := F.ns
    obtain ⟨oL, esL, kL, hL, dL⟩ := ns_data hn
    obtain ⟨_, q⟩ := q
    rw [z, hL] at e; cases e; rw [dL] at q; cases q) e

theorem store_cell {env : Env} {A : Around} {E : Value → Shared → Prop} {s : Shared} {m : Loc} {x : Str} {i : Nat} {v : Value} {d : PyData} {P : Unit → Shared → Prop} (ok : EnvOK sc env) (C : CellsOK base sc env s.heap) (F : FmOK X env vs m s.heap) (hi : vs[i]? = some x) (hk : sc.names.lookup x = some .cell) (nd : vs.Nodup)
    (r : VR X s.heap v d) (h : ∀ c h', (∃ o, s.heap.get? c = some o ∧ ∃ v, o.data = .cell v) → base.get? c = none → (∀ b, b ≠ c → h'.get? b = s.heap.get? b) → CellsOK base sc env h' → FmOK X env vs (m.set i (some d)) h' → P () { s with heap := h' }) :
    wpAny (model prog w) A (storeName env x v) P E s := by
  obtain ⟨c, v₀, hc, hv, nb⟩ := C.at_ x hk
  have hv' := hv
  obtain ⟨oc, eoc, doc⟩ := hv'
  have kx := ok.cel x hk
  refine wpAny_storeName_cell ok.kind kx hc hv fun h' hv' hs => ?_
  have nw : c ∉ X.W := cell_off F.inv eoc ⟨_, doc⟩
  have ne : ∀ b o, s.heap.get? b = some o → (∀ x, o.data ≠ .cell x) → b ≠ c := fun b o e n z => by rw [z, eoc] at e; cases e; exact n _ doc
  have seqs : Seqs (X := X) s.heap h' := fun b o e _ q => (hs.2 b (ne b o e fun y z => by obtain ⟨_, _, q⟩ := q; rw [q] at z; cases z)).trans e
  have inv : X.I h' := X.stable _ _ F.inv fun b hb o e => (hs.2 b fun z => nw (z ▸ hb)).trans e
  obtain ⟨mv, hn⟩ := F.ns
  obtain ⟨oL, esL, kL, hL, dL⟩ := ns_data hn
  have hLc : env.locals ≠ c := ne _ _ hL fun y z => by rw [dL] at z; cases z
  refine h c h' ⟨oc, eoc, _, doc⟩ nb hs.2 ⟨fun y hy => ?_, C.apart⟩ ⟨fun b o e => (hs.2 b fun z => by rw [z, nb] at e; cases e).trans (F.stays b o e), inv, ⟨mv, hn.at' fun o e => (hs.2 _ hLc).trans e⟩, F.lnew, fun j y e hj hm => ?_⟩
  · by_cases hyx : y = x
    · subst hyx; exact ⟨c, _, hc, hv', nb⟩
    · obtain ⟨c2, v2, a, ⟨o2, e2, d2⟩, b2⟩ := C.at_ y hy
      exact ⟨c2, v2, a, ⟨o2, (hs.2 c2 fun z => hyx (C.apart y x c (z ▸ a) hc)).trans e2, d2⟩, b2⟩
  · by_cases hji : j = i
    · subst hji
      rw [hi] at hj; cases hj
      obtain ⟨l, e'⟩ := List.getElem?_eq_some_iff.mp hm
      rw [List.getElem_set_self] at e'
      cases e'
      exact .inr ⟨kx, c, v, hc, hv', r.seqs F.inv seqs⟩
    · rw [List.getElem?_set_ne (Ne.symm hji)] at hm
      have hyx : y ≠ x := fun z => by
        subst z
        exact hji (nodup_idx nd hj hi)
      rcases F.vars j y e hj hm with ⟨k, mv', v', n', e', r'⟩ | ⟨k, c', v', e', ⟨o', eo', do'⟩, r'⟩
      · exact .inl ⟨k, mv', v', n'.at' fun o e => (hs.2 _ hLc).trans e, e', r'.seqs F.inv seqs⟩
      · exact .inr ⟨k, c', v', e', ⟨o', (hs.2 c' fun z => hyx (C.apart y x c (z ▸ e') hc)).trans eo', do'⟩, r'.seqs F.inv seqs⟩

/-- a def with cells is entered, its raise told -/
theorem entry_rawC {K : Frag} (G : Gnd K base) {name qual : Str} {params : Arguments} {body : List Stmt} {scope : Scope} {dV kV doc pm cdv ct oc : Value} {an od : Option Addr} {osl : Array (Option Value)} {f : Addr} {dsF : List PyData} {xs rest : List Str} {A : Around} {E : Value → Shared → Prop} {s : Shared} {us : List Value} {P : Value → Shared → Prop}
    (ho : K.lookup f = some ⟨oc, od, .func (fnOf name qual params body scope dV kV doc pm an cdv ct), osl⟩) (hcd : codeIn K cdv qual = true)
    (R : Room (n + 1) A) (st : base.StaysIn s.heap) (iv : X.I s.heap) (hb : bindArgs (fnOf name qual params body scope dV kV doc pm an cdv ct) ⟨us, []⟩ = pure (xs.zip us)) (rv : VRs X s.heap us dsF)
    (nd : (xs ++ rest).Nodup) (hlen : dsF.length = xs.length) (hloc : ∀ x ∈ xs, scope.names.lookup x = some .local)
    (hco : scope.isCoroutine = false) (hgen : scope.isGenerator = false) (hk : scope.kind = .function)
    (H : ∀ (env : Env) (h₀ : Heap) (tk : Nat), EnvOK scope env → env.scope.kind = .function → env.frame = some env.locals → Room n (A.deeper env) → FmOK X env (xs ++ rest) (dsF.map some ++ rest.map fun _ => none) h₀ → CellsOK base scope env h₀ → (∀ b o, s.heap.get? b = some o → h₀.get? b = some o) → s.heap.get? env.locals = none →
      wpAny (model prog w) (A.deeper env) (execs body env) (fun fl s' => P (match fl with | .ret v => v | _ => .none) s')
        (fun e s' => wpAny (model prog w) (A.deeper env) (leaving env e) (fun _ s'' => E e s'') (fun e' s'' => E e' s'') s') { s with heap := h₀, toks := tk }) :
    wpAny (model prog w) A (call (.ref f) us) P E s := by
  have ndx : xs.Nodup := (List.nodup_append.mp nd).1
  refine wpAny_call (codeAny_call_cells (fd := fnOf name qual params body scope dV kV doc pm an cdv ct) (body := body) (binds := xs.zip us) (by have := R.depth; omega) ((G.K.keeps st) _ _ ho) rfl (G.nolim.keeps st) (codeRec_of (G.K.keeps st) hcd) rfl hb rfl
    (fun y hy => .inl (hloc _ (List.of_mem_zip hy).1)) (fun s₁ Y => ?_) hco hgen hk)
  obtain ⟨h₀, tk₀, rfl, hk₁⟩ := Y.done
  have k₀ : Keep X s.heap h₀ := Keep.ofAll hk₁
  have i₀ : X.I h₀ := X.stable _ _ iv fun b _ o e => hk₁ b o e
  have fresh : ∀ a, s.heap.objs.size ≤ a → s.heap.get? a = none := fun a l => by
    cases e : s.heap.get? a with
    | none => rfl
    | some o => exact absurd (Heap.lt_size e) (Nat.not_lt.mpr l)
  have nb : ∀ a, s.heap.get? a = none → base.get? a = none := fun a l => by
    cases e : base.get? a with
    | none => rfl
    | some o => have := st _ _ e; rw [l] at this; cases this
  have okE : EnvOK scope (callEnvC (fnOf name qual params body scope dV kV doc pm an cdv ct) s.heap.objs.size f) := ⟨hk, rfl, rfl, fun _ h => h, fun _ h => h, fun _ h => h⟩
  refine H _ h₀ _ okE hk rfl (R.deeper _) ⟨fun b o e => hk₁ b o (st b o e), i₀, ⟨_, Y.toInCall.ns⟩, nb _ (fresh _ (Nat.le_refl _)), fun i x d e1 e2 => ?_⟩ ⟨fun x hx => ?_, fun x y c hx hy => name_of_addr Y.apart (mem_of_lookup hx) (mem_of_lookup hy)⟩ hk₁ (fresh _ (Nat.le_refl _))
  · by_cases hi : i < xs.length
    · rw [List.getElem?_append_left hi] at e1
      rw [List.getElem?_append_left (by rw [List.length_map, hlen]; exact hi), List.getElem?_map] at e2
      cases hd : dsF[i]? with
      | none => rw [hd] at e2; cases e2
      | some d' =>
        rw [hd] at e2; cases e2
        obtain ⟨u, eu, ru⟩ := rv.get hd
        have q := hloc x (List.mem_of_getElem? e1)
        exact .inl ⟨q, _, u, Y.toInCall.ns, bindL_get _ ndx e1 eu q, ru.keep iv k₀⟩
    · rw [List.getElem?_append_right (by rw [List.length_map, hlen]; omega), List.getElem?_map] at e2
      cases hd : rest[i - (dsF.map some).length]? with
      | none => rw [hd] at e2; cases e2
      | some _ => rw [hd] at e2; cases e2
  · obtain ⟨c, hc⟩ := Option.isSome_iff_exists.mp (cellsFrom_some scope.names (s.heap.objs.size + 1) [] (.inl hx))
    refine ⟨c, _, hc, Y.cell x c hc, nb _ (fresh _ ?_)⟩
    exact Nat.le_of_lt (Y.above x c (mem_of_lookup hc))
end
end Mine

namespace Mine
/-- a checker: itself, its names; what is used and open, by address -/
structure Chk (h : Heap) (c d u o : Addr) (od : Obj) : Prop where
  gc : h.get? c = some (instObj 147 d)
  gd : h.get? d = some od
  used : lookIn (Str.ofString "used") od = some (some (.ref u))
  opn : lookIn (Str.ofString "open") od = some (some (.ref o))
  dd : ∃ es n, od = { cls := .type "dict", data := .dict es n }
  nolead : lookIn (Str.ofString "lead") od = some none
theorem Chk.keep {h h' : Heap} {c d u o : Addr} {od : Obj} (x : Chk h c d u o od) (kc : h'.get? c = h.get? c) (kd : h'.get? d = h.get? d) : Chk h' c d u o od := ⟨kc.trans x.gc, kd.trans x.gd, x.used, x.opn, x.dd, x.nolead⟩
theorem Chk.inst {h : Heap} {c d u o : Addr} {od : Obj} (x : Chk h c d u o od) : InstAt h c (instObj 147 d) 147 (some od) := ⟨x.gc, rfl, rfl, x.gd⟩
theorem find_chk (w : World) (x : Str) (hx : x = Str.ofString "used" ∨ x = Str.ofString "open") {od : Obj} {v : Value} (e : lookIn x od = some (some v)) : findObj (KK w) 147 (some od) x = some (.value v) := by
  have e1 : ∀ y, y = Str.ofString "used" ∨ y = Str.ofString "open" → findObj (KK w) 147 (some od) y = ((lookIn y od).bind fun own => match own with | some v => some (.value v) | none => some .missing) := by
    intro y hy
    rcases hy with rfl | rfl <;> kernel_rfl
  rw [e1 x hx, e]; rfl
theorem ga_chk (w : World) : findIn (KK w) (.ref 147) "__getattribute__" = some (some (.builtin "object.__getattribute__")) := by kernel_rfl
section
variable {base : Heap} {w : World} {X : Ext base} {n : Nat} {sc : Scope} {vs : List Str}
/-- an address of one's own -/
structure Off (X : Ext base) (env : Env) (a : Addr) : Prop where
  nb : base.get? a = none
  nw : a ∉ X.W
  nl : a ≠ env.locals
theorem Off.of {env : Env} {m : Loc} {h : Heap} {a : Addr} (F : FmOK X env vs m h) (e : h.get? a = none) : Off X env a := by
  obtain ⟨mv, hn⟩ := F.ns
  obtain ⟨oL, esL, kL, hL, dL⟩ := ns_data hn
  refine ⟨?_, fun q => ?_, fun z => by rw [z, hL] at e; cases e⟩
  · cases q : base.get? a with
    | none => rfl
    | some o => rw [F.stays _ _ q] at e; cases e
  · obtain ⟨o, q, _⟩ := X.lists _ F.inv _ q
    rw [e] at q; cases q

theorem stmt_made {e1 env : Env} {E : Value → Shared → Prop} {s : Shared} {m : Loc} {ss : List Stmt} {i j : Nat} {p1 p2 p3 p4 p5 p6 p7 p8 : Pos} {k k2 : Nat} {P : Flow → Shared → Prop} (G : Gnd (KK w) base) (ok : EnvOK sc env) (R : Room n ((callerA.deeper e1).deeper env)) (F : FmOK X env vs m s.heap)
    (hi : vs[i]? = some (Str.ofString "checker")) (hj : vs[j]? = some (Str.ofString "rows")) (hx : sc.names.lookup (Str.ofString "checker") = some .local) (hy : sc.names.lookup (Str.ofString "rows") = some .local) (hL : sc.names.lookup (Str.ofString "LabelChecker") = some .globalImplicit) (nd : vs.Nodup) (hl : p2.line = p1.line)
    (h : ∀ c d u o od l h' tk', KeepL X env.locals s.heap h' → FmOK X env vs ((m.set j (some (hdl l))).set i (some (hdl c))) h' → Chk h' c d u o od → h'.get? u = some emptyDict → h'.get? o = some { cls := .type "list", data := .seq #[] } → h'.get? l = some { cls := .type "list", data := .seq #[] } →
      Off X env c → Off X env d → Off X env u → Off X env o → Off X env l → (c ≠ l ∧ d ≠ l ∧ u ≠ l ∧ o ≠ l) → d ≠ u → (∀ b ob, s.heap.get? b = some ob → b ≠ c ∧ b ≠ d ∧ b ≠ u ∧ b ≠ o ∧ b ≠ l) →
      wpAny (model prog w) ((callerA.deeper e1).deeper env) (execs ss env) P E { s with heap := h', toks := tk' }) :
    wpAny (model prog w) ((callerA.deeper e1).deeper env) (execs (.Assign [.Tuple [.Name (Str.ofString "checker") p1, .Name (Str.ofString "rows") p2] k p3] (.Tuple [.Call (.Name (Str.ofString "LabelChecker") p4) [] [] p5, .List [] p6] k2 p7) p8 :: ss) env) P E s := by
  refine wpAny_execs_cons (Assign_Tuple_swapped (names := [Str.ofString "checker", Str.ofString "rows"]) (wpAny_Tuple ?_) rfl (swapped_two ok hx hy hl (by decide +kernel) (by intro _ _ h; cases h) (by intro _ _ h; cases h) rfl rfl))
  show wpAny _ _ (spliced [(false, eval (.Call (.Name (Str.ofString "LabelChecker") p4) [] [] p5) env), (false, eval (.List [] p6) env)]) _ _ _
  obtain ⟨mg, hg⟩ := G.g
  have nsL : nsIn (KK w) mainGlobals (Str.ofString "LabelChecker") = some (some (.ref 147)) := by kernel_rfl
  refine spliced_cons (Call_Name rfl (Name_function_global ok.kind (ok.gl _ hL) (loadGlobal_global (env := env) (by rw [ok.glob]; exact hg.keeps F.stays) (mg_of G.K hg nsL) ?_) (by kernel_rfl)))
  refine callWith_K0 (G.K.keeps F.stays) (by kernel_rfl) ?_
  refine lab_call (G.K.keeps F.stays) fun c d u o od h₁ t₁ kp Y => ?_
  have i₁ := X.stable _ h₁ F.inv fun b _ o e => kp b o e
  have F₁ := F.keep (Keep.ofAll kp) i₁
  have of := fun {a : Addr} (e : s.heap.get? a = none) => Off.of F e
  refine spliced_cons (wpAny_List (spliced_nil ⟨Nat.zero_le _, ?_⟩))
  have n₂ : h₁.get? h₁.objs.size = none := by
    cases e : h₁.get? h₁.objs.size with
    | none => rfl
    | some o => exact absurd (Heap.lt_size e) (Nat.lt_irrefl _)
  have ol := Off.of F₁ n₂
  generalize hl2 : h₁.objs.size = l at n₂ ol
  have el : (h₁.push { cls := .type "list", data := .seq #[] }).get? l = some { cls := .type "list", data := .seq #[] } := by rw [← hl2]; exact Heap.get?_push_size _ rfl
  have k₂ : ∀ b o, h₁.get? b = some o → (h₁.push { cls := .type "list", data := .seq #[] }).get? b = some o := fun b o e => Heap.get?_push_of_some _ e
  generalize (h₁.push { cls := .type "list", data := .seq ([] : List Value).toArray }) = h₂ at el k₂ ⊢
  have i₂ := X.stable _ h₂ i₁ fun b _ o e => k₂ b o e
  have F₂ := F₁.keep (Keep.ofAll k₂) i₂
  refine spliced_nil ⟨by show 2 ≤ sizeLine; decide, ?_⟩
  have ht : (h₂.push { cls := .type "tuple", data := .seq [Value.ref c, .ref l].toArray }).IsTuple h₂.objs.size #[.ref c, .ref l] := ⟨_, Heap.get?_push_size _ rfl, rfl, 0, rfl⟩
  refine PySem.wpAny_unpackItems_tuple (s := { s with heap := h₂.push { cls := .type "tuple", data := .seq [Value.ref c, .ref l].toArray }, toks := t₁ }) (items := #[.ref c, .ref l]) R.hd ht fun h₃ he => ?_
  have k₃ : ∀ b o, h₂.get? b = some o → h₃.get? b = some o := fun b o e => he b o (by
    have := Heap.lt_size e
    show b ≠ (h₂.push _).objs.size
    rw [Heap.size_push]; exact Nat.ne_of_lt (Nat.lt_succ_of_lt this)) (Heap.get?_push_of_some _ e)
  have i₃ := X.stable _ h₃ i₂ fun b _ o e => k₃ b o e
  have F₃ := F₂.keep (Keep.ofAll k₃) i₃
  show wpAny _ _ (assignInOrder [bindName env (Str.ofString "rows"), bindName env (Str.ofString "checker")] [.ref l, .ref c]) _ _ _
  refine assignInOrder_cons (wpAny_bindName (store_sound (s := { s with heap := h₃, toks := t₁ }) ok F₃ hj hy nd (.hnd l) fun h₄ kl₄ g₄ F₄ => ?_))
  refine assignInOrder_cons (wpAny_bindName (store_sound (s := { s with heap := h₄, toks := t₁ + 1 }) ok F₄ hi hx nd (.hnd c) fun h₅ kl₅ g₅ F₅ => ?_))
  have oc := of Y.nc
  have od' := of Y.nd
  have ou := of Y.nu
  have oo := of Y.no
  have up : ∀ a ob, a ≠ env.locals → h₁.get? a = some ob → h₅.get? a = some ob := fun a ob n e => (g₅ a n).trans ((g₄ a n).trans (k₃ _ _ (k₂ _ _ e)))
  refine assignInOrder_nil ?_
  refine h c d u o od l h₅ _ ?_ F₅ ⟨up _ _ oc.nl Y.gc, up _ _ od'.nl Y.gd, Y.used, Y.opn, Y.dd, Y.nolead⟩ (up _ _ ou.nl Y.gu) (up _ _ oo.nl Y.go) ((g₅ l ol.nl).trans ((g₄ l ol.nl).trans (k₃ _ _ el))) oc od' ou oo ol ⟨?_, ?_, ?_, ?_⟩ Y.du fun b ob e => ⟨?_, ?_, ?_, ?_, ?_⟩
  · intro b ob nw nl e
    exact up b ob nl (kp b ob e)
  all_goals intro z
  · rw [← z, Y.gc] at n₂; cases n₂
  · rw [← z, Y.gd] at n₂; cases n₂
  · rw [← z, Y.gu] at n₂; cases n₂
  · rw [← z, Y.go] at n₂; cases n₂
  · rw [z, Y.nc] at e; cases e
  · rw [z, Y.nd] at e; cases e
  · rw [z, Y.nu] at e; cases e
  · rw [z, Y.no] at e; cases e
  · rw [← z, kp b ob e] at n₂; cases n₂
end
end Mine

namespace Mine
section
variable {base : Heap} {w : World} {X : Ext base} {n : Nat} {sc : Scope} {vs : List Str} {A : Around} {E : Value → Shared → Prop} {s : Shared}
theorem get_chk {c d u o : Addr} {od : Obj} {x : Str} {v : Value} {P : Value → Shared → Prop} {ex : Bool} (K : (KK w).In s.heap) (Y : Chk s.heap c d u o od) (hx : x = Str.ofString "used" ∨ x = Str.ofString "open") (e : lookIn x od = some (some v)) (hv : handedIn v = true) (h : P v { s with toks := s.toks + 1 }) :
    wpAny (model prog w) A (getAttr (.ref c) x ex) P E s := get_value K Y.inst (ga_chk w) (find_chk w x hx e) hv h
theorem var_hdl {env : Env} {m : Loc} {i : Nat} {y : Str} {c : Addr} {P : Value → Shared → Prop} {p1 : Pos} (ok : EnvOK sc env) (F : FmOK X env vs m s.heap) (hi : vs[i]? = some y) (hm : m[i]? = some (some (hdl c))) (hd : (y == ("__debug__" : Str)) = false) (h : P (.ref c) s) :
    wpAny (model prog w) A (eval (.Name y p1) env) P E s := by
  rcases F.vars i y _ hi hm with ⟨k, mv, v', nn, ev, r⟩ | ⟨k, cc, v', ev, q, r⟩
  · exact wpAny_Name (wpAny_loadName_local ok.kind k nn ev (by cases r.hdl_inv; exact h)) hd
  · exact wpAny_Name (wpAny_loadName_cell ok.kind k ev q (by cases r.hdl_inv; exact h)) hd
/-- a name that holds a handle, and one of its attributes -/
theorem attr_chk {env : Env} {m : Loc} {i : Nat} {y x : Str} {c d u o : Addr} {od : Obj} {v : Value} {P : Value → Shared → Prop} {p1 pos : Pos} (G : Gnd (KK w) base) (ok : EnvOK sc env) (F : FmOK X env vs m s.heap) (hi : vs[i]? = some y) (hm : m[i]? = some (some (hdl c))) (hd : (y == ("__debug__" : Str)) = false)
    (Y : Chk s.heap c d u o od) (hx : x = Str.ofString "used" ∨ x = Str.ofString "open") (e : lookIn x od = some (some v)) (hv : handedIn v = true) (h : P v { s with toks := s.toks + 1 }) :
    wpAny (model prog w) A (eval (.Attribute (.Name y p1) x pos) env) P E s :=
  Attribute_name (var_hdl ok F hi hm hd (get_chk (G.K.keeps F.stays) Y hx e hv h))

theorem stmt_extend {env : Env} {m : Loc} {ss : List Stmt} {i j : Nat} {p1 p2 p3 p4 p5 p6 : Pos} {P : Flow → Shared → Prop} {c d u o l : Addr} {od : Obj} {us : Array Value} {k : Nat} (G : Gnd (KK w) base) (ok : EnvOK sc env) (F : FmOK X env vs m s.heap) (fl : flatM m = true)
    (hi : vs[i]? = some (Str.ofString "checker")) (hj : vs[j]? = some (Str.ofString "rows")) (hm : m[i]? = some (some (hdl c))) (hm2 : m[j]? = some (some (hdl l))) (hl1 : (p3.endLine == p5.line) = true)
    (Y : Chk s.heap c d u o od) (eo : s.heap.get? o = some { cls := .type "list", data := .seq #[] }) (el : s.heap.get? l = some { cls := .type "list", data := .seq us k }) (sm : us.size ≤ 1000) (oo : Off X env o)
    (h : ∀ h' tk' k', (∀ b, b ≠ o → h'.get? b = s.heap.get? b) → h'.get? o = some { cls := .type "list", data := .seq us k' } → FmOK X env vs m h' → wpAny (model prog w) A (execs ss env) P E { s with heap := h', toks := tk' }) :
    wpAny (model prog w) A (execs (.Expr (.Call (.Attribute (.Attribute (.Name (Str.ofString "checker") p1) (Str.ofString "open") p2) (Str.ofString "extend") p3) [.Name (Str.ofString "rows") p4] [] p5) p6 :: ss) env) P E s := by
  refine wpAny_execs_cons (wpAny_Expr (wpAny_Call_method (T := "list") (id := "list.extend") rfl rfl hl1 PySem.F.plainAttrs_list PySem.F.slot_list_extend PySem.F.type_list_extend ?_) (by rw [interactive, ok.kind]; rfl) rfl)
  refine attr_chk G ok F hi hm (by kernel_rfl) Y (.inr rfl) Y.opn rfl ?_
  refine ⟨⟨_, eo, rfl⟩, fun a e => by cases e; exact ⟨_, eo, rfl⟩, ?_⟩
  refine Calls.callWith_builtin rfl (Calls.evalArgs_plain (Calls.spliced_cons (var_hdl (s := { s with toks := s.toks + 1 }) ok F hj hm2 (by kernel_rfl) (Calls.spliced_nil ?_))))
  have e : Obj.mapSeq (fun x => x ++ us) { cls := .type "list", data := .seq #[] } = { cls := .type "list", data := .seq us (if us.size == 0 then 0 else 1) } := by
    show (⟨_, _, .seq (#[] ++ us) (if (#[] ++ us).size == 0 then 0 else 1), _⟩ : Obj) = _
    rw [Array.empty_append]
  have hs : Heap.SameBut o s.heap (s.heap.update o (Obj.mapSeq fun x => x ++ us)) := Heap.SameBut.update ..
  have eo' : (s.heap.update o (Obj.mapSeq fun x => x ++ us)).get? o = some { cls := .type "list", data := .seq us (if us.size == 0 then 0 else 1) } := by
    rw [Heap.get?_update_self _ eo (by rw [e]; rfl), e]
  refine call_meets PySem.F.slot_list_extend ⟨_, eo, rfl⟩ PySem.F.entry_list_extend (PySem.F.args_list_extend_2 _ _) (AutoSeq1.list_extend_list_list_0 o #[] 0 l us k (by simp) (Nat.zero_le _) (by show 0 + us.size ≤ sizeLine + 1; rw [sizeLine_eq]; omega)) ⟨eo, el, ?_⟩
  have F' : FmOK X env vs m (s.heap.update o (Obj.mapSeq fun x => x ++ us)) := F.grow fl ⟨_, eo, rfl, _, _, rfl⟩ oo.nb oo.nw hs.2
  exact h _ _ _ hs.2 eo' F'
end
end Mine

namespace Mine
section
variable {base : Heap} {prog : Program} {w : World} {X : Ext base} {n : Nat} {sc : Scope} {vs : List Str} {A : Around} {E : Value → Shared → Prop} {s : Shared} {env : Env}
def KeepC (X : Ext base) (L : Addr) (h h' : Heap) : Prop := ∀ b o, b ∉ X.W → b ≠ L → (∀ c, o.data ≠ .cell c) → h.get? b = some o → h'.get? b = some o
theorem KeepC.trans {L : Addr} {h h₁ h₂ : Heap} (a : KeepC X L h h₁) (b : KeepC X L h₁ h₂) : KeepC X L h h₂ := fun c o w l n e => b c o w l n (a c o w l n e)
theorem KeepL.C {L : Addr} {h h' : Heap} (a : KeepL X L h h') : KeepC X L h h' := fun b o w l _ e => a b o w l e
theorem KeepG.C {L : Addr} {h h' : Heap} (a : Keep X h h') : KeepC X L h h' := fun b o w _ _ e => a b o w e
theorem KeepC.seqs {m : Loc} {h h' : Heap} (F : FmOK X env vs m h) (a : KeepC X env.locals h h') : Seqs (X := X) h h' := fun b o e w q => a b o w (fun z => by
    obtain ⟨mv, hn⟩ := F.ns
    obtain ⟨oL, esL, kL, hL, dL⟩ := ns_data hn
    obtain ⟨_, _, q⟩ := q
    rw [z, hL] at e; cases e; rw [dL] at q; cases q) (fun c z => by obtain ⟨_, _, q⟩ := q; rw [q] at z; cases z) e
/-- a name of the frame is stored, a local or a cell -/
theorem store_any {m : Loc} {x : Str} {i : Nat} {v : Value} {d : PyData} {P : Unit → Shared → Prop} (ok : EnvOK sc env) (C : CellsOK base sc env s.heap) (F : FmOK X env vs m s.heap) (hi : vs[i]? = some x) (hk : sc.names.lookup x = some .local ∨ sc.names.lookup x = some .cell) (nd : vs.Nodup)
    (r : VR X s.heap v d) (h : ∀ h' tk', KeepC X env.locals s.heap h' → CellsOK base sc env h' → FmOK X env vs (m.set i (some d)) h' → P () { s with heap := h', toks := tk' }) :
    wpAny (model prog w) A (storeName env x v) P E s := by
  rcases hk with hk | hk
  · exact store_sound ok F hi hk nd r fun h' kl _ F' => h h' _ kl.C (C.keepL F kl) F'
  · refine store_cell ok C F hi hk nd r fun c h' hc nb e C' F' => h h' _ (fun b o _ _ n eb => (e b fun z => ?_).trans eb) C' F'
    obtain ⟨o', eo, v', dv⟩ := hc
    rw [z, eo] at eb; cases eb
    exact n _ dv
abbrev Nm := Str × Pos × Nat
def nmE (t : Nm) : Expr := .Name t.1 t.2.1
def NmsOK (sc : Scope) (vs : List Str) (l : List Nm) : Prop := ∀ t ∈ l, vs[t.2.2]? = some t.1 ∧ (sc.names.lookup t.1 = some .local ∨ sc.names.lookup t.1 = some .cell)
def setAll : List Nm → List PyData → Loc → Loc
  | t :: l, d :: ds, m => setAll l ds (m.set t.2.2 (some d))
  | _, _, m => m
/-- a row of names takes a tuple's items -/
theorem names_in (ok : EnvOK sc env) (nd : vs.Nodup) {l : List Nm} : ∀ {us : List Value} {ds : List PyData} {s : Shared} {m : Loc} {P : Unit → Shared → Prop}, CellsOK base sc env s.heap → FmOK X env vs m s.heap →
    NmsOK sc vs l → us.length = l.length → ReadsAll s.heap us ds [] → lfs ds = true →
    (∀ h' tk', KeepC X env.locals s.heap h' → CellsOK base sc env h' → FmOK X env vs (setAll l ds m) h' → P () { s with heap := h', toks := tk' }) →
    wpAny (model prog w) A (assignInOrder (l.map fun t => assign (nmE t) env) us) P E s := by
  induction l with
  | nil =>
    intro us ds s m P C F _ l3 ra _ h
    have : us = [] := List.length_eq_zero_iff.mp l3
    subst this
    have : ds = [] := List.length_eq_zero_iff.mp (ReadsAll.len ra).symm
    subst this
    exact assignInOrder_nil (h s.heap s.toks (fun _ _ _ _ _ e => e) C F)
  | cons t l ih =>
    intro us ds s m P C F hv l3 ra lf h
    cases us with
    | nil => cases l3
    | cons u us =>
      cases ds with
      | nil => have := ReadsAll.len ra; cases this
      | cons d ds =>
        obtain ⟨u', us', e, r1, r2⟩ := readsAll_uncons ra
        cases e
        obtain ⟨hi, hk⟩ := hv t (.head _)
        rw [lfs, Bool.and_eq_true] at lf
        rw [List.map_cons]
        refine assignInOrder_cons ?_
        unfold nmE
        refine PySem.wpAny_assign_Name (store_any ok C F hi hk nd (.flat lf.1 r1) fun h₁ t₁ k₁ C₁ F₁ => ?_)
        refine ih (s := { s with heap := h₁, toks := t₁ }) C₁ F₁ (fun q hq => hv q (.tail _ hq)) (Nat.succ.inj l3) (readsAll_seqs F.inv (k₁.seqs F) r2 lf.2) lf.2 fun h₂ t₂ k₂ C₂ F₂ => ?_
        exact h h₂ t₂ (k₁.trans k₂) C₂ F₂
/-- names = a flat tuple -/
theorem stmt_unpack {m : Loc} {ss : List Stmt} (l : List Nm) {e : Expr} {f : ED} {k : Nat} {tp pos : Pos} {P : Flow → Shared → Prop} (ok : EnvOK sc env) (R : Room n A) (C : CellsOK base sc env s.heap) (F : FmOK X env vs m s.heap) (nd : vs.Nodup)
    (hv : NmsOK sc vs l) (he : DE prog w X n sc vs e f) {N : List PyData → Prop} (q : f m fun d => ∃ ds, d = .tuple ds ∧ ds.length = l.length ∧ lfs ds = true ∧ N ds)
    (hs : swapsWithSole [.Tuple (l.map nmE) k tp] e pos.line env = pure false) (hw : swappedStores [.Tuple (l.map nmE) k tp] e env = pure none)
    (ha : assignEach (l.map nmE) env = l.map fun t => (false, assign (nmE t) env))
    (h : ∀ ds h' tk', N ds → KeepC X env.locals s.heap h' → CellsOK base sc env h' → FmOK X env vs (setAll l ds m) h' → wpAny (model prog w) A (execs ss env) P E { s with heap := h', toks := tk' }) :
    wpAny (model prog w) A (execs (.Assign [.Tuple (l.map nmE) k tp] e pos :: ss) env) P E s := by
  refine wpAny_execs_cons (Assign_Tuple (thenE (he.1 env A E s m _ ok R F q) fun v d h₁ t₁ k₁ i₁ r₁ q₁ => ?_) hs hw)
  obtain ⟨ds, rfl, ld, lf, nd'⟩ := q₁
  obtain ⟨t, o, us, kq, rfl, eo, co, dt, rr, ll⟩ := r₁.tuple_inv
  have lu : us.toList.length = l.length := (ReadsAll.len rr).trans ld
  refine PySem.wpAny_assign_Tuple R.hd ⟨o, eo, co, kq, dt⟩ (by rw [ha, List.length_map, ← lu, Array.length_toList]) (by rw [ha]; exact List.findIdx?_eq_none_iff.mpr fun p hp => by obtain ⟨_, _, rfl⟩ := List.mem_map.mp hp; rfl) fun h₂ he₂ => ?_
  have k₂ : ∀ b o, h₁.get? b = some o → h₂.get? b = some o := fun b o e => he₂ b o (Nat.ne_of_lt (Heap.lt_size e)) e
  have i₂ := X.stable _ h₂ i₁ fun b _ o e => k₂ b o e
  have kp := k₁.trans (Keep.ofAll (X := X) k₂)
  have F₂ := F.keep kp i₂
  rw [ha, List.map_map]
  show wpAny _ A (assignInOrder (l.map fun t => assign (nmE t) env) us.toList) _ _ _
  refine names_in (s := { s with heap := h₂, toks := t₁ }) ok nd (C.keepL F kp.L) F₂ hv lu (readsAll_seqs i₁ (Keep.ofAll k₂).seqs rr lf) lf fun h₃ t₃ k₃ C₃ F₃ => ?_
  exact h ds h₃ t₃ nd' (KeepC.trans (fun b o w _ _ e => kp b o w e) k₃) C₃ F₃
end
end Mine

namespace Mine
def faultObj (d a : Addr) : Obj := { cls := .ref 52, dict := some d, data := .fields #[.ref a, .none, .none, .none, .bool false, .none] }
section
variable {w : World} {A : Around} {E : Value → Shared → Prop} {s : Shared} {env : Env}
theorem is52 (w : World) (t : Value) (ht : t = .type "BaseException" ∨ t = .ref 52) : mroIn (KK w) 52 t = some true := by rcases ht with rfl | rfl <;> kernel_rfl
theorem raise_made {x : Expr} {pos : Pos} {Q : Flow → Shared → Prop} (hh : A.handled = none)
    (h : wpAny (model prog w) A (eval x env) (fun v s₁ => ∃ e d a, v = .ref e ∧ s₁.heap.get? e = some (faultObj d a) ∧ (KK w).In s₁.heap ∧ E (.ref e) s₁) E s) :
    wpAny (model prog w) A (exec (.Raise (some x) none pos) env) Q E s := by
  rw [arm_exec_Raise]
  show wpAny _ A (do standAt pos; raiseStmt env (some (do let v ← eval x env; standAt pos; pure v)) none) Q E s
  refine wpAny_bind (wpAny_standAt ?_)
  unfold raiseStmt
  refine wpAny_bind (wpAny_bind (wpAny_mono h (fun v s₁ h₁ => ?_) fun _ _ x => x))
  obtain ⟨e, d, a, rfl, he, K, hE⟩ := h₁
  refine wpAny_bind (wpAny_standAt (wpAny_pure (wpAny_bind (wpAny_pure ?_))))
  obtain ⟨hp, g, dr, tk, os⟩ := s₁
  have t0 : Looks (model prog w) hp (typeOf (.ref e)) (.ref 52) := (Looks.ld he).andThen .now
  have t1 : Looks (model prog w) hp (isType (.ref e)) false := (Looks.ld he).andThen .now
  have t2 : Looks (model prog w) hp (isSubtype (.ref 52) (.type "BaseException")) true := looks_mroIn K (is52 w _ (.inl rfl))
  have t3 : Looks (model prog w) hp (typeOf (.ref 52)) (.type "type") := looks_typeIn K (by kernel_rfl)
  unfold excFromValue isExcClass isInstance raisedInstance
  have fin : wpAny (model prog w) A (do setFlight (.ref e) none; raiseNew (.ref e) : Sem Flow) Q E ⟨hp, g, dr, tk, os⟩ := by
    unfold setFlight
    refine wpAny_bind (wpAny_bind (wpAny_field he rfl (x := .none) rfl ?_))
    rw [if_neg (by decide)]
    exact wpAny_pure (wpAny_raiseNew_none hh hE)
  refine wpAny_bind (wpAny_holding (wpAny_bind (wpAny_bind (t1.at ?_))))
  rw [if_neg (by decide)]
  refine wpAny_pure ?_
  rw [if_neg (by decide)]
  refine wpAny_bind (wpAny_bind (t0.at (t2.at ?_)))
  rw [if_pos rfl]
  refine wpAny_pure ?_
  dsimp only
  refine wpAny_bind (t1.at ?_)
  rw [if_neg (by decide)]
  refine wpAny_bind (wpAny_bind (t0.at (wpAny_bind (t3.at ?_))))
  rw [if_pos (by decide)]
  exact wpAny_pure fin
/-- a fault is of its own class -/
theorem caught {e : Addr} {oe : Obj} {t : Expr} {n : Str} {b₀ : Stmt} {suite : List Stmt} {pos : Pos} {rest : List ExceptHandler} {Q : Flow → Shared → Prop} (he : s.heap.get? e = some oe) (hc : oe.cls = .ref 52) (K : (KK w).In s.heap)
    (ht : ∀ {P : Value → Shared → Prop}, P (.ref 52) s → wpAny (model prog w) (A.mark (some (.ref e))) (eval t env) P (notedBy (model prog w) (A.mark (some (.ref e))) env (cameBackBy (model prog w) A env E)) s)
    (h : wpAny (model prog w) (A.mark (some (.ref e))) (setFlight (.ref e) none) (fun _ s₂ =>
          wpAny (model prog w) (A.mark (some (.ref e))) (storeName env n (.ref e)) (fun _ s₃ =>
            wpAny (model prog w) (A.mark (some (.ref e))) (execs (b₀ :: suite) env)
              (fun f s₄ => wpAny (model prog w) A (do bindName env n .none; unbindBehindTheSuite env n pos) (fun _ s₅ => Q f s₅) E s₄)
              (AsSuiteRaised (model prog w) (A.mark (some (.ref e))) env n pos (notedBy (model prog w) (A.mark (some (.ref e))) env (cameBackBy (model prog w) A env E))) s₃) (notedBy (model prog w) (A.mark (some (.ref e))) env (cameBackBy (model prog w) A env E)) s₂) (notedBy (model prog w) (A.mark (some (.ref e))) env (cameBackBy (model prog w) A env E)) s) :
    wpAny (model prog w) A (handleBy (.ref e) env (.ExceptHandler (some t) (some n) (b₀ :: suite) pos :: rest)) Q E s := by
  refine wpAny_handleBy_cons (codeAny_handlers_test (ht ?_)) (by intro q; cases q)
  obtain ⟨hp, g, dr, tk, os⟩ := s
  exact wpAny_excMatches_sub_self (K 52 _ rfl) he hc (by kernel_rfl) (codeAny_handlers_suite_as h)
end
end Mine

namespace Mine
/-! what is open: rows of a label and a kind -/
abbrev LRow := Option Str × Str
def oD : Option Str → PyData
  | none => .none
  | some x => .str x
def rowD (p : LRow) : PyData := .tuple [oD p.1, .str p.2]
def zFor : Str := Str.ofString "for"
def zRange : Str := Str.ofString "range"
def zBreak : Str := Str.ofString "break"
def zUnder : Str := Str.ofString "_"
def goalsOf (kind : Str) (rows : List LRow) : List LRow := rows.filter fun p => kind == zBreak || [zFor, zRange].any (· == p.2)
def hitsOf (l : Str) (rows : List LRow) : List LRow := rows.filter fun p => p.1 == some l && l != zUnder
def leads (kind : Str) (lab : Option Str) (rows : List LRow) : List LRow := match lab with
  | none => goalsOf kind rows
  | some l => hitsOf l (goalsOf kind rows)
/-- the strs that a row may hold -/
def okRow (p : LRow) : Bool := fit (rowD p) 3
theorem rows_fits {rows : List LRow} (h : rows.all okRow = true) : fits (rows.map rowD) 3 = true := by
  induction rows with
  | nil => rfl
  | cons p r ih =>
    rw [List.all_cons, Bool.and_eq_true] at h
    rw [List.map_cons, fits, ih h.2]
    show (okRow p && true) = true
    rw [h.1]; rfl
theorem rows_lfs (rows : List LRow) : lfs (rows.map rowD) = true := by
  induction rows with
  | nil => rfl
  | cons p r ih =>
    rw [List.map_cons, lfs, ih]
    obtain ⟨a, b⟩ := p
    cases a <;> rfl
theorem rows_nil {rows : List LRow} (h : rows.all okRow = true) {Q : Bool → Prop} (q : Q rows.isEmpty) : eqQ (.list (rows.map rowD)) (.list []) Q := by
  refine eq_nil (fits_all (rows_fits h) (by decide)).2.2.2 ?_
  rw [List.isEmpty_map]; exact q
theorem okRow_filter {rows : List LRow} {p : LRow → Bool} (h : rows.all okRow = true) : (rows.filter p).all okRow = true := by
  rw [List.all_eq_true] at h ⊢
  exact fun x hx => h x (List.mem_filter.mp hx).1
theorem comp_filterC {α : Type} {f : α → PyData} {p : α → Bool} {ft : TD} {Q : PyData → Prop} {xs : List α} {M : Loc} (hp : ∀ x ∈ xs, lf (f x) = true ∧ ∀ Q, Q (p x) → ft (some (f x) :: M) Q) : ∀ {acc : List PyData} {y : Option PyData}, small (acc ++ xs.map f) = true →
    Q (.list (acc ++ (xs.filter p).map f)) → compQ (gName 0) ft (eV 0) (xs.map f) acc (y :: M) Q := by
  induction xs with
  | nil => intro acc y s q; rw [List.map_nil, List.append_nil] at s; rw [List.filter_nil, List.map_nil, List.append_nil] at q; exact ⟨s, q⟩
  | cons x r ih =>
    intro acc y s q
    have ih := @ih fun z hz => hp z (.tail _ hz)
    obtain ⟨l, hx⟩ := hp x (.head _)
    have e : acc ++ (x :: r).map f = (acc ++ [f x]) ++ r.map f := by rw [List.append_assoc]; rfl
    rw [e] at s
    rw [List.filter_cons] at q
    refine hx _ ?_
    revert q
    cases p x with
    | true =>
      intro q
      refine ⟨l, small_pre (small_pre s), ih s ?_⟩
      rw [List.append_assoc]
      exact q
    | false =>
      intro q
      refine ih ?_ q
      have := of_decide_eq_true s
      rw [List.length_append, List.length_append] at this
      exact decide_eq_true (by rw [List.length_append]; omega)
theorem comp_map {α : Type} {f g : α → PyData} {fe : ED} {Q : PyData → Prop} {xs : List α} {M : Loc} (hp : ∀ x ∈ xs, lf (g x) = true ∧ ∀ Q, Q (g x) → fe (some (f x) :: M) Q) : ∀ {acc : List PyData} {y : Option PyData}, small (acc ++ xs.map f) = true →
    Q (.list (acc ++ xs.map g)) → compQ (gName 0) tTrue fe (xs.map f) acc (y :: M) Q := by
  induction xs with
  | nil => intro acc y s q; rw [List.map_nil, List.append_nil] at s; rw [List.map_nil, List.append_nil] at q; exact ⟨s, q⟩
  | cons x r ih =>
    intro acc y s q
    obtain ⟨l, hx⟩ := hp x (.head _)
    refine hx _ ⟨l, small_pre s, @ih (fun z hz => hp z (.tail _ hz)) _ _ ?_ ?_⟩
    · have := of_decide_eq_true s
      rw [List.length_append, List.map_cons, List.length_cons] at this
      exact decide_eq_true (by rw [List.length_append, List.length_append]; simp; simp at this; omega)
    · rw [List.append_assoc]; exact q
/-- the first test -/
def tGoal (d : PyData) : TD := tOr (tCmp .Eq (eV 1) (eC (.str zBreak))) (tOr (tCmp .In (eSub (eV 0) (eC (.int 1))) (eC d)) tFalse)
theorem tGoal_ok {kind : Str} {p : LRow} {d : PyData} (hd : d = .tuple [.str zFor, .str zRange] ∨ d = .list [.str zFor, .str zRange]) {Q : Bool → Prop} (q : Q (kind == zBreak || [zFor, zRange].any (· == p.2))) : tGoal d [some (rowD p), some (.str kind)] Q := by
  show (match (kind == zBreak) with | true => Q true | false => _)
  revert q
  cases kind == zBreak with
  | true => exact id
  | false =>
    intro q
    obtain ⟨a, b⟩ := p
    rcases hd with rfl | rfl
    · show (match ([zFor, zRange].any (· == b)) with | true => Q true | false => Q false)
      revert q
      cases [zFor, zRange].any (· == b) <;> exact id
    · show (match ([zFor, zRange].any (· == b)) with | true => Q true | false => Q false)
      revert q
      cases [zFor, zRange].any (· == b) <;> exact id
/-- the second -/
def tHit : TD := tAnd (tCmp .Eq (eSub (eV 0) (eC (.int 0))) (eV 1)) (tAnd (tCmp .NotEq (eV 1) (eC (.str zUnder))) tTrue)
theorem tHit_ok {l : Str} {p : LRow} {Q : Bool → Prop} (q : Q (p.1 == some l && l != zUnder)) : tHit [some (rowD p), some (.str l)] Q := by
  obtain ⟨a, b⟩ := p
  have e2 : ∀ {c : Bool}, Q (c && l != zUnder) → (match c with | true => (match (!(l == zUnder)) with | true => Q true | false => Q false) | false => Q false) := fun {c} q => by
    cases c with
    | false => exact q
    | true =>
      revert q
      show Q (!(l == zUnder)) → _
      cases (!(l == zUnder)) <;> exact id
  cases a with
  | none => exact q
  | some x => exact e2 (c := x == l) (by have : ((some x == some l : Bool)) = (x == l) := rfl; rw [← this]; exact q)
theorem labs_canLay {rows : List LRow} (h : rows.all okRow = true) : PyData.canLayAll0 (rows.map fun p => oD p.1) = true := by
  induction rows with
  | nil => rfl
  | cons p r ih =>
    rw [List.all_cons, Bool.and_eq_true] at h
    have a := (fit_all (D := 3) h.1 (Nat.le_refl _)).2.1
    obtain ⟨x, y⟩ := p
    rw [List.map_cons, PyData.canLayAll0]
    have a' : (PyData.canLay0 (oD x) && (PyData.canLay0 (.str y) && true)) = true := a
    rw [Bool.and_eq_true] at a'
    rw [a'.1, Bool.true_and]
    exact ih h.2
theorem in_labels {l : Str} {rows : List LRow} (h : rows.all okRow = true) (hl : PyData.canLay0 (.str l) = true) {Q : Bool → Prop} (q : Q (rows.any fun p => p.1 == some l)) : inQ (.str l) (rows.map fun p => oD p.1) Q := by
  have e1 : ∀ rows : List LRow, ∀ ys, strs? (rows.map fun p => oD p.1) = some ys → ys.any (· == l) = rows.any fun p => p.1 == some l := by
    intro rows
    induction rows with
    | nil => intro ys e; cases e; rfl
    | cons p r ih =>
      intro ys e
      obtain ⟨a, b⟩ := p
      cases a with
      | none => cases e
      | some x =>
        obtain ⟨zs, e', rfl⟩ := Option.map_eq_some_iff.mp e
        rw [List.any_cons, List.any_cons, ih zs e']
        rfl
  have e2 : (rows.map fun p => oD p.1).any (fun y => PyData.eqv y (.str l)) = rows.any fun p => p.1 == some l := by
    rw [List.any_map]
    refine congrArg (fun f => rows.any f) (funext fun p => ?_)
    obtain ⟨a, b⟩ := p
    cases a <;> rfl
  have e3 := labs_canLay h
  unfold inQ
  have e0 : in? (.str l) (rows.map fun p => oD p.1) = (strs? (rows.map fun p => oD p.1)).map (·.any (· == l)) := rfl
  rw [e0]
  cases e : strs? (rows.map fun p => oD p.1) with
  | none => exact ⟨e3, by rw [shaped, hl]; rfl, by rw [e2]; exact q⟩
  | some ys => show Q (ys.any (· == l)); rw [e1 rows ys e]; exact q
end Mine

namespace Mine
def eAddS (f g : ED) : ED := fun m Q => f m fun a => g m fun b => match a, b with
  | .str x, .str y => x.length + y.length ≤ 1000 ∧ Q (.str (x ++ y))
  | _, _ => False
def eOpen (i : Nat) (c : Addr) (rows : List LRow) : ED := fun m Q => m[i]? = some (some (hdl c)) ∧ Q (.list (rows.map rowD))
def UsedAt (w : World) (h : Heap) (u : Addr) (lab : Option Str) : Prop := h.DictOf (strKind prog w) u (match lab with | none => [] | some l => [(l, .bool true)])
section
variable {base : Heap} {w : World} {X : Ext base} {n : Nat} {sc : Scope} {vs : List Str} {pos p1 : Pos} {e1 e2 : Expr} {f g : ED}
theorem r_adds (h1 : DE prog w X n sc vs e1 f) (h2 : DE prog w X n sc vs e2 g) : DE prog w X n sc vs (.BinOp e1 .Add e2 pos) (eAddS f g) := by
  constructor
  intro env A E s m Q ok R F hQ
  refine wpAny_BinOp (thenE (h1.1 env A E s m _ ok R F hQ) fun v a h₁ t₁ k₁ i₁ r₁ q₁ => thenE (h2.1 env A E { s with heap := h₁, toks := t₁ } m _ ok R (F.keep k₁ i₁) q₁) fun v2 b h₂ t₂ k₂ i₂ r₂ q₂ => ?_)
  split at q₂
  · obtain ⟨t, rfl⟩ := r₁.str_inv
    obtain ⟨u, rfl⟩ := r₂.str_inv
    obtain ⟨l, q⟩ := q₂
    exact PyProof.Rows.add_str (s := { s with heap := h₂, toks := t₂ }) (fun t' tk => ⟨_, h₂, tk, rfl, k₁.trans k₂, i₂, vr_flat0 rfl (.str _ _), q⟩) (by rw [sizeLine_eq]; omega)
  · exact q₂.elim
theorem r_open {x : Str} {i : Nat} (G : Gnd (KK w) base) {c d u o : Addr} {od : Obj} (Y : Chk base c d u o od) {us : Array Value} {k : Nat} (eo : base.get? o = some { cls := .type "list", data := .seq us k }) {rows : List LRow} (ra : ReadsAll base us.toList (rows.map rowD) []) (hw : o ∉ X.W)
    (hi : vs[i]? = some x) (hd : (x == ("__debug__" : Str)) = false) : DE prog w X n sc vs (.Attribute (.Name x p1) (Str.ofString "open") pos) (eOpen i c rows) := by
  constructor
  intro env A E s m Q ok R F ⟨hm, hQ⟩
  have Y' : Chk s.heap c d u o od := ⟨F.stays _ _ Y.gc, F.stays _ _ Y.gd, Y.used, Y.opn, Y.dd, Y.nolead⟩
  exact attr_chk G ok F hi hm hd Y' (.inr rfl) Y.opn rfl ⟨_, s.heap, _, rfl, .refl _, F.inv, .lst hw (F.stays _ _ eo) rfl rfl (rows_lfs rows) (lfs_keep (fun b o e _ _ => F.stays b o e) ra (rows_lfs rows)), hQ⟩
/-- a dict that no name holds changes -/
theorem FmOK.but {env : Env} {m : Loc} {h h' : Heap} {u : Addr} (F : FmOK X env vs m h) (hu : ∃ o es k, h.get? u = some o ∧ o.data = .dict es k) (nb : base.get? u = none) (nl : u ≠ env.locals) (g : ∀ b, b ≠ u → h'.get? b = h.get? b) : FmOK X env vs m h' := by
  obtain ⟨o, es, k, eo, dt⟩ := hu
  have nw : u ∉ X.W := dict_off F.inv eo ⟨_, _, dt⟩
  have i' : X.I h' := X.stable _ _ F.inv fun b hb o e => (g b fun z => nw (z ▸ hb)).trans e
  have sq : Seqs (X := X) h h' := fun b ob e _ q => (g b fun z => by obtain ⟨_, _, q⟩ := q; rw [z, eo] at e; cases e; rw [dt] at q; cases q).trans e
  refine ⟨fun b ob e => (g b fun z => by rw [z, nb] at e; cases e).trans (F.stays b ob e), i', ?_, F.lnew, fun i x d e1 e2 => ?_⟩
  · obtain ⟨mv, hn⟩ := F.ns
    exact ⟨mv, hn.at' fun o e => (g _ (Ne.symm nl)).trans e⟩
  · rcases F.vars i x d e1 e2 with ⟨kk, mv, v, n', e', r'⟩ | ⟨kk, c, v, e', ⟨oc, hc, dc⟩, r'⟩
    · exact .inl ⟨kk, mv, v, n'.at' fun o e => (g _ (Ne.symm nl)).trans e, e', r'.seqs F.inv sq⟩
    · exact .inr ⟨kk, c, v, e', ⟨oc, (g c fun z => by rw [z, eo] at hc; cases hc; rw [dt] at dc; cases dc).trans hc, dc⟩, r'.seqs F.inv sq⟩
end
theorem used_nil {w : World} {h : Heap} {u : Addr} (e : h.get? u = some emptyDict) : UsedAt w h u none :=
  ⟨_, #[], 0, e, ⟨rfl, rfl, rfl⟩, rfl, fun x hx => by simp at hx, .nil, List.nodup_nil⟩
theorem ns_LOOPS (w : World) : nsIn (KK w) mainGlobals (Str.ofString "LOOPS") = some (some (.ref 55)) := by kernel_rfl
theorem reads_LOOPS {w : World} {h : Heap} (K : (KK w).In h) : Reads h (.ref 55) (.tuple [.str zFor, .str zRange]) [] :=
  .tuple (K 55 _ rfl) rfl rfl (readsAll_cons (.str _ _) (readsAll_cons (.str _ _) .nil))
theorem nodup_lead : ([Str.ofString "self", Str.ofString "statement"] ++ [Str.ofString "kind", Str.ofString "spot", Str.ofString "label", Str.ofString "rows"] : List Str).Nodup := by decide +kernel
theorem nd_self : (Str.ofString "self" == ("__debug__" : Str)) = false := by kernel_rfl
theorem nd_spot : (Str.ofString "spot" == ("__debug__" : Str)) = false := by kernel_rfl
end Mine

namespace Mine
abbrev vsL : List Str := [Str.ofString "self", Str.ofString "statement"] ++ [Str.ofString "kind", Str.ofString "spot", Str.ofString "label", Str.ofString "rows"]
section
variable {base : Heap} {w : World} {sc : Scope} {e1 e2 env : Env} {E : Value → Shared → Prop} {s : Shared}
theorem lead_tail {n : Nat} {c : Addr} {tup lab : PyData} {kind : Str} {rs : List LRow} {q1 q2 q3 q4 q5 q6 q7 q8 q9 q10 q11 q12 q13 : Pos} {k1 k2 : Nat} {P : Flow → Shared → Prop} (G : Gnd (KK w) base) (Kb : base.get? (nat_lit 0) = some ⟨.type "dict", none, .dict (bEs w.params) 159, #[]⟩) (ok : EnvOK sc env) (R : Room n (((callerA.deeper e1).deeper e2).deeper env))
    (F : FmOK (ext0 base) env vsL [some (hdl c), some tup, some (.str kind), some (.int 5), some lab, some (.list (rs.map rowD))] s.heap) (hr : rs.all okRow = true) (hk : kind.length ≤ 100) (hF : sc.names.lookup (Str.ofString "FlowFault") = some .globalImplicit)
    (hP : rs ≠ [] → ∀ h' tk', (∀ b ob, s.heap.get? b = some ob → h'.get? b = some ob) → P .next { s with heap := h', toks := tk' })
    (hE : rs = [] → ∀ h₂ e fd od t h' tk', (∀ b ob, s.heap.get? b = some ob → h₂.get? b = some ob) → FmOK (ext0 base) env vsL [some (hdl c), some tup, some (.str kind), some (.int 5), some lab, some (.list (rs.map rowD))] h₂ → (∀ b ob, h₂.get? b = some ob → h'.get? b = some ob) → FaultAt h₂ h' e fd od t → E (.ref e) { s with heap := h', toks := tk' }) :
    wpAny (model prog w) (((callerA.deeper e1).deeper e2).deeper env) (execs [.If (.Compare (.Name (Str.ofString "rows") q1) [.Eq] [.List [] q2] q3) [.Raise (some (.Call (.Name (Str.ofString "FlowFault") q4) [.BinOp (.BinOp (.Constant (.str (Str.ofString "a ")) k1 q5) .Add (.Name (Str.ofString "kind") q6) q7) .Add (.Constant (.str (Str.ofString " that leads nowhere")) k2 q8) q9, .Name (Str.ofString "spot") q10] [] q11)) none q12] [] q13] env) P E s := by
  refine wpAny_execs_cons (wpAny_If (thenT ((r_tcmp (r_var 5 rfl nd_rows) (r_clst [] r_nil)).1 env _ E s _ (fun b => b = rs.isEmpty) ok R F (rows_nil (Q := fun b => b = rs.isEmpty) hr rfl)) fun b h₁ t₁ k₁ i₁ q₁ => ?_))
  have k₁' := keep_all0 k₁
  have F₁ := F.keep k₁ i₁
  subst q₁
  cases rs with
  | cons p r => exact wpAny_execs_nil (wpAny_execs_nil (hP (by intro h; cases h) h₁ t₁ k₁'))
  | nil =>
    refine wpAny_execs_cons (raise_made R.hd (call_raw (s := { s with heap := h₁, toks := t₁ }) G 52 hF (by kernel_rfl) (by kernel_rfl) (r_cons (r_adds (r_adds r_str (r_var 2 rfl nd_kind)) r_str) (r_cons (r_var 3 rfl nd_spot) r_nil)) ok R F₁ (N := fun ds => ∃ x, ds = [.str x, .int 5]) ?_ ?_))
    · refine ⟨by show 2 + kind.length ≤ 1000; omega, ?_, ⟨_, rfl⟩⟩
      show (Str.ofString "a " ++ kind).length + (Str.ofString " that leads nowhere").length ≤ 1000
      have e1 : (Str.ofString "a " ++ kind).length = (Str.ofString "a ").length + kind.length := by
        show ((Str.ofString "a ").cps ++ kind.cps).size = _
        rw [Array.size_append]; rfl
      rw [e1]
      show 2 + kind.length + 19 ≤ 1000
      omega
    · rintro us _ h₂ t₂ ⟨x, rfl⟩ rv k₂ F₂
      cases rv with | cons r1 rv =>
      cases rv with | cons r2 rv =>
      cases rv with | nil =>
      obtain ⟨t, rfl⟩ := r1.str_inv
      obtain ⟨u, rfl⟩ := r2.int_inv
      refine fault_call (s := { s with heap := h₂, toks := t₂ }) (G.K.keeps F₂.stays) (F₂.stays _ _ Kb) fun e fd od h₃ t₃ kp Y => ?_
      obtain ⟨a, he⟩ := Y.ge
      exact ⟨e, fd, a, rfl, he, (G.K.keeps F₂.stays).keeps kp, hE rfl h₂ e fd od u h₃ t₃ (fun b ob e => keep_all0 k₂ b ob (k₁' b ob e)) F₂ kp Y⟩
end
end Mine

namespace Mine
section
variable {base : Heap} {w : World} {sc : Scope} {env : Env} {A : Around} {E : Value → Shared → Prop} {s : Shared}
def stepOf (lab : Option Str) (gs : List LRow) : List LRow := match lab with
  | none => gs
  | some l => hitsOf l gs
theorem lead_mid {n : Nat} {c d u o : Addr} {od : Obj} {tup : PyData} {kind : Str} {lab : Option Str} {gs : List LRow} {scope : Scope} {ss : List Stmt} {q1 q2 q3 q4 q5 q6 q7 q8 q9 q10 q11 q12 q13 q14 q15 q16 q17 q18 q19 q20 q21 q22 q23 q24 q25 : Pos} {k1 k2 k3 k4 : Nat} {P : Flow → Shared → Prop} (G : Gnd (KK w) base) (ok : EnvOK sc env) (R : Room n A)
    (F : FmOK (ext0 base) env vsL [some (hdl c), some tup, some (.str kind), some (.int 5), some (oD lab), some (.list (gs.map rowD))] s.heap) (Y : Chk base c d u o od) (eu : s.heap.get? u = some emptyDict) (nu : base.get? u = none) (nul : u ≠ env.locals) (sm : gs.length ≤ 100)
    (hk : sc.names.lookup (Str.ofString "rows") = some .local) (co : CompOK sc vsL scope [Str.ofString "row"] [(Str.ofString "label", 4)]) (hrow : scope.names.lookup (Str.ofString "row") = some .local) (hn : (scope.names.any fun x => x.1 == Str.ofString "rows" && (x.2 == .local || x.2 == .cell)) = false) (hl : q13.line = q25.line)
    (k : ∀ h' tk', (∀ b ob, b ≠ u → b ≠ env.locals → s.heap.get? b = some ob → h'.get? b = some ob) → UsedAt w h' u lab → FmOK (ext0 base) env vsL [some (hdl c), some tup, some (.str kind), some (.int 5), some (oD lab), some (.list ((stepOf lab gs).map rowD))] h' → wpAny (model prog w) A (execs ss env) P E { s with heap := h', toks := tk' }) :
    wpAny (model prog w) A (execs (.If (.Compare (.Name (Str.ofString "label") q1) [.IsNot] [.Constant .none k1 q2] q3)
      [.Assign [.Subscript (.Attribute (.Name (Str.ofString "self") q4) (Str.ofString "used") q5) (.Name (Str.ofString "label") q6) q7] (.Constant (.bool true) k2 q8) q9,
       .Assign [.Name (Str.ofString "rows") q13] (.ListComp (.Name (Str.ofString "row") q14) [⟨.Name (Str.ofString "row") q15, .Name (Str.ofString "rows") q16, [.BoolOp .And [.Compare (.Subscript (.Name (Str.ofString "row") q17) (.Constant (.int 0) k3 q18) q19) [.Eq] [.Name (Str.ofString "label") q20] q21, .Compare (.Name (Str.ofString "label") q22) [.NotEq] [.Constant (.str (Str.ofString "_")) k4 q23] q24] q10], 0⟩] scope q25) q11] [] q12 :: ss) env) P E s := by
  refine wpAny_execs_cons (wpAny_If (thenT ((r_tcmp (r_var 4 rfl nd_label) r_none).1 env _ E s _ (fun b => b = lab.isSome) ok R F (by cases lab <;> rfl)) fun b h₁ t₁ k₁ i₁ q₁ => ?_))
  have k₁' := keep_all0 k₁
  have F₁ := F.keep k₁ i₁
  subst q₁
  cases lab with
  | none => exact wpAny_execs_nil (k h₁ t₁ (fun b ob _ _ e => k₁' b ob e) (used_nil (k₁' _ _ eu)) F₁)
  | some l =>
    show wpAny _ A (execs [_, _] env) _ _ _
    have Y₁ : Chk h₁ c d u o od := ⟨F₁.stays _ _ Y.gc, F₁.stays _ _ Y.gd, Y.used, Y.opn, Y.dd, Y.nolead⟩
    refine wpAny_execs_cons (wpAny_Assign_Subscript (wpAny_Constant_bool (attr_chk (s := { s with heap := h₁, toks := t₁ }) G ok F₁ (i := 0) rfl rfl nd_self Y₁ (.inl rfl) Y₁.used rfl ?_)) rfl)
    refine wpAny_mono (den_var (Str.ofString "label") 4 q6 rfl nd_label env A E { s with heap := h₁, toks := t₁ + 1 } _ _ ok R F₁ (show getV _ 4 _ from rfl)) (Q := fun v s₂ => PostE (ext0 base) { s with heap := h₁, toks := t₁ + 1 } (fun d => .str l = d) v s₂) (fun v s₂ p => ?_) fun _ _ x => x
    obtain ⟨_, h₂, t₂, rfl, k₂, i₂, r₂, rfl⟩ := p
    have k₂' := keep_all0 k₂
    have F₂ := F₁.keep k₂ i₂
    obtain ⟨t, rfl⟩ := r₂.str_inv
    have eu₂ := k₂' _ _ (k₁' _ _ eu)
    refine wpAny_setItem_pairs (s := { s with heap := h₂, toks := t₂ }) (knd := strKind prog w) (k := l) (kvs := []) (strKind_is prog w l t) (used_nil eu₂) (fun h₃ hm hs => ?_) (Nat.zero_le _)
    have F₃ := F₂.but ⟨_, _, _, eu₂, rfl⟩ nu nul hs.2
    have fsz : small ([] ++ gs.map rowD) = true := small_short (by rw [List.nil_append, List.length_map]; exact sm)
    refine step1 (s := { s with heap := h₃, toks := t₂ + 1 }) (r_asgc 5 [Str.ofString "row"] [(Str.ofString "label", 4)] co rfl hk nodup_lead hn (r_seq (r_var 5 rfl nd_rows)) (r_gname 0 rfl hrow (by decide +kernel))
      (r_ts1 (r_tbool (r_aand (r_tcmp (r_sub (r_var 0 rfl nd_row) r_int) (r_var 1 rfl nd_label)) (r_aand (r_tcmp (r_var 1 rfl nd_label) r_str) r_aand0)))) (r_var 0 rfl nd_row) hl) ok R F₃
      (N := fun m => m = [some (hdl c), some tup, some (.str kind), some (.int 5), some (.str l), some (.list ((hitsOf l gs).map rowD))]) ?_ ?_
    · have fs : small (gs.map rowD) = true := fsz
      have key : ∀ Q : PyData → Prop, Q (.list ((hitsOf l gs).map rowD)) → compQ (gName 0) tHit (eV 0) (gs.map rowD) [] [none, some (.str l)] Q := fun Q q =>
        comp_filterC (M := [some (.str l)]) (fun p _ => ⟨by obtain ⟨a, b⟩ := p; cases a <;> rfl, fun Q q => tHit_ok q⟩) fsz q
      exact ⟨rfl, fs, key _ ⟨rfl, rfl⟩⟩
    · rintro _ h₄ t₄ rfl kl₄ F₄
      refine wpAny_execs_nil (k h₄ t₄ (fun b ob nb nl e => kl₄ b ob List.not_mem_nil nl ((hs.2 b nb).trans (k₂' b ob (k₁' b ob e)))) ?_ F₄)
      obtain ⟨o', es, ep, e, r⟩ := hm
      exact ⟨o', es, ep, kl₄ u _ List.not_mem_nil nul e, r⟩
end
end Mine

namespace Mine
theorem leads_step (kind : Str) (lab : Option Str) (rows : List LRow) : stepOf lab (goalsOf kind rows) = leads kind lab rows := by cases lab <;> rfl
def NoCell (o : Obj) : Prop := ∀ c, o.data ≠ .cell c
/-- the names of a fault -/
def NamesAt (h : Heap) (fd : Addr) : Prop := ∃ o t, h.get? fd = some o ∧ (∃ es k, o.data = .dict es k) ∧ lookIn (Str.ofString "spot") o = some (some (.int 5 t))
theorem NamesAt.up {h h' : Heap} {fd : Addr} (x : NamesAt h fd) (k : h.UpToSlots h') : NamesAt h' fd := by
  obtain ⟨⟨c, d, da, sl⟩, t, e, ⟨es, n, dt⟩, l⟩ := x
  dsimp only at dt
  subst dt
  obtain ⟨sl', e'⟩ := k fd _ e (fun vs z => by cases z)
  exact ⟨_, t, e', ⟨es, n, rfl⟩, l⟩
theorem NamesAt.same {h h' : Heap} {fd : Addr} (x : NamesAt h fd) (k : h'.get? fd = h.get? fd) : NamesAt h' fd := let ⟨o, t, e, r⟩ := x; ⟨o, t, k.trans e, r⟩
/-- what a fault on its way leaves -/
structure Thrown (w : World) (base : Heap) (l : List Env) (h h' : Heap) (u : Addr) (lab : Option Str) (e : Addr) : Prop where
  all : ∃ fd B, Fly fd B l e .none h' ∧ base.StaysIn B ∧ UsedAt w B u lab ∧ NamesAt h' fd ∧ ∀ L m, L ≠ u → h.Ns L m → L ≠ fd
  ns : ∀ L m, L ≠ u → h.Ns L m → h'.Ns L m
theorem ns_keep {h h' : Heap} {L : Addr} {m : Str → Option Value} (n : h.Ns L m) (k : ∀ o, h.get? L = some o → NoCell o → h'.get? L = some o) : h'.Ns L m := by
  obtain ⟨o, es, ep, ho, hd, r⟩ := n
  exact ⟨o, es, ep, k o ho (fun c z => by rw [hd] at z; cases z), hd, r⟩
section
variable {base : Heap} {w : World} {e1 e2 : Env} {E : Value → Shared → Prop} {s : Shared}
theorem lead_ok (G : Gnd (KK w) base) (Kb : base.get? (nat_lit 0) = some ⟨.type "dict", none, .dict (bEs w.params) 159, #[]⟩) {c d u o : Addr} {od : Obj} (Y : Chk base c d u o od) {us : Array Value} {k : Nat} (eo : base.get? o = some { cls := .type "list", data := .seq us k }) {rows : List LRow} (ra : ReadsAll base us.toList (rows.map rowD) []) (hr : rows.all okRow = true) (sm : rows.length ≤ 100)
    (nu : base.get? u = none) (st : base.StaysIn s.heap) (eu : s.heap.get? u = some emptyDict) {L1 L2 : Addr} {m1 m2 : Str → Option Value} (f2 : e2.frame = some L2) (f1 : e1.frame = some L1) (g2 : e2.scope.kind = .function) (g1 : e1.scope.kind = .function) (n2 : s.heap.Ns L2 m2) (n1 : s.heap.Ns L1 m1) (u2 : L2 ≠ u) (u1 : L1 ≠ u) (b2 : base.get? L2 = none) (b1 : base.get? L1 = none) {kind : Str} {lab : Option Str} (hk : kind.length ≤ 100) {vt : Value} (rt : VR (ext0 base) s.heap vt (.tuple [.str kind, .int 5, oD lab])) (R : Room 3 ((callerA.deeper e1).deeper e2)) {P : Value → Shared → Prop}
    (hP : leads kind lab rows ≠ [] → ∀ h' tk', (∀ L m, L ≠ u → s.heap.Ns L m → h'.Ns L m) → base.StaysIn h' → UsedAt w h' u lab → P .none { s with heap := h', toks := tk' })
    (hE : leads kind lab rows = [] → ∀ e h' tk', Thrown w base [e2, e1] s.heap h' u lab e → E (.ref e) { s with heap := h', toks := tk' }) :
    wpAny (model prog w) ((callerA.deeper e1).deeper e2) (call (.ref 137) [.ref c, vt]) P E s := by
  refine entry_rawC (n := 2) (X := ext0 base) (xs := [Str.ofString "self", Str.ofString "statement"]) (rest := [Str.ofString "kind", Str.ofString "spot", Str.ofString "label", Str.ofString "rows"]) (dsF := [hdl c, .tuple [.str kind, .int 5, oD lab]]) G rfl (by kernel_rfl) R st trivial (by rfl) (.cons (.hnd c) (.cons rt .nil)) nodup_lead rfl (by decide +kernel) (by kernel_rfl) (by kernel_rfl) (by kernel_rfl) fun env h₀ tk ok sk ef R' F C k₀ fresh => ?_
  have nl : ∀ b ob, s.heap.get? b = some ob → b ≠ env.locals := fun b ob e z => by rw [z, fresh] at e; cases e
  refine stmt_unpack (s := { s with heap := h₀, toks := tk }) [(Str.ofString "kind", ⟨105, 8, 105, 12⟩, 2), (Str.ofString "spot", ⟨105, 14, 105, 18⟩, 3), (Str.ofString "label", ⟨105, 20, 105, 25⟩, 4)] ok R' C F nodup_lead (by unfold NmsOK; decide +kernel) (r_var 1 rfl nd_statement)
    (N := fun ds => ds = [.str kind, .int 5, oD lab]) ⟨_, rfl, rfl, by cases lab <;> rfl, rfl⟩ (by rfl) (by rfl) (by rfl) ?_
  rintro _ h₁ t₁ rfl kc₁ C₁ F₁
  have k₁ : ∀ b ob, NoCell ob → s.heap.get? b = some ob → h₁.get? b = some ob := fun b ob n e => kc₁ b ob List.not_mem_nil (nl b ob e) n (k₀ b ob e)
  have fs : small (rows.map rowD) = true := small_short (by rw [List.length_map]; exact sm)
  refine step1 (s := { s with heap := h₁, toks := t₁ }) (r_asgc 5 [Str.ofString "row"] [(Str.ofString "kind", 2)] ⟨by kernel_rfl, by decide +kernel, by decide +kernel, by decide +kernel, by decide +kernel, by decide +kernel⟩ rfl (by kernel_rfl) nodup_lead (by kernel_rfl) (r_seq (r_open (rows := rows) G Y eo ra List.not_mem_nil (i := 0) rfl nd_self)) (r_gname 0 rfl (by kernel_rfl) (by decide +kernel))
      (r_ts1 (r_tbool (r_aor (r_tcmp (r_var 1 rfl nd_kind) r_str) (r_aor (r_tcmp (r_sub (r_var 0 rfl nd_row) r_int) (r_glob G (by kernel_rfl) (ns_LOOPS w) rfl (reads_LOOPS G.K) (by kernel_rfl))) r_aor0)))) (r_var 0 rfl nd_row)) ok R' F₁
      (N := fun m => m = [some (hdl c), some (.tuple [.str kind, .int 5, oD lab]), some (.str kind), some (.int 5), some (oD lab), some (.list ((goalsOf kind rows).map rowD))]) ?_ ?_
  · have key : ∀ Q : PyData → Prop, Q (.list ((goalsOf kind rows).map rowD)) → compQ (gName 0) (tGoal (.tuple [.str zFor, .str zRange])) (eV 0) (rows.map rowD) [] [none, some (.str kind)] Q := fun Q q =>
      comp_filterC (M := [some (.str kind)]) (fun p _ => ⟨by obtain ⟨a, b⟩ := p; cases a <;> rfl, fun Q q => tGoal_ok (.inl rfl) q⟩) fs q
    exact ⟨rfl, rfl, fs, key _ ⟨rfl, rfl⟩⟩
  rintro _ h₂ t₂ rfl kl₂ F₂
  have k₂ : ∀ b ob, NoCell ob → s.heap.get? b = some ob → h₂.get? b = some ob := fun b ob n e => kl₂ b ob List.not_mem_nil (nl b ob e) (k₁ b ob n e)
  have nuL : u ≠ env.locals := nl u _ eu
  have hg : (goalsOf kind rows).all okRow = true := okRow_filter hr
  have hl : (leads kind lab rows).all okRow = true := by
    rw [← leads_step]; cases lab with
    | none => exact hg
    | some l => exact okRow_filter hg
  refine lead_mid (s := { s with heap := h₂, toks := t₂ }) G ok R' F₂ Y (k₂ _ _ (fun c z => by cases z) eu) nu nuL (Nat.le_trans (List.length_filter_le _ _) sm) (by kernel_rfl) ⟨by kernel_rfl, by decide +kernel, by decide +kernel, by decide +kernel, by decide +kernel, by decide +kernel⟩ (by kernel_rfl) (by kernel_rfl) rfl fun h₃ t₃ kk₃ ud F₃ => ?_
  have k₃ : ∀ b ob, b ≠ u → NoCell ob → s.heap.get? b = some ob → h₃.get? b = some ob := fun b ob nb n e => kk₃ b ob nb (nl b ob e) (k₂ b ob n e)
  rw [leads_step] at F₃
  refine lead_tail (s := { s with heap := h₃, toks := t₃ }) G Kb ok R' F₃ hl hk (by kernel_rfl) (fun hne h₄ t₄ k₄ => ?_) fun heq h₄ e fd fo t h₅ t₅ k₄ F₄ k₅ V => ?_
  · refine hP hne h₄ t₄ (fun L m nu n => ns_keep n fun o e q => k₄ _ _ (k₃ L o nu q e)) (fun b ob e => k₄ _ _ (F₃.stays b ob e)) ?_
    obtain ⟨o', es, ep, e, r⟩ := ud
    exact ⟨o', es, ep, k₄ _ _ e, r⟩
  · have kk : ∀ b ob, b ≠ u → NoCell ob → s.heap.get? b = some ob → h₄.get? b = some ob := fun b ob nb n e => k₄ b ob (k₃ b ob nb n e)
    have kk5 : ∀ b ob, b ≠ u → NoCell ob → s.heap.get? b = some ob → h₅.get? b = some ob := fun b ob nb n e => k₅ b ob (kk b ob nb n e)
    have ltL : ∀ {L m}, s.heap.Ns L m → L ≠ env.locals := fun n => by obtain ⟨o, _, _, e, _⟩ := n; exact nl _ _ e
    have ns5 : ∀ L m, L ≠ u → s.heap.Ns L m → h₅.Ns L m := fun L m nu n => ns_keep n fun o e q => kk5 L o nu q e
    obtain ⟨mv, hn⟩ := F₄.ns
    have hn5 : h₅.Ns env.locals mv := ns_keep hn fun o e _ => k₅ _ _ e
    have fin : ∀ b, b ∈ [env.locals, L2, L1] ∨ b ∉ [env.locals, L2, L1] := fun b => Decidable.em _
    have obj : ∀ {L m}, h₅.Ns L m → ∃ o, h₅.get? L = some o ∧ ∀ vs, o.data ≠ .fields vs := fun n => by
      obtain ⟨o, es, ep, e, d, _⟩ := n
      exact ⟨o, e, fun vs z => by rw [d] at z; cases z⟩
    obtain ⟨oE, hE5, dE⟩ := obj hn5
    obtain ⟨o2, h25, d2⟩ := obj (ns5 _ _ u2 n2)
    obtain ⟨o1, h15, d1⟩ := obj (ns5 _ _ u1 n1)
    have hid : ∀ b, b ∈ [env.locals, L2, L1] → (hideAll h₄ [env.locals, L2, L1]).get? b = none := fun b hb => hideAll_none _ hb
    have notm : ∀ {k : ScopeKind}, k = .function → k ≠ .module := fun e z => by rw [e] at z; cases z
    obtain ⟨a, he⟩ := V.ge
    refine leave_first (d := fd) (base := hideAll h₄ [env.locals, L2, L1]) (outer := [e2, e1]) (L := env.locals) rfl
      ⟨notm sk, ⟨_, oE, ef, hid _ (.head _), hE5, dE⟩, notm g2, ⟨_, o2, f2, hid _ (.tail _ (.head _)), h25, d2⟩, notm g1, ⟨_, o1, f1, hid _ (.tail _ (.tail _ (.head _))), h15, d1⟩, trivial⟩ ef
      (fun b ob e => k₅ _ _ (of_hideAll _ e)) (by
        cases q : (hideAll h₄ [env.locals, L2, L1]).get? e with
        | none => rfl
        | some o => have := of_hideAll _ q; rw [V.ne] at this; cases this) he ⟨rfl, rfl⟩ rfl rfl fun h₆ x up => ?_
    obtain ⟨es, kd, rfl⟩ := V.dd
    obtain ⟨sl, efd⟩ := up fd _ V.gd (fun vs z => by cases z)
    have nuL : u ∉ [env.locals, L2, L1] := fun hm => by
      rcases List.mem_cons.mp hm with z | hm
      · exact nuL z
      · rcases List.mem_cons.mp hm with z | hm
        · exact u2 z.symm
        · exact u1 (List.mem_singleton.mp hm).symm
    refine hE heq e h₆ t₅ ⟨⟨fd, _, x, fun b ob e => hideAll_get _ (F₄.stays b ob e) fun hm => ?_, ?_, ⟨_, t, efd, ⟨es, kd, rfl⟩, V.spot⟩, fun L m nu n z => ?_⟩, fun L m nu n => up.ns (ns5 L m nu n)⟩
    · rcases List.mem_cons.mp hm with z | hm
      · rw [z, F₄.lnew] at e; cases e
      · rcases List.mem_cons.mp hm with z | hm
        · rw [z, b2] at e; cases e
        · rw [List.mem_singleton.mp hm, b1] at e; cases e
    · obtain ⟨o', es, ep, e, r⟩ := ud
      exact ⟨o', es, ep, hideAll_get _ (k₄ _ _ e) nuL, r⟩
    · obtain ⟨o', es', ep', e', d', _⟩ := n
      have := kk L o' nu (fun c q => by rw [d'] at q; cases q) e'
      rw [z, V.nd] at this; cases this
end
end Mine

namespace Mine
theorem find_spot (w : World) {od : Obj} {v : Value} (e : lookIn (Str.ofString "spot") od = some (some v)) : findObj (KK w) 52 (some od) (Str.ofString "spot") = some (.value v) := by
  have e1 : findObj (KK w) 52 (some od) (Str.ofString "spot") = ((lookIn (Str.ofString "spot") od).bind fun own => match own with | some v => some (.value v) | none => some .missing) := by kernel_rfl
  rw [e1, e]; rfl
theorem ga_slot : Slot "Exception" "__getattribute__" "BaseException.__getattribute__" := PySem.Slot.of (owner := "BaseException") (n := "__getattribute__") (by rw [typeLookup_type, builtinLookup_eq_fast]; kernel_rfl) (by decide +kernel) (by decide +kernel) (by decide +kernel) (.inl (by decide +kernel)) (by rw [isSubtype_type]; kernel_rfl)
section
variable {w : World} {A : Around} {E : Value → Shared → Prop} {s : Shared}
theorem get_spot {x : Addr} {ox od : Obj} {v : Value} {Q : Value → Shared → Prop} {ex : Bool} (X : (KK w).In s.heap) (I : InstAt s.heap x ox 52 (some od)) (e : lookIn (Str.ofString "spot") od = some (some v)) (hh : handedIn v = true) (h : Q v { s with toks := s.toks + 1 }) :
    wpAny (model prog w) A (getAttr (.ref x) (Str.ofString "spot") ex) Q E s := by
  obtain ⟨hp, g, d, t, os⟩ := s
  have L0 := I.type (M := model prog w)
  have L1 : Looks (model prog w) hp (typeLookup (.ref 52) "__getattribute__") (some (.builtin "BaseException.__getattribute__")) := looks_findIn (M := model prog w) X (by kernel_rfl)
  have L2 : Looks (model prog w) hp (typeLookup (.ref 52) "__getattr__") none := looks_findIn (M := model prog w) X (by kernel_rfl)
  have L3 := looks_find (M := model prog w) X I (find_spot w e)
  have L4 : Looks (model prog w) hp (isInstance (.ref x) (.type "BaseException")) true := L0.andThen (looks_mroIn X (is52 w _ (.inl rfl)))
  unfold getAttr getAttrBy
  refine wpAny_bind (wpAny_mkText (wpAny_holding (wpAny_bind (L0.at (wpAny_bind (L1.at ?_))))))
  have hb : (onTheHeap (Value.ref 52) && Value.builtin "BaseException.__getattribute__" == Value.builtin "object.__getattribute__") = false := by decide +kernel
  dsimp only
  rw [hb, if_neg (by decide)]
  unfold getAttrByItsOwn hookBefore callGetattribute boundAndCalled
  refine wpAny_bind ?_
  rw [show onTheHeap (Value.ref 52) = true from rfl, if_pos rfl]
  refine L2.at (wpAny_bind (wpAny_attempt (wpAny_holding ?_)))
  have hx : (ex && onTheHeap (Value.builtin "BaseException.__getattribute__")) = false := by cases ex <;> rfl
  rw [hx, if_neg (by decide), ga_slot.bind]
  refine wpAny_bind (wpAny_pure (wpAny_call ?_))
  refine codeAny_call_builtin ga_slot.plain PySem.F.entry_bexc_ga (@check_slot (model prog w) _ _ _ "BaseException.__getattribute__" "BaseException" "__getattribute__" (.ref x) [_] [] _ (by decide +kernel) (by decide +kernel) L4 (PySem.F.args_bexc_ga (.ref x) _) ?_)
  refine wpAny_bind (wpAny_pure (wpAny_bind (wpAny_pure (wpAny_bind (L0.at (wpAny_bind (L3.at ?_)))))))
  refine wpAny_pure ?_
  show wpAny _ _ (handedOut v) _ _ _
  rw [handedOut_of hh]; exact wpAny_pure h
end
end Mine

namespace Mine
def usedKV : Option Str → List (Str × Value)
  | none => []
  | some l => [(l, .bool true)]
def eUsed (i j : Nat) (c : Addr) (lab : Option Str) : ED := fun m Q => m[i]? = some (some (hdl c)) ∧ m[j]? = some (some (oD lab)) ∧ Q (.bool true)
section
variable {base : Heap} {w : World} {X : Ext base} {n : Nat} {sc : Scope} {vs : List Str}
theorem low_push {h : Heap} (e : ∃ o, h.get? sysModules = some o) : (h.objs.size == sysModules) = false := by
  obtain ⟨o, e⟩ := e
  exact beq_eq_false_iff_ne.mpr (Nat.ne_of_gt (Heap.lt_size e))
theorem hits_used {A : Around} {s : Shared} : ∀ lab : Option Str, KeqHits A s (usedKV lab) (usedKV lab) true
  | none => .nil
  | some l => by
    have : KeqHits A s (usedKV (some l)) (usedKV (some l)) (PyData.eqv (.bool true) (.bool true) && true) :=
      .hit (y := .bool true) (by show (([(l, Value.bool true)] : List (Str × Value)).find? fun kv => kv.1 = l).map (·.2) = _; simp) (keq_flat (fun _ => .bool true) (fun _ => .bool true)) .nil
    exact this
theorem r_used {x y : Str} {i j : Nat} {p1 p2 p3 p4 p5 p6 p7 p8 p9 p10 p11 : Pos} {k1 k2 : Nat} (G : Gnd (KK w) base) {c d u o : Addr} {od : Obj} (Y : Chk base c d u o od) {lab : Option Str} (U : UsedAt w base u lab) (e1 : ∃ ob, base.get? sysModules = some ob) (u1 : (u == sysModules) = false)
    (hi : vs[i]? = some x) (hd : (x == ("__debug__" : Str)) = false) (hj : vs[j]? = some y) (hd2 : (y == ("__debug__" : Str)) = false) :
    DE prog w X n sc vs (.Compare (.Attribute (.Name x p1) (Str.ofString "used") p2) [.Eq] [.IfExp (.Compare (.Name y p3) [.Is] [.Constant .none k1 p4] p5) (.Dict [] [] p6) (.Dict [some (.Name y p7)] [.Constant (.bool true) k2 p8] p9) p10] p11) (eUsed i j c lab) := by
  constructor
  intro env A E s m Q ok R F ⟨hm, hm2, hQ⟩
  have Y' : Chk s.heap c d u o od := ⟨F.stays _ _ Y.gc, F.stays _ _ Y.gd, Y.used, Y.opn, Y.dd, Y.nolead⟩
  have U0 : ∀ {h : Heap}, base.StaysIn h → h.DictOf (strKind prog w) u (usedKV lab) := fun st => by
    obtain ⟨o', es, ep, e, r⟩ := U
    exact ⟨o', es, ep, st _ _ e, by cases lab <;> exact r⟩
  have S0 : ∀ {h : Heap}, base.StaysIn h → ∃ o, h.get? sysModules = some o := fun st => let ⟨o, e⟩ := e1; ⟨o, st _ _ e⟩
  refine wpAny_Compare1 (attr_chk G ok F hi hm hd Y' (.inl rfl) Y.used rfl ?_) rfl
  refine wpAny_IfExp (thenT ((r_tcmp (r_var j hj hd2) r_none).1 env A E { s with toks := s.toks + 1 } m (fun b => b = lab.isNone) ok R F (by
    show getV m j _
    unfold getV
    rw [hm2]
    cases lab <;> rfl)) fun b h₁ t₁ k₁ i₁ q₁ => ?_)
  have F₁ := F.keep k₁ i₁
  subst q₁
  have fin : ∀ {h' : Heap} {t' : Nat} {d2 : Addr}, Keep X s.heap h' → X.I h' → base.StaysIn h' → h'.DictOf (strKind prog w) d2 (usedKV lab) → (d2 == sysModules) = false → wpAny (model prog w) A (compareOp .Eq (.ref u) (.ref d2)) (PostE X s Q) E { s with heap := h', toks := t' } := fun {h' t' d2} k i st D2 l2 =>
    keq_eq (s := { s with heap := h', toks := t' }) u1 l2 (U0 st) D2 (by have := R.units; omega) (fun _ => hits_used lab) (by
      rw [beq_self_eq_true, Bool.true_and]
      exact ⟨_, h', t', rfl, k, i, vr_flat0 rfl (.bool _), hQ⟩)
  cases lab with
  | none =>
    refine wpAny_Dict_empty ?_
    have k₂ := Keep.push (X := X) h₁ emptyDict
    exact fin (k₁.trans k₂) (inv_push i₁ _) (fun b o e => Heap.get?_push_of_some _ (F₁.stays b o e)) (used_nil (Heap.get?_push_size _ rfl)) (low_push (S0 F₁.stays))
  | some l =>
    have k₂ := Keep.push (X := X) h₁ emptyDict
    have F₂ := F₁.keep k₂ (inv_push i₁ _)
    refine wpAny_Dict_pairs (knd := strKind prog w) (pairs := [(eval (.Name y p7) env, do let x ← eval (.Constant (.bool true) k2 p8) env; standAt p9; pure x)]) (by rfl) (by intro h; cases h) (by show 1 ≤ 15; decide) ?_
    unfold evalPairs
    refine wpAny_bind (wpAny_mono (den_var y j p7 hj hd2 env A E { s with heap := h₁.push emptyDict, toks := t₁ } m (fun d => d = .str l) ok R F₂ (by show getV m j _; unfold getV; rw [hm2]; rfl)) (fun v s₃ p => ?_) fun _ _ x => x)
    obtain ⟨_, h₃, t₃, rfl, k₃, i₃, r₃, rfl⟩ := p
    obtain ⟨t, rfl⟩ := r₃.str_inv
    have F₃ := F₂.keep k₃ i₃
    refine wpAny_bind (wpAny_holding (wpAny_bind (wpAny_Constant_bool (wpAny_bind (wpAny_standAt (wpAny_pure ?_))))))
    have eD : h₃.get? h₁.objs.size = some emptyDict := k₃ _ _ (new_off i₁) (Heap.get?_push_size _ rfl)
    unfold evalPairs
    refine wpAny_bind (wpAny_holding (wpAny_pure (wpAny_pure ⟨[(l, .bool true)], ⟨strKind_is prog w l t, rfl, trivial⟩, used_nil eD, fun h₄ D4 hs => ?_⟩)))
    have nb : base.get? h₁.objs.size = none := by
      cases e : base.get? h₁.objs.size with
      | none => rfl
      | some o => exact absurd (Heap.lt_size (F₁.stays _ _ e)) (Nat.lt_irrefl _)
    have k₄ : Keep X s.heap h₄ := fun b o nw e => by
      have e1 := k₁ b o nw e
      exact (hs.2 b (Nat.ne_of_lt (Heap.lt_size e1))).trans (k₃ b o nw (k₂ b o nw e1))
    refine fin k₄ ?_ (fun b o e => (hs.2 b fun z => by rw [z, nb] at e; cases e).trans (F₃.stays b o e)) D4 (low_push (S0 F₁.stays))
    exact X.stable _ _ i₃ fun b hb o e => (hs.2 b fun z => new_off i₁ (z ▸ hb)).trans e
end
end Mine

namespace Mine
abbrev vsR : List Str := [Str.ofString "reel"] ++ [Str.ofString "checker", Str.ofString "rows", Str.ofString "turn", Str.ofString "kind", Str.ofString "label", Str.ofString "goals", Str.ofString "is_led", Str.ofString "told", Str.ofString "fault"]
def scR : Scope := fScope (sAt pwB 31)
theorem nodup_vsR : vsR.Nodup := by decide +kernel
theorem nd_checker : (Str.ofString "checker" == ("__debug__" : Str)) = false := by kernel_rfl
theorem nd_is_led : (Str.ofString "is_led" == ("__debug__" : Str)) = false := by kernel_rfl
theorem nd_fault : (Str.ofString "fault" == ("__debug__" : Str)) = false := by kernel_rfl
theorem nd_goals : (Str.ofString "goals" == ("__debug__" : Str)) = false := by kernel_rfl
def toldD (led : Bool) : PyData := match led with | true => .none | false => .int 5
theorem gnd_sub {K : Frag} {base base' : Heap} (G : Gnd K base) (st : base.StaysIn base') : Gnd K base' :=
  ⟨G.K.keeps st, G.nolim.keeps st, let ⟨mg, h⟩ := G.g; ⟨mg, h.keeps st⟩, let ⟨mb, h, e⟩ := G.b; ⟨mb, h.keeps st, e⟩⟩
section
variable {base : Heap} {w : World} {n : Nat} {A : Around} {E : Value → Shared → Prop} {s : Shared} {env : Env}
theorem llr_end {ss : List Stmt} {q1 q2 q3 q4 q5 q6 q7 q8 q9 q10 q11 q12 q13 q14 q15 q16 q17 q18 q19 : Pos} {j1 j2 j3 j4 : Nat} {P : Flow → Shared → Prop} (G : Gnd (KK w) base) (K1 : ∃ ob, base.get? sysModules = some ob) (ok : EnvOK scR env) (R : Room n A) (st : base.StaysIn s.heap) (lnew : base.get? env.locals = none) {mv : Str → Option Value} (hn : s.heap.Ns env.locals mv) {c d u o : Addr} {od : Obj} (Y : Chk s.heap c d u o od)
    (cl : c ≠ env.locals) (dl : d ≠ env.locals) (ul : u ≠ env.locals) (nu : base.get? u = none) {lab : Option Str} (U : UsedAt w s.heap u lab) {vl vt : Value} {led : Bool} (m1 : mv (Str.ofString "checker") = some (.ref c)) (m5 : mv (Str.ofString "label") = some vl) (rl : Reads s.heap vl (oD lab) [])
    (m7 : mv (Str.ofString "is_led") = some (.bool led)) (m8 : mv (Str.ofString "told") = some vt) (r8 : Reads s.heap vt (toldD led) [])
    (h : ∀ h' tk', base.StaysIn h' → P (.ret (.bool true)) { s with heap := h', toks := tk' }) :
    wpAny (model prog w) A (execs (.Return (some (.BoolOp .And [.Compare (.Name (Str.ofString "told") q1) [.Eq] [.IfExp (.Name (Str.ofString "is_led") q2) (.Constant .none j1 q3) (.Constant (.int 5) j2 q4) q5] q6,
      .Compare (.Attribute (.Name (Str.ofString "checker") q7) (Str.ofString "used") q8) [.Eq] [.IfExp (.Compare (.Name (Str.ofString "label") q9) [.Is] [.Constant .none j3 q10] q11) (.Dict [] [] q12) (.Dict [some (.Name (Str.ofString "label") q13)] [.Constant (.bool true) j4 q14] q15) q16] q17] q18)) q19 :: ss) env) P E s := by
  have hid : ∀ b ob, b ≠ env.locals → s.heap.get? b = some ob → (hideAll s.heap [env.locals]).get? b = some ob := fun b ob nb e => hideAll_get _ e fun z => nb (List.mem_singleton.mp z)
  have sb : base.StaysIn (hideAll s.heap [env.locals]) := fun b ob e => hid b ob (fun z => by rw [z, lnew] at e; cases e) (st b ob e)
  have st' : (hideAll s.heap [env.locals]).StaysIn s.heap := fun b ob e => of_hideAll _ e
  have hl : (hideAll s.heap [env.locals]).get? env.locals = none := hideAll_none _ (.head _)
  have Y' : Chk (hideAll s.heap [env.locals]) c d u o od := ⟨hid _ _ cl Y.gc, hid _ _ dl Y.gd, Y.used, Y.opn, Y.dd, Y.nolead⟩
  have U' : UsedAt w (hideAll s.heap [env.locals]) u lab := by
    obtain ⟨o', es, ep, e, r⟩ := U
    exact ⟨o', es, ep, hid _ _ ul e, r⟩
  have u1 : (u == sysModules) = false := beq_eq_false_iff_ne.mpr fun z => by
    obtain ⟨ob, e⟩ := K1
    rw [z, e] at nu; cases nu
  generalize hideAll s.heap [env.locals] = B at hid sb st' hl Y' U'
  have F : FmOK (ext0 B) env vsR [none, some (hdl c), none, none, none, some (oD lab), none, some (.bool led), some (toldD led), none] s.heap := by
    refine ⟨st', trivial, ⟨mv, hn⟩, hl, fun i x d e1 e2 => ?_⟩
    have lv : ∀ {x v dd}, scR.names.lookup x = some .local → mv x = some v → VR (ext0 B) s.heap v dd → HasVar (ext0 B) env s.heap x dd := fun {x v dd} k e r => .inl ⟨ok.loc x k, mv, v, hn, e, r⟩
    match i, e1, e2 with
    | 1, e1, e2 => cases e1; cases e2; exact lv (by kernel_rfl) m1 (.hnd c)
    | 5, e1, e2 => cases e1; cases e2; exact lv (by kernel_rfl) m5 (.flat (by cases lab <;> rfl) rl)
    | 7, e1, e2 => cases e1; cases e2; exact lv (by kernel_rfl) m7 (.flat rfl (.bool _))
    | 8, e1, e2 => cases e1; cases e2; exact lv (by kernel_rfl) m8 (.flat (by cases led <;> rfl) r8)
    | i + 10, e1, e2 => simp at e2
  refine stepR (X := ext0 B) (r_ret (r_and2 (r_cmp (r_var 8 rfl nd_told) (r_ifexp (r_tval (r_var 7 rfl nd_is_led)) r_none r_int)) (r_used (i := 1) (j := 5) (gnd_sub G sb) Y' U' (let ⟨ob, e⟩ := K1; ⟨ob, sb _ _ e⟩) u1 rfl nd_checker rfl nd_label))) ok R F (N := fun d => d = .bool true) ?_ ?_
  · cases led
    · exact ⟨rfl, rfl, ⟨_, rfl, rfl⟩⟩
    · exact ⟨rfl, rfl, ⟨_, rfl, rfl⟩⟩
  · rintro v _ h' tk' rfl rv kl _
    cases rv.bool_inv
    exact h h' tk' fun b ob e => kl b ob List.not_mem_nil (fun z => by rw [z, lnew] at e; cases e) (st b ob e)
end
end Mine

namespace Mine
section
variable {base : Heap} {w : World} {X : Ext base} {n : Nat} {sc : Scope} {vs : List Str} {A : Around} {E : Value → Shared → Prop} {s : Shared} {env e1 : Env}
theorem var_at {m : Loc} {h : Heap} {mv : Str → Option Value} {i : Nat} {x : Str} {d : PyData} (ok : EnvOK sc env) (F : FmOK X env vs m h) (hn : h.Ns env.locals mv) (hi : vs[i]? = some x) (hk : sc.names.lookup x = some .local) (hm : m[i]? = some (some d)) : ∃ v, mv x = some v ∧ VR X h v d := by
  rcases F.vars i x d hi hm with ⟨_, mv', v, n', e, r⟩ | ⟨k, _⟩
  · rw [ns_unique hn n']; exact ⟨v, e, r⟩
  · rw [ok.loc x hk] at k; cases k
theorem leaf_reads {h h' : Heap} {v : Value} {lab : Option Str} (r : VR X h v (oD lab)) : Reads h' v (oD lab) [] := by
  cases lab with
  | none => rw [r.none_inv]; exact .none
  | some l => obtain ⟨t, rfl⟩ := r.str_inv; exact .str _ _
theorem name_flow {q : Pos} {P : Value → Shared → Prop} (G : Gnd (KK w) base) (ok : EnvOK scR env) (st : base.StaysIn s.heap) (h : P (.ref 52) s) : wpAny (model prog w) A (eval (.Name (Str.ofString "FlowFault") q) env) P E s := by
  obtain ⟨mg, hg⟩ := G.g
  have e : nsIn (KK w) mainGlobals (Str.ofString "FlowFault") = some (some (.ref 52)) := by kernel_rfl
  exact Name_function_global ok.kind (ok.gl _ (by kernel_rfl)) (loadGlobal_global (env := env) (by rw [ok.glob]; exact hg.keeps st) (mg_of G.K hg e) h) (by kernel_rfl)

/-- the suite of the except: told = fault.spot; then the name goes -/
theorem suite_ok {e : Addr} {fd : Addr} {B : Heap} {l : List Env} {mv : Str → Option Value} {q1 q2 q3 q4 q5 : Pos} {Q : Flow → Shared → Prop} {E' E2 : Value → Shared → Prop} {A2 : Around} (G : Gnd (KK w) base) (ok : EnvOK scR env) (sb : base.StaysIn B) (x : Fly fd B l e .none s.heap) (hn : s.heap.Ns env.locals mv) (N : NamesAt s.heap fd) (nfd : env.locals ≠ fd) (lb : B.get? env.locals = none)
    (h : ∀ h' tk' mv' t, (∀ b, b ≠ env.locals → h'.get? b = s.heap.get? b) → h'.Ns env.locals mv' → mv' (Str.ofString "told") = some (.int 5 t) → (∀ y, y ≠ Str.ofString "told" → y ≠ Str.ofString "fault" → mv' y = mv y) → Q .next { s with heap := h', toks := tk' }) :
    wpAny (model prog w) A (storeName env (Str.ofString "fault") (.ref e)) (fun _ s₃ => wpAny (model prog w) A (execs [.Assign [.Name (Str.ofString "told") q1] (.Attribute (.Name (Str.ofString "fault") q2) (Str.ofString "spot") q3) q4] env)
      (fun f s₄ => wpAny (model prog w) A2 (do bindName env (Str.ofString "fault") .none; unbindBehindTheSuite env (Str.ofString "fault") q5) (fun _ s₅ => Q f s₅) E2 s₄) E' s₃) E s := by
  have kf : env.kindOf (Str.ofString "fault") = some .local := ok.loc _ (by kernel_rfl)
  have kt : env.kindOf (Str.ofString "told") = some .local := ok.loc _ (by kernel_rfl)
  have tf : Str.ofString "told" ≠ Str.ofString "fault" := by decide +kernel
  refine wpAny_storeName_local kf hn (fun h₁ hn₁ s₁ => ?_) (kindOK ok)
  obtain ⟨oe, ws, he, io, dw⟩ := x.there
  have nle : e ≠ env.locals := fun z => by
    obtain ⟨oL, esL, kL, hL, dL⟩ := ns_data hn
    rw [z, hL] at he; cases he; rw [dL] at dw; cases dw
  have K₁ : (KK w).In h₁ := fun a o q => (s₁.2 a fun (z : a = env.locals) => by
    have := sb _ _ (G.K a o q)
    rw [z, lb] at this; cases this).trans (x.stays _ _ (sb _ _ (G.K a o q)))
  obtain ⟨fo, t, ef, _, el⟩ := N.same (s₁.2 fd (Ne.symm nfd))
  have I : InstAt h₁ e oe 52 (some fo) := ⟨(s₁.2 e nle).trans he, io.1, by unfold notCls; rw [dw], by rw [io.2]; exact ef⟩
  refine wpAny_execs_cons (wpAny_Assign_Name (Attribute_name (wpAny_Name (wpAny_loadName_local (s := { s with heap := h₁, toks := s.toks + 1 }) ok.kind kf hn₁ (if_pos rfl) (get_spot (s := { s with heap := h₁, toks := s.toks + 1 }) K₁ I el rfl ?_)) nd_fault)) (by rfl))
  refine wpAny_storeName_local (s := { s with heap := h₁, toks := s.toks + 1 + 1 }) kt hn₁ (fun h₂ hn₂ s₂ => wpAny_execs_nil ?_) (kindOK ok)
  refine wpAny_bind (wpAny_bindName (wpAny_storeName_local (s := { s with heap := h₂, toks := s.toks + 1 + 1 + 1 }) kf hn₂ (fun h₃ hn₃ s₃ => ?_) (kindOK ok)))
  unfold unbindBehindTheSuite
  refine wpAny_onRaise (wpAny_unbindName_local (s := { s with heap := h₃, toks := s.toks + 1 + 1 + 1 + 1 }) kf hn₃ (if_pos rfl) (kindOK ok) fun h₄ u hn₄ s₄ => ?_)
  refine h h₄ _ _ t (fun b nb => (s₄.2 b nb).trans ((s₃.2 b nb).trans ((s₂.2 b nb).trans (s₁.2 b nb)))) hn₄ ?_ fun y y1 y2 => ?_
  · show (if _ then _ else _) = _
    rw [if_neg tf, if_neg tf, if_pos rfl]
  · show (if _ then _ else _) = _
    rw [if_neg y2, if_neg y2, if_neg y1, if_neg y2]
end
end Mine

namespace Mine
section
variable {base : Heap} {w : World} {X : Ext base} {E : Value → Shared → Prop} {s : Shared} {env e1 : Env}
theorem llr_try {c d u o L1 r : Addr} {od : Obj} {us : Array Value} {k : Nat} {rows : List LRow} {t gd : Option PyData} {kind : Str} {lab : Option Str} {led : Bool} {m1 : Str → Option Value} {ss : List Stmt} {q1 q3 q4 q5 q6 q8 q9 q10 q11 q12 q13 q14 q15 p1 p2 p3 p4 p5 p6 p7 p8 p9 p10 p11 p12 p13 p14 p15 p16 p17 p18 p19 : Pos} {k1 k2 j1 j2 j3 j4 : Nat} {P : Flow → Shared → Prop}
    (G : Gnd (KK w) base) (Kb : base.get? (nat_lit 0) = some ⟨.type "dict", none, .dict (bEs w.params) 159, #[]⟩) (K1 : ∃ ob, base.get? sysModules = some ob) (ok : EnvOK scR env) (ef : env.frame = some env.locals) (sk : env.scope.kind = .function) (f1 : e1.frame = some L1) (g1 : e1.scope.kind = .function) (n1 : s.heap.Ns L1 m1) (b1 : base.get? L1 = none) (lL : L1 ≠ env.locals)
    (R : Room 8 ((callerA.deeper e1).deeper env)) (F : FmOK X env vsR [some (hdl r), some (hdl c), some (.list (rows.map rowD)), t, some (.str kind), some (oD lab), gd, some (.bool led), some .none, none] s.heap) (Y : Chk s.heap c d u o od) (eu : s.heap.get? u = some emptyDict) (eo : s.heap.get? o = some { cls := .type "list", data := .seq us k }) (ra : ReadsAll s.heap us.toList (rows.map rowD) [])
    (oc : Off X env c) (od' : Off X env d) (ou : Off X env u) (oo : Off X env o) (lc : L1 ≠ c ∧ L1 ≠ d ∧ L1 ≠ u ∧ L1 ≠ o) (lw : L1 ∉ X.W) (du : d ≠ u) (hr : rows.all okRow = true) (sm : rows.length ≤ 100) (hk : kind.length ≤ 100) (hled : led = !(leads kind lab rows).isEmpty)
    (h : ∀ h' tk', base.StaysIn h' → P (.ret (.bool true)) { s with heap := h', toks := tk' }) :
    wpAny (model prog w) ((callerA.deeper e1).deeper env) (execs (.Try [.Expr (.Call (.Attribute (.Name (Str.ofString "checker") q1) (Str.ofString "lead") ⟨232, 8, 232, 20⟩) [.Tuple [.Name (Str.ofString "kind") q3, .Constant (.int 5) k1 q4, .Name (Str.ofString "label") q5] k2 q6] [] ⟨232, 8, 232, 38⟩) q8]
      [.ExceptHandler (some (.Name (Str.ofString "FlowFault") q9)) (some (Str.ofString "fault")) [.Assign [.Name (Str.ofString "told") q10] (.Attribute (.Name (Str.ofString "fault") q11) (Str.ofString "spot") q12) q13] q14] [] [] q15 ::
      .Return (some (.BoolOp .And [.Compare (.Name (Str.ofString "told") p1) [.Eq] [.IfExp (.Name (Str.ofString "is_led") p2) (.Constant .none j1 p3) (.Constant (.int 5) j2 p4) p5] p6,
      .Compare (.Attribute (.Name (Str.ofString "checker") p7) (Str.ofString "used") p8) [.Eq] [.IfExp (.Compare (.Name (Str.ofString "label") p9) [.Is] [.Constant .none j3 p10] p11) (.Dict [] [] p12) (.Dict [some (.Name (Str.ofString "label") p13)] [.Constant (.bool true) j4 p14] p15) p16] p17] p18)) p19 :: ss) env) P E s := by
  refine wpAny_execs_cons (wpAny_Try_except (wpAny_execs_cons (wpAny_Expr (methodCall_KW (var_hdl ok F (i := 1) rfl rfl nd_checker (method_fn (G.K.keeps F.stays) Y.inst (ga_chk w) (by kernel_rfl) (f := 137) (by kernel_rfl) (by kernel_rfl) (by show (lookIn _ od).map _ = _; rw [Y.nolead]; rfl) ?_)) (by rfl)) (by rw [interactive, ok.kind]; rfl) rfl)))
  refine callWith_K (first := [.ref c]) G.K (by kernel_rfl) (wpAny_mono ((r_cons (r_tup (r_cons (r_var 4 rfl nd_kind) (r_cons r_int (r_cons (r_var 5 rfl nd_label) r_nil)))) r_nil).1 env _ _ s _ (fun ds => ds = [.tuple [.str kind, .int 5, oD lab]]) _ ok R F ⟨by cases lab <;> rfl, rfl, rfl⟩) (fun vs₁ s₁ p => ?_) fun _ _ x => x) rfl rfl
  obtain ⟨_, h₁, t₁, rfl, k₁, i₁, rv, rfl⟩ := p
  cases rv with | cons rt rn =>
  cases rn with | nil =>
  have F₁ := F.keep k₁ i₁
  refine ⟨G.K.keeps F₁.stays, ?_⟩
  obtain ⟨mv, hn⟩ := F₁.ns
  have eu₁ := k₁ _ _ ou.nw eu
  have eo₁ := k₁ _ _ oo.nw eo
  have gc₁ := k₁ _ _ oc.nw Y.gc
  have gd₁ := k₁ _ _ od'.nw Y.gd
  have n1₁ : h₁.Ns L1 m1 := ns_keep n1 fun o e _ => k₁ _ _ lw e
  have ra₁ := readsAll_seqs F.inv k₁.seqs ra (rows_lfs rows)
  have seqL : ∀ {L mm}, h₁.Ns L mm → ∀ b ob, h₁.get? b = some ob → (∃ vs n, ob.data = .seq vs n) → b ≠ L := fun n b ob e q z => by
    obtain ⟨oL, es, ep, eL, dL, _⟩ := n
    obtain ⟨_, _, q⟩ := q
    rw [z, eL] at e; cases e; rw [dL] at q; cases q
  have seqU : ∀ b ob, h₁.get? b = some ob → (∃ vs n, ob.data = .seq vs n) → b ≠ u := fun b ob e q z => by
    obtain ⟨_, _, q⟩ := q
    rw [z, eu₁] at e; cases e; cases q
  have cu : c ≠ u := fun z => by rw [z, eu₁] at gc₁; cases gc₁
  have hid : ∀ b ob, b ≠ u → b ≠ env.locals → b ≠ L1 → h₁.get? b = some ob → (hideAll h₁ [u, env.locals, L1]).get? b = some ob := fun b ob x1 x2 x3 e => hideAll_get _ e fun hm => by
    rcases List.mem_cons.mp hm with z | hm
    · exact x1 z
    · rcases List.mem_cons.mp hm with z | hm
      · exact x2 z
      · exact x3 (List.mem_singleton.mp hm)
  have stB : (hideAll h₁ [u, env.locals, L1]).StaysIn h₁ := fun b ob e => of_hideAll _ e
  have hu : (hideAll h₁ [u, env.locals, L1]).get? u = none := hideAll_none _ (.head _)
  have h2 : (hideAll h₁ [u, env.locals, L1]).get? env.locals = none := hideAll_none _ (.tail _ (.head _))
  have h1' : (hideAll h₁ [u, env.locals, L1]).get? L1 = none := hideAll_none _ (.tail _ (.tail _ (.head _)))
  generalize hideAll h₁ [u, env.locals, L1] = B at hid stB hu h2 h1'
  have bB : base.StaysIn B := fun b ob e => hid b ob (fun z => by rw [z, ou.nb] at e; cases e) (fun z => by rw [z, F.lnew] at e; cases e) (fun z => by rw [z, b1] at e; cases e) (F₁.stays b ob e)
  have YB : Chk B c d u o od := ⟨hid _ _ cu oc.nl (Ne.symm lc.1) gc₁, hid _ _ du od'.nl (Ne.symm lc.2.1) gd₁, Y.used, Y.opn, Y.dd, Y.nolead⟩
  have eoB := hid _ _ (seqU _ _ eo₁ ⟨_, _, rfl⟩) oo.nl (Ne.symm lc.2.2.2) eo₁
  have raB : ReadsAll B us.toList (rows.map rowD) [] := lfs_keep (fun b ob e _ q => hid b ob (seqU b ob e q) (seqL hn b ob e q) (seqL n1₁ b ob e q) e) ra₁ (rows_lfs rows)
  obtain ⟨vc, mc, rc⟩ := var_at ok F₁ hn (i := 1) rfl (by kernel_rfl) rfl
  obtain ⟨vl, ml, rl⟩ := var_at ok F₁ hn (i := 5) rfl (by kernel_rfl) rfl
  obtain ⟨vd, md, rd⟩ := var_at ok F₁ hn (i := 7) rfl (by kernel_rfl) rfl
  obtain ⟨vt, mt, rt'⟩ := var_at ok F₁ hn (i := 8) rfl (by kernel_rfl) rfl
  cases rc.hdl_inv
  cases rd.bool_inv
  cases rt'.none_inv
  have rtB : ∀ {v}, VR X h₁ v (.tuple [.str kind, .int 5, oD lab]) → VR (ext0 B) h₁ v (.tuple [.str kind, .int 5, oD lab]) := fun r => by
    cases r with
    | flat l r => exact .flat l r
  have chk : ∀ {h'}, (∀ b ob, b ≠ env.locals → B.get? b = some ob → h'.get? b = some ob) → Chk h' c d u o od := fun k => ⟨k _ _ oc.nl YB.gc, k _ _ od'.nl YB.gd, Y.used, Y.opn, Y.dd, Y.nolead⟩
  refine lead_ok (base := B) (s := { s with heap := h₁, toks := t₁ }) (gnd_sub G bB) (bB _ _ Kb) YB eoB raB hr sm hu stB eu₁ ef f1 sk g1 hn n1₁ (Ne.symm ou.nl) lc.2.2.1 h2 h1' hk (rtB rt) (R.less (by decide)) (fun hne h₂ t₂ ns st₂ U => ?_) fun heq e h₂ t₂ T => ?_
  · have hl : led = true := by
      rw [hled]
      cases q : leads kind lab rows with
      | nil => exact absurd q hne
      | cons => rfl
    subst hl
    refine wpAny_execs_nil (wpAny_execs_nil ?_)
    exact llr_end (s := { s with heap := h₂, toks := t₂ }) G K1 ok R (fun b ob e => st₂ _ _ (bB _ _ e)) F.lnew (ns _ _ (Ne.symm ou.nl) hn) (chk fun b ob _ e => st₂ _ _ e) oc.nl od'.nl ou.nl ou.nb U mc ml (leaf_reads rl) md mt .none h
  · have hl : led = false := by rw [hled, heq]; rfl
    subst hl
    obtain ⟨⟨fd, B₂, x, sB, U, N, nfd⟩, ns⟩ := T
    have lB₂ : B₂.get? env.locals = none := by
      cases q : B₂.get? env.locals with
      | none => rfl
      | some ob =>
        obtain ⟨_, ⟨L, o', f', b', _⟩, _⟩ := x.frames
        rw [ef] at f'; cases f'
        rw [q] at b'; cases b'
    have sb₂ : base.StaysIn B₂ := fun b ob e => sB _ _ (bB _ _ e)
    have hn₂ := ns _ _ (Ne.symm ou.nl) hn
    refine note_next (s := { s with heap := h₂, toks := t₂ }) (outer := [e1]) rfl ef x fun h₃ x₃ u₃ => ?_
    refine flight_off (s := { s with heap := h₃, toks := t₂ }) x₃ fun h₄ x₄ u₄ => ?_
    obtain ⟨oe, ws, he, io, _⟩ := x₄.there
    refine caught (s := { s with heap := h₄, toks := t₂ }) he io.1 ((gnd_sub G sb₂).K.keeps x₄.stays) (fun hp => name_flow (s := { s with heap := h₄, toks := t₂ }) G ok (fun b ob e => x₄.stays _ _ (sb₂ _ _ e)) hp) ?_
    refine flight_off (s := { s with heap := h₄, toks := t₂ }) x₄ fun h₅ x₅ u₅ => ?_
    have up := (u₃.trans u₄).trans u₅
    refine suite_ok (s := { s with heap := h₅, toks := t₂ }) G ok sb₂ x₅ (up.ns hn₂) (N.up up) (nfd _ _ (Ne.symm ou.nl) hn) lB₂ fun h₆ t₆ mv' tt sm₆ hn₆ m8 mo => ?_
    have kB : ∀ b ob, b ≠ env.locals → B₂.get? b = some ob → h₆.get? b = some ob := fun b ob nb e => (sm₆ b nb).trans (x₅.stays _ _ e)
    have U₆ : UsedAt w h₆ u lab := by
      obtain ⟨o', es, ep, e, r⟩ := U
      exact ⟨o', es, ep, kB _ _ ou.nl e, r⟩
    refine llr_end (s := { s with heap := h₆, toks := t₆ }) G K1 ok R (fun b ob e => kB b ob (fun z => by rw [z, F.lnew] at e; cases e) (sb₂ _ _ e)) F.lnew hn₆ (chk fun b ob nb e => kB b ob nb (sB _ _ e)) oc.nl od'.nl ou.nl ou.nb U₆ ((mo _ (by decide +kernel) (by decide +kernel)).trans mc) ((mo _ (by decide +kernel) (by decide +kernel)).trans ml) (leaf_reads rl) ((mo _ (by decide +kernel) (by decide +kernel)).trans md) m8 (.int _ _) h
end
end Mine

namespace Mine
def zLabs : List (Option Str) := [none, some (Str.ofString "A"), some (Str.ofString "B"), some zUnder]
def zKnds : List Str := [zFor, zRange, Str.ofString "switch", Str.ofString "choose"]
def zWays : List Str := [zBreak, Str.ofString "continue"]
theorem row_ok : ∀ a ∈ zLabs, ∀ k ∈ zKnds, okRow (a, k) = true := by decide +kernel
theorem lab_ok : ∀ a ∈ zLabs, shaped (oD a) = true := by decide +kernel
theorem way_ok : ∀ k ∈ zWays, k.length ≤ 100 := by decide +kernel
theorem led_eq (kind : Str) (lab : Option Str) (rows : List LRow) : (!(leads kind lab rows).isEmpty) = (match lab with
    | none => !(goalsOf kind rows).isEmpty
    | some l => (l != zUnder && (goalsOf kind rows).any fun p => p.1 == some l)) := by
  cases lab with
  | none => rfl
  | some l =>
    show (!(hitsOf l (goalsOf kind rows)).isEmpty) = _
    generalize goalsOf kind rows = gs
    dsimp only
    induction gs with
    | nil => show false = (l != zUnder && false); rw [Bool.and_false]
    | cons p r ih =>
      unfold hitsOf at ih ⊢
      rw [List.filter_cons, List.any_cons]
      cases e1 : p.1 == some l <;> cases e2 : l != zUnder
      · rw [e2] at ih; simpa [e1, e2] using ih
      · rw [e2] at ih; simpa [e1, e2] using ih
      · rw [e2] at ih; simpa [e1, e2] using ih
      · simp
def lLabs : PyData := .list [.none, .str (Str.ofString "A"), .str (Str.ofString "B"), .str (Str.ofString "_")]
def lKnds : PyData := .list [.str (Str.ofString "for"), .str (Str.ofString "range"), .str (Str.ofString "switch"), .str (Str.ofString "choose")]
def lWays : PyData := .list [.str (Str.ofString "break"), .str (Str.ofString "continue")]
def B_llr (C : CallD) : Addr → RD := gCons (gAppend 2 (eTup (lCons (eCall C 172 (lCons (eV 0) (lCons (eC lLabs) lNil))) (lCons (eCall C 172 (lCons (eV 0) (lCons (eC lKnds) lNil))) lNil)))) gNil
def mR (r c a : Addr) (t : Option PyData) : Loc := [some (hdl r), some (hdl c), some (hdl a), t, none, none, none, none, none, none]
theorem llr_loop {C : CallD} {r c a : Addr} {Q : Loc → List PyData → Flw → Prop} (ho : ∀ xs, 1 ≤ xs.length → small xs = true → ∀ Q : PyData → Prop, (∀ x ∈ xs, Q x) → C 172 [hdl r, .list xs] Q)
    (q : ∀ (rows : List LRow) (t : Option PyData), rows.all okRow = true → rows.length ≤ 3 → Q (mR r c a t) (rows.map rowD) .nxt) :
    ∀ (xs : List PyData) (t : Option PyData) (rows : List LRow), rows.all okRow = true → rows.length + xs.length ≤ 3 → gforQ (B_llr C a) 3 xs (mR r c a t) (rows.map rowD) Q := by
  intro xs
  induction xs with
  | nil => intro t rows h l; exact q rows t h l
  | cons d xs ih =>
    intro t rows h l
    show B_llr C a (mR r c a (some d)) (rows.map rowD) _
    refine ⟨rfl, ho (zLabs.map oD) (by decide) (by decide +kernel) _ fun x hx => ?_⟩
    obtain ⟨b, hb, rfl⟩ := List.mem_map.mp hx
    refine ho (zKnds.map .str) (by decide) (by decide +kernel) _ fun y hy => ?_
    obtain ⟨k, hk, rfl⟩ := List.mem_map.mp hy
    have l2 : lfs [oD b, .str k] = true := by cases b <;> rfl
    refine ⟨l2, rfl, l2, small_short (by rw [List.length_map]; omega), ?_⟩
    have := ih (some d) (rows ++ [(b, k)]) (by rw [List.all_append, h]; show (true && (okRow (b, k) && true)) = true; rw [row_ok b hb k hk]; rfl) (by rw [List.length_append]; simp at l ⊢; omega)
    rw [List.map_append] at this
    exact this
theorem swapped_cell {sc : Scope} {env : Env} (ok : EnvOK sc env) {x y : Str} {p1 p2 tp p3 : Pos} {k k2 : Nat} {e1 e2 : Expr} (hx : sc.names.lookup x = some .cell) (hy : sc.names.lookup y = some .local) (h1 : ∀ v p, e1 ≠ .Starred v p) (h2 : ∀ v p, e2 ≠ .Starred v p) :
    swappedStores [.Tuple [.Name x p1, .Name y p2] k tp] (.Tuple [e1, e2] k2 p3) env = pure none := by
  have kx := ok.cel x hx
  have ky := ok.loc y hy
  have hb : env.blockKind = .function := by rw [Env.blockKind, ok.kind]; rfl
  have c1 : (some NameKind.cell == some NameKind.local) = false := by decide
  unfold swappedStores
  simp only [List.length_cons, List.length_nil, hb, List.any_cons, List.any_nil, List.head?_cons, Option.map_some, Option.getD_some, Expr.pos, List.filterMap_cons, List.filterMap_nil, kx, ky, c1, Bool.false_and]
  simp
  split <;> simp
section
variable {base : Heap} {w : World} {X : Ext base} {vs : List Str}
/-- a list that will not change any more -/
theorem FmOK.asList {env : Env} {m : Loc} {h : Heap} {l : Addr} {us : Array Value} {k j : Nat} {ds : List PyData} (F : FmOK X env vs m h) (hm : m[j]? = some (some (hdl l))) (e : h.get? l = some { cls := .type "list", data := .seq us k }) (nw : l ∉ X.W) (ra : ReadsAll h us.toList ds []) (lf : lfs ds = true) : FmOK X env vs (m.set j (some (.list ds))) h := by
  refine ⟨F.stays, F.inv, F.ns, F.lnew, fun i x d e1 e2 => ?_⟩
  by_cases hi : i = j
  · subst hi
    obtain ⟨lt, q⟩ := List.getElem?_eq_some_iff.mp e2
    rw [List.getElem_set_self] at q
    cases q
    have vr : ∀ {v}, VR X h v (hdl l) → VR X h v (.list ds) := fun r => by rw [r.hdl_inv]; exact .lst nw e rfl rfl lf ra
    rcases F.vars i x _ e1 hm with ⟨kk, mv, v, n, ev, r⟩ | ⟨kk, c, v, ev, q, r⟩
    · exact .inl ⟨kk, mv, v, n, ev, vr r⟩
    · exact .inr ⟨kk, c, v, ev, q, vr r⟩
  · rw [List.getElem?_set_ne (Ne.symm hi)] at e2
    exact F.vars i x d e1 e2
end
end Mine

namespace Mine
theorem llr_for {C : CallD} {r c a : Addr} (hw : ∀ Q : PyData → Prop, (∀ k, 0 ≤ k → k < 4 → Q (.int k)) → C 165 [hdl r, .int 4] Q) (ho : ∀ xs, 1 ≤ xs.length → small xs = true → ∀ Q : PyData → Prop, (∀ x ∈ xs, Q x) → C 172 [hdl r, .list xs] Q) :
    gFor 3 (iRange (eCall C 165 (lCons (eV 0) (lCons (eC (.int 4)) lNil)))) (B_llr C) a (mR r c a none) [] fun m ds fl => fl = .nxt ∧ ∃ (rows : List LRow) (t : Option PyData), m = mR r c a t ∧ ds = rows.map rowD ∧ rows.all okRow = true ∧ rows.length ≤ 3 := by
  refine hw _ fun k k0 k4 => ⟨⟨k0, by omega⟩, ?_⟩
  refine llr_loop ho (fun rows t h l => ⟨rfl, rows, t, rfl, rfl, h, l⟩) (upto k.toNat) none [] rfl ?_
  show 0 + (upto k.toNat).length ≤ 3
  unfold upto
  rw [List.length_map, List.length_range]
  omega
def eLed : ED := eIf (tCmp .Is (eV 5) (eC .none)) (eCmp .NotEq (eV 6) (eC (.list []))) (eAnd (eCmp .NotEq (eV 5) (eC (.str zUnder))) (eCmp .In (eV 5) (eComp [Str.ofString "row"] [] (iSeq (eV 6)) (gName 0) tTrue (eSub (eV 0) (eC (.int 0))))))
theorem led_ok {m : Loc} {lb : Option Str} {kd : Str} {rows : List LRow} (h5 : m[5]? = some (some (oD lb))) (h6 : m[6]? = some (some (.list ((goalsOf kd rows).map rowD)))) (hg : (goalsOf kd rows).all okRow = true) (gsz : small ((goalsOf kd rows).map rowD) = true) (hlb : shaped (oD lb) = true) {Q : PyData → Prop} (q : Q (.bool !(leads kd lb rows).isEmpty)) : eLed m Q := by
  have g5 : ∀ Q : PyData → Prop, Q (oD lb) → getV m 5 Q := fun Q q => by unfold getV; rw [h5]; exact q
  have g6 : ∀ Q : PyData → Prop, Q (.list ((goalsOf kd rows).map rowD)) → getV m 6 Q := fun Q q => by unfold getV; rw [h6]; exact q
  rw [led_eq] at q
  generalize goalsOf kd rows = gs at hg gsz g6 q
  refine g5 _ ?_
  cases lb with
  | none => exact g6 _ (rows_nil (Q := fun c => Q (.bool !c)) hg q)
  | some l =>
    refine g5 _ ?_
    show stopQ .And (.bool !(l == zUnder)) Q _
    have q : Q (.bool (!(l == zUnder) && gs.any fun p => p.1 == some l)) := q
    revert q
    cases (!(l == zUnder)) with
    | false => exact id
    | true =>
      intro q
      refine g5 _ ⟨rfl, g6 _ ⟨gsz, ?_⟩⟩
      refine comp_map (M := []) (g := fun p => oD p.1) (fun p _ => ⟨by obtain ⟨a, b⟩ := p; cases a <;> rfl, fun Q q => q⟩) gsz ?_
      exact in_labels (Q := fun c => Q (.bool c)) hg (canLay_of_shaped hlb) q
theorem lst_dict {us : Array Value} {k : Nat} {es : Array DictEntry} {j : Nat} (e : ({ cls := .type "list", data := .seq us k } : Obj) = { cls := .type "dict", data := .dict es j }) : False := absurd (congrArg Obj.cls e) (by show ¬ (Value.type "list" = Value.type "dict"); decide)
theorem llr_pick {C : CallD} {r : Addr} {m : Loc} (hm : m[0]? = some (some (hdl r))) (ho : ∀ xs, 1 ≤ xs.length → small xs = true → ∀ Q : PyData → Prop, (∀ x ∈ xs, Q x) → C 172 [hdl r, .list xs] Q) :
    eTup (lCons (eCall C 172 (lCons (eV 0) (lCons (eC lWays) lNil))) (lCons (eCall C 172 (lCons (eV 0) (lCons (eC lLabs) lNil))) lNil)) m fun d => ∃ ds, d = .tuple ds ∧ ds.length = 2 ∧ lfs ds = true ∧ ∃ kd ∈ zWays, ∃ lb ∈ zLabs, ds = [.str kd, oD lb] := by
  have g : ∀ Q : PyData → Prop, Q (hdl r) → getV m 0 Q := fun Q q => by unfold getV; rw [hm]; exact q
  refine g _ (ho (zWays.map .str) (by decide) (by decide +kernel) _ fun x hx => ?_)
  obtain ⟨kd, hk, rfl⟩ := List.mem_map.mp hx
  refine g _ (ho (zLabs.map oD) (by decide) (by decide +kernel) _ fun y hy => ?_)
  obtain ⟨lb, hl, rfl⟩ := List.mem_map.mp hy
  have l2 : lfs [.str kd, oD lb] = true := by cases lb <;> rfl
  exact ⟨l2, rfl, _, rfl, rfl, l2, kd, hk, lb, hl, rfl⟩
section
variable {base : Heap} {w : World} {X : Ext base} {E : Value → Shared → Prop} {s : Shared} {e1 : Env}
theorem llr_ok {r L1 : Addr} {m1 : Str → Option Value} {P : Value → Shared → Prop} (G : Gnd (KK w) base) (Kb : base.get? (nat_lit 0) = some ⟨.type "dict", none, .dict (bEs w.params) 159, #[]⟩) (K1 : ∃ ob, base.get? sysModules = some ob) (rx : RX X r) (f1 : e1.frame = some L1) (g1 : e1.scope.kind = .function) (n1 : s.heap.Ns L1 m1) (b1 : base.get? L1 = none) (lw : L1 ∉ X.W) (R : Room 9 (callerA.deeper e1)) (st : base.StaysIn s.heap) (iv : X.I s.heap)
    (h : ∀ h' tk', base.StaysIn h' → P (.bool true) { s with heap := h', toks := tk' }) : wpAny (model prog w) (callerA.deeper e1) (call (.ref 251) [.ref r]) P E s := by
  refine entry_rawC (n := 8) (X := X) (xs := [Str.ofString "reel"]) (rest := [Str.ofString "checker", Str.ofString "rows", Str.ofString "turn", Str.ofString "kind", Str.ofString "label", Str.ofString "goals", Str.ofString "is_led", Str.ofString "told", Str.ofString "fault"]) (dsF := [hdl r]) G rfl (by kernel_rfl) R st iv (by rfl) (.cons (.hnd r) .nil) nodup_vsR rfl (by decide +kernel) (by kernel_rfl) (by kernel_rfl) (by kernel_rfl) fun env h₀ tk ok sk ef R' F C k₀ fresh => ?_
  have ok : EnvOK scR env := ok
  have C : CellsOK base scR env h₀ := C
  have lL : L1 ≠ env.locals := fun z => by
    obtain ⟨o, _, _, e, _⟩ := n1
    rw [z, fresh] at e; cases e
  refine stmt_made (s := { s with heap := h₀, toks := tk }) (i := 1) (j := 2) G ok R' F rfl rfl (by kernel_rfl) (by kernel_rfl) (by kernel_rfl) nodup_vsR rfl fun c d u o od l h₁ t₁ kl₁ F₁ Y eu eo el oc od' ou oo ol ⟨cl, dl, ul, ol'⟩ du nw => ?_
  have C₁ := C.keepL F kl₁
  have F₁ : FmOK X env vsR (mR r c l none) h₁ := F₁
  have hw : ∀ Q : PyData → Prop, (∀ k, 0 ≤ k → k < 4 → Q (.int k)) → SemCall prog w X 8 165 [hdl r, .int 4] Q := fun Q q => wound_ok (n := 7) G rx (by decide) (by decide) q
  have ho : ∀ xs, 1 ≤ xs.length → small xs = true → ∀ Q : PyData → Prop, (∀ x ∈ xs, Q x) → SemCall prog w X 8 172 [hdl r, .list xs] Q := fun xs a b Q c => one_ok (n := 6) G rx a b c
  refine wpAny_execs_cons (wpAny_mono ((g_for (i := 3) rfl (by kernel_rfl) nodup_vsR (r_rangeR G (by kernel_rfl) (ns_range w) (r_call G 165 (by kernel_rfl) (ns_law_wound w) (keep_law_wound w) (r_cons (r_var 0 rfl nd_reel) (r_cons r_int r_nil))))
    (g_cons (g_append (i := 2) rfl nd_rows' (r_tup (r_cons (r_call G 172 (by kernel_rfl) (ns_law_one w) (keep_law_one w) (r_cons (r_var 0 rfl nd_reel) (r_cons (r_clst [.none, .str (Str.ofString "A"), .str (Str.ofString "B"), .str (Str.ofString "_")] (r_cons r_none (r_cons r_str (r_cons r_str (r_cons r_str r_nil))))) r_nil)))
      (r_cons (r_call G 172 (by kernel_rfl) (ns_law_one w) (keep_law_one w) (r_cons (r_var 0 rfl nd_reel) (r_cons (r_clst [.str (Str.ofString "for"), .str (Str.ofString "range"), .str (Str.ofString "switch"), .str (Str.ofString "choose")] (r_cons r_str (r_cons r_str (r_cons r_str (r_cons r_str r_nil))))) r_nil))) r_nil)))) g_nil)).d l env _ _ { s with heap := h₁, toks := t₁ } _ [] _ ok R' ⟨F₁, rfl, ⟨#[], 0, el, .nil, rfl⟩, ol.nb, ol.nw⟩ (llr_for hw ho)) (fun fl s₂ p => ?_) fun _ _ x => x)
  obtain ⟨m₂, ds₂, h₂, t₂, rfl, kg, G₂, q⟩ := p
  cases fl with
  | brk => exact q.elim
  | cont => exact q.elim
  | ret v => obtain ⟨_, _, q, _⟩ := q; cases q
  | next =>
  obtain ⟨-, rows, t, rfl, rfl, hr, hlen⟩ := q
  obtain ⟨us, k, el₂, ra₂, lf₂⟩ := G₂.rows
  have nw' := fun b ob (e : h₀.get? b = some ob) => nw b ob e
  have n1' := n1
  obtain ⟨oL1, esL1, epL1, eL1, dL1, restL1⟩ := n1
  obtain ⟨lc, ld, lu, lo, ll⟩ := nw L1 oL1 (k₀ _ _ eL1)
  have Y₂ : Chk h₂ c d u o od := ⟨kg _ _ oc.nw oc.nl cl Y.gc, kg _ _ od'.nw od'.nl dl Y.gd, Y.used, Y.opn, Y.dd, Y.nolead⟩
  have eu₂ := kg _ _ ou.nw ou.nl ul eu
  have eo₂ := kg _ _ oo.nw oo.nl ol' eo
  have eL₂ := kg _ _ lw lL ll (kl₁ _ _ lw lL (k₀ _ _ eL1))
  obtain ⟨mv₁, hn₁⟩ := F₁.ns
  obtain ⟨oE, esE, kE, eE, dE⟩ := ns_data hn₁
  have C₂ : CellsOK base scR env h₂ := C₁.keep fun b ob e q => kg b ob (cell_off F₁.inv e q) (fun z => by obtain ⟨_, q⟩ := q; rw [z, eE] at e; cases e; rw [dE] at q; cases q) (fun z => by obtain ⟨_, q⟩ := q; rw [z, el] at e; cases e; cases q) e
  have usz : us.size = rows.length := by rw [← Array.length_toList, ReadsAll.len ra₂, List.length_map]
  refine stmt_extend (s := { s with heap := h₂, toks := t₂ }) (i := 1) (j := 2) (k := k) (us := us) G ok G₂.F G₂.fl rfl rfl rfl rfl rfl Y₂ eo₂ el₂ (by rw [usz]; omega) oo fun h₃ t₃ k₃ ne₃ eo₃ F₃ => ?_
  have Y₃ : Chk h₃ c d u o od := Y₂.keep (ne₃ c fun z => by have := Y₂.gc; rw [z, eo₂] at this; cases this) (ne₃ d fun z => by have := Y₂.gd; obtain ⟨_, _, q⟩ := Y₂.dd; rw [z, eo₂, q] at this; exact lst_dict (Option.some.inj this))
  have eu₃ := (ne₃ u fun z => by rw [z, eo₂] at eu₂; exact lst_dict (Option.some.inj eu₂)).trans eu₂
  have el₃ := (ne₃ l (Ne.symm ol')).trans el₂
  have eL₃ := (ne₃ L1 lo).trans eL₂
  have ra₃ : ReadsAll h₃ us.toList (rows.map rowD) [] := lfs_keep (fun b ob e c _ => (ne₃ b fun z => by rw [z, eo₂] at e; cases e; exact absurd c (by show ¬ (Value.type "list" = Value.type "tuple"); decide)).trans e) ra₂ (rows_lfs rows)
  have C₃ : CellsOK base scR env h₃ := C₂.keep fun b ob e q => (ne₃ b fun z => by obtain ⟨_, q⟩ := q; rw [z, eo₂] at e; cases e; cases q).trans e
  have F₃' := F₃.asList (j := 2) rfl el₃ ol.nw ra₃ (rows_lfs rows)
  refine stmt_unpack (s := { s with heap := h₃, toks := t₃ }) [(Str.ofString "kind", ⟨227, 4, 227, 8⟩, 4), (Str.ofString "label", ⟨227, 10, 227, 15⟩, 5)] ok R' C₃ F₃' nodup_vsR (by unfold NmsOK; decide +kernel)
    (r_tup (r_cons (r_call G 172 (by kernel_rfl) (ns_law_one w) (keep_law_one w) (r_cons (r_var 0 rfl nd_reel) (r_cons (r_clst [.str (Str.ofString "break"), .str (Str.ofString "continue")] (r_cons r_str (r_cons r_str r_nil))) r_nil)))
      (r_cons (r_call G 172 (by kernel_rfl) (ns_law_one w) (keep_law_one w) (r_cons (r_var 0 rfl nd_reel) (r_cons (r_clst [.none, .str (Str.ofString "A"), .str (Str.ofString "B"), .str (Str.ofString "_")] (r_cons r_none (r_cons r_str (r_cons r_str (r_cons r_str r_nil))))) r_nil))) r_nil)))
    (N := fun ds => ∃ kd ∈ zWays, ∃ lb ∈ zLabs, ds = [.str kd, oD lb]) (llr_pick rfl ho) (by rfl) (swapped_cell ok (by kernel_rfl) (by kernel_rfl) (by intro _ _ h; cases h) (by intro _ _ h; cases h)) (by rfl) ?_
  rintro _ h₄ t₄ ⟨kd, hkd, lb, hlb, rfl⟩ kc₄ C₄ F₄
  have F₄ : FmOK X env vsR [some (hdl r), some (hdl c), some (.list (rows.map rowD)), t, some (.str kd), some (oD lb), none, none, none, none] h₄ := F₄
  have fs : small (rows.map rowD) = true := small_short (by rw [List.length_map]; omega)
  refine step1 (s := { s with heap := h₄, toks := t₄ }) (r_asgc 6 [Str.ofString "row"] [(Str.ofString "kind", 4)] ⟨by kernel_rfl, by decide +kernel, by decide +kernel, by decide +kernel, by decide +kernel, by decide +kernel⟩ rfl (by kernel_rfl) nodup_vsR (by kernel_rfl) (r_seq (r_var 2 rfl nd_rows')) (r_gname 0 rfl (by kernel_rfl) (by decide +kernel))
      (r_ts1 (r_tbool (r_aor (r_tcmp (r_var 1 rfl nd_kind) r_str) (r_aor (r_tcmp (r_sub (r_var 0 rfl nd_row) r_int) (r_clst [.str (Str.ofString "for"), .str (Str.ofString "range")] (r_cons r_str (r_cons r_str r_nil)))) r_aor0)))) (r_var 0 rfl nd_row)) ok R' F₄
      (N := fun m => m = [some (hdl r), some (hdl c), some (.list (rows.map rowD)), t, some (.str kd), some (oD lb), some (.list ((goalsOf kd rows).map rowD)), none, none, none]) ?_ ?_
  · have key : ∀ Q : PyData → Prop, Q (.list ((goalsOf kd rows).map rowD)) → compQ (gName 0) (tGoal (.list [.str zFor, .str zRange])) (eV 0) (rows.map rowD) [] [none, some (.str kd)] Q := fun Q q =>
      comp_filterC (M := [some (.str kd)]) (fun p _ => ⟨by obtain ⟨a, b⟩ := p; cases a <;> rfl, fun Q q => tGoal_ok (.inr rfl) q⟩) fs q
    exact ⟨rfl, fs, key _ ⟨rfl, rfl⟩⟩
  rintro _ h₅ t₅ rfl kl₅ F₅
  have C₅ := C₄.keepL F₄ kl₅
  have hg : (goalsOf kd rows).all okRow = true := okRow_filter hr
  have gsz : small ((goalsOf kd rows).map rowD) = true := small_short (by rw [List.length_map]; exact Nat.le_trans (List.length_filter_le _ _) (by omega))
  refine step1 (s := { s with heap := h₅, toks := t₅ }) (r_asg 7 rfl (by kernel_rfl) nodup_vsR (r_ifexp (r_tcmp (r_var 5 rfl nd_label) r_none) (r_cmp (r_var 6 rfl nd_goals) (r_clst [] r_nil)) (r_and2 (r_cmp (r_var 5 rfl nd_label) r_str) (r_cmp (r_var 5 rfl nd_label)
      (r_comp [Str.ofString "row"] [] ⟨by kernel_rfl, by decide +kernel, by decide +kernel, by decide +kernel, by decide +kernel, by decide +kernel⟩ (r_seq (r_var 6 rfl nd_goals)) (r_gname 0 rfl (by kernel_rfl) (by decide +kernel)) r_ts0 (r_sub (r_var 0 rfl nd_row) r_int)))))) ok R' F₅
      (N := fun m => m = [some (hdl r), some (hdl c), some (.list (rows.map rowD)), t, some (.str kd), some (oD lb), some (.list ((goalsOf kd rows).map rowD)), some (.bool !(leads kd lb rows).isEmpty), none, none]) ?_ ?_
  · exact led_ok rfl rfl hg gsz (lab_ok lb hlb) ⟨rfl, rfl⟩
  rintro _ h₆ t₆ rfl kl₆ F₆
  refine step1 (s := { s with heap := h₆, toks := t₆ }) (r_asg 8 rfl (by kernel_rfl) nodup_vsR r_none) ok R' F₆
      (N := fun m => m = [some (hdl r), some (hdl c), some (.list (rows.map rowD)), t, some (.str kd), some (oD lb), some (.list ((goalsOf kd rows).map rowD)), some (.bool !(leads kd lb rows).isEmpty), some .none, none]) ⟨rfl, rfl⟩ ?_
  rintro _ h₇ t₇ rfl kl₇ F₇
  have kz : ∀ b ob, b ∉ X.W → b ≠ env.locals → NoCell ob → h₃.get? b = some ob → h₇.get? b = some ob := fun b ob x1 x2 x3 e => kl₇ b ob x1 x2 (kl₆ b ob x1 x2 (kl₅ b ob x1 x2 (kc₄ b ob x1 x2 x3 e)))
  have Y₇ : Chk h₇ c d u o od := ⟨kz _ _ oc.nw oc.nl (fun _ z => by cases z) Y₃.gc, kz _ _ od'.nw od'.nl (fun _ z => by obtain ⟨_, _, q⟩ := Y₃.dd; rw [q] at z; cases z) Y₃.gd, Y.used, Y.opn, Y.dd, Y.nolead⟩
  have ra₇ : ReadsAll h₇ us.toList (rows.map rowD) [] := lfs_keep (fun b ob e c q => kz b ob (tuple_off F₃.inv e c) (fun z => by
    obtain ⟨mv, hn⟩ := F₃.ns
    obtain ⟨oE, esE, kE, eE, dE⟩ := ns_data hn
    obtain ⟨_, _, q⟩ := q
    rw [z, eE] at e; cases e; rw [dE] at q; cases q) (fun _ z => by obtain ⟨_, _, q⟩ := q; rw [q] at z; cases z) e) ra₃ (rows_lfs rows)
  exact llr_try (s := { s with heap := h₇, toks := t₇ }) G Kb K1 ok ef sk f1 g1 ⟨oL1, esL1, epL1, kz _ _ lw lL (fun _ z => by rw [dL1] at z; cases z) eL₃, dL1, restL1⟩ b1 lL R' F₇ Y₇ (kz _ _ ou.nw ou.nl (fun _ z => by cases z) eu₃) (kz _ _ oo.nw oo.nl (fun _ z => by cases z) eo₃) ra₇ oc od' ou oo ⟨lc, ld, lu, lo⟩ lw du hr (by omega) (way_ok kd hkd) rfl h
end
end Mine

namespace Mine
section
variable {w : World} {base : Heap} {X : Ext base} {n : Nat} {r : Addr}
theorem ns_law_lead_right (w : World) : nsIn (KK w) mainGlobals (Str.ofString "_law_lead_right") = some (some (.ref 251)) := by kernel_rfl
theorem keep_law_lead_right (w : World) : keepIn (KK w) (.ref 251) = true := by kernel_rfl
/-- the last line's first half, the reel at hand -/
def F_last (C : CallD) : ED := eCall C 246 (lCons (eAdd (eCall C 191 (lCons (eV 6) (lCons (eC (.int 1)) lNil))) (eTup (lCons (eCall C 205 (lCons (eV 6) (lCons (eC (.int 2)) lNil))) lNil))) lNil)
theorem last_ok (G : Gnd (KK w) base) (rx : RX X r) {a b c d e f : Option PyData} {Q : PyData → Prop} (q : Q (.bool true)) : F_last (SemCall prog w X 30) [a, b, c, d, e, f, some (hdl r)] Q := by
  obtain ⟨b1, s2⟩ := built G rx
  have b1 := fun Q q => (b1 24 (by decide) (by decide) Q q).less (show 8 ≤ 30 by decide)
  have s2 := fun Q q => (s2 24 (by decide) (by decide) Q q).less (show 10 ≤ 30 by decide)
  have bo : ∀ ds sq, SOKs w X 24 ds sq → ds.length ≤ 5 → ∀ Q, Q (.bool true) → SemCall prog w X 30 246 [.tuple ds] Q := fun ds sq h l Q q => ((body_ok G h (small_short (by omega)) (by decide)).ok Q q).less (by decide)
  revert b1 s2 bo
  generalize SemCall prog w X 30 = C
  intro b1 s2 bo
  refine b1 _ fun ds sq h l => ?_
  refine s2 _ fun x sp hx => ?_
  have l2 : lfs [x] = true := by show (lf x && true) = true; rw [hx.lf]; rfl
  obtain ⟨sq', h'⟩ := h.snoc hx
  have l3 : (ds ++ [x]).length ≤ 5 := by rw [List.length_append]; exact Nat.le_trans (Nat.succ_le_succ l) (by decide)
  exact ⟨l2, rfl, small_short (Nat.le_trans l3 (by decide)), bo _ _ h' l3 _ q⟩
theorem law_ok (G : Gnd (KK w) base) (Kb : base.get? (nat_lit 0) = some ⟨.type "dict", none, .dict (bEs w.params) 159, #[]⟩) (K1 : ∃ ob, base.get? sysModules = some ob) {E : Value → Shared → Prop} {s : Shared} {v : Value} {zs : List Int} (R : Room 31 callerA) (st : base.StaysIn s.heap) (rv : VR (ext0 base) s.heap v (.list (zs.map .int))) (sm : small (zs.map .int) = true) {P : Value → Shared → Prop}
    (h : ∀ h' tk', base.StaysIn h' → P (.bool true) { s with heap := h', toks := tk' }) : wpAny (model prog w) callerA (call (.ref 258) [v]) P E s := by
  refine entry_rawC (n := 30) (X := ext0 base) (xs := [Str.ofString "script"]) (rest := [Str.ofString "name", Str.ofString "ends", Str.ofString "lone", Str.ofString "left", Str.ofString "loop", Str.ofString "reel"]) (dsF := [.list (zs.map .int)]) G rfl (by kernel_rfl) R st trivial (by rfl) (.cons rv .nil) nodup_law rfl (by decide +kernel) (by kernel_rfl) (by kernel_rfl) (by kernel_rfl)
    fun env h₀ tk ok sk ef R' F₀ _ hk₁ fresh => ?_
  have lret : ∀ Q, Q (.bool false) → SemCall prog w (ext0 base) 30 104 [.tuple [dLone]] Q := fun Q q => (lone_term G q).less (by decide)
  have llp : ∀ Q, Q (.bool true) → SemCall prog w (ext0 base) 30 104 [.tuple [dLoop]] Q := fun Q q => (loop_term G q).less (by decide)
  have ltw : ∀ Q, Q (.bool true) → SemCall prog w (ext0 base) 30 246 [.tuple [dLone, dLoop]] Q := fun Q q => (two_ok G q).less (by decide)
  have lbl : ∀ Q, Q (blockE (.tuple [dLeft])) → SemCall prog w (ext0 base) 30 179 [.list [dLeft]] Q := fun Q q => block_okL (n := 29) G (by kernel_rfl) rfl q
  refine step1 (s := { s with heap := h₀, toks := tk }) (r_unp 1 2 rfl rfl (by kernel_rfl) (by kernel_rfl) nodup_law (by decide +kernel) (r_ctup [(.tuple [(.str (Str.ofString "name")), (.int 3), (.str (Str.ofString "x"))]), (.tuple [(.str (Str.ofString "return")), (.int 3), (.tuple [])])] (r_cons (r_ctup [(.str (Str.ofString "name")), (.int 3), (.str (Str.ofString "x"))] (r_cons r_str (r_cons r_int (r_cons r_str r_nil)))) (r_cons (r_ctup [(.str (Str.ofString "return")), (.int 3), (.tuple [])] (r_cons r_str (r_cons r_int (r_cons (r_ctup [] r_nil) r_nil)))) r_nil)))) ok R' F₀ (N := fun m => m = [some (.list (zs.map .int)), some nmx, some (eLeaf .ret), none, none, none, none]) ?_ ?_
  · exact ⟨by kernel_rfl, rfl, rfl⟩
  rintro _ h₁ t₁ rfl kl₁ F₁
  refine step1 (s := { s with heap := h₁, toks := t₁ }) (r_asg 3 rfl (by kernel_rfl) nodup_law (r_tup (r_cons r_str (r_cons r_int (r_cons r_none (r_cons r_none (r_cons (r_var 1 rfl nd_name) (r_cons (r_tup (r_cons (r_tup (r_cons (r_tup (r_cons (r_var 1 rfl nd_name) r_nil)) (r_cons (r_tup (r_cons (r_var 2 rfl nd_ends) r_nil)) r_nil))) r_nil)) r_nil)))))))) ok R' F₁ (N := fun m => m = [some (.list (zs.map .int)), some nmx, some (eLeaf .ret), some dLone, none, none, none]) ?_ ?_
  · exact ⟨rfl, rfl, rfl, rfl, rfl, rfl, rfl, rfl, rfl, rfl, rfl, rfl⟩
  rintro _ h₂ t₂ rfl kl₂ F₂
  refine step1 (s := { s with heap := h₂, toks := t₂ }) (r_asg 4 rfl (by kernel_rfl) nodup_law (r_tup (r_cons r_str (r_cons r_int (r_cons r_none (r_cons r_none (r_cons (r_var 1 rfl nd_name) (r_cons (r_ctup [(.tuple [.none, (.tuple [(.tuple [(.str (Str.ofString "break")), (.int 3), .none])])])] (r_cons (r_ctup [.none, (.tuple [(.tuple [(.str (Str.ofString "break")), (.int 3), .none])])] (r_cons r_none (r_cons (r_ctup [(.tuple [(.str (Str.ofString "break")), (.int 3), .none])] (r_cons (r_ctup [(.str (Str.ofString "break")), (.int 3), .none] (r_cons r_str (r_cons r_int (r_cons r_none r_nil)))) r_nil)) r_nil))) r_nil)) r_nil)))))))) ok R' F₂ (N := fun m => m = [some (.list (zs.map .int)), some nmx, some (eLeaf .ret), some dLone, some dLeft, none, none]) ?_ ?_
  · exact ⟨rfl, rfl, rfl, rfl⟩
  rintro _ h₃ t₃ rfl kl₃ F₃
  refine step1 (s := { s with heap := h₃, toks := t₃ }) (r_asg 5 rfl (by kernel_rfl) nodup_law (r_tup (r_cons r_str (r_cons r_int (r_cons r_none (r_cons r_none (r_cons r_none (r_cons r_none (r_cons (r_call G 179 (by kernel_rfl) (ns_law_block w) (keep_law_block w) (r_cons (r_lst (r_cons (r_var 4 rfl nd_left) r_nil)) r_nil)) r_nil))))))))) ok R' F₃ (N := fun m => m = [some (.list (zs.map .int)), some nmx, some (eLeaf .ret), some dLone, some dLeft, some dLoop, none]) ?_ ?_
  · revert lbl
    generalize SemCall prog w (ext0 base) 30 = C
    intro lbl
    exact ⟨rfl, rfl, lbl _ ⟨rfl, rfl, rfl, rfl⟩⟩
  rintro _ h₄ t₄ rfl kl₄ F₄
  refine step1 (s := { s with heap := h₄, toks := t₄ }) (r_if (r_tbool (r_aor (r_tval (r_call G 104 (by kernel_rfl) (ns_is_terminating w) (keep_is_terminating w) (r_cons (r_tup (r_cons (r_var 3 rfl nd_lone) r_nil)) r_nil))) (r_aor (r_tnot (r_tval (r_call G 104 (by kernel_rfl) (ns_is_terminating w) (keep_is_terminating w) (r_cons (r_tup (r_cons (r_var 5 rfl nd_loop) r_nil)) r_nil)))) (r_aor (r_tnot (r_tval (r_call G 246 (by kernel_rfl) (ns_law_body_right w) (keep_law_body_right w) (r_cons (r_tup (r_cons (r_var 3 rfl nd_lone) (r_cons (r_var 5 rfl nd_loop) r_nil))) r_nil)))) r_aor0)))) (r_scons (r_ret r_bool) r_snil) r_snil) ok R' F₄ (N := fun m => m = [some (.list (zs.map .int)), some nmx, some (eLeaf .ret), some dLone, some dLeft, some dLoop, none]) ?_ ?_
  · revert lret llp ltw
    generalize SemCall prog w (ext0 base) 30 = C
    intro lret llp ltw
    exact ⟨rfl, rfl, lret _ ⟨rfl, rfl, llp _ ⟨rfl, rfl, ltw _ ⟨rfl, rfl⟩⟩⟩⟩
  rintro _ h₅ t₅ rfl kl₅ F₅
  refine wpAny_execs_cons (wpAny_Assign_Name (call_raw (s := { s with heap := h₅, toks := t₅ }) G 158 (by kernel_rfl) (ns_law_reel w) (keep_law_reel w) (r_cons (r_var 0 rfl nd_script') r_nil) ok R' F₅ (N := fun ds => ds = [.list (zs.map .int)]) rfl ?_) (by rfl))
  rintro us _ h₆ t₆ rfl ra k₆ F₆
  cases ra with | cons ra rn =>
  cases rn with | nil =>
  refine reel_new (n := 29) (s := { s with heap := h₆, toks := t₆ }) G R' F₆.stays trivial ra sm fun r h₇ t₇ k₇ _ nr re => ?_
  have F₇ := F₆.keep k₇ trivial
  refine store_raw (s := { s with heap := h₇, toks := t₇ }) (i := 6) ok F₇ rfl (by simp) (by kernel_rfl) nodup_law fun h₈ kl₈ hob F₈ hx => ?_
  have hb : base.get? r = none := by
    cases e : base.get? r with
    | none => rfl
    | some o => have := F₆.stays _ _ e; rw [nr] at this; cases this
  obtain ⟨mv, hns, hmv⟩ := hx
  have re₈ : ReelAt r h₈ := by
    obtain ⟨a, b, t, u, ⟨o, e, c, n', d⟩, p⟩ := re
    refine ⟨a, b, t, u, ⟨o, (hob r fun z => ?_).trans e, c, n', d⟩, p⟩
    obtain ⟨mv', hn'⟩ := F₇.ns
    obtain ⟨oL, esL, kL, hL, dL⟩ := ns_data hn'
    rw [z, hL] at e; cases e; rw [dL] at d; cases d
  have F₉ : FmOK (XR base r hb) env ([Str.ofString "script"] ++ [Str.ofString "name", Str.ofString "ends", Str.ofString "lone", Str.ofString "left", Str.ofString "loop", Str.ofString "reel"]) [none, none, none, none, none, none, some (hdl r)] h₈ := by
    refine ⟨F₈.stays, re₈, F₈.ns, F₈.lnew, fun i x d e1 e2 => ?_⟩
    match i, e1, e2 with
    | 6, e1, e2 =>
      cases e1; cases e2
      exact .inl ⟨ok.loc _ (by kernel_rfl), mv, _, hns, hmv, .hnd r⟩
    | i + 7, e1, e2 => simp at e2
  have lw : env.locals ∉ (XR base r hb).W := fun z => by
    obtain ⟨mv', hn'⟩ := F₉.ns
    obtain ⟨oL, esL, kL, hL, dL⟩ := ns_data hn'
    exact dict_off F₉.inv hL ⟨_, _, dL⟩ z
  refine wpAny_execs_cons (wpAny_Return_some ?_)
  show wpAny _ _ (boolOp _ .And [eval _ env, eval _ env]) _ _ _
  refine wpAny_bind (thenE ((r_call G 246 (by kernel_rfl) (ns_law_body_right w) (keep_law_body_right w) (r_cons (r_add (r_call G 191 (by kernel_rfl) (ns_law_body w) (keep_law_body w) (r_cons (r_var 6 rfl nd_reel) (r_cons r_int r_nil))) (r_tup (r_cons (r_call G 205 (by kernel_rfl) (ns_law_statement w) (keep_law_statement w) (r_cons (r_var 6 rfl nd_reel) (r_cons r_int r_nil))) r_nil))) r_nil)).1 env _ _ { s with heap := h₈, toks := t₇ + 1 } _ (fun d => d = .bool true) ok R' F₉ (last_ok G (XR_ok hb) rfl)) fun v' d h₉ t₉ k₉ i₉ r₉ q₉ => ?_)
  subst q₉
  cases r₉.bool_inv
  refine wpAny_bind (wpAny_standAt (wpAny_bind (wpAny_holding (wpAny_truthy_bool ?_))))
  show wpAny _ _ (boolOp _ .And [eval _ env]) _ _ _
  have F₁₀ := F₉.keep k₉ i₉
  refine call_raw (s := { s with heap := h₉, toks := t₉ }) G 251 (by kernel_rfl) (ns_law_lead_right w) (keep_law_lead_right w) (r_cons (r_var 6 rfl nd_reel) r_nil) ok R' F₁₀ (N := fun ds => ds = [hdl r]) rfl ?_
  rintro us _ h₁₁ t₁₁ rfl ra k₁₁ F₁₁
  cases ra with | cons ra rn =>
  cases rn with | nil =>
  cases ra.hdl_inv
  obtain ⟨mv', hn'⟩ := F₁₁.ns
  exact llr_ok (s := { s with heap := h₁₁, toks := t₁₁ }) G Kb K1 (XR_ok hb) ef sk hn' F₁₁.lnew lw (R'.less (by decide)) F₁₁.stays F₁₁.inv h
end
end Mine

namespace Mine
theorem law_at (w : World) : nsIn (KK w) mainGlobals (Str.ofString "law") = some (some (.ref 258)) := by kernel_rfl
theorem join : PySem.Challenge.rw_xm0165_01.Holds := by
  w_on
  o_law
  refine holds_open (q := view) (loose := loose) (Xt := fun s => xlAt view [] s && recOk (RowW.records (OpenRow.toRowW (OpenLaw.row PySem.Challenge.rw_xm0165_01))) s) (XP := XL view []) (Yf := Hook.obs (kHook myB myBs (fun _ => by kernel_rfl))) (Ya := Hook.val (kHook myB myBs (fun _ => by kernel_rfl))) (YP := Hook.says (kHook myB myBs (fun _ => by kernel_rfl))) (N := 3324) ?hl (Hook.of (kHook myB myBs (fun _ => by kernel_rfl))) (Hook.keeps (kHook myB myBs (fun _ => by kernel_rfl))) (fun s e => xl_of s (Bool.and_eq_true_iff.mp e).1) XL.keeps (by rfl) (by rfl) (by rfl) (fun s e => recFacts_of (Bool.and_eq_true_iff.mp e).2) (by rfl) (by first | assumption | decide +kernel) (by decide +kernel) ⟨rfl, rfl, rfl, rfl, rfl, by decide +kernel⟩ ?hw ?hc
  case hw => w_witness2
  case hl =>
    intro w
    kernel_rfl
  intro w s₀ s₁ mg mb G Y fa o pm cd doc dV kV ho hd hcd hD hmg hg args vals as hpre hlay hrd hwl hlo
  have KB := kIn_of Y
  have KX := myB_K KB
  have GG : Gnd (KK w) s₁.heap := ⟨KX, G.T.nolimit, ⟨mg, G.T.g⟩, ⟨mb, G.T.b, G.T.builtins⟩⟩
  have e1 : mg (Str.ofString "law") = some (.ref 258) := mg_of GG.K G.T.g (law_at w)
  have e2 : mg (Str.ofString "law") = some (.ref fa) := hmg
  rw [e1] at e2
  cases e2
  clear hD hcd hd Y hmg ho e1 KX
  wrow_args hpre hlay hrd hwl hlo
  rename_i zs hs hl0 hL1 hr1 hl2 as1 as2 l us as3 hL ra wl r0 hI hr hc ht
  have lz : ∀ zs : List Int, lfs (zs.map PyData.int) = true := fun zs => by
    induction zs with
    | nil => rfl
    | cons z r ih => exact ih
  have rv : VR (ext0 s₁.heap) s₁.heap (.ref l) (.list (zs.map .int)) := by
    obtain ⟨o, e, c, k, d⟩ := hL
    exact .lst List.not_mem_nil e c d (lz zs) (lfs_keep (fun b o e _ _ => e) ra (lz zs))
  have sm : small (zs.map PyData.int) = true := decide_eq_true (by rw [List.length_map]; omega)
  refine law_ok GG (myB_0 KB) (myB_1 KB) (s := s₁) ⟨rfl, by decide, by decide⟩ (fun _ _ e => e) rv sm fun h' tk' hk => ?_
  refine GoodW.toG ⟨.inl ⟨.bool true, .bool true, [], rfl, ?_, .bool true, ?_, ?_⟩, hk, rfl, hg⟩
  · intro cls; rfl
  · first | kernel_rfl | exact postW_of (by wrow_shape) (by wtm_val)
  · exact fun _ => ⟨.nil, fun _ h => absurd h List.not_mem_nil⟩
end Mine

theorem PySem.Challenge.cw_xm0165_01_holds : PySem.Challenge.rw_xm0165_01.Holds := by
  exact Mine.join
