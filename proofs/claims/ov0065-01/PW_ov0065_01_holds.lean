import PyProof.Rows.All
import Wide.All
import OpenK.AllK
import Wide.FinOn
import PySem.Challenge.RW_ov0065_01
set_option Elab.async false
namespace Mine
section
open PySem PySem.W PySem.Calls PyProof.Rows

/-- data -/
inductive D where
  | none
  | bool (b : Bool)
  | int (i : Int)
  | str (x : Str)
  | tup (l : List D)
  | lst (l : List D)
  | vec (l : List D)

/-- what stands frozen on the heap -/
abbrev Fz := Addr → Obj → Prop

/-- the surroundings that never change -/
structure Wd where
  prog : Program
  w : World
  K : Frag
  p : Program
  loose : List Str
  mean : ExcName → Option Value
  mg : Str → Option Value
  mb : Str → Option Value
  vecC : Addr

def Wd.Ok (W : Wd) (h : Heap) : Prop := W.K.In h ∧ Top W.p W.loose W.mean W.mg W.mb h
theorem Wd.Ok.keeps {W : Wd} {h h' : Heap} (o : W.Ok h) (k : ∀ b o, h.get? b = some o → h'.get? b = some o) : W.Ok h' := ⟨o.1.keeps k, o.2.keeps k⟩

mutual
inductive In (C : Addr) (B : Fz) : Value → D → Prop
  | none : In C B Value.none D.none
  | bool (b : Bool) : In C B (Value.bool b) (D.bool b)
  | int (i : Int) (t : Tok) : In C B (Value.int i t) (D.int i)
  | str (x : Str) (t : Tok) : In C B (Value.str x t) (D.str x)
  | tup {a : Addr} {o : Obj} {vs : List Value} {n : Nat} {ds : List D} : B a o → o.cls = .type "tuple" → o.data = .seq vs.toArray n → All C B vs ds → In C B (Value.ref a) (D.tup ds)
  | lst {a : Addr} {o : Obj} {vs : List Value} {n : Nat} {ds : List D} : B a o → o.cls = .type "list" → o.data = .seq vs.toArray n → All C B vs ds → In C B (Value.ref a) (D.lst ds)
  | vec {a dx : Addr} {es : List DictEntry} {n : Nat} {t : Tok} {v : Value} {ds : List D} : B a (instObj C dx) → B dx (dictOf es n) →
      getL (Str.ofString "kind") es = some (some (.str (Str.ofString "double") t)) → getL (Str.ofString "items") es = some (some v) → In C B v (D.lst ds) → In C B (Value.ref a) (D.vec ds)
inductive All (C : Addr) (B : Fz) : List Value → List D → Prop
  | nil : All C B [] []
  | cons {v : Value} {vs : List Value} {d : D} {ds : List D} : In C B v d → All C B vs ds → All C B (v :: vs) (d :: ds)
end
mutual
theorem In.mono {C : Addr} {B B' : Fz} (hs : ∀ a o, B a o → B' a o) : ∀ {v : Value} {d : D}, In C B v d → In C B' v d
  | _, _, .none => .none
  | _, _, .bool b => .bool b
  | _, _, .int i t => .int i t
  | _, _, .str x t => .str x t
  | _, _, .tup h c e r => .tup (hs _ _ h) c e (All.mono hs r)
  | _, _, .lst h c e r => .lst (hs _ _ h) c e (All.mono hs r)
  | _, _, .vec h k c e r => .vec (hs _ _ h) (hs _ _ k) c e (In.mono hs r)
theorem All.mono {C : Addr} {B B' : Fz} (hs : ∀ a o, B a o → B' a o) : ∀ {vs : List Value} {ds : List D}, All C B vs ds → All C B' vs ds
  | _, _, .nil => .nil
  | _, _, .cons h r => .cons (In.mono hs h) (All.mono hs r)
end
section
variable {C : Addr} {B : Fz} {v : Value} {d : D} {vs ws : List Value} {ds es : List D}
theorem In.handed (h : In C B v d) : handedIn v = true := by cases h <;> rfl
theorem All.length (h : All C B vs ds) : vs.length = ds.length := by
  induction vs generalizing ds with
  | nil => cases h; rfl
  | cons v vs ih =>
    cases h with
    | cons _ r => rw [List.length_cons, List.length_cons, ih r]
theorem All.append (h : All C B vs ds) (k : All C B ws es) : All C B (vs ++ ws) (ds ++ es) := by
  induction vs generalizing ds with
  | nil => cases h; exact k
  | cons v vs ih =>
    cases h with
    | cons h r => exact .cons h (ih r)
theorem All.get (h : All C B vs ds) {k : Nat} {d : D} (hk : ds[k]? = some d) : ∃ v, vs[k]? = some v ∧ In C B v d := by
  induction vs generalizing ds k with
  | nil => cases h; simp at hk
  | cons v vs ih =>
    cases h with
    | cons h r =>
      cases k with
      | zero => simp at hk; subst hk; exact ⟨v, rfl, h⟩
      | succ k => exact ih r (by simpa using hk)
theorem All.drop (h : All C B vs ds) (n : Nat) : All C B (vs.drop n) (ds.drop n) := by
  induction vs generalizing ds n with
  | nil => cases h; simp; exact .nil
  | cons v vs ih =>
    cases h with
    | cons h r =>
      cases n with
      | zero => exact .cons h r
      | succ n => exact ih r n
theorem All.reverse (h : All C B vs ds) : All C B vs.reverse ds.reverse := by
  induction vs generalizing ds with
  | nil => cases h; exact .nil
  | cons v vs ih =>
    cases h with
    | cons h r => rw [List.reverse_cons, List.reverse_cons]; exact (ih r).append (.cons h .nil)
theorem All.set (h : All C B vs ds) (k : Nat) (hv : In C B v d) : All C B (vs.set k v) (ds.set k d) := by
  induction vs generalizing ds k with
  | nil => cases h; exact .nil
  | cons u us ih =>
    cases h with
    | cons h r =>
      cases k with
      | zero => exact .cons hv r
      | succ k => exact .cons h (ih r k)
end

/-- the room that a piece of code has: a number of calls below it -/
structure Room (A : Around) (n : Nat) : Prop where
  hh : A.handled = .none
  dep : A.depth + n < 900
  un : A.units + 8 * n < 9000
theorem Room.mono {A : Around} {n m : Nat} (r : Room A n) (h : m ≤ n) : Room A m := ⟨r.hh, by have := r.dep; omega, by have := r.un; omega⟩
theorem Room.deeper {A : Around} {n : Nat} (r : Room A (n + 1)) (env : Env) : Room (A.deeper env) n :=
  ⟨r.hh, by have := r.dep; rw [depth_deeper]; omega, by have := r.un; rw [units_deeper]; omega⟩

/-- a name's slot: a datum that stands frozen, or a list that is the frame's own -/
inductive Slot where
  | val (d : D)
  | own (l : List D)
abbrev Sg := List (Str × Slot)

/-- from one moment to a later one, when nothing that stood is changed -/
structure Ext (h : Heap) (B : Fz) (h' : Heap) (B' : Fz) : Prop where
  keep : ∀ b o, h.get? b = some o → h'.get? b = some o
  sub : ∀ a o, B a o → B' a o
  bh : ∀ a o, B' a o → h'.get? a = some o
  fresh : ∀ a o, B' a o → B a o ∨ h.get? a = none
theorem Ext.refl {h : Heap} {B : Fz} (bh : ∀ a o, B a o → h.get? a = some o) : Ext h B h B := ⟨fun _ _ e => e, fun _ _ e => e, bh, fun _ _ e => .inl e⟩
theorem Ext.trans {h h' h'' : Heap} {B B' B'' : Fz} (x : Ext h B h' B') (y : Ext h' B' h'' B'') : Ext h B h'' B'' :=
  ⟨fun b o e => y.keep b o (x.keep b o e), fun a o e => y.sub a o (x.sub a o e), y.bh, fun a o e => by
    rcases y.fresh a o e with e | e
    · exact x.fresh a o e
    · refine .inr ?_
      cases q : h.get? a with
      | none => rfl
      | some o' => rw [x.keep a o' q] at e; cases e⟩
/-- the heap grows, what is frozen stays -/
theorem Ext.heap {h h' : Heap} {B : Fz} (bh : ∀ a o, B a o → h.get? a = some o) (k : ∀ b o, h.get? b = some o → h'.get? b = some o) : Ext h B h' B :=
  ⟨k, fun _ _ e => e, fun a o e => k a o (bh a o e), fun _ _ e => .inl e⟩
/-- one new object is frozen -/
def Fz.add (B : Fz) (a : Addr) (o : Obj) : Fz := fun b x => B b x ∨ (b = a ∧ x = o)
theorem Fz.sub_add {B : Fz} {a : Addr} {o : Obj} : ∀ b x, B b x → B.add a o b x := fun _ _ h => .inl h
theorem Fz.add_self {B : Fz} {a : Addr} {o : Obj} : B.add a o a o := .inr ⟨rfl, rfl⟩
theorem get?_none_size (h : Heap) : h.get? h.objs.size = none := by
  cases q : h.get? h.objs.size with
  | none => rfl
  | some o => exact absurd (Heap.lt_size q) (Nat.lt_irrefl _)
theorem Ext.alloc {h : Heap} {B : Fz} (bh : ∀ a o, B a o → h.get? a = some o) {o : Obj} (hf : o.isFreed = false) : Ext h B (h.push o) (B.add h.objs.size o) :=
  ⟨fun _ _ e => Heap.get?_push_of_some _ e, Fz.sub_add, fun a x e => by
    rcases e with e | ⟨rfl, rfl⟩
    · exact Heap.get?_push_of_some _ (bh a x e)
    · exact Heap.get?_push_size _ hf, fun a x e => by
    rcases e with e | ⟨rfl, rfl⟩
    · exact .inl e
    · exact .inr (get?_none_size h)⟩

/-- where a name's value stands -/
def VarAt (env : Env) (m cm : Str → Option Value) (x : Str) (v : Value) : Prop :=
  (env.kindOf x = some .local ∧ m x = some v) ∨ ((env.kindOf x = some .cell ∨ env.kindOf x = some .free) ∧ ∃ c, env.cells.lookup x = some c ∧ cm x = some v)
/-- what a frame itself changes by storing its names -/
def Mut (env : Env) (a : Addr) : Prop := a = env.locals ∨ ∃ n, env.cells.lookup n = some a

def SlotAt (W : Wd) (env : Env) (Kp B : Fz) (h : Heap) (ad : Str → Addr) (x : Str) (v : Value) : Slot → Prop
  | .val d => In W.vecC B v d
  | .own l => v = .ref (ad x) ∧ (∃ vs n, h.get? (ad x) = some (listOf vs.toArray n) ∧ All W.vecC B vs l) ∧ (∀ o, ¬ Kp (ad x) o) ∧ (∀ o, ¬ B (ad x) o) ∧ ¬ Mut env (ad x)

structure Fm (W : Wd) (env : Env) (Kp B : Fz) (σ : Sg) (h : Heap) (m cm : Str → Option Value) (ad : Str → Addr) : Prop where
  ns : h.Ns env.locals m
  cells : ∀ n c, env.cells.lookup n = some c → h.IsCell c (cm n)
  apart : env.cells.Pairwise fun x y => x.2 ≠ y.2
  lc : ∀ n c, (n, c) ∈ env.cells → c ≠ env.locals
  kM : ∀ a o, Mut env a → ¬ Kp a o
  bM : ∀ a o, Mut env a → ¬ B a o
  live : ∀ a, Mut env a → ∃ o, h.get? a = some o
  sl : ∀ x s, σ.lookup x = some s → ∃ v, VarAt env m cm x v ∧ SlotAt W env Kp B h ad x v s
  two : ∀ x y l l', σ.lookup x = some (.own l) → σ.lookup y = some (.own l') → ad x = ad y → x = y

structure St (W : Wd) (env : Env) (Kp B₀ B : Fz) (σ : Sg) (h : Heap) : Prop where
  kind : env.scope.kind = .function
  glob : env.globals = mainGlobals
  bi : env.builtins = builtinsNs
  base : ∃ g : Heap, W.Ok g ∧ ∀ a o, g.get? a = some o → Kp a o
  kp : ∀ a o, Kp a o → h.get? a = some o
  bh : ∀ a o, B a o → h.get? a = some o
  b0 : ∀ a o, B₀ a o → B a o
  lim : ∀ a o, B a o → B₀ a o ∨ ∀ o', ¬ Kp a o'
  fm : ∃ m cm ad, Fm W env Kp B σ h m cm ad

theorem St.ok {W : Wd} {env : Env} {Kp B₀ B : Fz} {σ : Sg} {h : Heap} (S : St W env Kp B₀ B σ h) : W.Ok h := by
  obtain ⟨g, o, k⟩ := S.base
  exact o.keeps fun b x e => S.kp b x (k b x e)
theorem St.ext {W : Wd} {env : Env} {Kp B₀ B B' : Fz} {σ : Sg} {h h' : Heap} (S : St W env Kp B₀ B σ h) (x : Ext h B h' B') : St W env Kp B₀ B' σ h' := by
  obtain ⟨m, cm, ad, F⟩ := S.fm
  have nb : ∀ a, (∃ o, h.get? a = some o) → (∀ o, ¬ B a o) → ∀ o, ¬ B' a o := fun a ⟨o', ho⟩ hb o hB' => by
    rcases x.fresh a o hB' with q | q
    · exact hb o q
    · rw [ho] at q; cases q
  refine ⟨S.kind, S.glob, S.bi, S.base, fun a o e => x.keep a o (S.kp a o e), x.bh, fun a o e => x.sub a o (S.b0 a o e), fun a o e => ?_, m, cm, ad, ?_⟩
  · rcases x.fresh a o e with q | q
    · exact S.lim a o q
    · exact .inr fun o' k => by rw [S.kp a o' k] at q; cases q
  · refine ⟨F.ns.keeps x.keep, fun n c e => (F.cells n c e).keeps x.keep, F.apart, F.lc, F.kM, fun a o hm => nb a (F.live a hm) (fun o' => F.bM a o' hm) o, fun a hm => ?_, fun y s e => ?_, F.two⟩
    · obtain ⟨o, ho⟩ := F.live a hm
      exact ⟨o, x.keep a o ho⟩
    · obtain ⟨v, hv, hs⟩ := F.sl y s e
      refine ⟨v, hv, ?_⟩
      cases s with
      | val d => exact In.mono x.sub hs
      | own l =>
        obtain ⟨h1, ⟨vs, n, h2, h3⟩, h4, h5, h6⟩ := hs
        exact ⟨h1, ⟨vs, n, x.keep _ _ h2, h3.mono x.sub⟩, h4, nb _ ⟨_, h2⟩ h5, h6⟩

/-- less is said of the names -/
def Has (σ τ : Sg) : Prop := ∀ x s, τ.lookup x = some s → σ.lookup x = some s
theorem Has.refl {σ : Sg} : Has σ σ := fun _ _ h => h
theorem Has.trans {σ τ υ : Sg} (a : Has σ τ) (b : Has τ υ) : Has σ υ := fun x s h => a x s (b x s h)
theorem Has.nil {σ : Sg} : Has σ [] := fun _ _ h => by simp at h
theorem Has.cons {σ τ : Sg} {x : Str} {s : Slot} (h : σ.lookup x = some s) (r : Has σ τ) : Has σ ((x, s) :: τ) := fun y u e => by
  rw [List.lookup_cons] at e
  by_cases q : (y == x) = true
  · rw [q] at e; simp only at e; cases e; rw [beq_iff_eq.mp q]; exact h
  · have q' : (y == x) = false := by simpa using q
    rw [q'] at e; exact r y u e
theorem St.has {W : Wd} {env : Env} {Kp B₀ B : Fz} {σ τ : Sg} {h : Heap} (S : St W env Kp B₀ B σ h) (k : Has σ τ) : St W env Kp B₀ B τ h := by
  obtain ⟨m, cm, ad, F⟩ := S.fm
  exact ⟨S.kind, S.glob, S.bi, S.base, S.kp, S.bh, S.b0, S.lim, m, cm, ad, F.ns, F.cells, F.apart, F.lc, F.kM, F.bM, F.live, fun x s e => F.sl x s (k x s e), fun x y l l' e e' => F.two x y l l' (k _ _ e) (k _ _ e')⟩

abbrev mdl (W : Wd) : Model := model W.prog W.w

/-- what an expression gives -/
def WE (W : Wd) (n : Nat) (env : Env) (σ : Sg) (e : Expr) (Q : D → Prop) : Prop :=
  ∀ (A : Around) (s : Shared) (Kp B₀ B : Fz) (R : Value → Shared → Prop) (E : Value → Shared → Prop), Room A n → St W env Kp B₀ B σ s.heap →
    (∀ v d h' tk' B', Q d → Ext s.heap B h' B' → In W.vecC B' v d → R v { s with heap := h', toks := tk' }) → wpAny (mdl W) A (eval e env) R E s
/-- what a test gives -/
def WT (W : Wd) (n : Nat) (env : Env) (σ : Sg) (e : Expr) (Q : Bool → Prop) : Prop :=
  ∀ (A : Around) (s : Shared) (Kp B₀ B : Fz) (R : Bool → Shared → Prop) (E : Value → Shared → Prop), Room A n → St W env Kp B₀ B σ s.heap →
    (∀ b h' tk' B', Q b → Ext s.heap B h' B' → R b { s with heap := h', toks := tk' }) → wpAny (mdl W) A (PySem.isTrue e env (eval e env)) R E s
/-- what the arguments of a call, or a display's items, give -/
def WL (W : Wd) (n : Nat) (env : Env) (σ : Sg) (es : List Expr) (Q : List D → Prop) : Prop :=
  ∀ (A : Around) (pos : Pos) (s : Shared) (Kp B₀ B : Fz) (R : List Value → Shared → Prop) (E : Value → Shared → Prop), Room A n → St W env Kp B₀ B σ s.heap →
    (∀ vs ds h' tk' B', Q ds → Ext s.heap B h' B' → All W.vecC B' vs ds → R vs { s with heap := h', toks := tk' }) → wpAny (mdl W) A (spliced (backTo pos (starEach es env))) R E s
/-- an expression that gives a new list that is nobody else's -/
def WO (W : Wd) (n : Nat) (env : Env) (σ : Sg) (e : Expr) (Q : List D → Prop) : Prop :=
  ∀ (A : Around) (s : Shared) (Kp B₀ B : Fz) (R : Value → Shared → Prop) (E : Value → Shared → Prop), Room A n → St W env Kp B₀ B σ s.heap →
    (∀ a vs k ds h' tk' B', Q ds → Ext s.heap B h' B' → h'.get? a = some (listOf vs.toArray k) → s.heap.get? a = none → (∀ o, ¬ B' a o) → All W.vecC B' vs ds → R (.ref a) { s with heap := h', toks := tk' }) →
    wpAny (mdl W) A (eval e env) R E s

/-- how a statement ends -/
inductive Out where
  | next (σ : Sg)
  | ret (d : D)
  | brk (σ : Sg)
  | cont (σ : Sg)

def Post (W : Wd) (env : Env) (Kp B₀ : Fz) (s : Shared) (P : Out → Prop) (f : Flow) (s' : Shared) : Prop :=
  ∃ h' tk' B', s' = { s with heap := h', toks := tk' } ∧ match f with
    | .next => ∃ σ', P (.next σ') ∧ St W env Kp B₀ B' σ' h'
    | .brk => ∃ σ', P (.brk σ') ∧ St W env Kp B₀ B' σ' h'
    | .cont => ∃ σ', P (.cont σ') ∧ St W env Kp B₀ B' σ' h'
    | .ret v => ∃ d, P (.ret d) ∧ St W env Kp B₀ B' [] h' ∧ In W.vecC B' v d

def WS (W : Wd) (n : Nat) (env : Env) (ss : List Stmt) (σ : Sg) (P : Out → Prop) : Prop :=
  ∀ (A : Around) (s : Shared) (Kp B₀ B : Fz) (E : Value → Shared → Prop), Room A n → St W env Kp B₀ B σ s.heap → wpAny (mdl W) A (execs ss env) (Post W env Kp B₀ s P) E s
def WX (W : Wd) (n : Nat) (env : Env) (st : Stmt) (σ : Sg) (P : Out → Prop) : Prop :=
  ∀ (A : Around) (s : Shared) (Kp B₀ B : Fz) (E : Value → Shared → Prop), Room A n → St W env Kp B₀ B σ s.heap → wpAny (mdl W) A (exec st env) (Post W env Kp B₀ s P) E s

/-- a def's contract -/
def CallOK (W : Wd) (n : Nat) (f : Value) (ds : List D) (Q : D → Prop) : Prop :=
  ∀ (A : Around) (s : Shared) (B : Fz) (R : Value → Shared → Prop) (E : Value → Shared → Prop) (vs : List Value), Room A n → W.Ok s.heap → (∀ a o, B a o → s.heap.get? a = some o) → All W.vecC B vs ds →
    (∀ v d h' tk' B', Q d → Ext s.heap B h' B' → In W.vecC B' v d → R v { s with heap := h', toks := tk' }) → wpAny (mdl W) A (call f vs) R E s
def CallOwn (W : Wd) (n : Nat) (f : Value) (ds : List D) (Q : List D → Prop) : Prop :=
  ∀ (A : Around) (s : Shared) (B : Fz) (R : Value → Shared → Prop) (E : Value → Shared → Prop) (vs : List Value), Room A n → W.Ok s.heap → (∀ a o, B a o → s.heap.get? a = some o) → All W.vecC B vs ds →
    (∀ a vs k ds h' tk' B', Q ds → Ext s.heap B h' B' → h'.get? a = some (listOf vs.toArray k) → s.heap.get? a = none → (∀ o, ¬ B' a o) → All W.vecC B' vs ds → R (.ref a) { s with heap := h', toks := tk' }) →
    wpAny (mdl W) A (call f vs) R E s

section
variable {W : Wd} {n : Nat} {env : Env} {σ : Sg}

theorem WE.mono {e : Expr} {Q Q' : D → Prop} (h : WE W n env σ e Q) (k : ∀ d, Q d → Q' d) : WE W n env σ e Q' :=
  fun A s Kp B₀ B R E r S hR => h A s Kp B₀ B R E r S fun v d h' tk' B' q x i => hR v d h' tk' B' (k d q) x i
theorem WT.mono {e : Expr} {Q Q' : Bool → Prop} (h : WT W n env σ e Q) (k : ∀ d, Q d → Q' d) : WT W n env σ e Q' :=
  fun A s Kp B₀ B R E r S hR => h A s Kp B₀ B R E r S fun v h' tk' B' q x => hR v h' tk' B' (k v q) x
theorem CallOK.mono {f : Value} {ds : List D} {Q Q' : D → Prop} (h : CallOK W n f ds Q) (k : ∀ d, Q d → Q' d) : CallOK W n f ds Q' :=
  fun A s B R E vs r o b a hR => h A s B R E vs r o b a fun v d h' tk' B' q x i => hR v d h' tk' B' (k d q) x i
theorem CallOK.room {f : Value} {ds : List D} {Q : D → Prop} {m : Nat} (h : CallOK W n f ds Q) (k : n ≤ m) : CallOK W m f ds Q :=
  fun A s B R E vs r o b a hR => h A s B R E vs (r.mono k) o b a hR
theorem WS.mono {ss : List Stmt} {P P' : Out → Prop} (h : WS W n env ss σ P) (k : ∀ o, P o → P' o) : WS W n env ss σ P' := by
  intro A s Kp B₀ B E r S
  refine wpAny_mono (h A s Kp B₀ B E r S) (fun f s' hp => ?_) fun _ _ e => e
  obtain ⟨h', tk', B', rfl, hp⟩ := hp
  refine ⟨h', tk', B', rfl, ?_⟩
  cases f with
  | next => obtain ⟨σ', a, b⟩ := hp; exact ⟨σ', k _ a, b⟩
  | brk => obtain ⟨σ', a, b⟩ := hp; exact ⟨σ', k _ a, b⟩
  | cont => obtain ⟨σ', a, b⟩ := hp; exact ⟨σ', k _ a, b⟩
  | ret v => obtain ⟨d, a, b⟩ := hp; exact ⟨d, k _ a, b⟩
theorem WS.has {ss : List Stmt} {τ : Sg} {P : Out → Prop} (h : WS W n env ss τ P) (k : Has σ τ) : WS W n env ss σ P :=
  fun A s Kp B₀ B E r S => h A s Kp B₀ B E r (S.has k)

/-- a bool, or whatever, as a test -/
theorem Ext.one {s : Shared} {B : Fz} (bh : ∀ a o, B a o → s.heap.get? a = some o) : Ext s.heap B s.heap B := Ext.refl bh
end
end

section
open PySem PySem.W PySem.Calls PyProof.Rows

/-- a step of the machine on two values -/
def V2 (W : Wd) (n : Nat) (t : Value → Value → Sem Value) (d1 d2 : D) (Q : D → Prop) : Prop :=
  ∀ (A : Around) (s : Shared) (B : Fz) (R : Value → Shared → Prop) (E : Value → Shared → Prop) (v1 v2 : Value), Room A n → W.Ok s.heap → (∀ a o, B a o → s.heap.get? a = some o) → In W.vecC B v1 d1 → In W.vecC B v2 d2 →
    (∀ v d h' tk' B', Q d → Ext s.heap B h' B' → In W.vecC B' v d → R v { s with heap := h', toks := tk' }) → wpAny (mdl W) A (t v1 v2) R E s

section
variable {W : Wd} {n : Nat} {env : Env} {σ : Sg}

theorem we_int {i : Int} {k : Nat} {pos : Pos} {Q : D → Prop} (h : Q (.int i)) : WE W n env σ (.Constant (.int i) k pos) Q :=
  fun _ s _ _ B _ _ _ S hR => wpAny_Constant_int (hR _ _ s.heap (s.toks + 1) B h (Ext.refl S.bh) (.int _ _))
theorem we_none {k : Nat} {pos : Pos} {Q : D → Prop} (h : Q .none) : WE W n env σ (.Constant .none k pos) Q :=
  fun _ s _ _ B _ _ _ S hR => PySem.wpAny_Constant_none (hR _ _ s.heap s.toks B h (Ext.refl S.bh) .none)
theorem we_bool {b : Bool} {k : Nat} {pos : Pos} {Q : D → Prop} (h : Q (.bool b)) : WE W n env σ (.Constant (.bool b) k pos) Q :=
  fun _ s _ _ B _ _ _ S hR => PySem.wpAny_Constant_bool (hR _ _ s.heap s.toks B h (Ext.refl S.bh) (.bool _))
theorem we_str {x : Str} {k : Nat} {pos : Pos} {Q : D → Prop} (h : Q (.str x)) : WE W n env σ (.Constant (.str x) k pos) Q :=
  fun _ s _ _ B _ _ _ S hR => PySem.wpAny_Constant_str (hR _ _ s.heap (s.toks + 1) B h (Ext.refl S.bh) (.str _ _))

/-- a name's value is read -/
theorem St.load {Kp B₀ B : Fz} {M : Model} {A : Around} {s : Shared} {E : Value → Shared → Prop} {x : Str} {d : D} {Q : Value → Shared → Prop} (S : St W env Kp B₀ B σ s.heap) (hl : σ.lookup x = some (.val d))
    (h : ∀ v, In W.vecC B v d → Q v s) (hn : (x == ("__classdict__" : Str)) = false) : wpAny M A (loadName env x) Q E s := by
  obtain ⟨m, cm, ad, F⟩ := S.fm
  obtain ⟨v, hv, hs⟩ := F.sl x _ hl
  rcases hv with ⟨hk, hm⟩ | ⟨hk | hk, c, hc, hm⟩
  · exact wpAny_loadName_local S.kind hk F.ns hm (h v hs)
  · exact wpAny_loadName_cell S.kind hk hc (hm ▸ F.cells x c hc) (h v hs)
  · exact wpAny_loadName_free S.kind hk hc (hm ▸ F.cells x c hc) (h v hs) hn

theorem we_name {x : Str} {pos : Pos} {d : D} {Q : D → Prop} (hl : σ.lookup x = some (.val d)) (h : Q d) (hd : (x == ("__debug__" : Str)) = false := by decide) (hn : (x == ("__classdict__" : Str)) = false := by decide) :
    WE W n env σ (.Name x pos) Q :=
  fun _ s _ _ B _ _ _ S hR => wpAny_Name (S.load hl (fun v hv => hR v d s.heap s.toks B h (Ext.refl S.bh) hv) hn) hd

theorem we_bin {l r : Expr} {op : Operator} {pos : Pos} {Q : D → Prop} (h : WE W n env σ l fun d1 => WE W n env σ r fun d2 => V2 W n (binaryOp op) d1 d2 Q) : WE W n env σ (.BinOp l op r pos) Q := by
  intro A s Kp B₀ B R E rm S hR
  refine wpAny_BinOp (h A s Kp B₀ B _ E rm S fun v1 d1 h1 t1 B1 q1 x1 i1 => ?_)
  refine q1 A _ Kp B₀ B1 _ E rm (S.ext x1) fun v2 d2 h2 t2 B2 q2 x2 i2 => ?_
  exact q2 A _ B2 R E v1 v2 rm ((S.ext x1).ext x2).ok ((S.ext x1).ext x2).bh (In.mono x2.sub i1) i2 fun v d h' tk' B' q x i => hR v d h' tk' B' q ((x1.trans x2).trans x) i

theorem we_cmp {l r : Expr} {op : CmpOp} {pos : Pos} {Q : D → Prop} (h : WE W n env σ l fun d1 => WE W n env σ r fun d2 => V2 W n (compareOp op) d1 d2 Q) (hm : behindInMarks op r = false := by with_unfolding_all rfl) :
    WE W n env σ (.Compare l [op] [r] pos) Q := by
  intro A s Kp B₀ B R E rm S hR
  refine wpAny_Compare1 (h A s Kp B₀ B _ E rm S fun v1 d1 h1 t1 B1 q1 x1 i1 => ?_) hm
  refine q1 A _ Kp B₀ B1 _ E rm (S.ext x1) fun v2 d2 h2 t2 B2 q2 x2 i2 => ?_
  exact q2 A _ B2 R E v1 v2 rm ((S.ext x1).ext x2).ok ((S.ext x1).ext x2).bh (In.mono x2.sub i1) i2 fun v d h' tk' B' q x i => hR v d h' tk' B' q ((x1.trans x2).trans x) i

/-- truth of a datum -/
def D.truth : D → Option Bool
  | .none => some false
  | .bool b => some b
  | .int i => some (i != 0)
  | _ => Option.none
theorem truthy_in {C : Addr} {B : Fz} {prog : Program} {w : World} {A : Around} {s : Shared} {E : Value → Shared → Prop} {v : Value} {d : D} {b : Bool} {Q : Bool → Shared → Prop} (hi : In C B v d) (ht : d.truth = some b) (h : Q b s) : wpAny (model prog w) A (truthy v) Q E s := by
  cases hi with
  | none => cases ht; exact truthy_none h
  | bool b => cases ht; exact wpAny_truthy_bool h
  | int i t => cases ht; exact PySem.P.truthy_int h
  | _ => cases ht

theorem we_not {e : Expr} {pos : Pos} {Q : D → Prop} (h : WE W n env σ e fun d => ∃ b, d.truth = some b ∧ Q (.bool (!b))) : WE W n env σ (.UnaryOp .Not e pos) Q := by
  intro A s Kp B₀ B R E rm S hR
  refine UnaryOp_ (h A s Kp B₀ B _ E rm S fun v d h1 t1 B1 q1 x1 i1 => ?_)
  obtain ⟨b, hb, hq⟩ := q1
  exact PyProof.Rows.not_of (truthy_in i1 hb (hR _ _ _ _ B1 hq x1 (.bool _)))
theorem we_neg {e : Expr} {pos : Pos} {Q : D → Prop} (h : WE W n env σ e fun d => ∃ i, d = .int i ∧ Q (.int (-i))) : WE W n env σ (.UnaryOp .USub e pos) Q := by
  intro A s Kp B₀ B R E rm S hR
  refine UnaryOp_ (h A s Kp B₀ B _ E rm S fun v d h1 t1 B1 q1 x1 i1 => ?_)
  obtain ⟨i, rfl, hq⟩ := q1
  cases i1
  exact PyProof.Rows.neg_int (hR _ _ h1 (t1 + 1) B1 hq x1 (.int _ _))
theorem we_and {e₁ e₂ : Expr} {rest : List Expr} {pos : Pos} {Q : D → Prop} (h : WE W n env σ e₁ fun d => ∃ b, d.truth = some b ∧ if b then WE W n env σ (.BoolOp .And (e₂ :: rest) pos) Q else Q d) : WE W n env σ (.BoolOp .And (e₁ :: e₂ :: rest) pos) Q := by
  intro A s Kp B₀ B R E rm S hR
  refine BoolOp_and (h A s Kp B₀ B _ E rm S fun v d h1 t1 B1 q1 x1 i1 => ?_)
  obtain ⟨b, hb, hq⟩ := q1
  refine truthy_in i1 hb ?_
  cases b with
  | false => exact hR v d h1 t1 B1 hq x1 i1
  | true => exact hq A _ Kp B₀ B1 R E rm (S.ext x1) fun v d h' tk' B' q x i => hR v d h' tk' B' q (x1.trans x) i
theorem we_or {e₁ e₂ : Expr} {rest : List Expr} {pos : Pos} {Q : D → Prop} (h : WE W n env σ e₁ fun d => ∃ b, d.truth = some b ∧ if b then Q d else WE W n env σ (.BoolOp .Or (e₂ :: rest) pos) Q) : WE W n env σ (.BoolOp .Or (e₁ :: e₂ :: rest) pos) Q := by
  intro A s Kp B₀ B R E rm S hR
  refine BoolOp_or (h A s Kp B₀ B _ E rm S fun v d h1 t1 B1 q1 x1 i1 => ?_)
  obtain ⟨b, hb, hq⟩ := q1
  refine truthy_in i1 hb ?_
  cases b with
  | true => exact hR v d h1 t1 B1 hq x1 i1
  | false => exact hq A _ Kp B₀ B1 R E rm (S.ext x1) fun v d h' tk' B' q x i => hR v d h' tk' B' q (x1.trans x) i
theorem we_one {op : BoolOp} {e : Expr} {pos : Pos} {Q : D → Prop} (h : WE W n env σ e Q) : WE W n env σ (.BoolOp op [e] pos) Q :=
  fun A s Kp B₀ B R E rm S hR => BoolOp_one (h A s Kp B₀ B R E rm S hR)
theorem we_ifexp {t b o : Expr} {pos : Pos} {Q : D → Prop} (h : WT W n env σ t fun c => if c then WE W n env σ b Q else WE W n env σ o Q) : WE W n env σ (.IfExp t b o pos) Q := by
  intro A s Kp B₀ B R E rm S hR
  refine IfExp_ (h A s Kp B₀ B _ E rm S fun c h1 t1 B1 q1 x1 => ?_)
  cases c with
  | true => exact q1 A _ Kp B₀ B1 R E rm (S.ext x1) fun v d h' tk' B' q x i => hR v d h' tk' B' q (x1.trans x) i
  | false => exact q1 A _ Kp B₀ B1 R E rm (S.ext x1) fun v d h' tk' B' q x i => hR v d h' tk' B' q (x1.trans x) i

-- tests
theorem wt_cmp {l r : Expr} {op : CmpOp} {pos : Pos} {Q : Bool → Prop} (h : WE W n env σ l fun d1 => WE W n env σ r fun d2 => V2 W n (compareOp op) d1 d2 fun d => ∃ b, d.truth = some b ∧ Q b) (hm : behindInMarks op r = false := by with_unfolding_all rfl) :
    WT W n env σ (.Compare l [op] [r] pos) Q := by
  intro A s Kp B₀ B R E rm S hR
  refine wpAny_isTrue_Compare1 (h A s Kp B₀ B _ E rm S fun v1 d1 h1 t1 B1 q1 x1 i1 => ?_) hm
  refine q1 A _ Kp B₀ B1 _ E rm (S.ext x1) fun v2 d2 h2 t2 B2 q2 x2 i2 => ?_
  refine q2 A _ B2 _ E v1 v2 rm ((S.ext x1).ext x2).ok ((S.ext x1).ext x2).bh (In.mono x2.sub i1) i2 fun v d h' tk' B' q x i => ?_
  obtain ⟨b, hb, hq⟩ := q
  exact truthy_in i hb (hR b h' tk' B' hq ((x1.trans x2).trans x))
theorem wt_not {e : Expr} {pos : Pos} {Q : Bool → Prop} (h : WT W n env σ e fun b => Q (!b)) : WT W n env σ (.UnaryOp .Not e pos) Q :=
  fun A s Kp B₀ B R E rm S hR => isTrue_not (h A s Kp B₀ B _ E rm S fun b h' tk' B' q x => hR (!b) h' tk' B' q x)
theorem wt_and_nil {pos : Pos} {Q : Bool → Prop} (h : Q true) : WT W n env σ (.BoolOp .And [] pos) Q :=
  fun _ s _ _ B _ _ _ S hR => isTrue_and_nil (hR true s.heap s.toks B h (Ext.refl S.bh))
theorem wt_or_nil {pos : Pos} {Q : Bool → Prop} (h : Q false) : WT W n env σ (.BoolOp .Or [] pos) Q :=
  fun _ s _ _ B _ _ _ S hR => isTrue_or_nil (hR false s.heap s.toks B h (Ext.refl S.bh))
theorem wt_and {e : Expr} {rest : List Expr} {pos : Pos} {Q : Bool → Prop} (h : WT W n env σ e fun b => if b then WT W n env σ (.BoolOp .And rest pos) Q else Q false) : WT W n env σ (.BoolOp .And (e :: rest) pos) Q := by
  intro A s Kp B₀ B R E rm S hR
  refine isTrue_and (h A s Kp B₀ B _ E rm S fun c h1 t1 B1 q1 x1 => ?_)
  cases c with
  | false => exact hR false h1 t1 B1 q1 x1
  | true => exact q1 A _ Kp B₀ B1 R E rm (S.ext x1) fun b h' tk' B' q x => hR b h' tk' B' q (x1.trans x)
theorem wt_or {e : Expr} {rest : List Expr} {pos : Pos} {Q : Bool → Prop} (h : WT W n env σ e fun b => if b then Q true else WT W n env σ (.BoolOp .Or rest pos) Q) : WT W n env σ (.BoolOp .Or (e :: rest) pos) Q := by
  intro A s Kp B₀ B R E rm S hR
  refine isTrue_or (h A s Kp B₀ B _ E rm S fun c h1 t1 B1 q1 x1 => ?_)
  cases c with
  | true => exact hR true h1 t1 B1 q1 x1
  | false => exact q1 A _ Kp B₀ B1 R E rm (S.ext x1) fun b h' tk' B' q x => hR b h' tk' B' q (x1.trans x)
/-- any other expression as a test -/
theorem wt_val {e : Expr} {Q : Bool → Prop} (h : WE W n env σ e fun d => ∃ b, d.truth = some b ∧ Q b)
    (he : ∀ whole, PySem.isTrue e env whole = (do let v ← whole; standAt e.pos; holding [v] (truthy v)) := by intro _; rfl) : WT W n env σ e Q := by
  intro A s Kp B₀ B R E rm S hR
  refine isTrue_plain (h A s Kp B₀ B _ E rm S fun v d h1 t1 B1 q1 x1 i1 => ?_) (he _)
  obtain ⟨b, hb, hq⟩ := q1
  exact truthy_in i1 hb (hR b h1 t1 B1 hq x1)

-- several
theorem wl_nil {Q : List D → Prop} (h : Q []) : WL W n env σ [] Q :=
  fun _ _ s _ _ B _ _ _ S hR => PyProof.Rows.args_nil (hR [] [] s.heap s.toks B h (Ext.refl S.bh) .nil)
theorem wl_cons {e : Expr} {rest : List Expr} {Q : List D → Prop} (h : WE W n env σ e fun d => WL W n env σ rest fun ds => Q (d :: ds)) (he : starEach (e :: rest) env = (false, eval e env) :: starEach rest env := by rfl) : WL W n env σ (e :: rest) Q := by
  intro A pos s Kp B₀ B R E rm S hR
  refine PyProof.Rows.args_cons (h A s Kp B₀ B _ E rm S fun v d h1 t1 B1 q1 x1 i1 => ?_) he
  exact q1 A pos _ Kp B₀ B1 _ E rm (S.ext x1) fun vs ds h' tk' B' q x i => hR (v :: vs) (d :: ds) h' tk' B' q (x1.trans x) (.cons (In.mono x.sub i1) i)
theorem sizeLine_ge {k : Nat} (h : k ≤ 1000000) : k ≤ sizeLine := by rw [sizeLine_eq]; omega
theorem we_tuple {es : List Expr} {k : Nat} {pos : Pos} {Q : D → Prop} (h : WL W n env σ es fun ds => ds.length ≤ 1000000 ∧ Q (.tup ds)) : WE W n env σ (.Tuple es k pos) Q := by
  intro A s Kp B₀ B R E rm S hR
  refine wpAny_Tuple (h A pos s Kp B₀ B _ E rm S fun vs ds h1 t1 B1 q1 x1 i1 => ?_)
  refine ⟨by rw [i1.length]; exact sizeLine_ge q1.1, ?_⟩
  have x2 : Ext h1 B1 (h1.push { cls := .type "tuple", data := .seq vs.toArray }) (B1.add h1.objs.size { cls := .type "tuple", data := .seq vs.toArray }) := Ext.alloc x1.bh rfl
  exact hR _ _ _ t1 _ q1.2 (x1.trans x2) (.tup Fz.add_self rfl rfl (i1.mono x2.sub))
theorem wo_list {es : List Expr} {pos : Pos} {Q : List D → Prop} (h : WL W n env σ es fun ds => ds.length ≤ 1000000 ∧ Q ds) : WO W n env σ (.List es pos) Q := by
  intro A s Kp B₀ B R E rm S hR
  refine wpAny_List (h A pos s Kp B₀ B _ E rm S fun vs ds h1 t1 B1 q1 x1 i1 => ?_)
  refine ⟨by rw [i1.length]; exact sizeLine_ge q1.1, ?_⟩
  have x2 : Ext h1 B1 (h1.push { cls := .type "list", data := .seq vs.toArray }) B1 := Ext.heap x1.bh fun _ _ e => Heap.get?_push_of_some _ e
  have nw := get?_none_size h1
  refine hR _ vs 0 ds _ t1 B1 q1.2 (x1.trans x2) (Heap.get?_push_size _ rfl) ?_ (fun o hb => ?_) i1
  · cases q : s.heap.get? h1.objs.size with
    | none => rfl
    | some o => have := x1.keep _ _ q; rw [nw] at this; cases this
  · have := x1.bh _ _ hb
    rw [nw] at this; cases this
/-- a new list is handed on as a datum -/
theorem Ext.freeze {h h' : Heap} {B B' : Fz} (x : Ext h B h' B') {a : Addr} {o : Obj} (ho : h'.get? a = some o) (hn : h.get? a = none) : Ext h B h' (B'.add a o) :=
  ⟨x.keep, fun b y e => .inl (x.sub b y e), fun b y e => by
    rcases e with e | ⟨rfl, rfl⟩
    · exact x.bh b y e
    · exact ho, fun b y e => by
    rcases e with e | ⟨rfl, rfl⟩
    · exact x.fresh b y e
    · exact .inr hn⟩
theorem WO.frozen {e : Expr} {Q : D → Prop} (h : WO W n env σ e fun ds => Q (.lst ds)) : WE W n env σ e Q :=
  fun A s Kp B₀ B R E rm S hR => h A s Kp B₀ B R E rm S fun a vs k ds h' tk' B' q x ho hn _ i => hR _ _ h' tk' _ q (x.freeze ho hn) (.lst Fz.add_self rfl rfl (i.mono Fz.sub_add))
theorem CallOwn.frozen {f : Value} {ds : List D} {Q : D → Prop} (h : CallOwn W n f ds fun l => Q (.lst l)) : CallOK W n f ds Q :=
  fun A s B R E vs r o b a hR => h A s B R E vs r o b a fun a vs k ds h' tk' B' q x ho hn _ i => hR _ _ h' tk' _ q (x.freeze ho hn) (.lst Fz.add_self rfl rfl (i.mono Fz.sub_add))

-- an item
def ItemOf (o : D) (k : Int) (d : D) : Prop := ∃ l, (o = .lst l ∨ o = .tup l) ∧ 0 ≤ k ∧ k < 2 ^ 62 ∧ l[k.toNat]? = some d
theorem seqIndex_nonneg {k : Int} {m : Nat} (h0 : 0 ≤ k) (h1 : k.toNat < m) : seqIndex? k m = some k.toNat := by
  unfold seqIndex?
  have : ¬ k < 0 := by omega
  simp only [this, if_false]
  rw [if_pos (by simp only [Bool.and_eq_true, decide_eq_true_eq]; omega)]
theorem item_in {B : Fz} {A : Around} {s : Shared} {E : Value → Shared → Prop} {value slice : Expr} {ov : Value} {k : Int} {u : Tok} {o d : D} {Q : Value → Shared → Prop} (bh : ∀ a o, B a o → s.heap.get? a = some o) (hi : In W.vecC B ov o) (hk : ItemOf o k d)
    (h : ∀ v, In W.vecC B v d → Q v s)
    (hs : ∀ a, subscripted slice false (.ref a) (.int k u) = operate [.ref a, .int k u] (getItem (.ref a) (.int k u)))
    (ht : ∀ a r, letTemporaryGo value (.ref a) r = pure ()) :
    wpAny (mdl W) A (subscriptTail value slice ov (.int k u)) Q E s := by
  obtain ⟨l, ho, h0, h1, hl⟩ := hk
  have hlt : k.toNat < l.length := (List.getElem?_eq_some_iff.mp hl).1
  rcases ho with rfl | rfl
  · cases hi with
    | lst hb hc hd ha =>
      obtain ⟨v, hv, hin⟩ := ha.get hl
      exact item_listL ⟨_, bh _ _ hb, hc, _, hd⟩ h0 (by omega) hv (h v hin) (hs _) (ht _)
  · cases hi with
    | tup hb hc hd ha =>
      obtain ⟨v, hv, hin⟩ := ha.get hl
      exact item_tupleL ⟨_, bh _ _ hb, hc, _, hd⟩ (by omega) (by omega) (seqIndex_nonneg h0 (by rw [ha.length]; exact hlt)) hv (h v hin) (hs _) (ht _)
theorem we_item {value slice : Expr} {pos : Pos} {Q : D → Prop} (h : WE W n env σ value fun o => WE W n env σ slice fun i => ∃ k d, i = .int k ∧ ItemOf o k d ∧ Q d)
    (hs : ∀ a k u, subscripted slice false (.ref a) (.int k u) = operate [.ref a, .int k u] (getItem (.ref a) (.int k u)) := by intro _ _ _; with_unfolding_all rfl)
    (ht : ∀ a r, letTemporaryGo value (.ref a) r = pure () := by intro _ _; rfl) : WE W n env σ (.Subscript value slice pos) Q := by
  intro A s Kp B₀ B R E rm S hR
  refine Subscript_ (h A s Kp B₀ B _ E rm S fun v1 d1 h1 t1 B1 q1 x1 i1 => ?_)
  refine q1 A _ Kp B₀ B1 _ E rm (S.ext x1) fun v2 d2 h2 t2 B2 q2 x2 i2 => ?_
  obtain ⟨k, d, rfl, hk, hq⟩ := q2
  cases i2
  exact item_in x2.bh (In.mono x2.sub i1) hk (fun v hv => hR v d h2 t2 B2 hq (x1.trans x2) hv) (fun a => hs a k _) ht
/-- the last item, by -1 -/
theorem we_last {value slice : Expr} {pos : Pos} {Q : D → Prop} (h : WE W n env σ value fun o => WE W n env σ slice fun i => ∃ l d, i = .int (-1) ∧ o = .lst l ∧ l.getLast? = some d ∧ Q d)
    (hs : ∀ a k u, subscripted slice false (.ref a) (.int k u) = operate [.ref a, .int k u] (getItem (.ref a) (.int k u)) := by intro _ _ _; with_unfolding_all rfl) : WE W n env σ (.Subscript value slice pos) Q := by
  intro A s Kp B₀ B R E rm S hR
  refine Subscript_ (h A s Kp B₀ B _ E rm S fun v1 d1 h1 t1 B1 q1 x1 i1 => ?_)
  refine q1 A _ Kp B₀ B1 _ E rm (S.ext x1) fun v2 d2 h2 t2 B2 q2 x2 i2 => ?_
  obtain ⟨l, d, rfl, rfl, hl, hq⟩ := q2
  cases i2
  cases In.mono x2.sub i1 with
  | lst hb hc hd ha =>
    have hne : l ≠ [] := by rintro rfl; cases hl
    have hpos : 0 < l.length := List.length_pos_iff.mpr hne
    rw [List.getLast?_eq_getElem?] at hl
    obtain ⟨v, hv, hin⟩ := ha.get hl
    have hL : (({ s with heap := h2, toks := t2 } : Shared).heap).IsList _ _ := ⟨_, x2.bh _ _ hb, hc, _, hd⟩
    refine tail_any hL.typeIs slot_list_getitem.lookup (wpAny_getItem_list_neg hL (by decide) (by rw [List.size_toArray, ha.length]; omega) (by decide) ?_ (hR v d h2 t2 B2 hq (x1.trans x2) hin)) (hs _ _ _)
    have e : ((-1 : Int) + (List.toArray ‹List Value›).size).toNat = l.length - 1 := by rw [List.size_toArray, ha.length]; omega
    rw [e]
    simpa using hv
end

-- integers
section
variable {W : Wd} {n : Nat} {a b : Int} {Q : D → Prop}
def Sz (i : Int) : Prop := i.natAbs < 2 ^ 4000
theorem v_add (h : Q (.int (a + b))) : V2 W n (binaryOp .Add) (.int a) (.int b) Q := by
  intro A s B R E v1 v2 rm ok bh i1 i2 hR
  cases i1; cases i2
  exact PyProof.Rows.add_int (hR _ _ s.heap (s.toks + 1) B h (Ext.refl bh) (.int _ _))
theorem v_sub (h : Q (.int (a - b))) : V2 W n (binaryOp .Sub) (.int a) (.int b) Q := by
  intro A s B R E v1 v2 rm ok bh i1 i2 hR
  cases i1; cases i2
  exact PyProof.Rows.sub_int (hR _ _ s.heap (s.toks + 1) B h (Ext.refl bh) (.int _ _))
theorem log2_lt_of {k : Nat} (h : k < 2 ^ 4000) : k.log2 < 4001 := by
  by_cases h0 : k = 0
  · subst h0; exact (by decide : (0 : Nat).log2 < 4001)
  · exact Nat.lt_succ_of_lt ((Nat.log2_lt h0).mpr h)
theorem mulOk_sz (ha : Sz a) (hb : Sz b) : IntMulOk a b := by
  have bits : ∀ {i : Int}, Sz i → Builtin.Int.intBits i ≤ 2 ^ 20 := by
    intro i hi
    have := log2_lt_of hi
    have e : (2 : Nat) ^ 20 = 1048576 := by decide
    unfold Builtin.Int.intBits
    split <;> omega
  exact IntMulOk.of_bits (bits ha) (bits hb)
theorem v_mul (ha : Sz a) (hb : Sz b) (h : Q (.int (a * b))) : V2 W n (binaryOp .Mult) (.int a) (.int b) Q := by
  intro A s B R E v1 v2 rm ok bh i1 i2 hR
  cases i1; cases i2
  exact PyProof.Rows.mul_int (hR _ _ s.heap (s.toks + 1) B h (Ext.refl bh) (.int _ _)) (mulOk_sz ha hb)
theorem v_div (hb : 0 < b) (hz : Sz b) (h : Q (.int (a / b))) : V2 W n (binaryOp .FloorDiv) (.int a) (.int b) Q := by
  intro A s B R E v1 v2 rm ok bh i1 i2 hR
  cases i1; cases i2
  have e : a.fdiv b = a / b := Int.fdiv_eq_ediv_of_nonneg a (Int.le_of_lt hb)
  exact PyProof.Rows.floordiv_int (by omega) (by rw [e]; exact hR _ _ s.heap (s.toks + 1) B h (Ext.refl bh) (.int _ _)) (.inl (PyProof.noPylong_of_log2 (Nat.lt_trans (log2_lt_of hz) (by decide))))
theorem v_mod (hb : 0 < b) (h : Q (.int (a % b))) : V2 W n (binaryOp .Mod) (.int a) (.int b) Q := by
  intro A s B R E v1 v2 rm ok bh i1 i2 hR
  cases i1; cases i2
  have e : a.fmod b = a % b := Int.fmod_eq_emod_of_nonneg a (Int.le_of_lt hb)
  exact PyProof.Rows.mod_int' (by omega) (by rw [e]; exact hR _ _ s.heap (s.toks + 1) B h (Ext.refl bh) (.int _ _))
theorem v_lt (h : Q (.bool (decide (a < b)))) : V2 W n (compareOp .Lt) (.int a) (.int b) Q := by
  intro A s B R E v1 v2 rm ok bh i1 i2 hR
  cases i1; cases i2
  exact PySem.P.lt_int (hR _ _ s.heap s.toks B h (Ext.refl bh) (.bool _))
theorem v_le (h : Q (.bool (decide (a ≤ b)))) : V2 W n (compareOp .LtE) (.int a) (.int b) Q := by
  intro A s B R E v1 v2 rm ok bh i1 i2 hR
  cases i1; cases i2
  exact PySem.P.le_int (hR _ _ s.heap s.toks B h (Ext.refl bh) (.bool _))
theorem v_gt (h : Q (.bool (decide (a > b)))) : V2 W n (compareOp .Gt) (.int a) (.int b) Q := by
  intro A s B R E v1 v2 rm ok bh i1 i2 hR
  cases i1; cases i2
  exact PySem.P.gt_int (hR _ _ s.heap s.toks B h (Ext.refl bh) (.bool _))
theorem v_ge (h : Q (.bool (decide (a ≥ b)))) : V2 W n (compareOp .GtE) (.int a) (.int b) Q := by
  intro A s B R E v1 v2 rm ok bh i1 i2 hR
  cases i1; cases i2
  exact PySem.P.ge_int (hR _ _ s.heap s.toks B h (Ext.refl bh) (.bool _))
theorem v_eq (h : Q (.bool (a == b))) : V2 W n (compareOp .Eq) (.int a) (.int b) Q := by
  intro A s B R E v1 v2 rm ok bh i1 i2 hR
  cases i1; cases i2
  exact PySem.P.eq_int (hR _ _ s.heap s.toks B h (Ext.refl bh) (.bool _))
theorem v_ne (h : Q (.bool (a != b))) : V2 W n (compareOp .NotEq) (.int a) (.int b) Q := by
  intro A s B R E v1 v2 rm ok bh i1 i2 hR
  cases i1; cases i2
  exact PySem.P.ne_int (hR _ _ s.heap s.toks B h (Ext.refl bh) (.bool _))
def D.isNone : D → Bool
  | .none => true
  | _ => false
theorem v_is {d : D} (h : Q (.bool d.isNone)) : V2 W n (compareOp .Is) d .none Q := by
  intro A s B R E v1 v2 rm ok bh i1 i2 hR
  cases i2
  refine PySem.is_none ?_
  have e : (v1 == Value.none) = d.isNone := by cases i1 <;> rfl
  rw [e]
  exact hR _ _ s.heap s.toks B h (Ext.refl bh) (.bool _)
theorem v_isnot {d : D} (h : Q (.bool (!d.isNone))) : V2 W n (compareOp .IsNot) d .none Q := by
  intro A s B R E v1 v2 rm ok bh i1 i2 hR
  cases i2
  refine PySem.isNot_none ?_
  have e : (v1 == Value.none) = d.isNone := by cases i1 <;> rfl
  rw [e]
  exact hR _ _ s.heap s.toks B h (Ext.refl bh) (.bool _)
theorem v_eqs {x y : Str} (h : Q (.bool (x == y))) : V2 W n (compareOp .Eq) (.str x) (.str y) Q := by
  intro A s B R E v1 v2 rm ok bh i1 i2 hR
  cases i1; cases i2
  exact PyProof.Rows.eq_str (hR _ _ s.heap s.toks B h (Ext.refl bh) (.bool _))
end
end

section
open PySem PySem.W PySem.Calls PyProof.Rows

/-- a name that a store may meet -/
def Stor (env : Env) (x : Str) : Prop := env.kindOf x = some .local ∨ (env.kindOf x = some .cell ∧ (env.cells.lookup x).isSome = true)

section
variable {W : Wd} {n : Nat} {env : Env} {σ : Sg} {Kp B₀ B : Fz}

theorem St.setMut {h h' : Heap} {m cm m' cm' : Str → Option Value} {ad ad' : Str → Addr} {c : Addr} {x : Str} {v : Value} {sl : Slot} (S : St W env Kp B₀ B σ h) (F : Fm W env Kp B σ h m cm ad)
    (hc : Mut env c) (hs : Heap.SameBut c h h') (hl : ∃ o, h'.get? c = some o) (hn : h'.Ns env.locals m') (hce : ∀ n c, env.cells.lookup n = some c → h'.IsCell c (cm' n))
    (hx : VarAt env m' cm' x v) (hy : ∀ y u, y ≠ x → VarAt env m cm y u → VarAt env m' cm' y u) (hnew : SlotAt W env Kp B h' ad' x v sl) (had : ∀ y, y ≠ x → ad' y = ad y)
    (htwo : ∀ l, sl = .own l → ∀ y l', y ≠ x → σ.lookup y = some (.own l') → ad y ≠ ad' x) : St W env Kp B₀ B ((x, sl) :: σ) h' := by
  have old : ∀ a o, a ≠ c → h.get? a = some o → h'.get? a = some o := fun a o ne e => (hs.2 a ne).trans e
  have look : ∀ y s, ((x, sl) :: σ).lookup y = some s → (y = x ∧ s = sl) ∨ (y ≠ x ∧ σ.lookup y = some s) := fun y s e => by
    rw [List.lookup_cons] at e
    by_cases q : (y == x) = true
    · rw [q] at e; simp only at e; cases e; exact .inl ⟨beq_iff_eq.mp q, rfl⟩
    · have q' : (y == x) = false := by simpa using q
      rw [q'] at e; exact .inr ⟨fun z => q (beq_iff_eq.mpr z), e⟩
  refine ⟨S.kind, S.glob, S.bi, S.base, fun a o e => old a o (fun z => F.kM a o (z ▸ hc) e) (S.kp a o e), fun a o e => old a o (fun z => F.bM a o (z ▸ hc) e) (S.bh a o e), S.b0, S.lim, m', cm', ad', hn, hce, F.apart, F.lc, F.kM, F.bM, fun a ha => ?_, fun y s e => ?_, fun y z l l' e e' hyz => ?_⟩
  · by_cases q : a = c
    · exact q ▸ hl
    · obtain ⟨o, ho⟩ := F.live a ha
      exact ⟨o, old a o q ho⟩
  · rcases look y s e with ⟨rfl, rfl⟩ | ⟨ne, e⟩
    · exact ⟨v, hx, hnew⟩
    · obtain ⟨u, hu, hsl⟩ := F.sl y s e
      refine ⟨u, hy y u ne hu, ?_⟩
      cases s with
      | val d => exact hsl
      | own l =>
        obtain ⟨h1, ⟨vs, k, h2, h3⟩, h4, h5, h6⟩ := hsl
        show u = .ref (ad' y) ∧ (∃ vs n, h'.get? (ad' y) = some (listOf vs.toArray n) ∧ All W.vecC B vs l) ∧ _
        rw [had y ne]
        exact ⟨h1, ⟨vs, k, old _ _ (fun z => h6 (z ▸ hc)) h2, h3⟩, h4, h5, h6⟩
  · rcases look y _ e with ⟨ey, es⟩ | ⟨ne, e⟩ <;> rcases look z _ e' with ⟨ez, es'⟩ | ⟨ne', e'⟩
    · rw [ey, ez]
    · exact absurd ((had z ne').symm.trans (hyz.symm.trans (by rw [ey]))) (htwo l es.symm z l' ne' e')
    · exact absurd ((had y ne).symm.trans (hyz.trans (by rw [ez]))) (htwo l' es'.symm y l ne e)
    · rw [had y ne, had z ne'] at hyz
      exact F.two y z l l' e e' hyz

theorem lookup_mem {α : Type} {l : List (Str × α)} {x : Str} {c : α} (h : l.lookup x = some c) : (x, c) ∈ l := PySem.mem_of_lookup h

theorem St.storeG {M : Model} {A : Around} {s : Shared} {E : Value → Shared → Prop} {x : Str} {v : Value} {sl : Slot} {Q : Unit → Shared → Prop} {m cm : Str → Option Value} {ad ad' : Str → Addr} (S : St W env Kp B₀ B σ s.heap) (F : Fm W env Kp B σ s.heap m cm ad) (hx : Stor env x)
    (hnew : ∀ h', (∀ a o, ¬ Mut env a → s.heap.get? a = some o → h'.get? a = some o) → SlotAt W env Kp B h' ad' x v sl) (had : ∀ y, y ≠ x → ad' y = ad y)
    (htwo : ∀ l, sl = .own l → ∀ y l', y ≠ x → σ.lookup y = some (.own l') → ad y ≠ ad' x)
    (h : ∀ h' tk', St W env Kp B₀ B ((x, sl) :: σ) h' → Q () { s with heap := h', toks := tk' }) : wpAny M A (storeName env x v) Q E s := by
  rcases hx with hk | ⟨hk, hc⟩
  · refine wpAny_storeName_local hk F.ns (fun h' hn hs => h h' (s.toks + 1) ?_) (by rw [S.kind]; rfl)
    obtain ⟨oL, es, ep, hL, _⟩ := id hn
    refine S.setMut F (.inl rfl) hs ⟨_, hL⟩ hn (fun k c e => (F.cells k c e).sameBut hs (F.lc k c (lookup_mem e))) (.inl ⟨hk, by simp⟩) (fun y u ne hu => ?_) (hnew h' fun a o na e => (hs.2 a fun z => na (.inl z)).trans e) had htwo
    rcases hu with ⟨k1, k2⟩ | k1
    · exact .inl ⟨k1, by simp only [ne, if_false]; exact k2⟩
    · exact .inr k1
  · obtain ⟨c, hc⟩ := Option.isSome_iff_exists.mp hc
    have hm : Mut env c := .inr ⟨x, hc⟩
    have hcl : c ≠ env.locals := F.lc x c (lookup_mem hc)
    refine wpAny_storeName_cell S.kind hk hc (F.cells x c hc) fun h' hv hs => h h' s.toks ?_
    obtain ⟨o, ho, _⟩ := id hv
    refine S.setMut (cm' := fun y => if y = x then some v else cm y) F hm hs ⟨o, ho⟩ (F.ns.sameBut hs (Ne.symm hcl)) (fun k c' e => ?_) (.inr ⟨.inl hk, c, hc, by simp⟩) (fun y u ne hu => ?_) (hnew h' fun a o na e => (hs.2 a fun z => na (z ▸ hm)).trans e) had htwo
    · by_cases q : k = x
      · subst q; rw [hc] at e; cases e; simpa using hv
      · rw [if_neg q]
        refine (F.cells k c' e).sameBut hs fun z => q ?_
        exact PySem.name_of_addr F.apart (lookup_mem e) (z ▸ lookup_mem hc)
    · rcases hu with k1 | ⟨k1, c', k2, k3⟩
      · exact .inl k1
      · exact .inr ⟨k1, c', k2, by simp only [ne, if_false]; exact k3⟩

theorem St.store {M : Model} {A : Around} {s : Shared} {E : Value → Shared → Prop} {x : Str} {v : Value} {d : D} {Q : Unit → Shared → Prop} (S : St W env Kp B₀ B σ s.heap) (hx : Stor env x) (hi : In W.vecC B v d)
    (h : ∀ h' tk', St W env Kp B₀ B ((x, .val d) :: σ) h' → Q () { s with heap := h', toks := tk' }) : wpAny M A (storeName env x v) Q E s := by
  obtain ⟨m, cm, ad, F⟩ := S.fm
  exact S.storeG (sl := .val d) (ad' := ad) F hx (fun _ _ => hi) (fun _ _ => rfl) (fun l e => by cases e) h

/-- the store of a list that is the frame's own: it was not there a moment ago -/
theorem St.storeOwn {M : Model} {A : Around} {s : Shared} {hp : Heap} {E : Value → Shared → Prop} {x : Str} {a : Addr} {vs : List Value} {k : Nat} {l : List D} {B' : Fz} {Q : Unit → Shared → Prop} (S : St W env Kp B₀ B σ hp) (x1 : Ext hp B s.heap B') (hx : Stor env x)
    (ho : s.heap.get? a = some (listOf vs.toArray k)) (hn : hp.get? a = none) (hb : ∀ o, ¬ B' a o) (hi : All W.vecC B' vs l)
    (h : ∀ h' tk', St W env Kp B₀ B' ((x, .own l) :: σ) h' → Q () { s with heap := h', toks := tk' }) : wpAny M A (storeName env x (.ref a)) Q E s := by
  have S' := S.ext x1
  obtain ⟨m, cm, ad, F0⟩ := S.fm
  obtain ⟨m, cm, ad, F⟩ := S'.fm
  have na : ¬ Mut env a := fun hm => by obtain ⟨o, q⟩ := F0.live a hm; rw [hn] at q; cases q
  have nk : ∀ o, ¬ Kp a o := fun o q => by have := S.kp a o q; rw [hn] at this; cases this
  by_cases two : ∀ y l', y ≠ x → σ.lookup y = some (.own l') → ad y ≠ a
  · refine S'.storeG (ad' := fun y => if y = x then a else ad y) F hx (fun h' k' => ?_) (fun y ne => by simp [ne]) (fun l' e y l'' ne q => by simpa using two y l'' ne q) h
    have key : ∀ b, b = a → (Value.ref a = .ref b ∧ (∃ vs n, h'.get? b = some (listOf vs.toArray n) ∧ All W.vecC B' vs l) ∧ (∀ o, ¬ Kp b o) ∧ (∀ o, ¬ B' b o) ∧ ¬ Mut env b) := by
      rintro b rfl
      exact ⟨rfl, ⟨vs, k, k' _ _ na ho, hi⟩, nk, hb, na⟩
    exact key _ (if_pos rfl)
  · exfalso
    apply two
    intro y l' ne q e
    -- the address stood before
    obtain ⟨m0, cm0, ad0, F1⟩ := S.fm
    obtain ⟨u, hu, hs⟩ := F1.sl y _ q
    obtain ⟨u', hu', hs'⟩ := F.sl y _ q
    have e1 : u = .ref (ad0 y) := hs.1
    have e2 : u' = .ref (ad y) := hs'.1
    obtain ⟨vs0, k0, h0, _⟩ := hs.2.1
    have same : u = u' := by
      have kk : ∀ {m1 cm1 m2 cm2}, Fm W env Kp B σ hp m1 cm1 ad0 → Fm W env Kp B' σ s.heap m2 cm2 ad → VarAt env m1 cm1 y u → VarAt env m2 cm2 y u' → u = u' := by
        intro m1 cm1 m2 cm2 G1 G2 v1 v2
        have n1 := G1.ns.keeps x1.keep
        rcases v1 with ⟨k1, a1⟩ | ⟨k1, c1, b1, a1⟩ <;> rcases v2 with ⟨k2, a2⟩ | ⟨k2, c2, b2, a2⟩
        · obtain ⟨o1, es1, _, p1, p2, _, p4⟩ := n1
          obtain ⟨o2, es2, _, r1, r2, _, r4⟩ := G2.ns
          rw [p1] at r1; cases r1; rw [p2] at r2; cases r2
          have := (p4 y).symm.trans (r4 y)
          rw [a1, a2] at this; cases this; rfl
        · rw [k1] at k2; rcases k2 with k2 | k2 <;> cases k2
        · rw [k2] at k1; rcases k1 with k1 | k1 <;> cases k1
        · rw [b1] at b2; cases b2
          obtain ⟨o1, p1, p2⟩ := (G1.cells y c1 b1).keeps x1.keep
          obtain ⟨o2, r1, r2⟩ := G2.cells y c1 b1
          rw [p1] at r1; cases r1; rw [p2] at r2
          have : cm1 y = cm2 y := by injection r2
          rw [a1, a2] at this; cases this; rfl
      exact kk F1 F hu hu'
    rw [e1, e2] at same
    injection same with same
    rw [same, e, hn] at h0
    cases h0
end
end

section
open PySem PySem.W PySem.Calls PyProof.Rows
set_option linter.unusedVariables false
section
variable {W : Wd} {n : Nat} {env : Env} {σ : Sg} {Kp B₀ B : Fz}

theorem look_cons {x y : Str} {sl s : Slot} (e : ((x, sl) :: σ).lookup y = some s) : (y = x ∧ s = sl) ∨ (y ≠ x ∧ σ.lookup y = some s) := by
  rw [List.lookup_cons] at e
  by_cases q : (y == x) = true
  · rw [q] at e; simp only at e; cases e; exact .inl ⟨beq_iff_eq.mp q, rfl⟩
  · have q' : (y == x) = false := by simpa using q
    rw [q'] at e; exact .inr ⟨fun z => q (beq_iff_eq.mpr z), e⟩

/-- an own list is from now on frozen -/
theorem St.freeze' {h : Heap} {m cm : Str → Option Value} {ad : Str → Addr} {x : Str} {l : List D} (S : St W env Kp B₀ B σ h) (F : Fm W env Kp B σ h m cm ad) (hl : σ.lookup x = some (.own l)) :
    ∃ (vs : List Value) (k : Nat), h.get? (ad x) = some (listOf vs.toArray k) ∧ (∀ o, ¬ B (ad x) o) ∧ ¬ Mut env (ad x) ∧ St W env Kp B₀ (B.add (ad x) (listOf vs.toArray k)) ((x, .val (.lst l)) :: σ) h := by
  obtain ⟨v, hv, h1, ⟨vs, k, h2, h3⟩, h4, h5, h6⟩ := F.sl x _ hl
  refine ⟨vs, k, h2, h5, h6, S.kind, S.glob, S.bi, S.base, S.kp, fun a o e => ?_, fun a o e => .inl (S.b0 a o e), fun a o e => ?_, m, cm, ad, F.ns, F.cells, F.apart, F.lc, F.kM, fun a o hm e => ?_, F.live, fun y s e => ?_, fun y z l1 l2 e1 e2 => ?_⟩
  · rcases e with e | ⟨rfl, rfl⟩
    · exact S.bh a o e
    · exact h2
  · rcases e with e | ⟨rfl, rfl⟩
    · exact S.lim a o e
    · exact .inr h4
  · rcases e with e | ⟨rfl, rfl⟩
    · exact F.bM a o hm e
    · exact h6 hm
  · rcases look_cons e with ⟨rfl, rfl⟩ | ⟨ne, e⟩
    · exact ⟨v, hv, h1 ▸ .lst Fz.add_self rfl rfl (h3.mono Fz.sub_add)⟩
    · obtain ⟨u, hu, hs⟩ := F.sl y s e
      refine ⟨u, hu, ?_⟩
      cases s with
      | val d => exact In.mono Fz.sub_add hs
      | own l' =>
        obtain ⟨g1, ⟨ws, k', g2, g3⟩, g4, g5, g6⟩ := hs
        refine ⟨g1, ⟨ws, k', g2, g3.mono Fz.sub_add⟩, g4, fun o q => ?_, g6⟩
        rcases q with q | ⟨q, _⟩
        · exact g5 o q
        · exact ne (F.two y x l' l e hl q)
  · rcases look_cons e1 with ⟨_, e1⟩ | ⟨_, e1⟩ <;> rcases look_cons e2 with ⟨_, e2⟩ | ⟨_, e2⟩
    · cases e1
    · cases e1
    · cases e2
    · exact F.two y z l1 l2 e1 e2

theorem ws_freeze {ss : List Stmt} {x : Str} {l : List D} {P : Out → Prop} (hl : σ.lookup x = some (.own l)) (h : WS W n env ss ((x, .val (.lst l)) :: σ) P) : WS W n env ss σ P := by
  intro A s Kp B₀ B E rm S
  obtain ⟨m, cm, ad, F⟩ := S.fm
  obtain ⟨vs, k, _, _, _, S'⟩ := S.freeze' F hl
  exact h A s Kp B₀ _ E rm S'

mutual
def D.flat : D → Bool
  | .tup l => D.flats l
  | .lst _ => false
  | .vec _ => false
  | _ => true
def D.flats : List D → Bool
  | [] => true
  | d :: r => d.flat && D.flats r
end
mutual
theorem In.strip {C a : Addr} {B : Fz} (ha : ∀ o, B a o → o.cls ≠ .type "tuple") : ∀ {v : Value} {d : D}, In C B v d → d.flat = true → In C (fun b o => B b o ∧ b ≠ a) v d
  | _, _, .none, _ => .none
  | _, _, .bool b, _ => .bool b
  | _, _, .int i t, _ => .int i t
  | _, _, .str x t, _ => .str x t
  | _, _, .tup h c e r, f => .tup ⟨h, fun z => ha _ (z ▸ h) c⟩ c e (All.strip ha r (by simpa [D.flat] using f))
  | _, _, .lst .., f => by simp [D.flat] at f
  | _, _, .vec .., f => by simp [D.flat] at f
theorem All.strip {C a : Addr} {B : Fz} (ha : ∀ o, B a o → o.cls ≠ .type "tuple") : ∀ {vs : List Value} {ds : List D}, All C B vs ds → D.flats ds = true → All C (fun b o => B b o ∧ b ≠ a) vs ds
  | _, _, .nil, _ => .nil
  | _, _, .cons h r, f => by
    simp only [D.flats, Bool.and_eq_true] at f
    exact .cons (In.strip ha h f.1) (All.strip ha r f.2)
end

/-- an expression may read an own list, so long as it does not hand it on -/
theorem borrow {h : Heap} {x : Str} {l : List D} (S : St W env Kp B₀ B σ h) (hl : σ.lookup x = some (.own l)) :
    ∃ B1 a, (∀ b o, B b o → B1 b o) ∧ St W env Kp B₀ B1 ((x, .val (.lst l)) :: σ) h ∧ (∀ h' B', Ext h B1 h' B' → Ext h B h' (fun b o => B' b o ∧ b ≠ a) ∧ ∀ o, B' a o → o.cls ≠ .type "tuple") := by
  obtain ⟨m, cm, ad, F⟩ := S.fm
  obtain ⟨vs, k, ho, hb, _, S'⟩ := S.freeze' F hl
  refine ⟨_, ad x, Fz.sub_add, S', fun h' B' e => ⟨⟨e.keep, fun b o q => ⟨e.sub b o (.inl q), fun z => hb o (z ▸ q)⟩, fun b o q => e.bh b o q.1, fun b o q => ?_⟩, fun o q z => ?_⟩⟩
  · rcases e.fresh b o q.1 with (q' | ⟨q', _⟩) | q'
    · exact .inl q'
    · exact absurd q' q.2
    · exact .inr q'
  · have := e.bh _ _ q
    rw [e.keep _ _ ho] at this
    cases this
    have q' : Value.type "list" = Value.type "tuple" := z
    injection q' with q'
    exact absurd q' (by decide)
theorem we_borrow {e : Expr} {x : Str} {l : List D} {Q : D → Prop} (hl : σ.lookup x = some (.own l)) (h : WE W n env ((x, .val (.lst l)) :: σ) e fun d => d.flat = true ∧ Q d) : WE W n env σ e Q := by
  intro A s Kp B₀ B R E rm S hR
  obtain ⟨B1, a, hsub, S', hx⟩ := borrow S hl
  refine h A s Kp B₀ B1 R E rm S' fun v d h' tk' B' q x i => ?_
  obtain ⟨x', ha⟩ := hx h' B' x
  exact hR v d h' tk' _ q.2 x' (i.strip ha q.1)
theorem wt_borrow {e : Expr} {x : Str} {l : List D} {Q : Bool → Prop} (hl : σ.lookup x = some (.own l)) (h : WT W n env ((x, .val (.lst l)) :: σ) e Q) : WT W n env σ e Q := by
  intro A s Kp B₀ B R E rm S hR
  obtain ⟨B1, a, hsub, S', hx⟩ := borrow S hl
  exact h A s Kp B₀ B1 R E rm S' fun b h' tk' B' q x => hR b h' tk' _ q (hx h' B' x).1

/-- the name of an own list is read -/
theorem St.loadOwn {M : Model} {A : Around} {s : Shared} {E : Value → Shared → Prop} {x : Str} {l : List D} {Q : Value → Shared → Prop} {m cm : Str → Option Value} {ad : Str → Addr} (S : St W env Kp B₀ B σ s.heap) (F : Fm W env Kp B σ s.heap m cm ad) (hl : σ.lookup x = some (.own l))
    (h : Q (.ref (ad x)) s) (hn : (x == ("__classdict__" : Str)) = false) : wpAny M A (loadName env x) Q E s := by
  obtain ⟨v, hv, hs, _⟩ := F.sl x _ hl
  subst hs
  rcases hv with ⟨hk, hm⟩ | ⟨hk | hk, c, hc, hm⟩
  · exact wpAny_loadName_local S.kind hk F.ns hm h
  · exact wpAny_loadName_cell S.kind hk hc (hm ▸ F.cells x c hc) h
  · exact wpAny_loadName_free S.kind hk hc (hm ▸ F.cells x c hc) h hn

/-- an own list is changed -/
theorem St.change {h h' : Heap} {m cm : Str → Option Value} {ad : Str → Addr} {x : Str} {l l' : List D} {vs : List Value} {k : Nat} (S : St W env Kp B₀ B σ h) (F : Fm W env Kp B σ h m cm ad) (hl : σ.lookup x = some (.own l)) (hs : Heap.SameBut (ad x) h h')
    (ho : h'.get? (ad x) = some (listOf vs.toArray k)) (hi : All W.vecC B vs l') : St W env Kp B₀ B ((x, .own l') :: σ) h' := by
  obtain ⟨v, hv, h1, ⟨vs0, k0, h2, h3⟩, h4, h5, h6⟩ := F.sl x _ hl
  have old : ∀ a o, a ≠ ad x → h.get? a = some o → h'.get? a = some o := fun a o ne e => (hs.2 a ne).trans e
  have oldM : ∀ a o, Mut env a → h.get? a = some o → h'.get? a = some o := fun a o hm e => old a o (fun z => h6 (z ▸ hm)) e
  refine ⟨S.kind, S.glob, S.bi, S.base, fun a o e => old a o (fun z => h4 o (z ▸ e)) (S.kp a o e), fun a o e => old a o (fun z => h5 o (z ▸ e)) (S.bh a o e), S.b0, S.lim, m, cm, ad, ?_, fun n c e => ?_, F.apart, F.lc, F.kM, F.bM, fun a hm => ?_, fun y s e => ?_, fun y z l1 l2 e1 e2 hyz => ?_⟩
  · obtain ⟨o, es, ep, p1, r⟩ := F.ns
    exact ⟨o, es, ep, oldM _ _ (.inl rfl) p1, r⟩
  · obtain ⟨o, p1, p2⟩ := F.cells n c e
    exact ⟨o, oldM _ _ (.inr ⟨n, e⟩) p1, p2⟩
  · obtain ⟨o, p⟩ := F.live a hm
    exact ⟨o, oldM _ _ hm p⟩
  · rcases look_cons e with ⟨rfl, rfl⟩ | ⟨ne, e⟩
    · exact ⟨v, hv, h1, ⟨vs, k, ho, hi⟩, h4, h5, h6⟩
    · obtain ⟨u, hu, hs'⟩ := F.sl y s e
      refine ⟨u, hu, ?_⟩
      cases s with
      | val d => exact hs'
      | own l2 =>
        obtain ⟨g1, ⟨ws, k', g2, g3⟩, g⟩ := hs'
        exact ⟨g1, ⟨ws, k', old _ _ (fun z => ne (F.two y x l2 l e hl z)) g2, g3⟩, g⟩
  · rcases look_cons e1 with ⟨q1, e1'⟩ | ⟨_, e1⟩ <;> rcases look_cons e2 with ⟨q2, e2'⟩ | ⟨_, e2⟩
    · rw [q1, q2]
    · rw [q1] at hyz ⊢; exact F.two x z l l2 hl e2 hyz
    · rw [q2] at hyz ⊢; exact F.two y x l1 l e1 hl hyz
    · exact F.two y z l1 l2 e1 e2 hyz

-- statements
theorem ws_nil {P : Out → Prop} (h : P (.next σ)) : WS W n env [] σ P :=
  fun _ s _ _ B _ _ S => wpAny_execs_nil ⟨s.heap, s.toks, B, rfl, σ, h, S⟩
def Seq (W : Wd) (n : Nat) (env : Env) (rest : List Stmt) (P : Out → Prop) : Out → Prop
  | .next σ' => WS W n env rest σ' P
  | o => P o
theorem ws_cons {st : Stmt} {rest : List Stmt} {P : Out → Prop} (h : WX W n env st σ (Seq W n env rest P)) : WS W n env (st :: rest) σ P := by
  intro A s Kp B₀ B E rm S
  refine wpAny_execs_cons (wpAny_mono (h A s Kp B₀ B E rm S) (fun f s' hp => ?_) fun _ _ e => e)
  obtain ⟨h', tk', B', rfl, hp⟩ := hp
  cases f with
  | next =>
    obtain ⟨σ', a, b⟩ := hp
    refine wpAny_mono (a A _ Kp B₀ B' E rm b) (fun f s'' hq => ?_) fun _ _ e => e
    obtain ⟨h'', tk'', B'', rfl, hq⟩ := hq
    exact ⟨h'', tk'', B'', rfl, hq⟩
  | brk => obtain ⟨σ', a, b⟩ := hp; exact ⟨h', tk', B', rfl, σ', a, b⟩
  | cont => obtain ⟨σ', a, b⟩ := hp; exact ⟨h', tk', B', rfl, σ', a, b⟩
  | ret v => obtain ⟨d, a, b⟩ := hp; exact ⟨h', tk', B', rfl, d, a, b⟩

theorem wx_assign {x : Str} {px pos : Pos} {e : Expr} {P : Out → Prop} (hx : Stor env x) (h : WE W n env σ e fun d => P (.next ((x, .val d) :: σ))) (hs : swapsWith e (some (.Name x px)) pos.line env = pure false := by rfl) : WX W n env (.Assign [.Name x px] e pos) σ P := by
  intro A s Kp B₀ B E rm S
  refine wpAny_Assign_Name (h A s Kp B₀ B _ E rm S fun v d h1 t1 B1 q x1 i => ?_) hs
  exact (S.ext x1).store hx i fun h' tk' S' => ⟨h', tk', B1, rfl, _, q, S'⟩
theorem wx_assign_own {x : Str} {px pos : Pos} {e : Expr} {P : Out → Prop} (hx : Stor env x) (h : WO W n env σ e fun l => P (.next ((x, .own l) :: σ))) (hs : swapsWith e (some (.Name x px)) pos.line env = pure false := by rfl) : WX W n env (.Assign [.Name x px] e pos) σ P := by
  intro A s Kp B₀ B E rm S
  refine wpAny_Assign_Name (h A s Kp B₀ B _ E rm S fun a vs k l h1 t1 B1 q x1 ho hn hb i => ?_) hs
  exact S.storeOwn (s := { s with heap := h1, toks := t1 }) x1 hx ho hn hb i fun h' tk' S' => ⟨h', tk', B1, rfl, _, q, S'⟩
theorem wx_inc {x : Str} {px pos : Pos} {e : Expr} {P : Out → Prop} {a : Int} (hx : Stor env x) (hl : σ.lookup x = some (.val (.int a))) (h : WE W n env σ e fun d => ∃ b, d = .int b ∧ P (.next ((x, .val (.int (a + b))) :: σ)))
    (hn : (x == ("__classdict__" : Str)) = false := by decide) : WX W n env (.AugAssign (.Name x px) .Add e pos) σ P := by
  intro A s Kp B₀ B E rm S
  refine wpAny_AugAssign_Name (S.load hl (fun v hv => ?_) hn)
  refine h A s Kp B₀ B _ E rm S fun v2 d h1 t1 B1 q x1 i => ?_
  obtain ⟨b, rfl, hp⟩ := q
  cases hv; cases i
  refine PyProof.Rows.iadd_int ?_
  exact St.store (s := { s with heap := h1, toks := t1 + 1 }) (S.ext x1) hx (.int _ _) fun h' tk' S' => ⟨h', tk', B1, rfl, _, hp, S'⟩
theorem wx_if {t : Expr} {b o : List Stmt} {pos : Pos} {P : Out → Prop} (h : WT W n env σ t fun c => if c then WS W n env b σ P else WS W n env o σ P) : WX W n env (.If t b o pos) σ P := by
  intro A s Kp B₀ B E rm S
  refine wpAny_If (h A s Kp B₀ B _ E rm S fun c h1 t1 B1 q x1 => ?_)
  have back : ∀ f s', Post W env Kp B₀ { s with heap := h1, toks := t1 } P f s' → Post W env Kp B₀ s P f s' := by
    rintro f s' ⟨h', tk', B', rfl, hp⟩
    exact ⟨h', tk', B', rfl, hp⟩
  cases c with
  | true => exact wpAny_mono (q A _ Kp B₀ B1 E rm (S.ext x1)) back fun _ _ e => e
  | false => exact wpAny_mono (q A _ Kp B₀ B1 E rm (S.ext x1)) back fun _ _ e => e
theorem wx_ret {e : Expr} {pos : Pos} {P : Out → Prop} (h : WE W n env σ e fun d => P (.ret d)) : WX W n env (.Return (some e) pos) σ P := by
  intro A s Kp B₀ B E rm S
  exact wpAny_Return_some (h A s Kp B₀ B _ E rm S fun v d h1 t1 B1 q x1 i => ⟨h1, t1, B1, rfl, d, q, (S.ext x1).has Has.nil, i⟩)
theorem wx_continue {pos : Pos} {P : Out → Prop} (h : P (.cont σ)) : WX W n env (.Continue pos) σ P :=
  fun _ s _ _ B _ _ S => wpAny_Continue ⟨s.heap, s.toks, B, rfl, σ, h, S⟩

theorem wx_append {pl : Sem Bool} {x : Str} {px apos cpos pos : Pos} {e : Expr} {l : List D} {P : Out → Prop} (hl : σ.lookup x = some (.own l)) (hz : l.length ≤ 1000000) (h : WE W n env σ e fun d => P (.next ((x, .own (l ++ [d])) :: σ)))
    (hm : eval (.Call (.Attribute (.Name x px) (Str.ofString "append") apos) [e] [] cpos) env = (do
      let ov ← eval (.Name x px) env
      standAt apos.atName
      let (f, first) ← holding [ov] (getMethod ov (Str.ofString "append") pl)
      callWith cpos f first (backTo cpos (starEach [e] env)) []) := by rfl)
    (he : starEach [e] env = (false, eval e env) :: starEach [] env := by rfl) (hd : (x == ("__debug__" : Str)) = false := by decide) (hn : (x == ("__classdict__" : Str)) = false := by decide) :
    WX W n env (.Expr (.Call (.Attribute (.Name x px) (Str.ofString "append") apos) [e] [] cpos) pos) σ P := by
  intro A s Kp B₀ B E rm S
  obtain ⟨m, cm, ad, F⟩ := S.fm
  obtain ⟨u, hu, hs1, ⟨vs0, k0, h2, h3⟩, h4, h5, h6⟩ := F.sl x _ hl
  refine wpAny_Expr (MethodCall_ (pl := pl) (wpAny_Name (S.loadOwn F hl ?_ hn) hd) hm) (by unfold interactive; rw [S.kind]; rfl)
  refine getMethod_list_append h2 rfl rfl ?_
  refine PyProof.Rows.callWith_method1 (PyProof.Rows.args_cons (h A s Kp B₀ B _ E rm S fun v d h1 t1 B1 q x1 i => PyProof.Rows.args_nil ?_) he) he
  have S' := S.ext x1
  -- the frame's places are the same
  have F' : Fm W env Kp B1 σ h1 m cm ad := by
    refine ⟨F.ns.keeps x1.keep, fun n c e => (F.cells n c e).keeps x1.keep, F.apart, F.lc, F.kM, fun a o hm hb => ?_, fun a hm => ?_, fun y sl e => ?_, F.two⟩
    · rcases x1.fresh a o hb with q | q
      · exact F.bM a o hm q
      · obtain ⟨o', ho'⟩ := F.live a hm; rw [ho'] at q; cases q
    · obtain ⟨o, ho⟩ := F.live a hm; exact ⟨o, x1.keep a o ho⟩
    · obtain ⟨w, hw, hs⟩ := F.sl y sl e
      refine ⟨w, hw, ?_⟩
      cases sl with
      | val d => exact In.mono x1.sub hs
      | own l' =>
        obtain ⟨g1, ⟨ws, k', g2, g3⟩, g4, g5, g6⟩ := hs
        refine ⟨g1, ⟨ws, k', x1.keep _ _ g2, g3.mono x1.sub⟩, g4, fun o hb => ?_, g6⟩
        rcases x1.fresh _ o hb with q | q
        · exact g5 o q
        · rw [g2] at q; cases q
  refine wpAny_list_append_plain (s := { s with heap := h1, toks := t1 }) ⟨k0, x1.keep _ _ h2⟩ (fun h' hp hs => ?_) (by rw [List.size_toArray, h3.length]; exact sizeLine_ge hz)
  obtain ⟨k', hp⟩ := hp
  have e1 : vs0.toArray.push v = (vs0 ++ [v]).toArray := by simp
  rw [e1] at hp
  exact ⟨h', t1, B1, rfl, _, q, S'.change F' hl hs hp ((h3.mono x1.sub).append (.cons i .nil))⟩

theorem Fm.ext {h h' : Heap} {B' : Fz} {m cm : Str → Option Value} {ad : Str → Addr} (F : Fm W env Kp B σ h m cm ad) (x1 : Ext h B h' B') : Fm W env Kp B' σ h' m cm ad := by
  refine ⟨F.ns.keeps x1.keep, fun n c e => (F.cells n c e).keeps x1.keep, F.apart, F.lc, F.kM, fun a o hm hb => ?_, fun a hm => ?_, fun y sl e => ?_, F.two⟩
  · rcases x1.fresh a o hb with q | q
    · exact F.bM a o hm q
    · obtain ⟨o', ho'⟩ := F.live a hm; rw [ho'] at q; cases q
  · obtain ⟨o, ho⟩ := F.live a hm; exact ⟨o, x1.keep a o ho⟩
  · obtain ⟨w, hw, hs⟩ := F.sl y sl e
    refine ⟨w, hw, ?_⟩
    cases sl with
    | val d => exact In.mono x1.sub hs
    | own l' =>
      obtain ⟨g1, ⟨ws, k', g2, g3⟩, g4, g5, g6⟩ := hs
      refine ⟨g1, ⟨ws, k', x1.keep _ _ g2, g3.mono x1.sub⟩, g4, fun o hb => ?_, g6⟩
      rcases x1.fresh _ o hb with q | q
      · exact g5 o q
      · rw [g2] at q; cases q

theorem wx_setitem {x : Str} {px ppos pos : Pos} {e slice : Expr} {l : List D} {P : Out → Prop} (hl : σ.lookup x = some (.own l))
    (h : WE W n env σ e fun d => WE W n env σ slice fun i => ∃ k, i = .int k ∧ 0 ≤ k ∧ k < 2 ^ 62 ∧ k.toNat < l.length ∧ P (.next ((x, .own (l.set k.toNat d)) :: σ)))
    (hs : swapsWith e (some (.Subscript (.Name x px) slice ppos)) pos.line env = pure false := by rfl) (hd : (x == ("__debug__" : Str)) = false := by decide) (hn : (x == ("__classdict__" : Str)) = false := by decide) :
    WX W n env (.Assign [.Subscript (.Name x px) slice ppos] e pos) σ P := by
  intro A s Kp B₀ B E rm S
  obtain ⟨m, cm, ad, F⟩ := S.fm
  refine wpAny_Assign_Subscript (h A s Kp B₀ B _ E rm S fun v d h1 t1 B1 q x1 i => ?_) hs
  have S1 := S.ext x1
  have F1 := F.ext x1
  refine wpAny_Name (St.loadOwn (s := { s with heap := h1, toks := t1 }) S1 F1 hl ?_ hn) hd
  refine q A _ Kp B₀ B1 _ E rm S1 fun iv i' h2 t2 B2 q2 x2 i2 => ?_
  obtain ⟨k, rfl, k0, k1, k2, hp⟩ := q2
  cases i2
  have S2 := S1.ext x2
  have F2 := F1.ext x2
  obtain ⟨u, hu, hs1, ⟨vs0, k0', g2, g3⟩, g4, g5, g6⟩ := F2.sl x _ hl
  have hlen := g3.length
  refine ki_setAt (s := { s with heap := h2, toks := t2 }) g2 k0 (by omega) (by rw [List.size_toArray, hlen]; omega) ?_
  have e1 : ∃ c, (h2.update (ad x) (Obj.mapSeq fun y => y.setIfInBounds k.toNat v)).get? (ad x) = some (listOf ((vs0.set k.toNat v).toArray) c) := by
    have hc := get?_update_seq (c := "list") g2 fun y => y.setIfInBounds k.toNat v
    have e2 : vs0.toArray.setIfInBounds k.toNat v = (vs0.set k.toNat v).toArray := by simp
    exact ⟨_, e2 ▸ hc⟩
  obtain ⟨c, hc⟩ := e1
  exact ⟨_, t2, B2, rfl, _, hp, S2.change F2 hl (Heap.SameBut.update ..) hc (g3.set _ (In.mono x2.sub i))⟩

theorem wx_reverse {pl : Sem Bool} {x : Str} {px apos cpos pos : Pos} {l : List D} {P : Out → Prop} (hl : σ.lookup x = some (.own l)) (hz : l.length ≤ 1000000) (h : P (.next ((x, .own l.reverse) :: σ)))
    (hm : eval (.Call (.Attribute (.Name x px) (Str.ofString "reverse") apos) [] [] cpos) env = (do
      let ov ← eval (.Name x px) env
      standAt apos.atName
      let (f, first) ← holding [ov] (getMethod ov (Str.ofString "reverse") pl)
      callWith cpos f first (backTo cpos (starEach [] env)) []) := by rfl)
    (hd : (x == ("__debug__" : Str)) = false := by decide) (hn : (x == ("__classdict__" : Str)) = false := by decide) :
    WX W n env (.Expr (.Call (.Attribute (.Name x px) (Str.ofString "reverse") apos) [] [] cpos) pos) σ P := by
  intro A s Kp B₀ B E rm S
  obtain ⟨m, cm, ad, F⟩ := S.fm
  obtain ⟨u, hu, hs1, ⟨vs0, k0, h2, h3⟩, h4, h5, h6⟩ := F.sl x _ hl
  refine wpAny_Expr (MethodCall_ (pl := pl) (wpAny_Name (S.loadOwn F hl ?_ hn) hd) hm) (by unfold interactive; rw [S.kind]; rfl)
  refine getMethod_list_of PySem.F.slot_list_reverse PySem.F.type_list_reverse ⟨_, h2, rfl, _, rfl⟩ ⟨_, h2, rfl⟩ ?_
  have hz' : vs0.toArray.size ≤ sizeLine := by rw [List.size_toArray, h3.length]; exact sizeLine_ge hz
  refine PySem.P.reverse_list (pos := cpos) h2 ?_ hz'
  have hc := get?_update_seq (c := "list") h2 fun y => y.reverse
  have e2 : vs0.toArray.reverse = vs0.reverse.toArray := by simp
  rw [e2] at hc
  exact ⟨_, s.toks, B, rfl, _, h, S.change F hl (Heap.SameBut.update ..) hc h3.reverse⟩

/-- a while: what holds at its head, with a number that falls -/
theorem wx_while {t : Expr} {body : List Stmt} {pos : Pos} {P : Out → Prop} (J : Nat → Sg → Prop)
    (turn : ∀ k τ, J k τ → WT W n env τ t fun c => if c then WS W n env body τ (fun o => match o with
      | .next σ' | .cont σ' => ∃ k' τ', k' < k ∧ J k' τ' ∧ Has σ' τ'
      | .brk σ' => P (.next σ')
      | .ret d => P (.ret d)) else P (.next τ))
    {k₀ : Nat} {τ₀ : Sg} (h0 : J k₀ τ₀) (hh : Has σ τ₀) : WX W n env (.While t body [] pos) σ P := by
  intro A s Kp B₀ B E rm S
  refine wpAny_While (codeAny_whileLoop (fun k s' => ∃ h' tk' B' τ, s' = { s with heap := h', toks := tk' } ∧ J k τ ∧ St W env Kp B₀ B' τ h') ?_ k₀ ⟨s.heap, s.toks, B, τ₀, rfl, h0, S.has hh⟩)
  rintro k s' ⟨h1, t1, B1, τ, rfl, hJ, S1⟩
  refine turn k τ hJ A _ Kp B₀ B1 _ _ rm S1 fun c h2 t2 B2 q x2 => ?_
  cases c with
  | false =>
    simp only [Bool.false_eq_true, if_false] at q ⊢
    exact wpAny_execs_nil ⟨h2, t2, B2, rfl, τ, q, S1.ext x2⟩
  | true =>
    simp only [if_true] at q ⊢
    refine wpAny_mono (q A _ Kp B₀ B2 _ rm (S1.ext x2)) (fun f s'' hp => ?_) fun _ _ e => e
    obtain ⟨h3, t3, B3, rfl, hp⟩ := hp
    cases f with
    | next =>
      obtain ⟨σ', ⟨k', τ', hk, hJ', hh'⟩, S3⟩ := hp
      exact ⟨k', hk, h3, t3, B3, τ', rfl, hJ', S3.has hh'⟩
    | cont =>
      obtain ⟨σ', ⟨k', τ', hk, hJ', hh'⟩, S3⟩ := hp
      exact ⟨k', hk, h3, t3, B3, τ', rfl, hJ', S3.has hh'⟩
    | brk =>
      obtain ⟨σ', a, b⟩ := hp
      exact ⟨h3, t3, B3, rfl, σ', a, b⟩
    | ret v =>
      obtain ⟨d, a, b⟩ := hp
      exact ⟨h3, t3, B3, rfl, d, a, b⟩
end
end

section
open PySem PySem.W PySem.Calls PyProof.Rows
set_option linter.unusedVariables false
section
variable {W : Wd} {n : Nat} {env : Env} {σ : Sg} {Kp B₀ B : Fz}

theorem St.glb {M : Model} {A : Around} {s : Shared} {E : Value → Shared → Prop} {x : Str} {pos : Pos} {v : Value} {Q : Value → Shared → Prop} (S : St W env Kp B₀ B σ s.heap) (hx : env.kindOf x = some .globalImplicit) (e : nsIn W.K mainGlobals x = some (some v)) (h : Q v s)
    (hd : (x == ("__debug__" : Str)) = false := by decide) : wpAny M A (eval (.Name x pos) env) Q E s :=
  Name_function_global S.kind hx (loadGlobal_global (by rw [S.glob]; exact S.ok.2.g) (mg_of S.ok.1 S.ok.2.g e) h) hd
theorem St.boot {M : Model} {A : Around} {s : Shared} {E : Value → Shared → Prop} {x : Str} {pos : Pos} {v : Value} {Q : Value → Shared → Prop} (S : St W env Kp B₀ B σ s.heap) (hx : env.kindOf x = some .globalImplicit) (e : nsIn W.K mainGlobals x = some none) (hv : bootBuiltins x = some v) (h : Q v s)
    (hn : x ≠ "__name__" := by decide) (hd : (x == ("__debug__" : Str)) = false := by decide) : wpAny M A (eval (.Name x pos) env) Q E s :=
  Name_function_global S.kind hx (loadGlobal_builtin (by rw [S.glob]; exact S.ok.2.g) (mg_none_of S.ok.1 S.ok.2.g e) (by rw [S.bi]; exact S.ok.2.b) ((S.ok.2.builtins x hn).trans hv) h) hd

/-- what a global name stands for -/
structure Glb (W : Wd) (x : Str) (v : Value) : Prop where
  ns : nsIn W.K mainGlobals x = some (some v)
  keep : keepIn W.K v = true
structure Bti (W : Wd) (x : Str) (v : Value) : Prop where
  ns : nsIn W.K mainGlobals x = some none
  boot : bootBuiltins x = some v
  nn : x ≠ "__name__"

/-- a call of a def by its name -/
theorem we_call {f : Str} {fv : Value} {fp pos : Pos} {e : Expr} {rest : List Expr} {Q : D → Prop} (g : Glb W f fv) (hx : env.kindOf f = some .globalImplicit)
    (h : WL W n env σ (e :: rest) fun ds => CallOK W n fv ds Q)
    (hc : eval (.Call (.Name f fp) (e :: rest) [] pos) env = (do
      let __do_lift ← eval (.Name f fp) env
      callWith pos __do_lift [] (backTo pos (starEach (e :: rest) env)) (backToKw pos (keywordEach [] env))) := by rfl)
    (he : starEach (e :: rest) env = (false, eval e env) :: starEach rest env := by rfl) (hp : ((backTo pos (starEach rest env)).any (·.1)) = false := by rfl) (hd : (f == ("__debug__" : Str)) = false := by decide) :
    WE W n env σ (.Call (.Name f fp) (e :: rest) [] pos) Q := by
  intro A s Kp B₀ B R E rm S hR
  refine Call_ (S.glb hx g.ns ?_ hd) hc
  refine callWith_K S.ok.1 g.keep (h A pos s Kp B₀ B _ E rm S fun vs ds h1 t1 B1 q1 x1 i1 => ⟨(S.ext x1).ok.1, ?_⟩) he hp
  exact q1 A _ B1 R E vs rm (S.ext x1).ok (S.ext x1).bh i1 fun v d h' tk' B' q x i => hR v d h' tk' B' q (x1.trans x) i
theorem wo_call {f : Str} {fv : Value} {fp pos : Pos} {e : Expr} {rest : List Expr} {Q : List D → Prop} (g : Glb W f fv) (hx : env.kindOf f = some .globalImplicit)
    (h : WL W n env σ (e :: rest) fun ds => CallOwn W n fv ds Q)
    (hc : eval (.Call (.Name f fp) (e :: rest) [] pos) env = (do
      let __do_lift ← eval (.Name f fp) env
      callWith pos __do_lift [] (backTo pos (starEach (e :: rest) env)) (backToKw pos (keywordEach [] env))) := by rfl)
    (he : starEach (e :: rest) env = (false, eval e env) :: starEach rest env := by rfl) (hp : ((backTo pos (starEach rest env)).any (·.1)) = false := by rfl) (hd : (f == ("__debug__" : Str)) = false := by decide) :
    WO W n env σ (.Call (.Name f fp) (e :: rest) [] pos) Q := by
  intro A s Kp B₀ B R E rm S hR
  refine Call_ (S.glb hx g.ns ?_ hd) hc
  refine callWith_K S.ok.1 g.keep (h A pos s Kp B₀ B _ E rm S fun vs ds h1 t1 B1 q1 x1 i1 => ⟨(S.ext x1).ok.1, ?_⟩) he hp
  refine q1 A _ B1 R E vs rm (S.ext x1).ok (S.ext x1).bh i1 fun a us k es h' tk' B' q x ho hn hb i => hR a us k es h' tk' B' q (x1.trans x) ho ?_ hb i
  cases z : s.heap.get? a with
  | none => rfl
  | some o => have := x1.keep _ _ z; rw [hn] at this; cases this
/-- a call of a built-in function by its name -/
theorem we_builtin {f : Str} {id : String} {fp pos : Pos} {e : Expr} {rest : List Expr} {Q : D → Prop} (g : Bti W f (.builtin id)) (hx : env.kindOf f = some .globalImplicit)
    (h : WL W n env σ (e :: rest) fun ds => CallOK W n (.builtin id) ds Q)
    (hc : eval (.Call (.Name f fp) (e :: rest) [] pos) env = (do
      let __do_lift ← eval (.Name f fp) env
      callWith pos __do_lift [] (backTo pos (starEach (e :: rest) env)) (backToKw pos (keywordEach [] env))) := by rfl)
    (he : starEach (e :: rest) env = (false, eval e env) :: starEach rest env := by rfl) (hp : ((backTo pos (starEach rest env)).any (·.1)) = false := by rfl) (hd : (f == ("__debug__" : Str)) = false := by decide) :
    WE W n env σ (.Call (.Name f fp) (e :: rest) [] pos) Q := by
  intro A s Kp B₀ B R E rm S hR
  refine Call_ (S.boot hx g.ns g.boot ?_ g.nn hd) hc
  refine PyProof.Rows.callWith_builtin1 (h A pos s Kp B₀ B _ E rm S fun vs ds h1 t1 B1 q1 x1 i1 => ?_) he hp
  exact q1 A _ B1 R E vs rm (S.ext x1).ok (S.ext x1).bh i1 fun v d h' tk' B' q x i => hR v d h' tk' B' q (x1.trans x) i

theorem c_len {l : List D} {Q : D → Prop} (hz : l.length ≤ 1000000) (h : Q (.int l.length)) : CallOK W n (.builtin "len") [.lst l] Q := by
  intro A s B R E vs rm ok bh i hR
  cases i with
  | cons i r =>
    cases r
    cases i with
    | lst hb hc hd ha =>
      have hl : s.heap.IsList _ _ := ⟨_, bh _ _ hb, hc, _, hd⟩
      have e := ha.length
      refine call_len_list hl (by rw [List.size_toArray, e]; omega) ?_
      rw [List.size_toArray, e]
      exact hR _ _ s.heap (s.toks + 1 + 1) B h (Ext.refl bh) (.int _ _)
theorem c_abs {i : Int} {Q : D → Prop} (h : Q (.int (i.natAbs : Int))) : CallOK W n (.builtin "abs") [.int i] Q := by
  intro A s B R E vs rm ok bh hi hR
  cases hi with
  | cons hi r =>
    cases r
    cases hi
    refine call_abs_int fun u tk => ?_
    have e : (if i < 0 then -i else i) = (i.natAbs : Int) := by split <;> omega
    rw [e]
    exact hR _ _ s.heap tk B h (Ext.refl bh) (.int _ _)

-- a def's body
def Par (ps : List Str) (ds : List D) : Sg := (ps.zip ds).map fun p => (p.1, .val p.2)

theorem bind_at {kindOf : Str → Option NameKind} : ∀ {binds : List (Str × Value)} {m cm : Str → Option Value} {x : Str} {v : Value}, (binds.map (·.1)).Nodup → (x, v) ∈ binds →
    (kindOf x = some .local → bindL kindOf binds m x = some v) ∧ (kindOf x ≠ some .local → bindC kindOf binds cm x = some v)
  | [], _, _, _, _, _, hm => nomatch hm
  | (y, u) :: r, m, cm, x, v, hn, hm => by
    have notin : ∀ (r : List (Str × Value)) (m cm : Str → Option Value), x ∉ r.map (·.1) → bindL kindOf r m x = m x ∧ bindC kindOf r cm x = cm x := by
      intro r
      induction r with
      | nil => intro m cm _; exact ⟨rfl, rfl⟩
      | cons p r ih =>
        intro m cm hx
        obtain ⟨z, uu⟩ := p
        rw [List.map_cons, List.mem_cons, not_or] at hx
        unfold bindL bindC
        obtain ⟨a, b⟩ := ih (if kindOf z = some .local then fun y => if y = z then some uu else m y else m) (if kindOf z = some .local then cm else fun y => if y = z then some uu else cm y) hx.2
        rw [a, b]
        constructor
        · split
          · simp only [show ¬ x = z from hx.1, if_false]
          · rfl
        · split
          · rfl
          · simp only [show ¬ x = z from hx.1, if_false]
    rw [List.map_cons, List.nodup_cons] at hn
    unfold bindL bindC
    rcases List.mem_cons.mp hm with e | hm'
    · injection e with e1 e2
      subst e1; subst e2
      obtain ⟨a, b⟩ := notin r (if kindOf x = some .local then fun y => if y = x then some v else m y else m) (if kindOf x = some .local then cm else fun y => if y = x then some v else cm y) hn.1
      refine ⟨fun k => ?_, fun k => ?_⟩
      · rw [a, if_pos k]; simp
      · rw [b, if_neg k]; simp
    · exact bind_at hn.2 hm'

/-- what is known of a def -/
structure Fun (W : Wd) (f : Addr) (ps : List Str) (body : List Stmt) (fd : FuncData) : Prop where
  at_ : ∃ oc od osl, W.K.lookup f = some ⟨oc, od, .func fd, osl⟩
  code : codeIn W.K fd.code fd.qualname = true
  body : fd.body = .stmts body
  clo : fd.closure = []
  glob : fd.globals = mainGlobals
  bi : fd.builtins = builtinsNs
  kind : fd.scope.kind = .function
  co : fd.scope.isCoroutine = false
  gen : fd.scope.isGenerator = false
  bind : ∀ (s : Shared) (vs : List Value), W.K.In s.heap → vs.length = ps.length → BindsTo s fd ⟨vs, []⟩ (ps.zip vs)
  nodup : ps.Nodup
  kinds : ∀ x ∈ ps, fd.scope.names.lookup x = some .local ∨ (fd.scope.names.lookup x = some .cell ∧ ∀ n, ((cellsFrom n fd.scope.names []).lookup x).isSome = true)

def Back (Q : D → Prop) : Out → Prop
  | .ret d => Q d
  | .next _ => Q .none
  | _ => False

theorem All.zip {C : Addr} {B : Fz} : ∀ {ps : List Str} {vs : List Value} {ds : List D}, All C B vs ds → ∀ {x : Str} {s : Slot}, (Par ps ds).lookup x = some s → ∃ v d, s = .val d ∧ (x, v) ∈ ps.zip vs ∧ In C B v d
  | [], _, _, _, _, _, e => by simp [Par] at e
  | p :: ps, _, _, .nil, _, _, e => by simp [Par] at e
  | p :: ps, _, _, .cons (v := v) (d := d) h r, x, s, e => by
    rcases look_cons (σ := Par ps _) (show ((p, Slot.val d) :: Par ps _).lookup x = some s from e) with ⟨rfl, rfl⟩ | ⟨_, e⟩
    · exact ⟨v, d, rfl, List.mem_cons_self, h⟩
    · obtain ⟨v', d', a, b, c⟩ := All.zip r e
      exact ⟨v', d', a, List.mem_cons_of_mem _ b, c⟩

theorem call_entry {f : Addr} {ps : List Str} {body : List Stmt} {fd : FuncData} {ds : List D} {A : Around} {s : Shared} {B : Fz} {vs : List Value} {R : Result → Shared → Prop} (F : Fun W f ps body fd) (rm : Room A (n + 1)) (ok : W.Ok s.heap) (bh : ∀ a o, B a o → s.heap.get? a = some o) (hi : All W.vecC B vs ds) (hlen : ps.length = ds.length)
    (h : ∀ s₁ h₁ tk₁, s₁ = { s with heap := h₁, toks := tk₁ } → (∀ b o, s.heap.get? b = some o → h₁.get? b = some o) → St W (callEnvC fd s.heap.objs.size f) (fun a o => s.heap.get? a = some o) B B (Par ps ds) s₁.heap →
      wpAny (mdl W) (A.deeper (callEnvC fd s.heap.objs.size f)) (execs body (callEnvC fd s.heap.objs.size f)) (fun f s' => R (.ok (.ret (match f with | .ret v => v | _ => .none))) s')
        (fun e s' => wpAny (mdl W) (A.deeper (callEnvC fd s.heap.objs.size f)) (leaving (callEnvC fd s.heap.objs.size f) e) (fun _ s'' => R (.error e) s'') (fun e' s'' => R (.error e') s'') s') s₁) :
    codeAny (mdl W) A (.call (.ref f) ⟨vs, []⟩) R s := by
  obtain ⟨oc, od, osl, hl⟩ := F.at_
  have hv : vs.length = ps.length := hi.length.trans hlen.symm
  have kinds : ∀ m, ∀ x ∈ ps.zip vs, fd.scope.names.lookup x.1 = some .local ∨ (fd.scope.names.lookup x.1 = some .cell ∧ ((cellsFrom m fd.scope.names []).lookup x.1).isSome = true) := fun m x hx => by
    rcases F.kinds x.1 (List.of_mem_zip (show (x.1, x.2) ∈ ps.zip vs from hx)).1 with q | ⟨q, r⟩
    · exact .inl q
    · exact .inr ⟨q, r m⟩
  refine codeAny_call_function (by have := rm.dep; unfold recursionLimit; omega) (ok.1 _ _ hl) rfl F.co F.gen F.body (codeRec_of ok.1 F.code) (F.bind s vs ok.1 hv _ _ _ _ ?_)
  rw [F.clo]
  refine wpAny_newFunctionEnv_cells F.kind (kinds _) fun env he s₁ I => ?_
  subst he
  refine ⟨ok.2.nolimit.keeps I.toInCall.keep, codeAny_func ?_⟩
  obtain ⟨h₁, tk₁, rfl⟩ := I.toInCall.same
  refine h _ h₁ tk₁ rfl I.toInCall.keep ?_
  have hlow : ∀ a o, s.heap.get? a = some o → ¬ Mut (callEnvC fd s.heap.objs.size f) a := by
    rintro a o q (rfl | ⟨k, hk⟩)
    · exact absurd (Heap.lt_size q) (Nat.lt_irrefl _)
    · exact absurd (Nat.lt_trans (Heap.lt_size q) (I.above k a (lookup_mem hk))) (Nat.lt_irrefl _)
  refine ⟨F.kind, F.glob, F.bi, ⟨s.heap, ok, fun _ _ e => e⟩, I.toInCall.keep, fun a o e => I.toInCall.keep a o (bh a o e), fun _ _ e => e, fun _ _ e => .inl e, _, _, fun _ => 0, I.toInCall.ns, I.cell, I.apart, fun k c hc => Nat.ne_of_gt (I.above k c hc), fun a o hm e => hlow a o e hm, fun a o hm e => hlow a o (bh a o e) hm, ?_, ?_, ?_⟩
  · rintro a (rfl | ⟨k, hk⟩)
    · obtain ⟨o, _, _, q, _⟩ := I.toInCall.ns; exact ⟨o, q⟩
    · obtain ⟨o, q, _⟩ := I.cell k a hk
      exact ⟨o, q⟩
  · intro x sl e
    obtain ⟨v, d, rfl, hm, hin⟩ := All.zip hi e
    refine ⟨v, ?_, hin⟩
    have hn : ((ps.zip vs).map (·.1)).Nodup := by
      have e2 : (ps.zip vs).map (·.1) = ps := by
        exact List.map_fst_zip (Nat.le_of_eq hv.symm)
      rw [e2]; exact F.nodup
    have hb := bind_at (kindOf := (callEnvC fd s.heap.objs.size f).kindOf) (m := fun _ => none) (cm := fun _ => none) hn hm
    rcases kinds (s.heap.objs.size + 1) (x, v) hm with q | ⟨q, r⟩
    · exact .inl ⟨q, hb.1 q⟩
    · obtain ⟨c, hc⟩ := Option.isSome_iff_exists.mp r
      exact .inr ⟨.inl q, c, hc, hb.2 (by show ¬ fd.scope.names.lookup x = some .local; rw [q]; decide)⟩
  · intro x y l l' e
    obtain ⟨v, d, q, _⟩ := All.zip hi e
    cases q
end
end

section
open PySem PySem.W PySem.Calls PyProof.Rows
set_option linter.unusedVariables false
section
variable {W : Wd} {n : Nat} {env : Env} {σ : Sg} {Kp B₀ B : Fz}

theorem none_of_ext {h h' : Heap} (k : ∀ b o, h.get? b = some o → h'.get? b = some o) {a : Addr} (e : h'.get? a = none) : h.get? a = none := by
  cases z : h.get? a with
  | none => rfl
  | some o => rw [k a o z] at e; cases e

theorem callOK_of {f : Addr} {ps : List Str} {body : List Stmt} {fd : FuncData} {ds : List D} {Q : D → Prop} (F : Fun W f ps body fd) (hlen : ps.length = ds.length) (h : ∀ L, WS W n (callEnvC fd L f) body (Par ps ds) (Back Q)) : CallOK W (n + 1) (.ref f) ds Q := by
  intro A s B R E vs rm ok bh hi hR
  refine wpAny_call (call_entry F rm ok bh hi hlen fun s₁ h₁ tk₁ e k S => ?_)
  subst e
  refine wpAny_mono (h s.heap.objs.size _ _ _ B B (fun _ _ => False) (rm.deeper _) S) (fun fl s' hp => ?_) fun _ _ z => z.elim
  obtain ⟨h', tk', B', rfl, hp⟩ := hp
  have out : ∀ {τ : Sg}, St W (callEnvC fd s.heap.objs.size f) (fun a o => s.heap.get? a = some o) B B' τ h' → Ext s.heap B h' B' := fun S' =>
    ⟨S'.kp, S'.b0, S'.bh, fun a o e => by
      rcases S'.lim a o e with q | q
      · exact .inl q
      · cases z : s.heap.get? a with
        | none => exact .inr rfl
        | some o' => exact absurd z (q o')⟩
  cases fl with
  | ret v =>
    obtain ⟨d, q, S', i⟩ := hp
    exact hR v d h' tk' B' q (out S') i
  | next =>
    obtain ⟨τ, q, S'⟩ := hp
    exact hR .none .none h' tk' B' q (out S') .none
  | brk => obtain ⟨τ, q, S'⟩ := hp; exact q.elim
  | cont => obtain ⟨τ, q, S'⟩ := hp; exact q.elim

/-- a def whose body is one return of a new list -/
theorem callOwn_of {f : Addr} {ps : List Str} {e : Expr} {rp : Pos} {fd : FuncData} {ds : List D} {Q : List D → Prop} (F : Fun W f ps [.Return (some e) rp] fd) (hlen : ps.length = ds.length) (h : ∀ L, WO W n (callEnvC fd L f) (Par ps ds) e Q) : CallOwn W (n + 1) (.ref f) ds Q := by
  intro A s B R E vs rm ok bh hi hR
  refine wpAny_call (call_entry F rm ok bh hi hlen fun s₁ h₁ tk₁ e k S => ?_)
  subst e
  refine wpAny_execs_cons (wpAny_Return_some (h s.heap.objs.size _ _ _ B B _ _ (rm.deeper _) S fun a us c es h' tk' B' q x ho hn hb i => ?_))
  exact hR a us c es h' tk' B' q ⟨fun b o z => x.keep b o (k b o z), x.sub, x.bh, fun b o z => (x.fresh b o z).imp (fun z => z) (none_of_ext k)⟩ ho (none_of_ext k hn) hb i

-- loops
/-- where a loop's items come from -/
def WI (W : Wd) (n : Nat) (env : Env) (σ : Sg) (e : Expr) (Q : List D → Prop) : Prop :=
  ∀ (A : Around) (s : Shared) (Kp B₀ B : Fz) (R : Value → Shared → Prop) (E : Value → Shared → Prop), Room A n → St W env Kp B₀ B σ s.heap →
    (∀ I fp cnt P Stt ds h' tk' B', Q ds → Ext s.heap B h' B' → Walks W.prog W.w A I fp [I] cnt P Stt → Stt 0 h' → cnt = ds.length → (∀ b ∈ fp, b = I ∨ ∃ o, B' b o) → s.heap.get? I = none → (∀ o, ¬ B' I o) → (∀ i h, Stt i h → ∃ o, h.get? I = some o) →
      (∀ i v, P i v → ∀ B'' : Fz, (∀ a o, B' a o → B'' a o) → ∃ d, ds[i]? = some d ∧ In W.vecC B'' v d) → R (.ref I) { s with heap := h', toks := tk' }) →
    wpAny (mdl W) A (eval e env) (fun xv s₁ => wpAny (mdl W) A (pyIter xv) R E s₁) E s

theorem wi_list {e : Expr} {Q : List D → Prop} (h : WE W n env σ e fun d => ∃ l, d = .lst l ∧ Q l) : WI W n env σ e Q := by
  intro A s Kp B₀ B R E rm S hR
  refine h A s Kp B₀ B _ E rm S fun v d h1 t1 B1 q x1 i => ?_
  obtain ⟨l, rfl, q⟩ := q
  cases i with
  | lst hb hc hd ha =>
    rename_i a o vs k
    have hl : h1.IsList a vs.toArray := ⟨_, x1.bh _ _ hb, hc, _, hd⟩
    have hlt : a ≠ h1.objs.size := Nat.ne_of_lt (Heap.lt_size (x1.bh _ _ hb))
    refine wpAny_pyIter_list (s := { s with heap := h1, toks := t1 }) hl ?_
    have wk := Walks.list (prog := W.prog) (w := W.w) rm.hh h1.objs.size a hlt vs.toArray
    refine hR h1.objs.size _ _ _ _ l _ t1 B1 q (x1.trans (Ext.heap x1.bh fun _ _ e => Heap.get?_push_of_some _ e)) wk ⟨⟨_, Heap.get?_push_size _ rfl, rfl, rfl⟩, hl.push _⟩ (by rw [List.size_toArray, ha.length]) (fun b hm => ?_) (none_of_ext x1.keep (get?_none_size h1)) (fun o hb' => ?_) (fun i h z => ?_) (fun i v hp B'' hs => ?_)
    · rcases List.mem_cons.mp hm with rfl | hm
      · exact .inl rfl
      · rw [List.mem_singleton.mp hm]; exact .inr ⟨_, hb⟩
    · have := x1.bh _ _ hb'; rw [get?_none_size] at this; cases this
    · obtain ⟨o, ho, _⟩ := z.1; exact ⟨o, ho⟩
    · have hp' : vs[i]? = some v := by simpa using hp
      have hi : i < l.length := by rw [← ha.length]; exact (List.getElem?_eq_some_iff.mp hp').1
      obtain ⟨v', e1, e2⟩ := ha.get (List.getElem?_eq_getElem hi)
      rw [hp'] at e1; cases e1
      exact ⟨_, List.getElem?_eq_getElem hi, In.mono hs e2⟩

/-- the numbers of a range -/
def rng (a : Int) (cnt : Nat) (c : Int) : List D := (List.range cnt).map fun (i : Nat) => D.int (a + (i : Int) * c)
theorem wi_ranged {A : Around} {s : Shared} {h1 : Heap} {t1 : Nat} {B1 : Fz} {r : Addr} {a b c : Int} {t u v : Tok} {cnt : Nat} {Q : List D → Prop} {R : Value → Shared → Prop} {E : Value → Shared → Prop} (rm : Room A n) (x1 : Ext s.heap B h1 B1)
    (hr : IsRange h1 r a b c t u v) (hsm : Builtin.Range.small a b c = true) (hsz : Builtin.Range.rangeSize a b c = (cnt : Int)) (q : Q (rng a cnt c))
    (hR : ∀ I fp cnt P Stt ds h' tk' B', Q ds → Ext s.heap B h' B' → Walks W.prog W.w A I fp [I] cnt P Stt → Stt 0 h' → cnt = ds.length → (∀ b ∈ fp, b = I ∨ ∃ o, B' b o) → s.heap.get? I = none → (∀ o, ¬ B' I o) → (∀ i h, Stt i h → ∃ o, h.get? I = some o) →
      (∀ i v, P i v → ∀ B'' : Fz, (∀ a o, B' a o → B'' a o) → ∃ d, ds[i]? = some d ∧ In W.vecC B'' v d) → R (.ref I) { s with heap := h', toks := tk' }) :
    wpAny (mdl W) A (pyIter (.ref r)) R E { s with heap := h1, toks := t1 } := by
  refine wpAny_pyIter_range (s := { s with heap := h1, toks := t1 }) hr hsm ?_
  have wk := (Walks.range (prog := W.prog) (w := W.w) rm.hh h1.objs.size a c cnt).bound
  refine hR h1.objs.size _ _ _ _ (rng a cnt c) _ t1 B1 q (x1.trans (Ext.heap x1.bh fun _ _ e => Heap.get?_push_of_some _ e)) wk ?_ (by simp [rng]) (fun b hm => .inl (List.mem_singleton.mp hm)) (none_of_ext x1.keep (get?_none_size h1)) (fun o hb' => ?_) (fun i h z => ⟨_, z⟩) (fun i v hp B'' hs => ?_)
  · show IsRangeIter _ _ _ _ _
    rw [hsz]
    simpa using Heap.get?_push_size _ rfl
  · have := x1.bh _ _ hb'; rw [get?_none_size] at this; cases this
  · obtain ⟨hi, t, rfl⟩ := hp
    exact ⟨.int (a + (i : Nat) * c), by simp [rng, hi], .int _ _⟩

/-- range(b) -/
theorem wi_range1 {f : Str} {fp pos : Pos} {e : Expr} {Q : List D → Prop} (g : Bti W f (.type "range")) (hx : env.kindOf f = some .globalImplicit)
    (h : WE W n env σ e fun d => ∃ b : Int, d = .int b ∧ b ≤ 1000000 ∧ -1000000 ≤ b ∧ Q (rng 0 b.toNat 1))
    (hc : eval (.Call (.Name f fp) [e] [] pos) env = (do
      let __do_lift ← eval (.Name f fp) env
      callWith pos __do_lift [] (backTo pos (starEach [e] env)) (backToKw pos (keywordEach [] env))) := by rfl)
    (he : starEach [e] env = (false, eval e env) :: starEach [] env := by rfl) (hp : ((backTo pos (starEach ([] : List Expr) env)).any (·.1)) = false := by rfl) (hd : (f == ("__debug__" : Str)) = false := by decide) :
    WI W n env σ (.Call (.Name f fp) [e] [] pos) Q := by
  intro A s Kp B₀ B R E rm S hR
  refine Call_ (S.boot hx g.ns g.boot ?_ g.nn hd) hc
  refine PyProof.Rows.callWith_type1 (PyProof.Rows.args_cons (h A s Kp B₀ B _ E rm S fun v d h1 t1 B1 q1 x1 i1 => PyProof.Rows.args_nil ?_) he) he hp
  obtain ⟨b, rfl, hb, hb', q⟩ := q1
  cases i1
  refine call_range_1 (s := { s with heap := h1, toks := t1 }) ?_
  refine wi_ranged (s := s) rm (x1.trans (Ext.heap x1.bh fun _ _ e => Heap.get?_push_of_some _ e)) (IsRange.new ..) (small_one (by decide) (by decide) (by omega) (by omega)) ?_ q hR
  rw [rangeSize_one]
  split <;> omega
/-- range(a, b) -/
theorem wi_range2 {f : Str} {fp pos : Pos} {e₁ e₂ : Expr} {Q : List D → Prop} (g : Bti W f (.type "range")) (hx : env.kindOf f = some .globalImplicit)
    (h : WE W n env σ e₁ fun d₁ => WE W n env σ e₂ fun d₂ => ∃ a b : Int, d₁ = .int a ∧ d₂ = .int b ∧ a ≤ 1000000 ∧ -1000000 ≤ a ∧ b ≤ 1000000 ∧ -1000000 ≤ b ∧ Q (rng a (b - a).toNat 1))
    (hc : eval (.Call (.Name f fp) [e₁, e₂] [] pos) env = (do
      let __do_lift ← eval (.Name f fp) env
      callWith pos __do_lift [] (backTo pos (starEach [e₁, e₂] env)) (backToKw pos (keywordEach [] env))) := by rfl)
    (he : starEach [e₁, e₂] env = (false, eval e₁ env) :: starEach [e₂] env := by rfl) (he2 : starEach [e₂] env = (false, eval e₂ env) :: starEach [] env := by rfl) (hp : ((backTo pos (starEach [e₂] env)).any (·.1)) = false := by rfl) (hd : (f == ("__debug__" : Str)) = false := by decide) :
    WI W n env σ (.Call (.Name f fp) [e₁, e₂] [] pos) Q := by
  intro A s Kp B₀ B R E rm S hR
  refine Call_ (S.boot hx g.ns g.boot ?_ g.nn hd) hc
  refine PyProof.Rows.callWith_type1 (PyProof.Rows.args_cons (h A s Kp B₀ B _ E rm S fun v₁ d₁ h1 t1 B1 q1 x1 i1 => ?_) he) he hp
  refine PyProof.Rows.args_cons (q1 A _ Kp B₀ B1 _ E rm (S.ext x1) fun v₂ d₂ h2 t2 B2 q2 x2 i2 => PyProof.Rows.args_nil ?_) he2
  obtain ⟨a, b, rfl, rfl, ha, ha', hb, hb', q⟩ := q2
  cases i1; cases i2
  refine call_range_2 (s := { s with heap := h2, toks := t2 }) ?_
  refine wi_ranged (s := s) rm ((x1.trans x2).trans (Ext.heap x2.bh fun _ _ e => Heap.get?_push_of_some _ e)) (IsRange.new ..) (small_one (by omega) (by omega) (by omega) (by omega)) ?_ q hR
  rw [rangeSize_one]
  split <;> omega
/-- range(0, b, 2) -/
theorem wi_range3 {f : Str} {fp pos : Pos} {e₁ e₂ e₃ : Expr} {Q : List D → Prop} (g : Bti W f (.type "range")) (hx : env.kindOf f = some .globalImplicit)
    (h : WE W n env σ e₁ fun d₁ => WE W n env σ e₂ fun d₂ => WE W n env σ e₃ fun d₃ => ∃ b : Int, d₁ = .int 0 ∧ d₂ = .int b ∧ d₃ = .int 2 ∧ b ≤ 1000000 ∧ 0 ≤ b ∧ Q (rng 0 ((b.toNat + 1) / 2) 2))
    (hc : eval (.Call (.Name f fp) [e₁, e₂, e₃] [] pos) env = (do
      let __do_lift ← eval (.Name f fp) env
      callWith pos __do_lift [] (backTo pos (starEach [e₁, e₂, e₃] env)) (backToKw pos (keywordEach [] env))) := by rfl)
    (he : starEach [e₁, e₂, e₃] env = (false, eval e₁ env) :: starEach [e₂, e₃] env := by rfl) (he2 : starEach [e₂, e₃] env = (false, eval e₂ env) :: starEach [e₃] env := by rfl) (he3 : starEach [e₃] env = (false, eval e₃ env) :: starEach [] env := by rfl) (hp : ((backTo pos (starEach [e₂, e₃] env)).any (·.1)) = false := by rfl) (hd : (f == ("__debug__" : Str)) = false := by decide) :
    WI W n env σ (.Call (.Name f fp) [e₁, e₂, e₃] [] pos) Q := by
  intro A s Kp B₀ B R E rm S hR
  refine Call_ (S.boot hx g.ns g.boot ?_ g.nn hd) hc
  refine PyProof.Rows.callWith_type1 (PyProof.Rows.args_cons (h A s Kp B₀ B _ E rm S fun v₁ d₁ h1 t1 B1 q1 x1 i1 => ?_) he) he hp
  refine PyProof.Rows.args_cons (q1 A _ Kp B₀ B1 _ E rm (S.ext x1) fun v₂ d₂ h2 t2 B2 q2 x2 i2 => ?_) he2
  refine PyProof.Rows.args_cons (q2 A _ Kp B₀ B2 _ E rm ((S.ext x1).ext x2) fun v₃ d₃ h3 t3 B3 q3 x3 i3 => PyProof.Rows.args_nil ?_) he3
  obtain ⟨b, rfl, rfl, rfl, hb, hb', q⟩ := q3
  cases i1; cases i2; cases i3
  refine call_range_3 (s := { s with heap := h3, toks := t3 }) (by decide) ?_ (.inl (PyProof.noPylong_small (by decide)))
  have hsize : Builtin.Range.rangeSize 0 b 2 = (((b.toNat + 1) / 2 : Nat) : Int) := by
    unfold Builtin.Range.rangeSize
    simp only [show (2 : Int) > 0 by decide, if_true]
    split <;> omega
  refine wi_ranged (s := s) rm (((x1.trans x2).trans x3).trans (Ext.heap x3.bh fun _ _ e => Heap.get?_push_of_some _ e)) (IsRange.new ..) ?_ hsize q hR
  unfold Builtin.Range.small
  rw [hsize]
  simp only [Builtin.Range.rangeFitsLong, Bool.and_eq_true, Bool.or_eq_true, decide_eq_true_eq, beq_iff_eq, show (2 : Int) > 0 by decide, if_true]
  omega

/-- an iterator that stands beside the frame takes a step -/
theorem St.turn {h h' : Heap} {I : Addr} {o o' : Obj} (hg : ∃ g : Heap, W.Ok g ∧ ∀ a o, g.get? a = some o → Kp a o) (S : St W env (Kp.add I o) B₀ B σ h) (hk : ∀ x, ¬ Kp I x) (hb : ∀ x, ¬ B₀ I x) (hs : ∀ b x, b ≠ I → h.get? b = some x → h'.get? b = some x) (ho : h'.get? I = some o') : St W env (Kp.add I o') B₀ B σ h' := by
  obtain ⟨m, cm, ad, F⟩ := S.fm
  have nb : ∀ x, ¬ B I x := fun x e => by
    rcases S.lim I x e with q | q
    · exact hb x q
    · exact q o Fz.add_self
  have nm : ∀ a, Mut env a → a ≠ I := fun a hm z => F.kM a o hm (z ▸ Fz.add_self)
  obtain ⟨g, go, gk⟩ := hg
  have knew : ∀ a x, (∀ y, ¬ (Kp.add I o) a y) → ¬ (Kp.add I o') a x := fun a x na q => by
    rcases q with q | ⟨rfl, rfl⟩
    · exact na x (.inl q)
    · exact na o Fz.add_self
  refine ⟨S.kind, S.glob, S.bi, ⟨g, go, fun a x e => ?_⟩, fun a x e => ?_, fun a x e => hs a x (fun z => nb x (z ▸ e)) (S.bh a x e), S.b0, fun a x e => ?_, m, cm, ad, ?_, fun k c e => ?_, F.apart, F.lc, fun a x hm q => ?_, F.bM, fun a hm => ?_, fun y s e => ?_, F.two⟩
  · exact .inl (gk a x e)
  · rcases e with q | ⟨rfl, rfl⟩
    · exact hs a x (fun z => hk x (z ▸ q)) (S.kp a x (.inl q))
    · exact ho
  · rcases S.lim a x e with q | q
    · exact .inl q
    · exact .inr fun y => knew a y q
  · obtain ⟨oL, es, ep, p, r⟩ := F.ns
    exact ⟨oL, es, ep, hs _ _ (nm _ (.inl rfl)) p, r⟩
  · obtain ⟨oc, p, r⟩ := F.cells k c e
    exact ⟨oc, hs _ _ (nm _ (.inr ⟨k, e⟩)) p, r⟩
  · rcases q with q | ⟨z, _⟩
    · exact F.kM a x hm (.inl q)
    · exact nm a hm z
  · obtain ⟨x, p⟩ := F.live a hm
    exact ⟨x, hs _ _ (nm a hm) p⟩
  · obtain ⟨v, hv, hsl⟩ := F.sl y s e
    refine ⟨v, hv, ?_⟩
    cases s with
    | val d => exact hsl
    | own l =>
      obtain ⟨g1, ⟨ws, k', g2, g3⟩, g4, g5, g6⟩ := hsl
      exact ⟨g1, ⟨ws, k', hs _ _ (fun z => g4 o (z ▸ Fz.add_self)) g2, g3⟩, fun x => knew _ x g4, g5, g6⟩
end
end

section
open PySem PySem.W PySem.Calls PyProof.Rows
set_option linter.unusedVariables false
section
variable {W : Wd} {n : Nat} {env : Env} {σ : Sg} {Kp B₀ B : Fz}

/-- an iterator is laid beside the frame -/
theorem St.side {h h' : Heap} {B' : Fz} {I : Addr} {o : Obj} (S : St W env Kp B₀ B σ h) (x1 : Ext h B h' B') (hn : h.get? I = none) (hb : ∀ o, ¬ B' I o) (ho : h'.get? I = some o) : St W env (Kp.add I o) B' B' σ h' := by
  obtain ⟨m, cm, ad, F0⟩ := S.fm
  have F := F0.ext x1
  have S' := S.ext x1
  obtain ⟨g, go, gk⟩ := S.base
  have nm : ∀ a, Mut env a → a ≠ I := fun a hm z => by obtain ⟨x, q⟩ := F0.live a hm; rw [z, hn] at q; cases q
  refine ⟨S.kind, S.glob, S.bi, ⟨g, go, fun a x e => .inl (gk a x e)⟩, fun a x e => ?_, S'.bh, fun _ _ e => e, fun _ _ e => .inl e, m, cm, ad, F.ns, F.cells, F.apart, F.lc, fun a x hm q => ?_, F.bM, F.live, fun y s e => ?_, F.two⟩
  · rcases e with q | ⟨rfl, rfl⟩
    · exact S'.kp a x q
    · exact ho
  · rcases q with q | ⟨z, _⟩
    · exact F.kM a x hm q
    · exact nm a hm z
  · obtain ⟨v, hv, hsl⟩ := F.sl y s e
    refine ⟨v, hv, ?_⟩
    cases s with
    | val d => exact hsl
    | own l =>
      obtain ⟨g1, g2, g4, g5, g6⟩ := hsl
      refine ⟨g1, g2, fun x q => ?_, g5, g6⟩
      rcases q with q | ⟨z, _⟩
      · exact g4 x q
      · obtain ⟨v0, hv0, _, ⟨ws, k0, p, _⟩, _⟩ := F0.sl y _ e
        rw [z, hn] at p; cases p

/-- and it is taken away -/
theorem St.drop {h h' : Heap} {B₁ : Fz} {τ : Sg} {I : Addr} {o : Obj} (S : St W env (Kp.add I o) B B₁ τ h) (hg : ∃ g : Heap, W.Ok g ∧ ∀ a o, g.get? a = some o → Kp a o) (hk : ∀ x, ¬ Kp I x) (hb : ∀ x, ¬ B I x) (hs : ∀ b x, b ≠ I → h.get? b = some x → h'.get? b = some x)
    (b0 : ∀ a o, B₀ a o → B a o) (lim : ∀ a o, B a o → B₀ a o ∨ ∀ o', ¬ Kp a o') : St W env Kp B₀ B₁ τ h' := by
  obtain ⟨m, cm, ad, F⟩ := S.fm
  have nb : ∀ x, ¬ B₁ I x := fun x e => by
    rcases S.lim I x e with q | q
    · exact hb x q
    · exact q o Fz.add_self
  have nm : ∀ a, Mut env a → a ≠ I := fun a hm z => F.kM a o hm (z ▸ Fz.add_self)
  refine ⟨S.kind, S.glob, S.bi, hg, fun a x e => hs a x (fun z => hk x (z ▸ e)) (S.kp a x (.inl e)), fun a x e => hs a x (fun z => nb x (z ▸ e)) (S.bh a x e), fun a x e => S.b0 a x (b0 a x e), fun a x e => ?_, m, cm, ad, ?_, fun k c e => ?_, F.apart, F.lc, fun a x hm q => F.kM a x hm (.inl q), F.bM, fun a hm => ?_, fun y s e => ?_, F.two⟩
  · rcases S.lim a x e with q | q
    · exact lim a x q
    · exact .inr fun y z => q y (.inl z)
  · obtain ⟨oL, es, ep, p, r⟩ := F.ns
    exact ⟨oL, es, ep, hs _ _ (nm _ (.inl rfl)) p, r⟩
  · obtain ⟨oc, p, r⟩ := F.cells k c e
    exact ⟨oc, hs _ _ (nm _ (.inr ⟨k, e⟩)) p, r⟩
  · obtain ⟨x, p⟩ := F.live a hm
    exact ⟨x, hs _ _ (nm a hm) p⟩
  · obtain ⟨v, hv, hsl⟩ := F.sl y s e
    refine ⟨v, hv, ?_⟩
    cases s with
    | val d => exact hsl
    | own l =>
      obtain ⟨g1, ⟨ws, k', g2, g3⟩, g4, g5, g6⟩ := hsl
      exact ⟨g1, ⟨ws, k', hs _ _ (fun z => g4 o (z ▸ Fz.add_self)) g2, g3⟩, fun x q => g4 x (.inl q), g5, g6⟩

/-- what a loop's turn leaves -/
def Turn (J : List D → Sg → Prop) (P : Out → Prop) (pre : List D) : Out → Prop
  | .next σ' => ∃ τ', J pre τ' ∧ Has σ' τ'
  | .cont σ' => ∃ τ', J pre τ' ∧ Has σ' τ'
  | .brk σ' => P (.next σ')
  | .ret d => P (.ret d)

theorem take_step {ds : List D} {i : Nat} {d : D} (h : ds[i]? = some d) : ds = ds.take i ++ d :: ds.drop (i + 1) ∧ ds.take (i + 1) = ds.take i ++ [d] := by
  obtain ⟨hi, e⟩ := List.getElem?_eq_some_iff.mp h
  have h2 : ds.take (i + 1) = ds.take i ++ [d] := by rw [List.take_add_one, h]; rfl
  refine ⟨?_, h2⟩
  have := List.take_append_drop (i + 1) ds
  rw [h2, List.append_assoc] at this
  exact this.symm

theorem wx_for {x : Str} {px pos : Pos} {iter : Expr} {body : List Stmt} {P : Out → Prop} (J : List D → Sg → Prop) (hx : Stor env x)
    (h : WI W n env σ iter fun ds => (∃ τ, J [] τ ∧ Has σ τ) ∧ (∀ pre d post τ, ds = pre ++ d :: post → J pre τ → WS W n env body ((x, .val d) :: τ) (Turn J P (pre ++ [d]))) ∧ ∀ τ, J ds τ → P (.next τ))
    (hs : ∀ v, foldedSetIterable iter env v = pure v := by intro _; rfl) (ht : ∀ I v, letOwnedTupleGo (.Name x px) I v = pure () := by intro _ _; rfl) :
    WX W n env (.For (.Name x px) iter body [] pos) σ P := by
  intro A s Kp B₀ B E rm S
  refine wpAny_For (h A s Kp B₀ B _ _ rm S fun I fp cnt Pv Stt ds h' tk' B' q x1 wk st0 hcnt hfp hn hb hlive hval => ?_) hs
  obtain ⟨⟨τ₀, hJ0, hh0⟩, turn, fin⟩ := q
  have hk : ∀ x, ¬ Kp I x := fun x e => by have := S.kp I x e; rw [hn] at this; cases this
  have S1 := S.ext x1
  obtain ⟨o0, ho0⟩ := hlive 0 h' st0
  refine codeAny_forLoop (fun k s' => ∃ h₁ t₁ B₁ τ i o, s' = { s with heap := h₁, toks := t₁ } ∧ k = cnt + 1 - i ∧ i ≤ cnt ∧ Stt i h₁ ∧ J (ds.take i) τ ∧ St W env (Kp.add I o) B' B₁ τ h₁) ?_ (cnt + 1)
    ⟨h', tk', B', τ₀, 0, o0, rfl, rfl, Nat.zero_le _, st0, by simpa using hJ0, (S.side x1 hn hb ho0).has hh0⟩ (ht _)
  rintro k s' ⟨h₁, t₁, B₁, τ, i, o, rfl, rfl, hi, sti, hJ, Si⟩
  by_cases hlt : i < cnt
  · refine wk.item i _ _ _ hlt sti fun v h₂ t₂ hP st₂ hk₂ => ?_
    obtain ⟨o₂, ho₂⟩ := hlive (i + 1) h₂ st₂
    have S2 : St W env (Kp.add I o₂) B' B₁ τ h₂ := Si.turn S.base hk hb (fun b y ne e => hk₂ b y (by simpa using ne) e) ho₂
    obtain ⟨d, hd, hin⟩ := hval i v hP B₁ S2.b0
    refine wpAny_assign_Name (St.store (s := { s with heap := h₂, toks := t₂ }) S2 hx hin fun h₃ t₃ S3 => ?_)
    obtain ⟨e1, e2⟩ := take_step hd
    refine wpAny_mono (turn _ d _ τ e1 hJ A _ _ _ B₁ _ rm S3) (fun f s'' hp => ?_) fun _ _ e => e
    obtain ⟨h₄, t₄, B₄, rfl, hp⟩ := hp
    have next : ∀ {σ' : Sg}, (∃ τ', J (ds.take i ++ [d]) τ' ∧ Has σ' τ') → St W env (Kp.add I o₂) B' B₄ σ' h₄ →
        ∃ m, m < cnt + 1 - i ∧ ∃ h₁ t₁ B₁ τ j o, ({ s with heap := h₄, toks := t₄ } : Shared) = { s with heap := h₁, toks := t₁ } ∧ m = cnt + 1 - j ∧ j ≤ cnt ∧ Stt j h₁ ∧ J (ds.take j) τ ∧ St W env (Kp.add I o) B' B₁ τ h₁ := by
      rintro σ' ⟨τ', hJ', hh'⟩ S4
      refine ⟨cnt + 1 - (i + 1), by omega, h₄, t₄, B₄, τ', i + 1, o₂, rfl, rfl, hlt, wk.frame _ h₂ h₄ st₂ fun b hbm y e => ?_, by rw [e2]; exact hJ', S4.has hh'⟩
      rcases hfp b hbm with rfl | ⟨z, hz⟩
      · rw [ho₂] at e; cases e
        exact S4.kp _ _ Fz.add_self
      · have e3 := S2.bh b z (S2.b0 b z hz)
        rw [e3] at e; cases e
        exact S4.bh b _ (S4.b0 b _ hz)
    have back : ∀ {σ' : Sg}, St W env (Kp.add I o₂) B' B₄ σ' h₄ → St W env Kp B₀ B₄ σ' h₄ := fun S4 => S4.drop S.base hk hb (fun _ _ _ e => e) S1.b0 S1.lim
    cases f with
    | next =>
      obtain ⟨σ', a, S4⟩ := hp
      exact next a S4
    | cont =>
      obtain ⟨σ', a, S4⟩ := hp
      exact next a S4
    | brk =>
      obtain ⟨σ', a, S4⟩ := hp
      exact ⟨h₄, t₄, B₄, rfl, σ', a, back S4⟩
    | ret v =>
      obtain ⟨d, a, S4, i⟩ := hp
      exact ⟨h₄, t₄, B₄, rfl, d, a, back S4, i⟩
  · have hin : i = cnt := by omega
    subst hin
    refine wk.done _ _ _ sti fun h₂ t₂ hk₂ => wpAny_execs_nil ?_
    rw [hcnt, List.take_length] at hJ
    exact ⟨h₂, t₂, B₁, rfl, τ, fin τ hJ, Si.drop S.base hk hb (fun b y ne e => hk₂ b y (by simpa using ne) e) S1.b0 S1.lim⟩
end
end

section
open PySem PySem.W PySem.Calls PyProof.Rows
set_option linter.unusedVariables false
section
variable {W : Wd} {n : Nat} {env : Env} {σ : Sg} {Kp B₀ B : Fz}

/-- the cells that a comprehension's block sees -/
def clOf (names : List (Str × NameKind)) (env : Env) : List (Str × Addr) :=
  names.filterMap fun p => if p.2 == .free then (env.cells.lookup p.1).map fun c => (p.1, c) else none
def clOk (names : List (Str × NameKind)) (env : Env) : Bool := names.all fun p => p.2 != .free || (env.cells.lookup p.1).isSome

theorem clOf_lookup {env : Env} : ∀ {names : List (Str × NameKind)} {y : Str} {c : Addr}, names.lookup y = some .free → env.cells.lookup y = some c → (clOf names env).lookup y = some c
  | [], _, _, h, _ => by simp at h
  | (z, k) :: r, y, c, h, hc => by
    rw [List.lookup_cons] at h
    unfold clOf
    rw [List.filterMap_cons]
    by_cases q : (y == z) = true
    · rw [q] at h
      have hk : k = .free := by simpa using h
      have hz : y = z := beq_iff_eq.mp q
      subst hk hz
      simp [hc]
    · have q' : (y == z) = false := by simpa using q
      rw [q'] at h
      have ih := clOf_lookup (env := env) (names := r) (y := y) h hc
      unfold clOf at ih
      split
      · exact ih
      · rename_i b hb
        split at hb
        · cases hl : env.cells.lookup z with
          | none => rw [hl] at hb; cases hb
          | some c' =>
            rw [hl] at hb
            cases hb
            rw [List.lookup_cons, q']
            exact ih
        · cases hb
theorem clOf_mem {env : Env} {names : List (Str × NameKind)} {p : Str × Addr} (h : p ∈ clOf names env) : env.cells.lookup p.1 = some p.2 ∧ ∃ k, (p.1, k) ∈ names := by
  obtain ⟨q, hq, e⟩ := List.mem_filterMap.mp h
  split at e
  · cases hl : env.cells.lookup q.1 with
    | none => rw [hl] at e; cases e
    | some c => rw [hl] at e; cases e; exact ⟨hl, q.2, hq⟩
  · cases e
theorem clOf_pairwise {env : Env} (ap : env.cells.Pairwise fun x y => x.2 ≠ y.2) : ∀ {names : List (Str × NameKind)}, (names.map (·.1)).Nodup → (clOf names env).Pairwise fun x y => x.2 ≠ y.2
  | [], _ => .nil
  | (z, k) :: r, h => by
    rw [List.map_cons, List.nodup_cons] at h
    have ih := clOf_pairwise ap h.2
    unfold clOf at ih ⊢
    rw [List.filterMap_cons]
    split
    · exact ih
    · rename_i b hb
      refine List.pairwise_cons.mpr ⟨fun q hq e => ?_, ih⟩
      have hb' : b ∈ clOf ((z, k) :: r) env := by unfold clOf; rw [List.filterMap_cons, hb]; exact List.mem_cons_self
      have m1 := (clOf_mem hb').1
      obtain ⟨m2, k2, hk2⟩ := clOf_mem (show q ∈ clOf r env from hq)
      have hz : b.1 = z := by
        split at hb
        · cases hl : env.cells.lookup z with
          | none => rw [hl] at hb; cases hb
          | some c => rw [hl] at hb; cases hb; rfl
        · cases hb
      have : b.1 = q.1 := PySem.name_of_addr ap (lookup_mem m1) (e ▸ lookup_mem m2)
      refine h.1 ?_
      rw [← hz, this]
      exact List.mem_map.mpr ⟨_, hk2, rfl⟩

theorem clOf_names {env : Env} : ∀ {names : List (Str × NameKind)}, (names.map (·.1)).Nodup → ((clOf names env).map (·.1)).Nodup
  | [], _ => .nil
  | (z, k) :: r, h => by
    rw [List.map_cons, List.nodup_cons] at h
    have ih := clOf_names (env := env) h.2
    unfold clOf at ih ⊢
    rw [List.filterMap_cons]
    split
    · exact ih
    · rename_i b hb
      rw [List.map_cons, List.nodup_cons]
      refine ⟨fun hm => ?_, ih⟩
      obtain ⟨q, hq, e⟩ := List.mem_map.mp hm
      obtain ⟨_, k2, hk2⟩ := clOf_mem (show q ∈ clOf r env from hq)
      have hz : b.1 = z := by
        split at hb
        · cases hl : env.cells.lookup z with
          | none => rw [hl] at hb; cases hb
          | some c => rw [hl] at hb; cases hb; rfl
        · cases hb
      refine h.1 ?_
      rw [← hz, ← e]
      exact List.mem_map.mpr ⟨_, hk2, rfl⟩
theorem lookup_of_mem {α : Type} : ∀ {l : List (Str × α)} {x : Str} {c : α}, (l.map (·.1)).Nodup → (x, c) ∈ l → l.lookup x = some c
  | (z, b) :: r, x, c, hn, hm => by
    rw [List.map_cons, List.nodup_cons] at hn
    rw [List.lookup_cons]
    rcases List.mem_cons.mp hm with e | hm
    · injection e with e1 e2; subst e1; subst e2; simp
    · have ne : x ≠ z := fun e => hn.1 (e ▸ List.mem_map.mpr ⟨_, hm, rfl⟩)
      have q : (x == z) = false := by simpa using ne
      rw [q]
      exact lookup_of_mem hn.2 hm
/-- the cells as the machine lays them -/
abbrev clR (names : List (Str × NameKind)) (env : Env) : List (Str × Addr) := (clOf names env).reverse
theorem clR_mem {env : Env} {names : List (Str × NameKind)} {p : Str × Addr} (h : p ∈ clR names env) : env.cells.lookup p.1 = some p.2 := (clOf_mem (List.mem_reverse.mp h)).1
theorem clR_lookup {env : Env} {names : List (Str × NameKind)} {y : Str} {c : Addr} (hn : (names.map (·.1)).Nodup) (h : names.lookup y = some .free) (hc : env.cells.lookup y = some c) : (clR names env).lookup y = some c := by
  refine lookup_of_mem ?_ (List.mem_reverse.mpr (lookup_mem (clOf_lookup h hc)))
  rw [List.map_reverse]
  exact List.pairwise_reverse.mpr (List.Pairwise.imp (fun h e => h e.symm) (clOf_names (env := env) hn))
theorem clR_pairwise {env : Env} {names : List (Str × NameKind)} (ap : env.cells.Pairwise fun x y => x.2 ≠ y.2) (hn : (names.map (·.1)).Nodup) : (clR names env).Pairwise fun x y => x.2 ≠ y.2 :=
  List.pairwise_reverse.mpr ((clOf_pairwise ap hn).imp fun h e => h e.symm)

/-- what a comprehension's block may read of its frame -/
def Cap (env : Env) (names : List (Str × NameKind)) (σ τ : Sg) : Prop := ∀ y s, τ.lookup y = some s → ∃ d, s = .val d ∧ σ.lookup y = some (.val d) ∧ names.lookup y = some .free ∧ env.kindOf y = some .cell
theorem Cap.nil {names : List (Str × NameKind)} : Cap env names σ [] := fun _ _ h => by simp at h
theorem Cap.cons {names : List (Str × NameKind)} {τ : Sg} {y : Str} {d : D} (h : σ.lookup y = some (.val d)) (hn : names.lookup y = some .free) (hk : env.kindOf y = some .cell) (r : Cap env names σ τ) : Cap env names σ ((y, .val d) :: τ) := fun z s e => by
  rcases look_cons e with ⟨rfl, rfl⟩ | ⟨_, e⟩
  · exact ⟨d, rfl, h, hn, hk⟩
  · exact r z s e

theorem kindOf_free {scope : Scope} {env : Env} {C : Addr} {cl : List (Str × Addr)} : ∀ {y : Str}, scope.names.lookup y = some .free → (compEnvC scope cl C env).kindOf y = some .cell ∨ (compEnvC scope cl C env).kindOf y = some .free := by
  intro y h
  show (List.lookup y (scope.names.map _)) = _ ∨ (List.lookup y (scope.names.map _)) = _
  generalize scope.names = names at h
  induction names with
  | nil => simp at h
  | cons p r ih =>
    obtain ⟨z, k⟩ := p
    rw [List.lookup_cons] at h
    rw [List.map_cons]
    by_cases q : (y == z) = true
    · rw [q] at h
      have hk : k = .free := by simpa using h
      subst hk
      dsimp only
      split
      · left; rw [List.lookup_cons, q]
      · right; rw [List.lookup_cons, q]
    · have q' : (y == z) = false := by simpa using q
      rw [q'] at h
      have := ih h
      dsimp only
      split
      · rw [List.lookup_cons, q']; exact this
      · rw [List.lookup_cons, q']; exact this

/-- the block of a comprehension, its item in place -/
theorem St.block {h h₂ : Heap} {B₁ : Fz} {scope : Scope} {C : Addr} {x : Str} {v : Value} {d : D} {τ : Sg} {m : Str → Option Value} (S : St W env Kp B₀ B σ h) (hkind : scope.kind = .function) (hnd : (scope.names.map (·.1)).Nodup) (hx : scope.names.lookup x = some .local) (hcap : Cap env scope.names σ τ)
    (hC : h.get? C = none) (keep : ∀ b o, h.get? b = some o → h₂.get? b = some o) (sub : ∀ a o, B a o → B₁ a o) (bh : ∀ a o, B₁ a o → h₂.get? a = some o) (fresh : ∀ a o, B₁ a o → B a o ∨ h.get? a = none) (nC : ∀ o, ¬ B₁ C o)
    (hn : h₂.Ns C m) (hm : m x = some v) (hv : In W.vecC B₁ v d) : St W (compEnvC scope (clR scope.names env) C env) Kp B₁ B₁ ((x, .val d) :: τ) h₂ := by
  obtain ⟨m0, cm, ad, F⟩ := S.fm
  have cellAt : ∀ k c, (clR scope.names env).lookup k = some c → env.cells.lookup k = some c := fun k c e => clR_mem (lookup_mem e)
  have low : ∀ k c, (clR scope.names env).lookup k = some c → Mut env c := fun k c e => .inr ⟨k, cellAt k c e⟩
  refine ⟨hkind, S.glob, S.bi, S.base, fun a o e => keep a o (S.kp a o e), bh, fun _ _ e => e, fun _ _ e => .inl e, m, cm, ad, hn, fun k c e => (F.cells k c (cellAt k c e)).keeps keep, clR_pairwise F.apart hnd, fun k c hmem => ?_, ?_, ?_, ?_, ?_, ?_⟩
  · intro e
    have e' : c = C := e
    obtain ⟨o, ho⟩ := F.live c (.inr ⟨k, clR_mem hmem⟩)
    rw [e', hC] at ho
    cases ho
  · rintro a o (e | ⟨k, hk⟩) hkp
    · have e' : a = C := e
      have := S.kp _ o hkp
      rw [e', hC] at this
      cases this
    · exact F.kM a o (low k a hk) hkp
  · rintro a o (e | ⟨k, hk⟩) hb
    · have e' : a = C := e
      exact nC o (e' ▸ hb)
    · obtain ⟨o', ho'⟩ := F.live a (low k a hk)
      rcases fresh a o hb with q | q
      · exact F.bM a o (low k a hk) q
      · rw [ho'] at q; cases q
  · rintro a (rfl | ⟨k, hk⟩)
    · obtain ⟨o, _, _, q, _⟩ := hn; exact ⟨o, q⟩
    · obtain ⟨o', ho'⟩ := F.live a (low k a hk); exact ⟨o', keep a o' ho'⟩
  · intro y s e
    rcases look_cons e with ⟨rfl, rfl⟩ | ⟨_, e⟩
    · exact ⟨v, .inl ⟨lookup_relabel_local hx, hm⟩, hv⟩
    · obtain ⟨d', rfl, hs, hf, hkc⟩ := hcap y s e
      obtain ⟨u, hu, hin⟩ := F.sl y _ hs
      refine ⟨u, ?_, In.mono sub hin⟩
      rcases hu with ⟨k1, _⟩ | ⟨k1, c, hc, hcm⟩
      · rw [hkc] at k1; cases k1
      · exact .inr ⟨kindOf_free hf, c, clR_lookup hnd hf hc, hcm⟩
  · intro y z l l' e
    rcases look_cons e with ⟨_, e⟩ | ⟨_, e⟩
    · cases e
    · obtain ⟨d', q, _⟩ := hcap y _ e; cases q

theorem closure_ok {scope : Scope} {env : Env} (h : clOk scope.names env = true) : closureFor scope env = pure (clR scope.names env) := by
  have go : ∀ (names : List (Str × NameKind)) (acc : List (Str × Addr)), clOk names env = true →
      (forIn names acc (fun (x : Str × NameKind) (cs : List (Str × Addr)) => (do
        if x.2 == .free then
          let c ← cellOf env x.1
          pure (ForInStep.yield ((x.1, c) :: cs))
        else pure (ForInStep.yield cs) : Sem (ForInStep (List (Str × Addr)))))) = pure ((clOf names env).reverse ++ acc) := by
    intro names
    induction names with
    | nil => intro acc _; rfl
    | cons p r ih =>
      intro acc hk
      obtain ⟨z, k⟩ := p
      unfold clOk at hk
      rw [List.all_cons, Bool.and_eq_true] at hk
      rw [List.forIn_cons]
      unfold clOf
      rw [List.filterMap_cons]
      by_cases q : (k == NameKind.free) = true
      · obtain ⟨c, hc⟩ : ∃ c, env.cells.lookup z = some c := by
          have : k = .free := beq_iff_eq.mp q
          subst this
          simpa [Option.isSome_iff_exists] using hk.1
        have hcell : cellOf env z = pure c := by unfold cellOf; rw [hc]
        simp only [q, if_true, hcell, hc, pure_bind, Option.map_some]
        rw [ih _ hk.2]
        show _ = pure ((((z, c) :: clOf r env)).reverse ++ acc)
        rw [List.reverse_cons, List.append_assoc]
        rfl
      · simp only [q, pure_bind]
        exact ih acc hk.2
  have := go scope.names [] h
  rw [List.append_nil] at this
  rw [← this]
  unfold closureFor
  simp only [bind_pure]
end
end

section
open PySem PySem.W PySem.Calls PyProof.Rows
set_option linter.unusedVariables false
section
variable {W : Wd} {n : Nat} {env : Env} {σ : Sg} {Kp B₀ B : Fz}

/-- a comprehension's tests -/
def Tests (W : Wd) (n : Nat) (env : Env) (σ : Sg) (ifs : List Expr) (b : Bool) : Prop := (ifs = [] ∧ b = true) ∨ ∃ c, ifs = [c] ∧ WT W n env σ c fun r => r = b

theorem Tests.run {ifs : List Expr} {b : Bool} {A : Around} {s : Shared} {R : Bool → Shared → Prop} {E : Value → Shared → Prop} (t : Tests W n env σ ifs b) (rm : Room A n) (S : St W env Kp B₀ B σ s.heap)
    (h : ∀ h' tk' B', Ext s.heap B h' B' → R b { s with heap := h', toks := tk' }) :
    wpAny (mdl W) A (forIn ifs true fun c r => if r = true then do let ok ← PySem.isTrue c env (eval c env); pure (ForInStep.yield ok) else pure (ForInStep.yield r)) R E s := by
  rcases t with ⟨rfl, rfl⟩ | ⟨c, rfl, ht⟩
  · exact wpAny_tests_nil (h s.heap s.toks B (Ext.refl S.bh))
  · refine wpAny_tests_one (ht A s Kp B₀ B R E rm S fun r h' tk' B' q x => ?_)
    subst q
    exact h h' tk' B' x

theorem comp_core {elt iter : Expr} {x : Str} {px : Pos} {ifs : List Expr} {scope : Scope} {pos : Pos} {A : Around} {s : Shared} {h' : Heap} {tk' : Nat} {B' : Fz} {I : Addr} {fp : List Addr} {cnt : Nat} {Pv : Nat → Value → Prop} {Stt : Nat → Heap → Prop} {ds : List D} {τ : Sg} {E : Value → Shared → Prop} {RR : Value → Addr → Result → Shared → Prop} (p : D → Bool) (f : D → D)
    (hkind : scope.kind = .function) (hnd : (scope.names.map (·.1)).Nodup) (hx : scope.names.lookup x = some .local) (hcap : Cap env scope.names σ τ) (hcell : ∀ y ∈ scope.names, y.2 ≠ .cell)
    (ht : ∀ d ∈ ds, ∀ C, Tests W n (compEnvC scope (clR scope.names env) C env) ((x, .val d) :: τ) ifs (p d))
    (he : ∀ d ∈ ds, p d = true → ∀ C, WE W n (compEnvC scope (clR scope.names env) C env) ((x, .val d) :: τ) elt fun r => r = f d)
    (hz : ds.length ≤ 1000000) (rm : Room A n) (S : St W env Kp B₀ B σ s.heap) (x1 : Ext s.heap B h' B') (wk : Walks W.prog W.w A I fp [I] cnt Pv Stt) (st0 : Stt 0 h') (hcnt : cnt = ds.length) (hfp : ∀ b ∈ fp, b = I ∨ ∃ o, B' b o)
    (hn : s.heap.get? I = none) (hb : ∀ o, ¬ B' I o) (hlive : ∀ i h, Stt i h → ∃ o, h.get? I = some o) (hval : ∀ i v, Pv i v → ∀ B'' : Fz, (∀ a o, B' a o → B'' a o) → ∃ d, ds[i]? = some d ∧ In W.vecC B'' v d)
    (hRR : ∀ D C h₁ t₁ B₁ vs kk m, Ext s.heap B h₁ B₁ → h₁.Ns C m → h₁.get? D = some (listOf vs.toArray kk) → All W.vecC B₁ vs ((ds.filter p).map f) → s.heap.get? D = none → s.heap.get? C = none → D ≠ C → (∀ o, ¬ B₁ D o) → (∀ o, ¬ B₁ C o) →
      RR (.ref D) C (.ok .next) { s with heap := h₁, toks := t₁ }) :
    wpAny (mdl W) A (newList []) (fun acc s₃ => wpAny (mdl W) A (newFunctionEnv scope env.globals (clR scope.names env) [] env.qual none .none (some env)) (fun cenv s₄ =>
      codeAny (mdl W) A (.compStart (.ListComp elt [⟨.Name x px, iter, ifs, 0⟩] scope pos) 0 (.ref I) acc { cenv with scope := relabel scope env }) (RR acc cenv.locals) s₄) E s₃) E { s with heap := h', toks := tk' } := by
  refine wpAny_newObj_type (s := { s with heap := h', toks := tk' }) (wpAny_newFunctionEnv hcell (by intro y hy; simp at hy) (fun h₁ hns₁ hsb₁ => ?_) hkind)
  dsimp only at hns₁ hsb₁ ⊢
  generalize hH2 : h'.push { cls := .type "list", dict := none, data := .seq ([] : List Value).toArray } = H2 at hns₁ hsb₁ ⊢
  have hC : H2.objs.size = h'.objs.size + 1 := by rw [← hH2, Heap.size_push]
  obtain ⟨oI0, hI0⟩ := hlive 0 h' st0
  have hIlt : I < h'.objs.size := Heap.lt_size hI0
  have hDC : h'.objs.size ≠ H2.objs.size := by rw [hC]; exact Nat.ne_of_lt (Nat.lt_succ_self _)
  have hIC : I ≠ H2.objs.size := by rw [hC]; exact Nat.ne_of_lt (Nat.lt_succ_of_lt hIlt)
  have hID : I ≠ h'.objs.size := Nat.ne_of_lt hIlt
  have below : ∀ b, b < h'.objs.size → b ≠ H2.objs.size ∧ b ≠ h'.objs.size := fun b hb => ⟨by rw [hC]; exact Nat.ne_of_lt (Nat.lt_succ_of_lt hb), Nat.ne_of_lt hb⟩
  have old : ∀ b o, h'.get? b = some o → h₁.get? b = some o := fun b o e => hsb₁.extBut b o (below b (Heap.lt_size e)).1 (Heap.get?_push_of_some _ (hH2 ▸ Heap.get?_push_of_some _ e))
  have hacc : h₁.get? h'.objs.size = some (listOf ([] : List Value).toArray 0) := hsb₁.extBut _ _ hDC (Heap.get?_push_of_some _ (hH2 ▸ Heap.get?_push_size _ rfl))
  have freshD : s.heap.get? h'.objs.size = none := none_of_ext x1.keep (get?_none_size h')
  have freshC' : h'.get? H2.objs.size = none := by
    cases e : h'.get? H2.objs.size with
    | none => rfl
    | some o' => have := Heap.lt_size e; rw [hC] at this; exact absurd this (Nat.not_lt.mpr (Nat.le_succ _))
  have freshC : s.heap.get? H2.objs.size = none := none_of_ext x1.keep freshC'
  have st1 : Stt 0 h₁ := wk.frame _ _ _ st0 fun b _ o e => old b o e
  generalize hDD : h'.objs.size = Dd at *
  generalize hCC : H2.objs.size = C at *
  -- the loop
  have loop : ∀ s₃ : Shared, s₃ = { s with heap := h₁, toks := tk' + ([] : List (Str × Value)).length } →
      codeAny (mdl W) A (.compLoop (.ListComp elt [⟨.Name x px, iter, ifs, 0⟩] scope pos) 0 (.ref I) (.ref Dd) (compEnvC scope (clR scope.names env) C env)) (RR (.ref Dd) C) s₃ := by
    rintro s₃ rfl
    refine codeAny_compLoop_tests (fun k s' => ∃ h₂ t₂ B₂ i vs kk m, s' = { s with heap := h₂, toks := t₂ } ∧ k = cnt + 1 - i ∧ i ≤ cnt ∧ Stt i h₂ ∧ h₂.Ns C m ∧ h₂.get? Dd = some (listOf vs.toArray kk) ∧ All W.vecC B₂ vs (((ds.take i).filter p).map f) ∧
        Ext s.heap B h₂ B₂ ∧ (∀ a o, B' a o → B₂ a o) ∧ (∀ o, ¬ B₂ I o) ∧ (∀ o, ¬ B₂ Dd o) ∧ (∀ o, ¬ B₂ C o)) ?_ (cnt + 1)
      ⟨h₁, _, B', 0, [], 0, _, rfl, rfl, Nat.zero_le _, st1, hns₁, hacc, by simpa using All.nil, ⟨fun b o e => old b o (x1.keep b o e), x1.sub, fun a o e => old a o (x1.bh a o e), x1.fresh⟩, fun _ _ e => e, hb,
        (fun o e => by have := x1.bh _ _ e; rw [← hDD, get?_none_size] at this; cases this), (fun o e => by have := x1.bh _ _ e; rw [freshC'] at this; cases this)⟩
    rintro k s' ⟨h₂, t₂, B₂, i, vs, kk, m, rfl, rfl, hi, sti, hns, hD, hall, xx, hsub, nI, nD, nC⟩
    by_cases hlt : i < cnt
    · refine wk.item i _ _ _ hlt sti fun v h₃ t₃ hP st₃ hk₃ => ?_
      have hk₃' : ∀ b o, b ≠ I → h₂.get? b = some o → h₃.get? b = some o := fun b o ne e => hk₃ b o (by simpa using ne) e
      obtain ⟨d, hd, hin⟩ := hval i v hP B₂ hsub
      have hdm : d ∈ ds := List.mem_of_getElem? hd
      have ns₃ : h₃.Ns C m := by
        obtain ⟨o, es, ep, q, r⟩ := hns
        exact ⟨o, es, ep, hk₃' _ _ (Ne.symm hIC) q, r⟩
      refine wpAny_assign_Name (wpAny_storeName_local (env := compEnvC scope (clR scope.names env) C env) (lookup_relabel_local hx) ns₃ (fun h₄ hn₄ hs₄ => ?_) (by simp [compEnvC, relabel, hkind]))
      -- nothing but the iterator and the block's names was touched
      have up : ∀ b o, b ≠ I → b ≠ C → h₂.get? b = some o → h₄.get? b = some o := fun b o n1 n2 e => hs₄.extBut b o n2 (hk₃' b o n1 e)
      have nIs : ∀ b o, s.heap.get? b = some o → b ≠ I := fun b o e z => by rw [z, hn] at e; cases e
      have nCs : ∀ b o, s.heap.get? b = some o → b ≠ C := fun b o e z => by rw [z, freshC] at e; cases e
      have nDs : ∀ b o, s.heap.get? b = some o → b ≠ Dd := fun b o e z => by rw [z, freshD] at e; cases e
      have x4 : Ext s.heap B h₄ B₂ := ⟨fun b o e => up b o (nIs b o e) (nCs b o e) (xx.keep b o e), xx.sub, fun a o e => up a o (fun z => nI o (z ▸ e)) (fun z => nC o (z ▸ e)) (xx.bh a o e), xx.fresh⟩
      have st₄ : Stt (i + 1) h₄ := wk.frame _ _ _ st₃ fun b hbm o e => hs₄.extBut b o (fun z => by
        rcases hfp b hbm with q | ⟨o', q⟩
        · exact hIC (q.symm.trans z)
        · have z' : b = C := z
          exact nC o' (z' ▸ hsub _ _ q)) e
      have hD₄ : h₄.get? Dd = some (listOf vs.toArray kk) := up _ _ (Ne.symm hID) hDC hD
      obtain ⟨oI, hI₄⟩ := hlive _ _ st₄
      obtain ⟨oC, hC₄⟩ : ∃ o, h₄.get? C = some o := by obtain ⟨o, _, _, q, _⟩ := hn₄; exact ⟨o, q⟩
      have S4 := S.block (C := C) (τ := τ) (x := x) (v := v) (d := d) hkind hnd hx hcap freshC x4.keep x4.sub x4.bh x4.fresh nC hn₄ (by simp) hin
      refine (ht d hdm C).run (s := { s with heap := h₄, toks := _ }) rm S4 fun h₅ t₅ B₅ x5 => ?_
      have still : ∀ {h : Heap} {B6 : Fz}, Ext h₄ B₂ h B6 → Ext s.heap B h B6 ∧ Stt (i + 1) h ∧ (∀ a o, B' a o → B6 a o) ∧ (∀ o, ¬ B6 I o) ∧ (∀ o, ¬ B6 Dd o) ∧ (∀ o, ¬ B6 C o) := fun {h B6} y => by
        have ne : ∀ {a o}, h₄.get? a = some o → (∀ o, ¬ B₂ a o) → ∀ o, ¬ B6 a o := fun {a o} q nb o' e => by
          rcases y.fresh a o' e with z | z
          · exact nb o' z
          · rw [q] at z; cases z
        exact ⟨x4.trans y, wk.frame _ _ _ st₄ fun b _ o e => y.keep b o e, fun a o e => y.sub a o (hsub a o e), ne hI₄ nI, ne hD₄ nD, ne hC₄ nC⟩
      obtain ⟨e1, e2⟩ := take_step hd
      by_cases hp : p d = true
      · rw [if_pos hp]
        refine he d hdm hp C A { s with heap := h₅, toks := t₅ } Kp B₂ B₅ _ _ rm (S4.ext x5) fun v' r h₆ t₆ B₆ q x6 i6 => ?_
        subst q
        have x56 := x5.trans x6
        obtain ⟨y1, y2, y3, y4, y5, y6⟩ := still x56
        have hlen : vs.length ≤ 1000000 := by
          rw [hall.length, List.length_map]
          exact Nat.le_trans (List.length_filter_le _ _) (Nat.le_trans (by rw [List.length_take]; exact Nat.min_le_right _ _) hz)
        refine wpAny_list_append_plain (s := { s with heap := h₆, toks := t₆ }) ⟨kk, x56.keep _ _ hD₄⟩ (fun h₇ hp7 hs7 => ?_) (by rw [List.size_toArray]; exact sizeLine_ge hlen)
        obtain ⟨k7, hp7⟩ := hp7
        have ea : vs.toArray.push v' = (vs ++ [v']).toArray := by simp
        rw [ea] at hp7
        have n7 : ∀ b o, b ≠ Dd → h₆.get? b = some o → h₇.get? b = some o := fun b o ne e => (hs7.2 b ne).trans e
        refine ⟨cnt + 1 - (i + 1), by omega, h₇, t₆, B₆, i + 1, vs ++ [v'], k7, (fun z => if z = x then some v else m z), rfl, rfl, hlt, wk.frame _ _ _ y2 fun b hbm o e => n7 b o (fun z => ?_) e, ?_, hp7, ?_, ⟨fun b o e => n7 b o (nDs b o e) (y1.keep b o e), y1.sub, fun a o e => n7 a o (fun z => y5 o (z ▸ e)) (y1.bh a o e), y1.fresh⟩, y3, y4, y5, y6⟩
        · rcases hfp b hbm with q | ⟨o', q⟩
          · exact hID (q.symm.trans z)
          · exact y5 o' (z ▸ y3 _ _ q)
        · obtain ⟨o, es, ep, q, r⟩ := hn₄
          exact ⟨o, es, ep, n7 _ _ (Ne.symm hDC) (x56.keep _ _ q), r⟩
        · rw [e2, List.filter_append, List.map_append]
          refine (hall.mono x56.sub).append ?_
          simp only [List.filter_cons, hp, if_true, List.filter_nil, List.map_cons, List.map_nil]
          exact .cons i6 .nil
      · rw [if_neg hp]
        obtain ⟨y1, y2, y3, y4, y5, y6⟩ := still x5
        refine ⟨cnt + 1 - (i + 1), by omega, h₅, t₅, B₅, i + 1, vs, kk, (fun z => if z = x then some v else m z), rfl, rfl, hlt, y2, hn₄.keeps x5.keep, x5.keep _ _ hD₄, ?_, y1, y3, y4, y5, y6⟩
        rw [e2, List.filter_append, List.map_append]
        have hp' : p d = false := by simpa using hp
        simp only [List.filter_cons, hp', Bool.false_eq_true, if_false, List.filter_nil, List.map_nil, List.append_nil]
        exact hall.mono x5.sub
    · have hin : i = cnt := by omega
      subst hin
      refine wk.done _ _ _ sti fun h₃ t₃ hk₃ => ?_
      have hk₃' : ∀ b o, b ≠ I → h₂.get? b = some o → h₃.get? b = some o := fun b o ne e => hk₃ b o (by simpa using ne) e
      rw [hcnt, List.take_length] at hall
      have nIs : ∀ b o, s.heap.get? b = some o → b ≠ I := fun b o e z => by rw [z, hn] at e; cases e
      refine hRR Dd C h₃ t₃ B₂ vs kk m ⟨fun b o e => hk₃' b o (nIs b o e) (xx.keep b o e), xx.sub, fun a o e => hk₃' a o (fun z => nI o (z ▸ e)) (xx.bh a o e), xx.fresh⟩ ?_ (hk₃' _ _ (Ne.symm hID) hD) hall freshD freshC hDC nD nC
      obtain ⟨o, es, ep, q, r⟩ := hns
      exact ⟨o, es, ep, hk₃' _ _ (Ne.symm hIC) q, r⟩
  exact codeAny_compStart_list (loop _ rfl) (wk.self 0 _ _ _ st1 (loop _ rfl))
end
end

section
open PySem PySem.W PySem.Calls PyProof.Rows
set_option linter.unusedVariables false
section
variable {W : Wd} {n : Nat} {env : Env} {σ : Sg} {Kp B₀ B : Fz}

theorem Fm.side {h h' : Heap} {B' : Fz} {I : Addr} {o : Obj} {m cm : Str → Option Value} {ad : Str → Addr} (F0 : Fm W env Kp B σ h m cm ad) (x1 : Ext h B h' B') (hn : h.get? I = none) : Fm W env (Kp.add I o) B' σ h' m cm ad := by
  have F := F0.ext x1
  have nm : ∀ a, Mut env a → a ≠ I := fun a hm z => by obtain ⟨x, q⟩ := F0.live a hm; rw [z, hn] at q; cases q
  refine ⟨F.ns, F.cells, F.apart, F.lc, fun a x hm q => ?_, F.bM, F.live, fun y s e => ?_, F.two⟩
  · rcases q with q | ⟨z, _⟩
    · exact F.kM a x hm q
    · exact nm a hm z
  · obtain ⟨v, hv, hsl⟩ := F.sl y s e
    refine ⟨v, hv, ?_⟩
    cases s with
    | val d => exact hsl
    | own l =>
      obtain ⟨g1, g2, g4, g5, g6⟩ := hsl
      refine ⟨g1, g2, fun x q => ?_, g5, g6⟩
      rcases q with q | ⟨z, _⟩
      · exact g4 x q
      · obtain ⟨v0, hv0, _, ⟨ws, k0, p, _⟩, _⟩ := F0.sl y _ e
        rw [z, hn] at p; cases p

/-- what is to be known of a comprehension's block -/
structure Blk (scope : Scope) (env : Env) (x : Str) : Prop where
  kind : scope.kind = .function
  nodup : (scope.names.map (·.1)).Nodup
  x : scope.names.lookup x = some .local
  cell : ∀ y ∈ scope.names, y.2 ≠ .cell
  ok : clOk scope.names env = true

theorem Blk.names {scope : Scope} {env : Env} {x : Str} (b : Blk scope env x) : ∀ y ∈ scope.names, y.2 = .local → scope.names.lookup y.1 = some .local := fun y hy e =>
  lookup_of_mem b.nodup (by rw [← e]; exact hy)

/-- what a comprehension makes of its items -/
def Made (W : Wd) (n : Nat) (env : Env) (τ : Sg) (scope : Scope) (x : Str) (ifs : List Expr) (elt : Expr) (p : D → Bool) (f : D → D) (ds : List D) : Prop :=
  ds.length ≤ 1000000 ∧ (∀ d ∈ ds, ∀ C, Tests W n (compEnvC scope (clR scope.names env) C env) ((x, .val d) :: τ) ifs (p d)) ∧
    (∀ d ∈ ds, p d = true → ∀ C, WE W n (compEnvC scope (clR scope.names env) C env) ((x, .val d) :: τ) elt fun r => r = f d)

theorem wo_comp {elt iter : Expr} {x : Str} {px : Pos} {ifs : List Expr} {scope : Scope} {pos : Pos} {τ : Sg} {Q : List D → Prop} (p : D → Bool) (f : D → D) (b : Blk scope env x) (hcap : Cap env scope.names σ τ)
    (h : WI W n env σ iter fun ds => Made W n env τ scope x ifs elt p f ds ∧ Q ((ds.filter p).map f)) (hs : ∀ v, foldedSetIterable iter env v = pure v := by intro _; rfl) :
    WO W n env σ (.ListComp elt [⟨.Name x px, iter, ifs, 0⟩] scope pos) Q := by
  intro A s Kp B₀ B R E rm S hR
  rw [eval_ListComp]
  refine wpAny_comprehension_free (use := none) rfl hs (closure_ok b.ok) b.kind b.names (h A s Kp B₀ B _ E rm S fun I fp cnt Pv Stt ds h' tk' B' q x1 wk st0 hcnt hfp hn hb hlive hval => ?_)
  refine comp_core (RR := fun acc C => compPost (mdl W) A E none R acc C) p f b.kind b.nodup b.x hcap b.cell q.1.2.1 q.1.2.2 q.1.1 rm S x1 wk st0 hcnt hfp hn hb hlive hval ?_
  intro D C h₁ t₁ B₁ vs kk m xx hns hD hall fD fC hDC nD nC
  refine ⟨m, hns, fun h₂ hs₂ => ?_⟩
  have up : ∀ b o, b ≠ C → h₁.get? b = some o → h₂.get? b = some o := fun b o ne e => (hs₂.2 b ne).trans e
  exact hR D vs kk _ h₂ t₁ B₁ q.2 ⟨fun b o e => up b o (fun z => by rw [z, fC] at e; cases e) (xx.keep b o e), xx.sub, fun a o e => up a o (fun z => nC o (z ▸ e)) (xx.bh a o e), xx.fresh⟩ (up _ _ hDC hD) fD nD hall

/-- «y = [..]» on one line, y a local -/
theorem wx_comp {elt iter : Expr} {x y : Str} {px py : Pos} {ifs : List Expr} {scope : Scope} {pos spos : Pos} {τ : Sg} {P : Out → Prop} (p : D → Bool) (f : D → D) (b : Blk scope env x) (hcap : Cap env scope.names σ τ) (hy : Stor env y)
    (h : WI W n env σ iter fun ds => Made W n env τ scope x ifs elt p f ds ∧ P (.next ((y, .own ((ds.filter p).map f)) :: σ))) (hs : ∀ v, foldedSetIterable iter env v = pure v := by intro _; rfl)
    (hsw : swapsWith (.ListComp elt [⟨.Name x px, iter, ifs, 0⟩] scope pos) (some (.Name y py)) spos.line env = pure true := by rfl) :
    WX W n env (.Assign [.Name y py] (.ListComp elt [⟨.Name x px, iter, ifs, 0⟩] scope pos) spos) σ P := by
  intro A s Kp B₀ B E rm S
  rw [exec_Assign_Name_used _ _ _ _ hsw]
  refine wpAny_bind (wpAny_standAt (wpAny_bind ?_))
  show wpAny _ A (do let _ ← comprehension (.ListComp elt [⟨.Name x px, iter, ifs, 0⟩] scope pos) scope env _ (newList []) false (eval iter env) (some (assign (.Name y py) env))) _ _ s
  refine wpAny_bind (wpAny_mono (wpAny_comprehension_free (use := some (assign (.Name y py) env)) (Q := fun _ s' => Post W env Kp B₀ s P .next s') rfl hs (closure_ok b.ok) b.kind b.names
    (h A s Kp B₀ B _ E rm S fun I fp cnt Pv Stt ds h' tk' B' q x1 wk st0 hcnt hfp hn hb hlive hval => ?_)) (fun _ s' hq => wpAny_pure (wpAny_pure hq)) fun _ _ e => e)
  refine comp_core (RR := fun acc C => compPost (mdl W) A E (some (assign (.Name y py) env)) (fun _ s' => Post W env Kp B₀ s P .next s') acc C) p f b.kind b.nodup b.x hcap b.cell q.1.2.1 q.1.2.2 q.1.1 rm S x1 wk st0 hcnt hfp hn hb hlive hval ?_
  intro D C h₁ t₁ B₁ vs kk m xx hns hD hall fD fC hDC nD nC
  obtain ⟨oC, es, ep, hoC, hr⟩ := hns
  obtain ⟨m0, cm0, ad, F0⟩ := S.fm
  have S1 := S.side xx fC nC hoC
  have F1 : Fm W env (Kp.add C oC) B₁ σ h₁ m0 cm0 ad := F0.side xx fC
  have nk : ∀ o, ¬ Kp D o := fun o e => by have := S.kp _ _ e; rw [fD] at this; cases this
  have nm : ¬ Mut env D := fun hm => by obtain ⟨o, e⟩ := F0.live _ hm; rw [fD] at e; cases e
  show wpAny _ A (assign (.Name y py) env (.ref D)) _ _ _
  refine wpAny_assign_Name (St.storeG (s := { s with heap := h₁, toks := t₁ }) (sl := .own ((ds.filter p).map f)) (ad' := fun z => if z = y then D else ad z) S1 F1 hy (fun h₂ k₂ => ?_) (fun z ne => by simp [ne]) (fun l e z l' ne hz' e' => ?_) fun h₂ t₂ S2 => ?_)
  · have key : ∀ b, b = D → (Value.ref D = .ref b ∧ (∃ vs n, h₂.get? b = some (listOf vs.toArray n) ∧ All W.vecC B₁ vs ((ds.filter p).map f)) ∧ (∀ o, ¬ (Kp.add C oC) b o) ∧ (∀ o, ¬ B₁ b o) ∧ ¬ Mut env b) := by
      rintro b rfl
      refine ⟨rfl, ⟨vs, kk, k₂ _ _ nm hD, hall⟩, fun o e => ?_, nD, nm⟩
      rcases e with e | ⟨e, _⟩
      · exact nk o e
      · exact hDC e
    exact key _ (if_pos rfl)
  · obtain ⟨v0, hv0, _, ⟨ws, k0, q0, _⟩, _⟩ := F0.sl z _ hz'
    have e2 : ad z = D := by simpa using e'
    rw [e2, fD] at q0
    cases q0
  · have hk : ∀ x, ¬ Kp C x := fun x e => by have := S.kp _ _ e; rw [fC] at this; cases this
    refine ⟨m, ⟨oC, es, ep, S2.kp _ _ Fz.add_self, hr⟩, fun h₃ hs₃ => ?_⟩
    refine ⟨h₃, t₂, B₁, rfl, _, q.2, S2.drop S.base hk nC (fun b x ne e => (hs₃.2 b ne).trans e) (fun a o e => xx.sub a o (S.b0 a o e)) fun a o e => ?_⟩
    rcases xx.fresh a o e with e | e
    · exact S.lim a o e
    · exact .inr fun o' k => by have := S.kp _ _ k; rw [e] at this; cases this

-- two names at once
theorem wx_two {x y : Str} {px py tp pos : Pos} {k : Nat} {e : Expr} {P : Out → Prop} (hx : Stor env x) (hy : Stor env y) (h : WE W n env σ e fun d => ∃ d1 d2, d = .tup [d1, d2] ∧ P (.next ((y, .val d2) :: (x, .val d1) :: σ)))
    (h1 : swapsWithSole [.Tuple [.Name x px, .Name y py] k tp] e pos.line env = pure false := by rfl) (h2 : swappedStores [.Tuple [.Name x px, .Name y py] k tp] e env = pure none := by rfl) :
    WX W n env (.Assign [.Tuple [.Name x px, .Name y py] k tp] e pos) σ P := by
  intro A s Kp B₀ B E rm S
  refine Assign_Tuple (h A s Kp B₀ B _ E rm S fun v d h1 t1 B1 q x1 i => ?_) h1 h2
  obtain ⟨d1, d2, rfl, hp⟩ := q
  cases i with
  | tup hb hc hd ha =>
    cases ha with
    | cons i1 ha =>
      cases ha with
      | cons i2 ha =>
        cases ha
        have ht : IsTup h1 _ _ := ⟨_, x1.bh _ _ hb, hc, _, hd⟩
        have ee : assignEach [.Name x px, .Name y py] env = [(false, assign (.Name x px) env), (false, assign (.Name y py) env)] := rfl
        refine assign_Tuple_tuple (s := { s with heap := h1, toks := t1 }) rm.hh ht (by rw [ee]; rfl) (by rw [ee]; rfl) fun h2 he => ?_
        rw [ee]
        show wpAny _ _ (assignInOrder [assign (.Name x px) env, assign (.Name y py) env] [_, _]) _ _ _
        have x2 : Ext h1 B1 h2 B1 := Ext.heap x1.bh fun b o e => he b o (Nat.ne_of_lt (Heap.lt_size e)) e
        have S2 := (S.ext x1).ext x2
        refine assignInOrder_cons (wpAny_assign_Name (St.store (s := { s with heap := h2, toks := t1 }) S2 hx i1 fun h3 t3 S3 => ?_))
        refine assignInOrder_cons (wpAny_assign_Name (St.store (s := { s with heap := h3, toks := t3 }) S3 hy i2 fun h4 t4 S4 => ?_))
        exact assignInOrder_nil ⟨h4, t4, B1, rfl, _, hp, S4⟩
theorem unpackItems_n {prog : Program} {w : World} {A : Around} {E : Value → Shared → Prop} {s : Shared} {t : Addr} {items : Array Value} {k : Nat} {Q : List Value → Shared → Prop} (hh : A.handled = .none) (ht : IsTup s.heap t items) (hk : k = items.size)
    (hQ : ∀ h', Heap.ExtBut s.heap.objs.size s.heap h' → Q items.toList { s with heap := h' }) : wpAny (model prog w) A (unpackItems (.ref t) k none) Q E s := by
  subst hk
  exact unpackItems_tuple hh ht hQ
/-- «x, y = (.., ..)»: the stores go from behind -/
theorem wx_swap {x y : Str} {px py tp pos : Pos} {k : Nat} {e : Expr} {P : Out → Prop} (hx : Stor env x) (hy : Stor env y) (h : WE W n env σ e fun d => ∃ d1 d2, d = .tup [d1, d2] ∧ P (.next ((x, .val d1) :: (y, .val d2) :: σ)))
    (h1 : swapsWithSole [.Tuple [.Name x px, .Name y py] k tp] e pos.line env = pure false := by rfl) (h2 : swappedStores [.Tuple [.Name x px, .Name y py] k tp] e env = pure (some [x, y]) := by rfl) :
    WX W n env (.Assign [.Tuple [.Name x px, .Name y py] k tp] e pos) σ P := by
  intro A s Kp B₀ B E rm S
  refine Assign_Tuple_swapped (names := [x, y]) (h A s Kp B₀ B _ E rm S fun v d h1 t1 B1 q x1 i => ?_) h1 h2
  obtain ⟨d1, d2, rfl, hp⟩ := q
  cases i with
  | tup hb hc hd ha =>
    cases ha with
    | cons i1 ha =>
      cases ha with
      | cons i2 ha =>
        cases ha
        have ht : IsTup h1 _ _ := ⟨_, x1.bh _ _ hb, hc, _, hd⟩
        refine unpackItems_n (s := { s with heap := h1, toks := t1 }) rm.hh ht (by rw [List.size_toArray]; rfl) fun h2 he => ?_
        show wpAny _ _ (assignInOrder [bindName env y, bindName env x] [_, _]) _ _ _
        have x2 : Ext h1 B1 h2 B1 := Ext.heap x1.bh fun b o e => he b o (Nat.ne_of_lt (Heap.lt_size e)) e
        have S2 := (S.ext x1).ext x2
        refine assignInOrder_cons (bindName_ (St.store (s := { s with heap := h2, toks := t1 }) S2 hy i2 fun h3 t3 S3 => ?_))
        refine assignInOrder_cons (bindName_ (St.store (s := { s with heap := h3, toks := t3 }) S3 hx i1 fun h4 t4 S4 => ?_))
        exact assignInOrder_nil ⟨h4, t4, B1, rfl, _, hp, S4⟩
end
end

section
open PySem PySem.W PySem.Calls PyProof.Rows
set_option linter.unusedVariables false

mutual
def D.dat : D → Dat
  | .none => .none
  | .bool b => .bool b
  | .int i => .int i
  | .str x => .str x
  | .tup l => .tuple (D.dats l)
  | .lst l => .list (D.dats l)
  | .vec l => .tuple (.bytes #[] :: D.dats l)
def D.dats : List D → List Dat
  | [] => []
  | d :: r => d.dat :: D.dats r
end
theorem dats_map (l : List D) : D.dats l = l.map D.dat := by
  induction l with
  | nil => rfl
  | cons d r ih => rw [D.dats, ih]; rfl
theorem dat_bytes {d : D} {b : Array UInt8} : d.dat ≠ .bytes b := by cases d <;> simp [D.dat]
mutual
theorem dat_inj : ∀ {d e : D}, d.dat = e.dat → d = e
  | .none, e, h => by cases e <;> simp [D.dat] at h ⊢
  | .bool b, e, h => by cases e <;> simp [D.dat] at h ⊢; exact h
  | .int i, e, h => by cases e <;> simp [D.dat] at h ⊢; exact h
  | .str x, e, h => by cases e <;> simp [D.dat] at h ⊢; exact h
  | .tup l, e, h => by
    cases e <;> simp only [D.dat, reduceCtorEq] at h ⊢
    · injection h with h
      exact congrArg D.tup (dats_inj h)
    · injection h with h
      cases l with
      | nil => simp [D.dats] at h
      | cons d r => rw [D.dats] at h; injection h with h1 _; exact absurd h1 dat_bytes
  | .lst l, e, h => by
    cases e <;> simp only [D.dat, reduceCtorEq] at h ⊢
    injection h with h
    exact congrArg D.lst (dats_inj h)
  | .vec l, e, h => by
    cases e <;> simp only [D.dat, reduceCtorEq] at h ⊢
    · rename_i l'
      injection h with h
      cases l' with
      | nil => simp [D.dats] at h
      | cons d r => rw [D.dats] at h; injection h with h1 _; exact absurd h1.symm dat_bytes
    · injection h with h
      injection h with _ h
      exact congrArg D.vec (dats_inj h)
theorem dats_inj : ∀ {l l' : List D}, D.dats l = D.dats l' → l = l'
  | [], [], _ => rfl
  | [], _ :: _, h => by simp [D.dats] at h
  | _ :: _, [], h => by simp [D.dats] at h
  | d :: r, d' :: r', h => by
    rw [D.dats, D.dats] at h
    injection h with h1 h2
    rw [dat_inj h1, dats_inj h2]
end

/-- data that == tells apart as they are -/
abbrev D.ok (d : D) : Prop := kqdOk 8 d.dat = true

section
variable {C : Addr} {B : Fz} {h : Heap}
mutual
theorem In.reads (bh : ∀ a o, B a o → h.get? a = some o) : ∀ {v : Value} {d : D} (n : Nat), In C B v d → kqdOk n d.dat = true → ∃ as, Reads h v (kqdP d.dat) as
  | _, _, _, .none, _ => ⟨_, Reads.none⟩
  | _, _, _, .bool b, _ => ⟨_, Reads.bool b⟩
  | _, _, _, .int i t, _ => ⟨_, Reads.int i t⟩
  | _, _, _, .str x t, _ => ⟨_, Reads.str x t⟩
  | _, _, 0, .tup .., hk => by simp [D.dat, kqdOk] at hk
  | _, _, 0, .lst .., hk => by simp [D.dat, kqdOk] at hk
  | _, _, n, .vec .., hk => by cases n <;> simp [D.dat, kqdOk] at hk
  | _, _, n + 1, .tup hb hc hd r, hk => by
    obtain ⟨as, q⟩ := All.reads bh n r (by simpa [D.dat, kqdOk] using hk)
    rw [D.dat, kqdP]
    exact ⟨as, reads_tuple_at (bh _ _ hb) hc hd (by simpa using q)⟩
  | _, _, n + 1, .lst hb hc hd r, hk => by
    obtain ⟨as, q⟩ := All.reads bh n r (by simpa [D.dat, kqdOk] using hk)
    rw [D.dat, kqdP]
    exact ⟨_, reads_list_at (bh _ _ hb) hc hd (by simpa using q)⟩
theorem All.reads (bh : ∀ a o, B a o → h.get? a = some o) : ∀ {vs : List Value} {ds : List D} (n : Nat), All C B vs ds → (∀ d ∈ D.dats ds, kqdOk n d = true) → ∃ as, ReadsAll h vs (kqdPs (D.dats ds)) as
  | _, _, _, .nil, _ => ⟨_, ReadsAll.nil⟩
  | _, _, n, .cons hd r, hk => by
    obtain ⟨as, q⟩ := In.reads bh n hd (hk _ (by rw [D.dats]; exact .head _))
    obtain ⟨bs, p⟩ := All.reads bh n r fun d hm => hk d (by rw [D.dats]; exact .tail _ hm)
    rw [D.dats, kqdPs]
    exact ⟨_, ReadsAll.cons q p⟩
end
end

section
variable {W : Wd} {n : Nat} {env : Env} {σ : Sg} {Q : D → Prop}
theorem eqv_iff {d e : D} (hd : d.ok) (he : e.ok) : PyData.eqv (kqdP d.dat) (kqdP e.dat) = true ↔ d = e :=
  (kqd_eqv 8 d.dat e.dat 8 hd he).trans ⟨dat_inj, fun h => by rw [h]⟩
theorem shaped_ok {d : D} (hd : d.ok) : SeqAt.shaped (kqdP d.dat) = true := by
  obtain ⟨a, b⟩ := kqd_lay 8 d.dat hd
  unfold SeqAt.shaped
  rw [a, Bool.true_and]
  exact decide_eq_true (Nat.le_trans b (by decide))
theorem units_ok {A : Around} (rm : Room A n) : A.units + 64 < cLine := by have := rm.un; unfold cLine; omega

theorem v_eqd {d e : D} (hd : d.ok) (he : e.ok) (h : ∀ b, (b = true ↔ d = e) → Q (.bool b)) : V2 W n (compareOp .Eq) d e Q := by
  intro A s B R E v1 v2 rm ok bh i1 i2 hR
  obtain ⟨as, ra⟩ := i1.reads bh 8 hd
  obtain ⟨bs, rb⟩ := i2.reads bh 8 he
  exact eq_dataH ra rb (shaped_ok hd) (shaped_ok he) (units_ok rm) (hR _ _ s.heap s.toks B (h _ (eqv_iff hd he)) (Ext.refl bh) (.bool _))
theorem v_ned {d e : D} (hd : d.ok) (he : e.ok) (h : ∀ b, (b = true ↔ ¬ d = e) → Q (.bool b)) : V2 W n (compareOp .NotEq) d e Q := by
  intro A s B R E v1 v2 rm ok bh i1 i2 hR
  obtain ⟨as, ra⟩ := i1.reads bh 8 hd
  obtain ⟨bs, rb⟩ := i2.reads bh 8 he
  refine ne_dataH ra rb (shaped_ok hd) (shaped_ok he) (units_ok rm) (hR _ _ s.heap s.toks B (h _ ?_) (Ext.refl bh) (.bool _))
  rw [Bool.not_eq_true', ← eqv_iff hd he]
  simp

theorem any_iff {l : List D} {d : D} (hl : ∀ e ∈ l, e.ok) (hd : d.ok) : ((kqdPs (D.dats l)).any fun y => PyData.eqv y (kqdP d.dat)) = true ↔ d ∈ l := by
  rw [kqd_any (D.dats l) d.dat (fun e he => by rw [dats_map] at he; obtain ⟨z, hz, rfl⟩ := List.mem_map.mp he; exact hl z hz) hd, dats_map, List.mem_map]
  constructor
  · rintro ⟨e, he, q⟩; rw [← dat_inj q]; exact he
  · intro q; exact ⟨d, q, rfl⟩
theorem layL {l : List D} (hl : ∀ e ∈ l, e.ok) : PyData.canLayAll0 (kqdPs (D.dats l)) = true ∧ PyData.depthAll (kqdPs (D.dats l)) ≤ 9 :=
  kqd_layL fun e he => by rw [dats_map] at he; obtain ⟨z, hz, rfl⟩ := List.mem_map.mp he; exact hl z hz
theorem oks {l : List D} (hl : ∀ e ∈ l, e.ok) : ∀ d ∈ D.dats l, kqdOk 8 d = true := fun e he => by rw [dats_map] at he; obtain ⟨z, hz, rfl⟩ := List.mem_map.mp he; exact hl z hz

theorem v_in {d : D} {l : List D} (hl : ∀ e ∈ l, e.ok) (hd : d.ok) (h : ∀ b, (b = true ↔ d ∈ l) → Q (.bool b)) : V2 W n (compareOp .In) d (.lst l) Q := by
  intro A s B R E v1 v2 rm ok bh i1 i2 hR
  obtain ⟨as, ra⟩ := i1.reads bh 8 hd
  cases i2 with
  | lst hb hc hdd ha =>
    obtain ⟨bs, rb⟩ := ha.reads bh 8 (oks hl)
    refine SeqAt.in_list_reads (reads_list_at (bh _ _ hb) hc hdd (by simpa using rb)) ra (layL hl).1 (kqd_lay 8 _ hd).1 ?_ (hR _ _ s.heap s.toks B (h _ (any_iff hl hd)) (Ext.refl bh) (.bool _))
    have := (kqd_lay 8 _ hd).2
    have := units_ok rm
    have := Nat.min_le_right (PyData.depthAll (kqdPs (D.dats l))) (kqdP d.dat).depth
    omega
theorem v_notin {d : D} {l : List D} (hl : ∀ e ∈ l, e.ok) (hd : d.ok) (h : ∀ b, (b = true ↔ d ∉ l) → Q (.bool b)) : V2 W n (compareOp .NotIn) d (.lst l) Q := by
  intro A s B R E v1 v2 rm ok bh i1 i2 hR
  obtain ⟨as, ra⟩ := i1.reads bh 8 hd
  cases i2 with
  | lst hb hc hdd ha =>
    obtain ⟨bs, rb⟩ := ha.reads bh 8 (oks hl)
    refine SeqAt.notIn_list_reads (reads_list_at (bh _ _ hb) hc hdd (by simpa using rb)) ra (layL hl).1 (kqd_lay 8 _ hd).1 ?_ (hR _ _ s.heap s.toks B (h _ ?_) (Ext.refl bh) (.bool _))
    · have := (kqd_lay 8 _ hd).2
      have := units_ok rm
      have := Nat.min_le_right (PyData.depthAll (kqdPs (D.dats l))) (kqdP d.dat).depth
      omega
    · rw [Bool.not_eq_true', ← any_iff hl hd]; simp
theorem v_notinT {d : D} {l : List D} (hl : ∀ e ∈ l, e.ok) (hd : d.ok) (h : ∀ b, (b = true ↔ d ∉ l) → Q (.bool b)) : V2 W n (compareOp .NotIn) d (.tup l) Q := by
  intro A s B R E v1 v2 rm ok bh i1 i2 hR
  obtain ⟨as, ra⟩ := i1.reads bh 8 hd
  cases i2 with
  | tup hb hc hdd ha =>
    obtain ⟨bs, rb⟩ := ha.reads bh 8 (oks hl)
    refine SeqAt.notIn_tuple_reads (reads_tuple_at (bh _ _ hb) hc hdd (by simpa using rb)) ra (layL hl).1 (kqd_lay 8 _ hd).1 ?_ (hR _ _ s.heap s.toks B (h _ ?_) (Ext.refl bh) (.bool _))
    · have := (kqd_lay 8 _ hd).2
      have := units_ok rm
      have := Nat.min_le_right (PyData.depthAll (kqdPs (D.dats l))) (kqdP d.dat).depth
      omega
    · rw [Bool.not_eq_true', ← any_iff hl hd]; simp

-- lists: +, [i:]
theorem wo_cat {l r : Expr} {pos : Pos} {Q : List D → Prop} (h : WE W n env σ l fun d1 => WE W n env σ r fun d2 => ∃ a b, d1 = .lst a ∧ d2 = .lst b ∧ a.length ≤ 500000 ∧ b.length ≤ 500000 ∧ Q (a ++ b)) : WO W n env σ (.BinOp l .Add r pos) Q := by
  intro A s Kp B₀ B R E rm S hR
  refine wpAny_BinOp (h A s Kp B₀ B _ E rm S fun v1 d1 h1 t1 B1 q1 x1 i1 => ?_)
  refine q1 A _ Kp B₀ B1 _ E rm (S.ext x1) fun v2 d2 h2 t2 B2 q2 x2 i2 => ?_
  obtain ⟨a, b, rfl, rfl, ha, hb, q⟩ := q2
  have i1' := In.mono x2.sub i1
  cases i1' with
  | lst hb1 hc1 hd1 ha1 =>
    cases i2 with
    | lst hb2 hc2 hd2 ha2 =>
      rename_i a1 o1 vs1 k1 a2 o2 vs2 k2
      have L1 : h2.IsList a1 vs1.toArray := ⟨_, x2.bh _ _ hb1, hc1, _, hd1⟩
      have L2 : h2.IsList a2 vs2.toArray := ⟨_, x2.bh _ _ hb2, hc2, _, hd2⟩
      obtain ⟨⟨c1, dd1, da1, sl1⟩, e1, f1, k1', g1⟩ := L1
      obtain ⟨⟨c2, dd2, da2, sl2⟩, e2, f2, k2', g2⟩ := L2
      simp only at f1 g1 f2 g2
      subst f1; subst g1; subst f2; subst g2
      have hsz : vs1.toArray.size + vs2.toArray.size ≤ sizeLine := by
        rw [List.size_toArray, List.size_toArray, ha1.length, ha2.length]; exact sizeLine_ge (by omega)
      refine concat_meets (s := { s with heap := h2, toks := t2 }) ⟨_, e1, rfl⟩ ⟨_, e2, rfl⟩ noFill_list_add seq_list_add PySem.F.slot_list_add PySem.F.entry_list_add (PySem.F.args_list_add_2 _ _) (list_addW a1 a2 vs1.toArray vs2.toArray k1' k2' dd1 dd2 sl1 sl2 hsz) ⟨e1, e2, ?_⟩
      have ea : vs1.toArray ++ vs2.toArray = (vs1 ++ vs2).toArray := by simp
      have x3 : Ext h2 B2 (h2.push { cls := .type "list", data := .seq (vs1.toArray ++ vs2.toArray) }) B2 := Ext.heap x2.bh fun _ _ e => Heap.get?_push_of_some _ e
      have nw := get?_none_size h2
      refine hR h2.objs.size (vs1 ++ vs2) 0 (a ++ b) _ t2 B2 q ((x1.trans x2).trans x3) (by rw [← ea]; exact Heap.get?_push_size _ rfl) (none_of_ext (fun b o e => x2.keep b o (x1.keep b o e)) nw) (fun o e => ?_) (ha1.append ha2)
      have := x2.bh _ _ e
      rw [nw] at this; cases this

theorem wo_from {value lo : Expr} {p pos : Pos} {Q : List D → Prop} (h : WE W n env σ value fun d1 => WE W n env σ lo fun d2 => ∃ a k, d1 = .lst a ∧ d2 = .int k ∧ 0 ≤ k ∧ k.toNat ≤ a.length ∧ a.length ≤ 1000000 ∧ Q (a.drop k.toNat))
    (ht : ∀ o r, letTemporaryGo value o r = pure () := by intro _ _; rfl) : WO W n env σ (.Subscript value (.Slice (some lo) none none p) pos) Q := by
  intro A s Kp B₀ B R E rm S hR
  refine wpAny_Subscript_list_slice (h A s Kp B₀ B _ E rm S fun v1 d1 h1 t1 B1 q1 x1 i1 => ?_) ht
  show wpAny _ _ (eval lo env) _ _ _
  refine q1 A _ Kp B₀ B1 _ E rm (S.ext x1) fun v2 d2 h2 t2 B2 q2 x2 i2 => ?_
  obtain ⟨a, k, rfl, rfl, k0, k1, hz, q⟩ := q2
  cases i2
  rw [evalPart_none]
  refine wpAny_pure ?_
  have i1' := In.mono x2.sub i1
  cases i1' with
  | lst hb hc hd ha =>
    rename_i t a1 o1 vs1 c1
    have hlen := ha.length
    have L1 : h2.IsList a1 vs1.toArray := ⟨_, x2.bh _ _ hb, hc, _, hd⟩
    refine ⟨a1, vs1.toArray, some k, none, rfl, L1, by rw [List.size_toArray, hlen]; exact sizeLine_ge hz, .int _ _, .none, ?_⟩
    have ek : k = ((k.toNat : Nat) : Int) := by omega
    have ea : slicePick vs1.toArray (some k) none none = (vs1.drop k.toNat).toArray := by
      have := slicePick_from vs1.toArray k.toNat (by rw [List.size_toArray, hlen]; exact k1)
      rw [← ek] at this
      simpa using this
    have hsz : (h2.push { cls := .type "slice", data := .fields #[Value.int k t, Value.none, Value.none] }).objs.size = h2.objs.size + 1 := Heap.size_push ..
    have keep : ∀ b o, h2.get? b = some o → ((h2.push { cls := .type "slice", data := .fields #[Value.int k t, Value.none, Value.none] }).push { cls := .type "list", data := .seq (slicePick vs1.toArray (some k) none none) }).get? b = some o := fun _ _ e => Heap.get?_push_of_some _ (Heap.get?_push_of_some _ e)
    have nw : h2.get? (h2.objs.size + 1) = none := by
      cases e : h2.get? (h2.objs.size + 1) with
      | none => rfl
      | some o => exact absurd (Heap.lt_size e) (Nat.not_lt.mpr (Nat.le_succ _))
    refine hR (h2.objs.size + 1) (vs1.drop k.toNat) 0 (a.drop k.toNat) _ t2 B2 q ((x1.trans x2).trans (Ext.heap x2.bh keep)) ?_ (none_of_ext (fun b o e => x2.keep b o (x1.keep b o e)) nw) (fun o e => ?_) (ha.drop _)
    · have := Heap.get?_push_size (h2.push { cls := .type "slice", data := .fields #[Value.int k t, Value.none, Value.none] }) (o := { cls := .type "list", data := .seq (slicePick vs1.toArray (some k) none none) }) rfl
      rw [hsz] at this
      rw [← ea]
      exact this
    · have := x2.bh _ _ e
      rw [nw] at this; cases this
end
end

section
open PySem PySem.W PySem.Calls PyProof.Rows
set_option linter.unusedVariables false
section
variable {W : Wd} {n : Nat} {env : Env} {σ : Sg} {P : Out → Prop} {rest : List Stmt}
/-- what is to be known of a def's frame -/
structure Ev (env : Env) (ns : List (Str × NameKind)) : Prop where
  k : ∀ x, env.kindOf x = ns.lookup x
  c : ∀ x, ns.lookup x = some .cell → (env.cells.lookup x).isSome = true
  b : env.blockKind = .function
theorem Ev.stor {env : Env} {ns : List (Str × NameKind)} {x : Str} (e : Ev env ns) (h : ns.lookup x = some .local) : Stor env x := .inl ((e.k x).trans h)
theorem Ev.storC {env : Env} {ns : List (Str × NameKind)} {x : Str} (e : Ev env ns) (h : ns.lookup x = some .cell) : Stor env x := .inr ⟨(e.k x).trans h, e.c x h⟩
theorem Ev.g {env : Env} {ns : List (Str × NameKind)} {x : Str} (e : Ev env ns) (h : ns.lookup x = some .globalImplicit) : env.kindOf x = some .globalImplicit := (e.k x).trans h
theorem Ev.cell {env : Env} {ns : List (Str × NameKind)} {x : Str} (e : Ev env ns) (h : ns.lookup x = some .cell) : env.kindOf x = some .cell := (e.k x).trans h
theorem Ev.clo {env : Env} {ns names : List (Str × NameKind)} (e : Ev env ns) (h : (names.all fun p => p.2 != .free || ns.lookup p.1 == some .cell) = true) : clOk names env = true := by
  unfold clOk
  rw [List.all_eq_true] at h ⊢
  intro p hp
  rcases Bool.or_eq_true_iff.mp (h p hp) with q | q
  · rw [q, Bool.true_or]
  · rw [e.c p.1 (by simpa using q), Bool.or_true]
theorem Ev.sw {env : Env} {ns : List (Str × NameKind)} {elt : Expr} {gens : List Comprehension} {scope : Scope} {pos p : Pos} {t : Str} {line : Nat} (e : Ev env ns) {k : NameKind} (hk : ns.lookup t = some k)
    (h : (p.line == (Expr.ListComp elt gens scope pos).pos.line && !(scope.names.any fun (n, k) => n == t && (k == .local || k == .cell))) = true) : swapsWith (.ListComp elt gens scope pos) (some (.Name t p)) line env = pure (k == .local) := by
  unfold swapsWith
  simp only [Bool.and_eq_true] at h
  simp only [e.b, e.k t, hk, h.1, h.2]
  cases k <;> rfl
def fakeEnv (ns : List (Str × NameKind)) : Env := newEnv { kind := .function, names := ns, isGenerator := false, isCoroutine := false } 0 0 [] (Str.ofString "") none .none none 0
theorem Ev.sws {env : Env} {ns : List (Str × NameKind)} {ts : List Expr} {v : Expr} {r : Option (List Str)} (e : Ev env ns) (h : swappedStores ts v (fakeEnv ns) = pure r) : swappedStores ts v env = pure r := by
  rw [← h]
  have hk : env.kindOf = (fakeEnv ns).kindOf := funext fun x => e.k x
  have hb : env.blockKind = (fakeEnv ns).blockKind := e.b
  unfold swappedStores
  rw [hk, hb]
theorem blk_of {fd : FuncData} {L f : Addr} (h : fd.scope.kind = .function) : (callEnvC fd L f).blockKind = .function := by
  unfold Env.blockKind
  show (if fd.scope.kind.isAnnotationScope = true then ScopeKind.function else fd.scope.kind) = _
  rw [h]; rfl
theorem callOK_ev {n : Nat} {W : Wd} {f : Addr} {ps : List Str} {body : List Stmt} {fd : FuncData} {ns : List (Str × NameKind)} {ds : List D} {Q : D → Prop} (F : Fun W f ps body fd) (hlen : ps.length = ds.length) (hns : fd.scope.names = ns) (h : ∀ env, Ev env ns → WS W n env body (Par ps ds) (Back Q)) : CallOK W (n + 1) (.ref f) ds Q :=
  callOK_of F hlen fun L => h _ ⟨fun x => hns ▸ rfl, fun x hx => cellsFrom_some _ _ _ (.inl (hns ▸ hx)), blk_of F.kind⟩
theorem callOwn_ev {n : Nat} {W : Wd} {f : Addr} {ps : List Str} {e : Expr} {rp : Pos} {fd : FuncData} {ns : List (Str × NameKind)} {ds : List D} {Q : List D → Prop} (F : Fun W f ps [.Return (some e) rp] fd) (hlen : ps.length = ds.length) (hns : fd.scope.names = ns) (h : ∀ env, Ev env ns → WO W n env (Par ps ds) e Q) : CallOwn W (n + 1) (.ref f) ds Q :=
  callOwn_of F hlen fun L => h _ ⟨fun x => hns ▸ rfl, fun x hx => cellsFrom_some _ _ _ (.inl (hns ▸ hx)), blk_of F.kind⟩
theorem seq_next {τ : Sg} (h : WS W n env rest τ P) : Seq W n env rest P (.next τ) := h
theorem seq_ret {d : D} (h : P (.ret d)) : Seq W n env rest P (.ret d) := h
theorem seq_brk {τ : Sg} (h : P (.brk τ)) : Seq W n env rest P (.brk τ) := h
theorem seq_cont {τ : Sg} (h : P (.cont τ)) : Seq W n env rest P (.cont τ) := h
theorem back_ret {Q : D → Prop} {d : D} (h : Q d) : Back Q (.ret d) := h
theorem back_next {Q : D → Prop} {τ : Sg} (h : Q .none) : Back Q (.next τ) := h
theorem turn_next {J : List D → Sg → Prop} {pre : List D} {τ τ' : Sg} (h : J pre τ') (k : Has τ τ') : Turn J P pre (.next τ) := ⟨τ', h, k⟩
theorem turn_cont {J : List D → Sg → Prop} {pre : List D} {τ τ' : Sg} (h : J pre τ') (k : Has τ τ') : Turn J P pre (.cont τ) := ⟨τ', h, k⟩
theorem turn_ret {J : List D → Sg → Prop} {pre : List D} {d : D} (h : P (.ret d)) : Turn J P pre (.ret d) := h
theorem item0 {d : D} {l : List D} : ItemOf (.tup (d :: l)) 0 d := ⟨_, .inr rfl, by decide, by decide, rfl⟩
theorem item1 {c d : D} {l : List D} : ItemOf (.tup (c :: d :: l)) 1 d := ⟨_, .inr rfl, by decide, by decide, rfl⟩
theorem itemL {d : D} {l : List D} {k : Nat} (h : l[k]? = some d) (hk : l.length ≤ 1000000) : ItemOf (.lst l) k d := ⟨l, .inl rfl, by omega, by
  have := (List.getElem?_eq_some_iff.mp h).1
  have e : (2 : Int) ^ 62 = 4611686018427387904 := by decide
  omega, by simpa using h⟩
theorem if_t {c : Prop} [Decidable c] {p q : Prop} (hc : c) (h : p) : if c then p else q := by rw [if_pos hc]; exact h
theorem if_f {c : Prop} [Decidable c] {p q : Prop} (hc : ¬ c) (h : q) : if c then p else q := by rw [if_neg hc]; exact h
theorem if_b {b : Bool} {p q : Prop} (h : b = true → p) (k : b = false → q) : if b = true then p else q := by
  cases b
  · rw [if_neg (by decide)]; exact k rfl
  · rw [if_pos rfl]; exact h rfl
theorem if_lt {p q : Prop} (h : p) : if true = true then p else q := h
theorem if_lf {p q : Prop} (h : q) : if false = true then p else q := h
theorem CallOK.eq {f : Value} {ds : List D} {m : Nat} {d : D} {Q : D → Prop} (h : CallOK W m f ds fun r => r = d) (hn : m ≤ n) (q : Q d) : CallOK W n f ds Q :=
  (h.room hn).mono fun _ e => e ▸ q
theorem CallOK.use {f : Value} {ds : List D} {m : Nat} {Q Q' : D → Prop} (h : CallOK W m f ds Q') (hn : m ≤ n) (q : ∀ d, Q' d → Q d) : CallOK W n f ds Q :=
  (h.room hn).mono q

theorem bindN1 {a : Str} {vs : List Value} {fd : FuncData} (h : ∀ x, bindArgs fd ⟨[x], []⟩ = pure [(a, x)]) (e : vs.length = [a].length) : bindArgs fd ⟨vs, []⟩ = pure ([a].zip vs) := by
  match vs, e with
  | [x], _ => exact h x
theorem bindN2 {a b : Str} {vs : List Value} {fd : FuncData} (h : ∀ x y, bindArgs fd ⟨[x, y], []⟩ = pure [(a, x), (b, y)]) (e : vs.length = [a, b].length) : bindArgs fd ⟨vs, []⟩ = pure ([a, b].zip vs) := by
  match vs, e with
  | [x, y], _ => exact h x y
theorem bindN3 {a b c : Str} {vs : List Value} {fd : FuncData} (h : ∀ x y z, bindArgs fd ⟨[x, y, z], []⟩ = pure [(a, x), (b, y), (c, z)]) (e : vs.length = [a, b, c].length) : bindArgs fd ⟨vs, []⟩ = pure ([a, b, c].zip vs) := by
  match vs, e with
  | [x, y, z], _ => exact h x y z
theorem bindN4 {a b c d : Str} {vs : List Value} {fd : FuncData} (h : ∀ x y z u, bindArgs fd ⟨[x, y, z, u], []⟩ = pure [(a, x), (b, y), (c, z), (d, u)]) (e : vs.length = [a, b, c, d].length) : bindArgs fd ⟨vs, []⟩ = pure ([a, b, c, d].zip vs) := by
  match vs, e with
  | [x, y, z, u], _ => exact h x y z u
theorem bindN5 {a b c d f : Str} {vs : List Value} {fd : FuncData} (h : ∀ x y z u t, bindArgs fd ⟨[x, y, z, u, t], []⟩ = pure [(a, x), (b, y), (c, z), (d, u), (f, t)]) (e : vs.length = [a, b, c, d, f].length) : bindArgs fd ⟨vs, []⟩ = pure ([a, b, c, d, f].zip vs) := by
  match vs, e with
  | [x, y, z, u, t], _ => exact h x y z u t
end
end

section
set_option linter.unusedVariables false
set_option exponentiation.threshold 5000
abbrev rat (q : Rat) : D := .tup [.int q.num, .int q.den]
def Sm (k : Nat) (q : Rat) : Prop := q.num.natAbs < 2 ^ k ∧ q.den < 2 ^ k
theorem den_ne {q : Rat} : ¬ (((q.den : Int) == 0) = true) := by
  have := q.den_nz
  simp; exact this
theorem den_pos (q : Rat) : (0 : Int) < q.den := by have := q.den_nz; omega
theorem divInt_num {n d : Int} (hd : 0 < d) : (Rat.divInt n d).num = n / (Int.gcd n d : Int) := by
  rw [Rat.num_divInt, Int.sign_eq_one_of_pos hd, Int.one_mul, Int.gcd_comm]
theorem divInt_den {n d : Int} (hd : 0 < d) : ((Rat.divInt n d).den : Int) = d / (Int.gcd n d : Int) := by
  rw [Rat.den_divInt, if_neg (by omega), Int.gcd_comm, Int.natCast_ediv, Int.natAbs_of_nonneg (by omega)]
theorem rat_mk {n d : Int} {g : Int} (hd : 0 < d) (hg : g = (Int.gcd n d : Int)) : D.tup [.int (n / g), .int (d / g)] = rat (Rat.divInt n d) := by
  subst hg
  unfold rat
  rw [divInt_num hd, divInt_den hd]
theorem natAbs_ediv_le (n : Int) (g : Nat) : (n / (g : Int)).natAbs ≤ n.natAbs ∨ n < 0 := by
  by_cases h : n < 0
  · exact .inr h
  · left
    obtain ⟨m, rfl⟩ := Int.eq_ofNat_of_zero_le (by omega : 0 ≤ n)
    exact_mod_cast Nat.div_le_self m g
theorem divInt_num_le {n d : Int} : (Rat.divInt n d).num.natAbs ≤ n.natAbs := by
  by_cases h0 : d = 0
  · subst h0; rw [Rat.divInt_zero]; exact Nat.zero_le _
  · have hdvd : ((d.gcd n : Nat) : Int) ∣ d.sign * n := Int.dvd_mul_of_dvd_right (Int.gcd_dvd_right ..)
    rw [Rat.num_divInt, Int.natAbs_ediv_of_dvd hdvd, Int.natAbs_mul]
    refine Nat.le_trans (Nat.div_le_self _ _) ?_
    rw [Int.natAbs_sign_of_ne_zero h0, Nat.one_mul]
    exact Nat.le_refl _
theorem divInt_den_le {n d : Int} (hd : d ≠ 0) : (Rat.divInt n d).den ≤ d.natAbs := by
  rw [Rat.den_divInt, if_neg hd]
  exact Nat.div_le_self _ _
theorem Sm.divInt {n d : Int} {k : Nat} (hd : d ≠ 0) (h1 : n.natAbs < 2 ^ k) (h2 : d.natAbs < 2 ^ k) : Sm k (Rat.divInt n d) :=
  ⟨Nat.lt_of_le_of_lt divInt_num_le h1, Nat.lt_of_le_of_lt (divInt_den_le hd) h2⟩
theorem Sm.mono {k m : Nat} {q : Rat} (h : Sm k q) (hk : k ≤ m) : Sm m q :=
  ⟨Nat.lt_of_lt_of_le h.1 (Nat.pow_le_pow_right (by decide) hk), Nat.lt_of_lt_of_le h.2 (Nat.pow_le_pow_right (by decide) hk)⟩
theorem lt_mul {a b k m : Nat} (h : a < 2 ^ k) (h' : b < 2 ^ m) : a * b < 2 ^ (k + m) := by
  rw [Nat.pow_add]; exact Nat.mul_lt_mul'' h h'
theorem add_eq (x y : Rat) : x + y = Rat.divInt (x.num * y.den + y.num * x.den) (x.den * y.den) := by
  have h := Rat.divInt_add_divInt x.num y.num (d₁ := x.den) (d₂ := y.den) (by have := x.den_nz; omega) (by have := y.den_nz; omega)
  rw [Rat.num_divInt_den, Rat.num_divInt_den] at h
  exact h
theorem mul_eq (x y : Rat) : x * y = Rat.divInt (x.num * y.num) (x.den * y.den) := by
  have h := Rat.divInt_mul_divInt x.num y.num (d₁ := x.den) (d₂ := y.den)
  rw [Rat.num_divInt_den, Rat.num_divInt_den] at h
  exact h
theorem div_eq (x y : Rat) : x / y = Rat.divInt (x.num * y.den) (x.den * y.num) := by
  rw [Rat.div_def, Rat.inv_def]
  have h := Rat.divInt_mul_divInt x.num y.den (d₁ := x.den) (d₂ := y.num)
  rw [Rat.num_divInt_den] at h
  exact h
theorem Sm.lcm {x y : Rat} {a b : Nat} (hx : Sm a x) (hy : Sm b y) : ((x.den * y.den : Int)).natAbs < 2 ^ (a + b + 1) := by
  have := lt_mul hx.2 hy.2
  rw [Int.natAbs_mul, Nat.pow_succ]
  simp only [Int.natAbs_natCast]
  omega
theorem Sm.cross {x y : Rat} {a b : Nat} (hx : Sm a x) (hy : Sm b y) : (x.num * y.den + y.num * x.den).natAbs < 2 ^ (a + b + 1) := by
  have h1 := lt_mul hx.1 hy.2
  have h2 := lt_mul hy.1 hx.2
  rw [Nat.add_comm b a] at h2
  refine Nat.lt_of_le_of_lt (Int.natAbs_add_le _ _) ?_
  rw [Int.natAbs_mul, Int.natAbs_mul, Nat.pow_succ]
  simp only [Int.natAbs_natCast]
  omega
theorem Sm.add {x y : Rat} {a b : Nat} (hx : Sm a x) (hy : Sm b y) : Sm (a + b + 1) (x + y) := by
  rw [add_eq]
  have h1 := den_pos x
  have h2 := den_pos y
  exact Sm.divInt (Int.ne_of_gt (Int.mul_pos h1 h2)) (hx.cross hy) (hx.lcm hy)
theorem Sm.neg {x : Rat} {a : Nat} (hx : Sm a x) : Sm a (-x) := by
  have e : (-x).num = -x.num := rfl
  exact ⟨by rw [e, Int.natAbs_neg]; exact hx.1, hx.2⟩
theorem Sm.sub {x y : Rat} {a b : Nat} (hx : Sm a x) (hy : Sm b y) : Sm (a + b + 1) (x - y) := by
  rw [Rat.sub_eq_add_neg]; exact hx.add hy.neg
theorem Sm.mul {x y : Rat} {a b : Nat} (hx : Sm a x) (hy : Sm b y) : Sm (a + b) (x * y) := by
  rw [mul_eq]
  have h1 := den_pos x
  have h2 := den_pos y
  refine Sm.divInt (Int.ne_of_gt (Int.mul_pos h1 h2)) ?_ ?_
  · rw [Int.natAbs_mul]; exact lt_mul hx.1 hy.1
  · rw [Int.natAbs_mul]; exact lt_mul hx.2 hy.2
theorem Sm.div {x y : Rat} {a b : Nat} (hx : Sm a x) (hy : Sm b y) (h0 : y.num ≠ 0) : Sm (a + b) (x / y) := by
  rw [div_eq]
  have h1 := den_pos x
  refine Sm.divInt ?_ ?_ ?_
  · exact Int.mul_ne_zero (by omega) h0
  · rw [Int.natAbs_mul]; exact lt_mul hx.1 hy.2
  · rw [Int.natAbs_mul]; exact lt_mul hx.2 hy.1
theorem Sz.of {i : Int} {k : Nat} (h : i.natAbs < 2 ^ k) (hk : k ≤ 4000) : Sz i := Nat.lt_of_lt_of_le h (Nat.pow_le_pow_right (by decide) hk)
theorem Sm.n {q : Rat} {k : Nat} (h : Sm k q) (hk : k ≤ 4000 := by decide) : Sz q.num := Sz.of h.1 hk
theorem Sm.d {q : Rat} {k : Nat} (h : Sm k q) (hk : k ≤ 4000 := by decide) : Sz q.den := Sz.of (by rw [Int.natAbs_natCast]; exact h.2) hk

/-- the answer of compare -/
def cmpq (x y : Rat) : Int := if x = y then 0 else if x < y then -1 else 1
theorem eq_iff_cross {x y : Rat} : x = y ↔ x.num * y.den = y.num * x.den := by
  constructor
  · rintro rfl; rfl
  · intro h
    exact Rat.le_antisymm ((Rat.le_iff _ _).mpr (Int.le_of_eq h)) ((Rat.le_iff _ _).mpr (Int.le_of_eq h.symm))
theorem cmpq_lt {x y : Rat} : cmpq x y < 0 ↔ x < y := by
  unfold cmpq
  by_cases h : x = y
  · rw [if_pos h]; subst h; simp [Rat.lt_irrefl]
  · rw [if_neg h]; split <;> simp_all
theorem cmpq_eq {x y : Rat} : cmpq x y = 0 ↔ x = y := by
  unfold cmpq
  by_cases h : x = y
  · simp [h]
  · rw [if_neg h]; split <;> simp_all
theorem cmpq_le {x y : Rat} : cmpq x y ≤ 0 ↔ x ≤ y := by
  unfold cmpq
  by_cases h : x = y
  · rw [if_pos h]; subst h; simp [Rat.le_refl]
  · rw [if_neg h]; split
    · rename_i h'; simp [Rat.le_of_lt h']
    · rename_i h'; simp; exact Rat.not_le.mpr (Rat.lt_of_le_of_ne (Rat.not_lt.mp h') (fun e => h e.symm))
theorem cmpq_gt {x y : Rat} : cmpq x y > 0 ↔ y < x := by
  have := @cmpq_le x y
  rw [← Rat.not_le, ← this]; omega
theorem cmpq_ge {x y : Rat} : cmpq x y ≥ 0 ↔ y ≤ x := by
  have := @cmpq_lt x y
  rw [← Rat.not_lt, ← this]; omega
end

section
open PySem PySem.W PySem.Calls PyProof.Rows
set_option linter.unusedVariables false
section
variable {W : Wd} {n : Nat} {env : Env} {σ : Sg} {P : Out → Prop}
theorem WX.mono {st : Stmt} {P P' : Out → Prop} (h : WX W n env st σ P') (k : ∀ o, P' o → P o) : WX W n env st σ P := by
  intro A s Kp B₀ B E r S
  refine wpAny_mono (h A s Kp B₀ B E r S) (fun f s' hp => ?_) fun _ _ e => e
  obtain ⟨h', tk', B', rfl, hp⟩ := hp
  refine ⟨h', tk', B', rfl, ?_⟩
  cases f with
  | next => obtain ⟨σ', a, b⟩ := hp; exact ⟨σ', k _ a, b⟩
  | brk => obtain ⟨σ', a, b⟩ := hp; exact ⟨σ', k _ a, b⟩
  | cont => obtain ⟨σ', a, b⟩ := hp; exact ⟨σ', k _ a, b⟩
  | ret v => obtain ⟨d, a, b⟩ := hp; exact ⟨d, k _ a, b⟩
/-- a statement ends by going on, with names of a kind -/
inductive Goes (T : Sg → Prop) : Out → Prop
  | mk {σ' τ : Sg} (h : T τ) (k : Has σ' τ) : Goes T (.next σ')
theorem wx_goes {st : Stmt} {rest : List Stmt} {P : Out → Prop} (T : Sg → Prop) (h : WX W n env st σ (Goes T)) (k : ∀ τ, T τ → WS W n env rest τ P) : WX W n env st σ (Seq W n env rest P) :=
  h.mono fun o ho => by cases ho with | mk a b => exact (k _ a).has b
theorem Ev.st {env : Env} {ns : List (Str × NameKind)} {x : Str} (e : Ev env ns) (h : (ns.lookup x == some .local || ns.lookup x == some .cell) = true) : Stor env x := by
  rcases Bool.or_eq_true_iff.mp h with q | q
  · exact e.stor (by simpa using q)
  · exact e.storC (by simpa using q)
def TurnN (J : Nat → Sg → Prop) (P : Out → Prop) (i : Nat) : Out → Prop
  | .next σ' => ∃ τ', J i τ' ∧ Has σ' τ'
  | .cont σ' => ∃ τ', J i τ' ∧ Has σ' τ'
  | .brk σ' => P (.next σ')
  | .ret d => P (.ret d)
theorem turnN_next {J : Nat → Sg → Prop} {i : Nat} {τ τ' : Sg} (h : J i τ') (k : Has τ τ') : TurnN J P i (.next τ) := ⟨τ', h, k⟩
theorem turnN_cont {J : Nat → Sg → Prop} {i : Nat} {τ τ' : Sg} (h : J i τ') (k : Has τ τ') : TurnN J P i (.cont τ) := ⟨τ', h, k⟩
theorem turnN_ret {J : Nat → Sg → Prop} {i : Nat} {d : D} (h : P (.ret d)) : TurnN J P i (.ret d) := h
theorem wx_for_n {x : Str} {px pos : Pos} {iter : Expr} {body : List Stmt} (J : Nat → Sg → Prop) (hx : Stor env x)
    (h : WI W n env σ iter fun ds => (∃ τ, J 0 τ ∧ Has σ τ) ∧ (∀ i d τ, ds[i]? = some d → J i τ → WS W n env body ((x, .val d) :: τ) (TurnN J P (i + 1))) ∧ ∀ τ, J ds.length τ → P (.next τ))
    (hs : ∀ v, foldedSetIterable iter env v = pure v := by intro _; rfl) (ht : ∀ I v, letOwnedTupleGo (.Name x px) I v = pure () := by intro _ _; rfl) :
    WX W n env (.For (.Name x px) iter body [] pos) σ P := by
  refine wx_for (fun pre τ => J pre.length τ) hx ?_ hs ht
  intro A s Kp B₀ B R E rm S hR
  refine h A s Kp B₀ B R E rm S fun I fp cnt P' Stt ds h' tk' B' q => ?_
  refine hR I fp cnt P' Stt ds h' tk' B' ⟨q.1, fun pre d post τ e hJ => ?_, q.2.2⟩
  have hd : ds[pre.length]? = some d := by rw [e]; simp
  refine (q.2.1 pre.length d τ hd hJ).mono fun o ho => ?_
  cases o with
  | next σ' => obtain ⟨τ', a, b⟩ := ho; exact ⟨τ', by simpa using a, b⟩
  | cont σ' => obtain ⟨τ', a, b⟩ := ho; exact ⟨τ', by simpa using a, b⟩
  | brk σ' => exact ho
  | ret d => exact ho
theorem rng_get {a c : Int} {cnt i : Nat} {d : D} (h : (rng a cnt c)[i]? = some d) : i < cnt ∧ d = .int (a + (i : Int) * c) := by
  unfold rng at h
  rw [List.getElem?_map] at h
  cases hq : (List.range cnt)[i]? with
  | none => rw [hq] at h; cases h
  | some j =>
    rw [hq] at h
    have hi := (List.getElem?_eq_some_iff.mp hq)
    obtain ⟨hlt, e⟩ := hi
    rw [List.getElem_range] at e
    subst e
    cases h
    exact ⟨by simpa using hlt, rfl⟩
theorem rng_len {a c : Int} {cnt : Nat} : (rng a cnt c).length = cnt := by simp [rng]
theorem rng_get1 {a : Int} {cnt i : Nat} {d : D} (h : (rng a cnt 1)[i]? = some d) : i < cnt ∧ d = .int (a + i) := by
  have := rng_get h
  rwa [Int.mul_one] at this
theorem intOk {l : List Int} : ∀ e ∈ l.map D.int, e.ok := fun e he => by obtain ⟨i, _, rfl⟩ := List.mem_map.mp he; rfl
theorem int_mem {l : List Int} {i : Int} : D.int i ∈ l.map D.int ↔ i ∈ l := by
  rw [List.mem_map]
  exact ⟨fun ⟨j, hj, e⟩ => by injection e with e; exact e ▸ hj, fun h => ⟨i, h, rfl⟩⟩
abbrev rats (l : List Rat) : D := .lst (l.map rat)
abbrev intl (l : List Int) : D := .lst (l.map .int)
theorem rats_get {l : List Rat} {i : Nat} {d : D} (h : (l.map rat)[i]? = some d) : ∃ q, l[i]? = some q ∧ d = rat q := by
  rw [List.getElem?_map] at h
  cases hq : l[i]? with
  | none => rw [hq] at h; cases h
  | some q => rw [hq] at h; cases h; exact ⟨q, rfl, rfl⟩
theorem rats_item {l : List Rat} {k : Nat} {q : Rat} (h : l[k]? = some q) (hk : l.length ≤ 1000000) : ItemOf (rats l) k (rat q) := itemL (by rw [List.getElem?_map, h]; rfl) (by simpa using hk)
theorem intl_item {l : List Int} {k : Nat} {q : Int} (h : l[k]? = some q) (hk : l.length ≤ 1000000) : ItemOf (intl l) k (.int q) := itemL (by rw [List.getElem?_map, h]; rfl) (by simpa using hk)
/-- truth that is told by an «iff» -/
theorem if_p {b : Bool} {c : Prop} {p q : Prop} (hb : b = true ↔ c) (h : c → p) (k : ¬ c → q) : if b = true then p else q := by
  cases b
  · rw [if_neg (by decide)]; exact k fun z => by have := hb.mpr z; cases this
  · rw [if_pos rfl]; exact h (hb.mp rfl)
end
end

section
theorem take_step' {α : Type} {l : List α} {i : Nat} {d : α} (h : l[i]? = some d) : l.take (i + 1) = l.take i ++ [d] := by
  rw [List.take_add_one, h]; rfl
end

section
open PySem PySem.W PySem.Calls PyProof.Rows
set_option linter.unusedVariables false
section
variable {W : Wd} {n : Nat} {env : Env} {σ : Sg} {Q : D → Prop}
structure AttrK (K : Frag) (C : Addr) (nm : Str) : Prop where
  g : plainGet K C nm = true
  h : hasDictIn K C = true
  a : ∃ att, findIn K (.ref C) nm = some att ∧ noGet K att = true
theorem AttrK.mk' {W : Wd} {K : Frag} {C : Addr} {nm : Str} {att : Option Value} (hK : W.K = K) (hC : W.vecC = C) (g : plainGet K C nm = true) (h : hasDictIn K C = true) (a : findIn K (.ref C) nm = some att) (b : noGet K att = true) : AttrK W.K W.vecC nm := by
  rw [hK, hC]; exact ⟨g, h, att, a, b⟩
theorem inst_of {C : Addr} {B : Fz} {h : Heap} {a dx : Addr} {es : List DictEntry} {k : Nat} (bh : ∀ a o, B a o → h.get? a = some o) (h1 : B a (instObj C dx)) (h2 : B dx (dictOf es k)) : InstAt h a (instObj C dx) C (some (dictOf es k)) :=
  ⟨bh _ _ h1, rfl, rfl, bh _ _ h2⟩
theorem we_kind {x : Str} {px pos : Pos} (ak : AttrK W.K W.vecC (Str.ofString "kind")) (h : WE W n env σ (.Name x px) fun d => ∃ l, d = .vec l ∧ Q (.str (Str.ofString "double"))) : WE W n env σ (.Attribute (.Name x px) (Str.ofString "kind") pos) Q := by
  intro A s Kp B₀ B R E rm S hR
  refine Attribute_name (h A s Kp B₀ B _ E rm S fun v d h1 t1 B1 q1 x1 i1 => ?_)
  obtain ⟨l, rfl, hq⟩ := q1
  obtain ⟨att, ha, hn⟩ := ak.a
  cases i1 with
  | vec hb hd hk hi hv =>
    exact get_value (s := { s with heap := h1, toks := t1 }) (S.ext x1).ok.1 (inst_of x1.bh hb hd) (plainGet_of ak.g).1 (findObj_own ak.h ha hn hk) rfl (hR _ _ h1 _ B1 hq x1 (.str _ _))
theorem we_items {x : Str} {px pos : Pos} (ak : AttrK W.K W.vecC (Str.ofString "items")) (h : WE W n env σ (.Name x px) fun d => ∃ l, d = .vec l ∧ Q (.lst l)) : WE W n env σ (.Attribute (.Name x px) (Str.ofString "items") pos) Q := by
  intro A s Kp B₀ B R E rm S hR
  refine Attribute_name (h A s Kp B₀ B _ E rm S fun v d h1 t1 B1 q1 x1 i1 => ?_)
  obtain ⟨l, rfl, hq⟩ := q1
  obtain ⟨att, ha, hn⟩ := ak.a
  cases i1 with
  | vec hb hd hk hi hv =>
    exact get_value (s := { s with heap := h1, toks := t1 }) (S.ext x1).ok.1 (inst_of x1.bh hb hd) (plainGet_of ak.g).1 (findObj_own ak.h ha hn hi) hv.handed (hR _ _ h1 _ B1 hq x1 hv)

theorem we_isvec {f c : Str} {fp cp pos : Pos} {e : Expr} (g : Bti W f (.builtin "isinstance")) (gc : Glb W c (.ref W.vecC)) (hI : isIn W.K (.ref W.vecC) W.vecC = true) (hx : env.kindOf f = some .globalImplicit) (hxc : env.kindOf c = some .globalImplicit)
    (h : WE W n env σ e fun d => ∃ l, d = .vec l ∧ Q (.bool true))
    (hc : eval (.Call (.Name f fp) [e, .Name c cp] [] pos) env = (do
      let __do_lift ← eval (.Name f fp) env
      callWith pos __do_lift [] (backTo pos (starEach [e, .Name c cp] env)) (backToKw pos (keywordEach [] env))) := by rfl)
    (he : starEach [e, .Name c cp] env = (false, eval e env) :: starEach [.Name c cp] env := by rfl) (he2 : starEach [.Name c cp] env = (false, eval (.Name c cp) env) :: starEach [] env := by rfl) (hp : ((backTo pos (starEach [.Name c cp] env)).any (·.1)) = false := by rfl) (hd : (f == ("__debug__" : Str)) = false := by decide) (hdc : (c == ("__debug__" : Str)) = false := by decide) :
    WE W n env σ (.Call (.Name f fp) [e, .Name c cp] [] pos) Q := by
  intro A s Kp B₀ B R E rm S hR
  refine Call_ (S.boot hx g.ns g.boot ?_ g.nn hd) hc
  refine PyProof.Rows.callWith_builtin1 (PyProof.Rows.args_cons (h A s Kp B₀ B _ E rm S fun v d h1 t1 B1 q1 x1 i1 => ?_) he) he hp
  refine PyProof.Rows.args_cons (St.glb (s := { s with heap := h1, toks := t1 }) (S.ext x1) hxc gc.ns (PyProof.Rows.args_nil ?_) hdc) he2
  obtain ⟨l, rfl, hq⟩ := q1
  cases i1 with
  | vec hb hd' hk hi hv =>
    exact isi_call (s := { s with heap := h1, toks := t1 }) (S.ext x1).ok.1 (fun M => (inst_of x1.bh hb hd').type) hI (fun e => by cases e) (hR _ _ h1 _ B1 hq x1 (.bool _))
theorem we_notlist {f c : Str} {fp cp pos : Pos} {e : Expr} (g : Bti W f (.builtin "isinstance")) (gc : Bti W c (.type "list")) (hx : env.kindOf f = some .globalImplicit) (hxc : env.kindOf c = some .globalImplicit)
    (h : WE W n env σ e fun d => ∃ b, d = .bool b ∧ Q (.bool false))
    (hc : eval (.Call (.Name f fp) [e, .Name c cp] [] pos) env = (do
      let __do_lift ← eval (.Name f fp) env
      callWith pos __do_lift [] (backTo pos (starEach [e, .Name c cp] env)) (backToKw pos (keywordEach [] env))) := by rfl)
    (he : starEach [e, .Name c cp] env = (false, eval e env) :: starEach [.Name c cp] env := by rfl) (he2 : starEach [.Name c cp] env = (false, eval (.Name c cp) env) :: starEach [] env := by rfl) (hp : ((backTo pos (starEach [.Name c cp] env)).any (·.1)) = false := by rfl) (hd : (f == ("__debug__" : Str)) = false := by decide) (hdc : (c == ("__debug__" : Str)) = false := by decide) :
    WE W n env σ (.Call (.Name f fp) [e, .Name c cp] [] pos) Q := by
  intro A s Kp B₀ B R E rm S hR
  refine Call_ (S.boot hx g.ns g.boot ?_ g.nn hd) hc
  refine PyProof.Rows.callWith_builtin1 (PyProof.Rows.args_cons (h A s Kp B₀ B _ E rm S fun v d h1 t1 B1 q1 x1 i1 => ?_) he) he hp
  refine PyProof.Rows.args_cons (St.boot (s := { s with heap := h1, toks := t1 }) (S.ext x1) hxc gc.ns gc.boot (PyProof.Rows.args_nil ?_) gc.nn hdc) he2
  obtain ⟨b, rfl, hq⟩ := q1
  cases i1
  exact call_isinstance (s := { s with heap := h1, toks := t1 }) (isinstance_false_bool (by decide) (by rfl) (by rfl)) (hR _ _ h1 _ B1 hq x1 (.bool _))
/-- list(xs) -/
theorem wo_listof {f : Str} {fp pos : Pos} {e : Expr} {Q : List D → Prop} (g : Bti W f (.type "list")) (hx : env.kindOf f = some .globalImplicit)
    (h : WE W n env σ e fun d => ∃ l, d = .lst l ∧ l.length ≤ 1000000 ∧ Q l)
    (hc : eval (.Call (.Name f fp) [e] [] pos) env = (do
      let __do_lift ← eval (.Name f fp) env
      callWith pos __do_lift [] (backTo pos (starEach [e] env)) (backToKw pos (keywordEach [] env))) := by rfl)
    (he : starEach [e] env = (false, eval e env) :: starEach [] env := by rfl) (hp : ((backTo pos (starEach ([] : List Expr) env)).any (·.1)) = false := by rfl) (hd : (f == ("__debug__" : Str)) = false := by decide) :
    WO W n env σ (.Call (.Name f fp) [e] [] pos) Q := by
  intro A s Kp B₀ B R E rm S hR
  refine Call_ (S.boot hx g.ns g.boot ?_ g.nn hd) hc
  refine PyProof.Rows.callWith_type1 (PyProof.Rows.args_cons (h A s Kp B₀ B _ E rm S fun v d h1 t1 B1 q1 x1 i1 => PyProof.Rows.args_nil ?_) he) he hp
  obtain ⟨l, rfl, hz, hq⟩ := q1
  cases i1 with
  | lst hb hcl hd' ha =>
    rename_i a o vs k
    refine call_list_seq (s := { s with heap := h1, toks := t1 }) a (T := "list") (.inl rfl) (x1.bh _ _ hb) hcl hd' (fun h' c' hk hn => ?_) (by rw [List.size_toArray, ha.length]; exact sizeLine_ge hz)
    have nw := get?_none_size h1
    refine hR h1.objs.size vs c' l h' t1 B1 hq (x1.trans (Ext.heap x1.bh hk)) hn (none_of_ext x1.keep nw) (fun o e => ?_) ha
    have := x1.bh _ _ e
    rw [nw] at this; cases this
/-- [..] * 1 -/
theorem v_rep1 {l : List D} (hz : l.length ≤ 1000000) (h : Q (.lst l)) : V2 W n (binaryOp .Mult) (.lst l) (.int 1) Q := by
  intro A s B R E v1 v2 rm ok bh i1 i2 hR
  cases i2
  rename_i u
  cases i1 with
  | lst hb hcl hd ha =>
    rename_i a o vs k
    have hl : s.heap.IsList a vs.toArray := ⟨_, bh _ _ hb, hcl, _, hd⟩
    obtain ⟨⟨cls, d, data, sl⟩, ho, hcl, k, hd⟩ := hl
    simp only at hcl hd
    subst hcl hd
    have hsz' : vs.toArray.size ≤ 1000000 := by rw [List.size_toArray, ha.length]; exact hz
    have hsz2 : vs.length ≤ 1000000 := by rw [ha.length]; exact hz
    refine wpAny_binaryOp_repeat_ref (T := "list") (U := "int") (by decide) ⟨_, ho, rfl⟩ (fun s' => typeIs_int s' 1 u) noFill_list_mul F.fills_int_mul F.slot_int_rmul repeat_list F.slot_int_index.lookup
      (call_meets F.slot_int_rmul (typeIs_int s 1 u) F.entry_int_rmul (F.args_int_rmul_2 _ _) (lm_int_rmul_list_any 1 u a vs.toArray k d sl)
        ⟨ho, rfl, ⟨_, ho, rfl⟩, call_meets F.slot_list_mul ⟨_, ho, rfl⟩ F.entry_list_mul (F.args_list_mul_2 _ _)
          (lm_list_mul_any a vs.toArray k d sl 1 u (by simp [Builtin.List.listFitsIndex]) (by rw [show (1 : Int).toNat = 1 from rfl, Nat.mul_one]; omega) (by simp [Builtin.List.listTooLong, sizeLine]; omega))
          ⟨ho, ?_⟩⟩)
    rw [listMul_foldl_if, show (1 : Int).toNat = 1 from rfl]
    simp only [List.replicate_one, List.flatten_cons, List.flatten_nil, List.append_nil]
    have nw := get?_none_size s.heap
    have hx : Ext s.heap B (s.heap.push { cls := .type "list", data := .seq vs.toArray }) B := Ext.heap bh fun _ _ e => Heap.get?_push_of_some _ e
    exact hR _ _ _ s.toks _ h (hx.freeze (Heap.get?_push_size _ rfl) nw) (.lst Fz.add_self rfl rfl (ha.mono Fz.sub_add))
end
end

section
open PySem PySem.W PySem.Calls PyProof.Rows
set_option linter.unusedVariables false
section
variable {W : Wd} {n : Nat} {env : Env} {σ : Sg} {P : Out → Prop}
theorem wx_expr {e : Expr} {pos : Pos} (h : WE W n env σ e fun d => P (.next σ)) (hs : swapsWith e none pos.line env = pure false := by rfl) : WX W n env (.Expr e pos) σ P := by
  intro A s Kp B₀ B E rm S
  exact wpAny_Expr_any (h A s Kp B₀ B _ E rm S fun v d h1 t1 B1 q x1 i => ⟨h1, t1, B1, rfl, σ, q, S.ext x1⟩) (by unfold interactive; rw [S.kind]; rfl) hs
theorem Ev.swT {ns : List (Str × NameKind)} {elt : Expr} {gens : List Comprehension} {scope : Scope} {pos p : Pos} {t : Str} {line : Nat} (e : Ev env ns) (hk : ns.lookup t = some .local)
    (h : (p.line == (Expr.ListComp elt gens scope pos).pos.line && !(scope.names.any fun (n, k) => n == t && (k == .local || k == .cell))) = true) : swapsWith (.ListComp elt gens scope pos) (some (.Name t p)) line env = pure true := e.sw hk h
theorem Ev.swF {ns : List (Str × NameKind)} {elt : Expr} {gens : List Comprehension} {scope : Scope} {pos p : Pos} {t : Str} {line : Nat} (e : Ev env ns) (hk : ns.lookup t = some .cell)
    (h : (p.line == (Expr.ListComp elt gens scope pos).pos.line && !(scope.names.any fun (n, k) => n == t && (k == .local || k == .cell))) = true) : swapsWith (.ListComp elt gens scope pos) (some (.Name t p)) line env = pure false := e.sw hk h
theorem we_itemA {value slice : Expr} {pos : Pos} {Q : D → Prop} (h : WE W n env σ value fun o => WE W n env σ slice fun i => ∃ k d, i = .int k ∧ ItemOf o k d ∧ Q d)
    (hs : ∀ a k u, subscripted slice false (.ref a) (.int k u) = operate [.ref a, .int k u] (getItem (.ref a) (.int k u)) := by intro _ _ _; with_unfolding_all rfl) : WE W n env σ (.Subscript value slice pos) Q := by
  intro A s Kp B₀ B R E rm S hR
  refine Subscript_ (h A s Kp B₀ B _ E rm S fun v1 d1 h1 t1 B1 q1 x1 i1 => ?_)
  refine q1 A _ Kp B₀ B1 _ E rm (S.ext x1) fun v2 d2 h2 t2 B2 q2 x2 i2 => ?_
  obtain ⟨k, d, rfl, hk, hq⟩ := q2
  cases i2
  obtain ⟨l, ho, h0, h1', hl⟩ := hk
  have hlt : k.toNat < l.length := (List.getElem?_eq_some_iff.mp hl).1
  have i1' := In.mono x2.sub i1
  rcases ho with rfl | rfl
  · cases i1' with
    | lst hb hc hd ha =>
      obtain ⟨v, hv, hin⟩ := ha.get hl
      have hL : (({ s with heap := h2, toks := t2 } : Shared).heap).IsList _ _ := ⟨_, x2.bh _ _ hb, hc, _, hd⟩
      exact tail_any hL.typeIs slot_list_getitem.lookup (wpAny_getItem_list hL h0 (by omega) (by simpa using hv) (hR v d h2 t2 B2 hq (x1.trans x2) hin)) (hs _ _ _)
  · cases i1' with
    | tup hb hc hd ha =>
      obtain ⟨v, hv, hin⟩ := ha.get hl
      have hT : IsTup (({ s with heap := h2, toks := t2 } : Shared).heap) _ _ := ⟨_, x2.bh _ _ hb, hc, _, hd⟩
      exact tail_any hT.typeIs slot_tuple_getitem.lookup (getItem_tuple hT (by omega) (by omega) (seqIndex_nonneg h0 (by rw [List.size_toArray, ha.length]; exact hlt)) (by simpa using hv) (hR v d h2 t2 B2 hq (x1.trans x2) hin)) (hs _ _ _)
abbrev plc (l : List Nat) : D := .lst (l.map fun (p : Nat) => D.int (p : Int))
theorem plc_item {l : List Nat} {k : Nat} {q : Nat} (h : l[k]? = some q) (hk : l.length ≤ 1000000) : ItemOf (plc l) k (.int (q : Int)) := itemL (by rw [List.getElem?_map, h]; rfl) (by simpa using hk)
end
end

section
def leq (qs : List Rat) (a b : Nat) : Bool := decide (qs.getD a 0 ≤ qs.getD b 0)
theorem leq_trans (qs : List Rat) (a b c : Nat) (h : leq qs a b = true) (k : leq qs b c = true) : leq qs a c = true := by
  unfold leq at *
  rw [decide_eq_true_eq] at *
  exact Rat.le_trans h k
theorem leq_total (qs : List Rat) (a b : Nat) : (leq qs a b || leq qs b a) = true := by
  unfold leq
  rw [Bool.or_eq_true, decide_eq_true_eq, decide_eq_true_eq]
  exact Rat.le_total
def pairUp (qs : List Rat) : List (List Nat) → List (List Nat)
  | a :: b :: r => List.merge a b (leq qs) :: pairUp qs r
  | r => r
abbrev Srt (qs : List Rat) (l : List Nat) : Prop := l.Pairwise fun a b => leq qs a b = true
theorem pairUp_perm (qs : List Rat) : ∀ rs : List (List Nat), (pairUp qs rs).flatten.Perm rs.flatten
  | [] => .refl _
  | [a] => .refl _
  | a :: b :: r => by
    rw [pairUp, List.flatten_cons, List.flatten_cons, List.flatten_cons, ← List.append_assoc]
    exact (List.merge_perm_append (leq qs)).append (pairUp_perm qs r)
theorem pairUp_srt (qs : List Rat) : ∀ rs : List (List Nat), (∀ r ∈ rs, Srt qs r) → ∀ r ∈ pairUp qs rs, Srt qs r
  | [], h => h
  | [a], h => h
  | a :: b :: r, h => fun x hx => by
    rw [pairUp] at hx
    rcases List.mem_cons.mp hx with rfl | hx
    · exact List.pairwise_merge (leq_trans qs) (leq_total qs) a b (h a (by simp)) (h b (by simp))
    · exact pairUp_srt qs r (fun y hy => h y (by simp [hy])) x hx
theorem pairUp_len (qs : List Rat) : ∀ rs : List (List Nat), (pairUp qs rs).length = (rs.length + 1) / 2
  | [] => rfl
  | [a] => by simp [pairUp]
  | a :: b :: r => by
    rw [pairUp, List.length_cons, pairUp_len qs r, List.length_cons, List.length_cons]
    omega
theorem pairUp_step (qs : List Rat) {rs : List (List Nat)} {i : Nat} {a b : List Nat} (ha : rs[2 * i]? = some a) (hb : rs[2 * i + 1]? = some b) : pairUp qs (rs.drop (2 * i)) = List.merge a b (leq qs) :: pairUp qs (rs.drop (2 * (i + 1))) := by
  obtain ⟨h1, e1⟩ := List.getElem?_eq_some_iff.mp ha
  obtain ⟨h2, e2⟩ := List.getElem?_eq_some_iff.mp hb
  rw [List.drop_eq_getElem_cons h1, List.drop_eq_getElem_cons h2, e1, e2, pairUp]
  rfl
theorem flat_singles (l : List Nat) : (l.map fun p => [p]).flatten = l := by
  induction l with
  | nil => rfl
  | cons a r ih => rw [List.map_cons, List.flatten_cons, ih]; rfl
theorem flat_mem_len {rs : List (List Nat)} {r : List Nat} (h : r ∈ rs) : r.length ≤ rs.flatten.length := by
  induction rs with
  | nil => cases h
  | cons a t ih =>
    rw [List.flatten_cons, List.length_append]
    rcases List.mem_cons.mp h with rfl | h
    · omega
    · have := ih h; omega
end

section
open PySem PySem.W PySem.Calls PyProof.Rows
set_option linter.unusedVariables false
section
variable {W : Wd} {n : Nat} {env : Env} {σ : Sg} {Q : D → Prop}
/-- a global name that stands for an int -/
theorem we_gint {x : Str} {pos : Pos} {i : Int} {t : Tok} (hx : env.kindOf x = some .globalImplicit) (e : nsIn W.K mainGlobals x = some (some (.int i t))) (h : Q (.int i)) (hd : (x == ("__debug__" : Str)) = false := by decide) : WE W n env σ (.Name x pos) Q :=
  fun _ s _ _ B _ _ _ S hR => S.glb hx e (hR _ _ s.heap s.toks B h (Ext.refl S.bh) (.int _ _)) hd
end
theorem range_getD (qs : List Rat) : (List.range qs.length).map (fun p => qs.getD p 0) = qs := by
  refine List.ext_getElem (by simp) fun i h1 h2 => ?_
  rw [List.getElem_map, List.getElem_range, List.getD_eq_getElem?_getD, List.getElem?_eq_getElem h2]
  rfl
theorem sorted_of {qs : List Rat} {ps : List Nat} (hp : ps.Perm (List.range qs.length)) (hs : Srt qs ps) (hn : qs.Nodup) : (ps.map fun p => qs.getD p 0).Perm qs ∧ (ps.map fun p => qs.getD p 0).Pairwise (· < ·) := by
  have h1 : (ps.map fun p => qs.getD p 0).Perm qs := by
    have := hp.map (fun p => qs.getD p 0)
    rwa [range_getD] at this
  refine ⟨h1, ?_⟩
  have h2 : (ps.map fun p => qs.getD p 0).Pairwise (· ≤ ·) := List.pairwise_map.mpr (hs.imp fun h => by simpa [leq] using h)
  have h3 : (ps.map fun p => qs.getD p 0).Nodup := h1.nodup_iff.mpr hn
  exact (h2.and h3).imp fun ⟨a, b⟩ => Rat.lt_of_le_of_ne a b
theorem pair_lt {B : List Rat} (h : B.Pairwise (· < ·)) {i j : Nat} {a b : Rat} (hij : i < j) (ha : B[i]? = some a) (hb : B[j]? = some b) : a < b := by
  obtain ⟨h1, rfl⟩ := List.getElem?_eq_some_iff.mp ha
  obtain ⟨h2, rfl⟩ := List.getElem?_eq_some_iff.mp hb
  exact List.pairwise_iff_getElem.mp h i j h1 h2 hij
end

section
structure EqOk (xs : List Rat) (c : Nat) (bs : List Rat) : Prop where
  len : bs.length = c + 1
  low : ∀ x ∈ xs, bs.getD 0 0 < x
  high : ∀ x ∈ xs, x < bs.getD c 0
  step : ∃ a s : Rat, 0 < s ∧ ∀ i : Nat, 1 ≤ i → i < c → bs.getD i 0 = a + s * ((i : Int) : Rat)
  sm : ∀ b ∈ bs, Sm 100 b
def lin (lo st : Rat) (k : Nat) : List Rat := (List.range k).map fun (i : Nat) => lo + st * ((i : Int) : Rat)
theorem lin_len {lo st : Rat} {k : Nat} : (lin lo st k).length = k := by simp [lin]
theorem lin_getD {lo st : Rat} {k i : Nat} (h : i < k) : (lin lo st k).getD i 0 = lo + st * ((i : Int) : Rat) := by
  unfold lin
  rw [List.getD_eq_getElem?_getD, List.getElem?_map, List.getElem?_range h]
  rfl
theorem sm_int {i : Nat} (h : i < 8) : Sm 3 ((i : Int) : Rat) := ⟨h, by show 1 < 8; decide⟩
theorem lin_sm {lo st : Rat} {k a b : Nat} (hk : k ≤ 8) (h1 : Sm a lo) (h2 : Sm b st) : ∀ q ∈ lin lo st k, Sm (a + (b + 3) + 1) q := by
  intro q hq
  obtain ⟨i, hi, rfl⟩ := List.mem_map.mp hq
  exact h1.add (h2.mul (sm_int (by have := List.mem_range.mp hi; omega)))
theorem cast_pos {c : Nat} (h : 0 < c) : (0 : Rat) < ((c : Int) : Rat) := by
  exact_mod_cast h
theorem rdiv_pos {a b : Rat} (h : 0 < a) (k : 0 < b) : 0 < a / b := by
  rw [Rat.div_def]; exact Rat.mul_pos h (Rat.inv_pos.mpr k)
theorem rdiv_mul {a b : Rat} (k : 0 < b) : a / b * b = a := Rat.div_mul_cancel (by intro e; subst e; exact Rat.lt_irrefl k)
theorem eqA {xs : List Rat} {c : Nat} {lo w : Rat} (hc : 2 ≤ c) (hc5 : c ≤ 5) (hx : ∀ x ∈ xs, x = lo) (hw : 0 < w) (s1 : Sm 6 lo) (s2 : Sm 6 w) :
    EqOk xs c (lin (lo - w / ((1000 : Int) : Rat)) (w / ((1000 : Int) : Rat) * ((2 : Int) : Rat) / ((c : Int) : Rat)) (c + 1)) := by
  have hm : 0 < w / ((1000 : Int) : Rat) := rdiv_pos hw (by decide)
  have sm : Sm 16 (w / ((1000 : Int) : Rat)) := s2.div (b := 10) ⟨by decide, by decide⟩ (by decide)
  generalize w / ((1000 : Int) : Rat) = m at *
  have hm2 : 0 < m * ((2 : Int) : Rat) := Rat.mul_pos hm (by decide)
  have hcp : (0 : Rat) < ((c : Int) : Rat) := cast_pos (by omega)
  have hs : 0 < m * ((2 : Int) : Rat) / ((c : Int) : Rat) := rdiv_pos hm2 hcp
  have hsc := rdiv_mul (a := m * ((2 : Int) : Rat)) hcp
  have ss : Sm 21 (m * ((2 : Int) : Rat) / ((c : Int) : Rat)) := (sm.mul (b := 2) ⟨by decide, by decide⟩).div (sm_int (by omega)) (by show (c : Int) ≠ 0; omega)
  generalize m * ((2 : Int) : Rat) / ((c : Int) : Rat) = s at *
  refine ⟨lin_len, fun x hx' => ?_, fun x hx' => ?_, ⟨_, s, hs, fun i _ hi => lin_getD (by omega)⟩, fun b hb => (lin_sm (by omega) (s1.sub sm) ss b hb).mono (by decide)⟩
  · rw [lin_getD (by omega), hx x hx']
    have : s * (((0 : Nat) : Int) : Rat) = 0 := Rat.mul_zero s
    rw [this]
    grind
  · rw [lin_getD (by omega), hx x hx', hsc]
    have : (((2 : Int)) : Rat) = 2 := rfl
    rw [this]
    grind
theorem eqB {xs : List Rat} {c : Nat} {lo hi : Rat} (hc : 2 ≤ c) (hc5 : c ≤ 5) (hx : ∀ x ∈ xs, lo ≤ x ∧ x ≤ hi) (hw : 0 < hi - lo) (s1 : Sm 6 lo) (s2 : Sm 6 hi) :
    EqOk xs c (((lin lo ((hi - lo) / ((c : Int) : Rat)) (c + 1)).set 0 (lo + (hi - lo) / ((c : Int) : Rat) * ((0 : Int) : Rat) - (hi - lo) / ((1000 : Int) : Rat))).set c (lo + (hi - lo) / ((c : Int) : Rat) * ((c : Int) : Rat) + (hi - lo) / ((1000 : Int) : Rat))) := by
  have hm : 0 < (hi - lo) / ((1000 : Int) : Rat) := rdiv_pos hw (by decide)
  have sw : Sm 13 (hi - lo) := s2.sub s1
  have sm : Sm 23 ((hi - lo) / ((1000 : Int) : Rat)) := sw.div (b := 10) ⟨by decide, by decide⟩ (by decide)
  generalize (hi - lo) / ((1000 : Int) : Rat) = m at *
  have hcp : (0 : Rat) < ((c : Int) : Rat) := cast_pos (by omega)
  have hs : 0 < (hi - lo) / ((c : Int) : Rat) := rdiv_pos hw hcp
  have hsc := rdiv_mul (a := hi - lo) hcp
  have ss : Sm 16 ((hi - lo) / ((c : Int) : Rat)) := sw.div (sm_int (by omega)) (by show (c : Int) ≠ 0; omega)
  generalize (hi - lo) / ((c : Int) : Rat) = s at *
  have hl := lin_len (lo := lo) (st := s) (k := c + 1)
  have z0 : s * ((0 : Int) : Rat) = 0 := Rat.mul_zero s
  have sl := lin_sm (k := c + 1) (by omega) s1 ss
  refine ⟨by simp [hl], fun x hx' => ?_, fun x hx' => ?_, ⟨lo, s, hs, fun i h1 hi => ?_⟩, fun b hb => ?_⟩
  · have e : ((((lin lo s (c + 1)).set 0 (lo + s * ((0 : Int) : Rat) - m)).set c (lo + s * ((c : Int) : Rat) + m)).getD 0 0) = lo + s * ((0 : Int) : Rat) - m := by
      rw [List.getD_eq_getElem?_getD, List.getElem?_set_ne (by omega), List.getElem?_set_self (by omega)]; rfl
    rw [e, z0]
    have := (hx x hx').1
    grind
  · have e : ((((lin lo s (c + 1)).set 0 (lo + s * ((0 : Int) : Rat) - m)).set c (lo + s * ((c : Int) : Rat) + m)).getD c 0) = lo + s * ((c : Int) : Rat) + m := by
      rw [List.getD_eq_getElem?_getD, List.getElem?_set_self (by simp [hl])]; rfl
    rw [e, hsc]
    have := (hx x hx').2
    grind
  · rw [List.getD_eq_getElem?_getD, List.getElem?_set_ne (by omega), List.getElem?_set_ne (by omega), ← List.getD_eq_getElem?_getD, lin_getD (by omega)]
  · have s0 : Sm 3 ((0 : Int) : Rat) := sm_int (i := 0) (by decide)
    rcases List.mem_or_eq_of_mem_set hb with hb | rfl
    · rcases List.mem_or_eq_of_mem_set hb with hb | rfl
      · exact (sl b hb).mono (by decide)
      · exact (((s1.add (ss.mul s0)).sub sm)).mono (by decide)
    · exact ((s1.add (ss.mul (sm_int (by omega)))).add sm).mono (by decide)
end

section
open PySem PySem.W PySem.Calls PyProof.Rows
set_option linter.unusedVariables false
def Good {α : Type} (n : Nat) (c : Nat → Nat → Bool) : KasT α → (α → Prop) → Prop
  | .ret a, P => P a
  | .ask i j k, P => i < n ∧ j < n ∧ Good n c (k (c i j)) P
theorem Good.bind {α β : Type} {n : Nat} {c : Nat → Nat → Bool} {f : α → KasT β} {P : β → Prop} : ∀ {t : KasT α}, Good n c t (fun a => Good n c (f a) P) → Good n c (t.bind f) P
  | .ret a, h => h
  | .ask i j k, h => ⟨h.1, h.2.1, Good.bind (t := k (c i j)) h.2.2⟩
theorem Good.mono {α : Type} {n : Nat} {c : Nat → Nat → Bool} {P P' : α → Prop} (hp : ∀ a, P a → P' a) : ∀ {t : KasT α}, Good n c t P → Good n c t P'
  | .ret a, h => hp a h
  | .ask i j k, h => ⟨h.1, h.2.1, Good.mono hp (t := k (c i j)) h.2.2⟩
theorem kasWp_good {α : Type} {n : Nat} {c : Nat → Nat → Bool} {cmp : Nat → Nat → (Bool → Shared → Prop) → Shared → Prop} {s : Shared} (hc : ∀ i j C, i < n → j < n → C (c i j) s → cmp i j C s) {Q : α → Shared → Prop} : ∀ {t : KasT α}, Good n c t (fun a => Q a s) → t.kasWp cmp Q s
  | .ret a, h => h
  | .ask i j k, h => hc i j _ h.1 h.2.1 (kasWp_good hc (t := k (c i j)) h.2.2)

structure Cmp (n : Nat) (c : Nat → Nat → Bool) : Prop where
  tr : ∀ i j k, c i j = true → c j k = true → c i k = true
  tot : ∀ i j, i < n → j < n → i ≠ j → c i j = false → c j i = true
  ir : ∀ i, c i i = false
abbrev At (p : Array Nat) (k : Nat) : Nat := p.getD k 0
abbrev Inv (n : Nat) (p : Array Nat) : Prop := p.Perm (List.toArray (List.range n))
theorem Inv.size {n : Nat} {p : Array Nat} (h : Inv n p) : p.size = n := by
  have := h.size_eq
  simpa using this
theorem at_get {p : Array Nat} {k : Nat} (h : k < p.size) : p[k]? = some (At p k) := by
  simp [At, Array.getD, h]
theorem at_of {p q : Array Nat} {i j : Nat} (h : p[i]? = q[j]?) : At p i = At q j := by
  unfold At
  rw [Array.getD_eq_getD_getElem?, Array.getD_eq_getD_getElem?, h]
theorem Inv.lt {n : Nat} {p : Array Nat} (h : Inv n p) {k : Nat} (hk : k < n) : At p k < n := by
  have hm : At p k ∈ p.toList := by
    have := at_get (p := p) (k := k) (by rw [h.size]; exact hk)
    have h2 : p.toList[k]? = some (At p k) := by simpa using this
    exact List.mem_of_getElem? h2
  have := (h.toList.mem_iff (a := At p k)).mp hm
  simpa using this
theorem Inv.inj {n : Nat} {p : Array Nat} (h : Inv n p) {i j : Nat} (hi : i < n) (hj : j < n) (e : At p i = At p j) : i = j := by
  have hn : p.toList.Nodup := (h.toList.nodup_iff).mpr (by simpa using List.nodup_range)
  have e1 : p.toList[i]? = some (At p i) := by simpa using at_get (p := p) (k := i) (by rw [h.size]; exact hi)
  have e2 : p.toList[j]? = some (At p j) := by simpa using at_get (p := p) (k := j) (by rw [h.size]; exact hj)
  obtain ⟨l1, e1⟩ := List.getElem?_eq_some_iff.mp e1
  obtain ⟨l2, e2⟩ := List.getElem?_eq_some_iff.mp e2
  exact (List.getElem_inj hn).mp (by rw [e1, e2, e])

section
variable {n : Nat} {c : Nat → Nat → Bool} {p : Array Nat}
def SP (c : Nat → Nat → Bool) (p : Array Nat) (r : Nat) : Prop := ∀ i, i + 1 < r → c (At p i) (At p (i + 1)) = true
def DP (c : Nat → Nat → Bool) (p : Array Nat) (r : Nat) : Prop := ∀ i, i + 1 < r → c (At p (i + 1)) (At p i) = true
theorem SP.lt (H : Cmp n c) {r : Nat} (h : SP c p r) : ∀ {j i : Nat}, i < j → j < r → c (At p i) (At p j) = true
  | j + 1, i, h1, h2 => by
    by_cases q : i = j
    · subst q; exact h i h2
    · exact H.tr _ _ _ (SP.lt H h (j := j) (by omega) (by omega)) (h j h2)
theorem DP.lt (H : Cmp n c) {r : Nat} (h : DP c p r) : ∀ {j i : Nat}, i < j → j < r → c (At p j) (At p i) = true
  | j + 1, i, h1, h2 => by
    by_cases q : i = j
    · subst q; exact h i h2
    · exact H.tr _ _ _ (h j h2) (DP.lt H h (j := j) (by omega) (by omega))

theorem good_asc (H : Cmp n c) (I : Inv n p) : ∀ {f m : Nat}, 1 ≤ m → m + f ≤ n → SP c p m → Good n c (kas_asc p f m) fun r => m ≤ r ∧ r ≤ m + f ∧ SP c p r ∧ (r = m + f ∨ c (At p r) (At p (r - 1)) = true)
  | 0, m, h1, h2, h => by
    rw [kas_asc]
    exact ⟨Nat.le_refl _, Nat.le_refl _, h, .inl rfl⟩
  | f + 1, m, h1, h2, h => by
    rw [kas_asc]
    refine ⟨I.lt (by omega), I.lt (by omega), ?_⟩
    dsimp only
    by_cases q : c (p.getD m 0) (p.getD (m - 1) 0) = true
    · rw [if_pos q]
      exact ⟨Nat.le_refl _, by omega, h, .inr q⟩
    · rw [if_neg q]
      refine (good_asc H I (f := f) (m := m + 1) (by omega) (by omega) fun i hi => ?_).mono fun r hr => ⟨by omega, by omega, hr.2.2.1, hr.2.2.2.imp (fun e => by omega) fun e => e⟩
      by_cases e : i + 1 = m
      · subst e
        exact H.tot _ _ (I.lt (by omega)) (I.lt (by omega)) (fun e => by have := I.inj (by omega) (by omega) e; omega) (by simpa using q)
      · exact h i (by omega)
theorem good_desc (H : Cmp n c) (I : Inv n p) : ∀ {f m : Nat}, 1 ≤ m → m + f ≤ n → DP c p m → Good n c (kas_desc f p m 0) fun r => r.1 = p ∧ r.2.2 = 0 ∧ m ≤ r.2.1 ∧ r.2.1 ≤ n ∧ DP c p r.2.1
  | 0, m, h1, h2, h => by
    rw [kas_desc]
    exact ⟨rfl, rfl, Nat.le_refl _, h2, h⟩
  | f + 1, m, h1, h2, h => by
    rw [kas_desc]
    refine ⟨I.lt (by omega), I.lt (by omega), ?_⟩
    dsimp only
    by_cases q : c (p.getD m 0) (p.getD (m - 1) 0) = true
    · rw [if_pos q, if_neg (by decide)]
      refine (good_desc H I (f := f) (m := m + 1) (by omega) (by omega) fun i hi => ?_).mono fun r hr => ⟨hr.1, hr.2.1, by omega, hr.2.2.2⟩
      by_cases e : i + 1 = m
      · subst e; exact q
      · exact h i (by omega)
    · rw [if_neg q]
      refine ⟨I.lt (by omega), I.lt (by omega), ?_⟩
      dsimp only
      have d : c (p.getD (m - 1) 0) (p.getD m 0) = true := H.tot _ _ (I.lt (by omega)) (I.lt (by omega)) (fun e => by have := I.inj (by omega) (by omega) e; omega) (by simpa using q)
      rw [if_pos d]
      exact ⟨rfl, rfl, Nat.le_refl _, (by show m ≤ n; omega), h⟩
theorem rev_inv {n r : Nat} (I : Inv n p) : Inv n (kas_rev p 0 r) := (mirror_perm _ _ _ _).trans I
theorem rev_at {r k : Nat} (hr : r ≤ p.size) : At (kas_rev p 0 r) k = if k < r then At p (r - 1 - k) else At p k := by
  have e := getElem?_mirror_all (xs := p) (i := 0) (j := r) hr k
  by_cases q : k < r
  · rw [if_pos q]
    rw [if_pos ⟨Nat.zero_le _, q⟩, show 0 + r - 1 - k = r - 1 - k by omega] at e
    exact at_of e
  · rw [if_neg q]
    rw [if_neg (fun z => q z.2)] at e
    exact at_of e
theorem rev_sp {r : Nat} (hr : r ≤ p.size) (h : DP c p r) : SP c (kas_rev p 0 r) r := fun i hi => by
  rw [rev_at hr, rev_at hr, if_pos (by omega), if_pos hi]
  have := h (r - 1 - (i + 1)) (by omega)
  rw [show r - 1 - (i + 1) + 1 = r - 1 - i by omega] at this
  exact this
theorem good_count (H : Cmp n c) (h2 : 2 ≤ n) (I : Inv n p) : Good n c (kas_count n p) fun r => Inv n r.2 ∧ 1 ≤ r.1 ∧ r.1 ≤ n ∧ SP c r.2 r.1 := by
  unfold kas_count
  refine (Good.mono ?_ (good_asc H I (f := n - 1) (m := 1) (Nat.le_refl _) (by omega) (fun i hi => by omega))).bind
  rintro r ⟨h1, hr, hsp, hw⟩
  by_cases q : (r == n) = true
  · rw [if_pos q]
    exact ⟨I, h1, by omega, hsp⟩
  · rw [if_neg q]
    have hne : r ≠ n := by simpa using q
    by_cases q1 : r > 1
    · rw [if_pos q1]
      refine ⟨I.lt (by omega), I.lt (by omega), ?_⟩
      dsimp only
      rw [if_pos (hsp.lt H (i := 0) (j := r - 1) (by omega) (by omega))]
      exact ⟨I, h1, by omega, hsp⟩
    · rw [if_neg q1]
      have hr1 : r = 1 := by omega
      subst hr1
      have hw' : c (At p 1) (At p 0) = true := hw.resolve_left (by omega)
      unfold kas_descPart
      refine (Good.mono ?_ (good_desc H I (f := n - (1 + 1)) (m := 1 + 1) (by omega) (by omega) (fun i hi => by
        have : i = 0 := by omega
        subst this; exact hw'))).bind
      rintro ⟨p', m, z⟩ ⟨rfl, hz, hm, hmn, hd⟩
      dsimp only at hz hm hmn hd ⊢
      subst hz
      rw [if_neg (by decide)]
      unfold kas_tail3
      have hs : m ≤ p'.size := by rw [I.size]; exact hmn
      refine (Good.mono ?_ (good_asc H (rev_inv I) (f := n - m) (m := m) (by omega) (by omega) (rev_sp hs hd))).bind
      rintro r ⟨h1, hr, hsp, hw⟩
      exact ⟨rev_inv I, by omega, by omega, hsp⟩
theorem good_place (H : Cmp n c) (I : Inv n p) {k : Nat} (hk : k < n) (hs : SP c p k) : ∀ {f l r : Nat}, l ≤ r → r ≤ k → r - l ≤ f → (∀ i, i < l → c (At p i) (At p k) = true) → (∀ i, r ≤ i → i < k → c (At p k) (At p i) = true) →
    Good n c (kas_place p k f l r) fun m => m ≤ k ∧ (∀ i, i < m → c (At p i) (At p k) = true) ∧ ∀ i, m ≤ i → i < k → c (At p k) (At p i) = true
  | 0, l, r, h1, h2, h3, hl, hr => by
    rw [kas_place]
    exact ⟨by omega, hl, fun i hi => hr i (by omega)⟩
  | f + 1, l, r, h1, h2, h3, hl, hr => by
    rw [kas_place]
    by_cases q : l ≥ r
    · rw [if_pos q]
      exact ⟨by omega, hl, fun i hi => hr i (by omega)⟩
    · rw [if_neg q]
      refine ⟨I.lt (by omega), I.lt (by omega), ?_⟩
      dsimp only
      by_cases d : c (p.getD k 0) (p.getD ((l + r) / 2) 0) = true
      · rw [if_pos d]
        refine good_place H I hk hs (f := f) (by omega) (by omega) (by omega) hl fun i hi hik => ?_
        by_cases e : i = (l + r) / 2
        · subst e; exact d
        · exact H.tr _ _ _ d (hs.lt H (by omega) hik)
      · rw [if_neg d]
        have d' : c (p.getD ((l + r) / 2) 0) (p.getD k 0) = true := H.tot _ _ (I.lt (by omega)) (I.lt (by omega)) (fun e => by have := I.inj (by omega) (by omega) e; omega) (by simpa using d)
        refine good_place H I hk hs (f := f) (by omega) (by omega) (by omega) (fun i hi => ?_) hr
        by_cases e : i = (l + r) / 2
        · subst e; exact d'
        · exact H.tr _ _ _ (hs.lt H (i := i) (j := (l + r) / 2) (by omega) (by omega)) d'
theorem bubble_at {k m : Nat} (hk : k < p.size) (hm : m ≤ k) (i : Nat) : At (bubble p k (k - m)) i = if i = m then At p k else if m < i ∧ i ≤ k then At p (i - 1) else At p i := by
  have e := getElem?_bubble (xs := p) hk (k - m) (by omega) i
  rw [show k - (k - m) = m by omega] at e
  by_cases q : i = m
  · rw [if_pos q] at e ⊢; exact at_of e
  · rw [if_neg q] at e ⊢
    by_cases q1 : m < i ∧ i ≤ k
    · rw [if_pos q1] at e ⊢; exact at_of e
    · rw [if_neg q1] at e ⊢; exact at_of e
theorem good_bin (H : Cmp n c) : ∀ {f : Nat} {p : Array Nat} {k : Nat}, Inv n p → k + f = n → SP c p k → Good n c (kas_bin f p k) fun r => Inv n r ∧ SP c r n
  | 0, p, k, I, h, hs => by
    rw [kas_bin]
    have : k = n := by omega
    subst this
    exact ⟨I, hs⟩
  | f + 1, p, k, I, h, hs => by
    rw [kas_bin]
    refine (Good.mono ?_ (good_place H I (k := k) (by omega) hs (f := k) (l := 0) (r := k) (Nat.zero_le _) (Nat.le_refl _) (by omega) (fun i hi => by omega) fun i hi hi' => by omega)).bind
    rintro m ⟨hm, hl, hr⟩
    have hks : k < p.size := by rw [I.size]; omega
    refine good_bin H ((bubble_perm _ _ _).trans I) (by omega) fun i hi => ?_
    rw [bubble_at hks hm, bubble_at hks hm]
    by_cases a : i + 1 < m
    · rw [if_neg (by omega), if_neg (by omega), if_neg (by omega), if_neg (by omega)]
      exact hs i (by omega)
    · by_cases b : i + 1 = m
      · rw [if_neg (by omega), if_neg (by omega), if_pos b]
        exact hl i (by omega)
      · by_cases d : i = m
        · rw [if_pos d, if_neg (by omega), if_pos (by omega)]
          exact hr (i + 1 - 1) (by omega) (by omega)
        · rw [if_neg d, if_pos (by omega), if_neg (by omega), if_pos (by omega)]
          have := hs (i - 1) (by omega)
          rw [show i - 1 + 1 = i + 1 - 1 by omega] at this
          exact this
theorem good_sort (H : Cmp n c) (h2 : 2 ≤ n) : Good n c (kas_sort n) fun r => Inv n r ∧ SP c r n := by
  unfold kas_sort
  refine (Good.mono ?_ (good_count H h2 (Array.Perm.refl _))).bind
  rintro ⟨m, p⟩ ⟨I, h1, hm, hs⟩
  dsimp only at I h1 hm hs ⊢
  by_cases q : m < n
  · rw [if_pos q, show max m 1 = m by omega]
    exact good_bin H I (by omega) hs
  · rw [if_neg q]
    have : m = n := by omega
    subst this
    exact ⟨I, hs⟩
end
end

section
open PySem PySem.W PySem.Calls PyProof.Rows
set_option linter.unusedVariables false
set_option maxRecDepth 100000
/-- the surroundings, the frozen heap's fragment and the view left open -/
structure Xd where
  w : World
  mean : ExcName → Option Value
  mg : Str → Option Value
  mb : Str → Option Value
  K : Frag
  p : Program
  loose : List Str
noncomputable def Wx (x : Xd) : Wd :=
  { prog := PySem.Challenge.rw_ov0065_01.row.prog, w := x.w, K := x.K, p := x.p, loose := x.loose, mean := x.mean, mg := x.mg, mb := x.mb, vecC := 177 }

/-- a statement of a text, by its place -/
noncomputable def nth : List Stmt → Nat → Stmt
  | [], _ => default
  | a :: _, 0 => a
  | _ :: l, n + 1 => nth l n
noncomputable def stAt (i : Nat) : Stmt := nth PySem.Challenge.pw_ov0065_01.main.body i
noncomputable def psOf : Stmt → List Str
  | .FunctionDef _ a _ _ _ _ _ _ _ _ => a.args.map (·.arg)
  | _ => []
noncomputable def bdOf : Stmt → List Stmt
  | .FunctionDef _ _ b _ _ _ _ _ _ _ => b
  | .ClassDef _ _ _ b _ _ _ _ _ _ _ => b
  | _ => []
noncomputable def nsOf : Stmt → List (Str × NameKind)
  | .FunctionDef _ _ _ _ _ _ sc _ _ _ => sc.names
  | _ => []
/-- a def of the text stands at an address -/
def DefAt (W : Wd) (f : Addr) (st : Stmt) : Prop := ∃ fd, Fun W f (psOf st) (bdOf st) fd ∧ fd.scope.names = nsOf st
theorem callOK_d {n : Nat} {W : Wd} {f : Addr} {st : Stmt} {ps : List Str} {body : List Stmt} {ns : List (Str × NameKind)} {ds : List D} {Q : D → Prop} (D : DefAt W f st) (hp : psOf st = ps) (hb : bdOf st = body) (hns : nsOf st = ns) (hlen : ps.length = ds.length)
    (h : ∀ env, Ev env ns → WS W n env body (Par ps ds) (Back Q)) : CallOK W (n + 1) (.ref f) ds Q := by
  subst hp hb hns
  obtain ⟨fd, F, e⟩ := D
  exact callOK_ev F hlen e h
theorem callOwn_d {n : Nat} {W : Wd} {f : Addr} {st : Stmt} {ps : List Str} {e : Expr} {rp : Pos} {ns : List (Str × NameKind)} {ds : List D} {Q : List D → Prop} (D : DefAt W f st) (hp : psOf st = ps) (hb : bdOf st = [.Return (some e) rp]) (hns : nsOf st = ns) (hlen : ps.length = ds.length)
    (h : ∀ env, Ev env ns → WO W n env (Par ps ds) e Q) : CallOwn W (n + 1) (.ref f) ds Q := by
  subst hp hns
  obtain ⟨fd, F, q⟩ := D
  rw [hb] at F
  exact callOwn_ev F hlen q h
theorem DefAt.mk' {W : Wd} {f : Addr} {st : Stmt} {ps : List Str} {bd : List Stmt} {fd : FuncData} (hp : psOf st = ps) (F : Fun W f ps bd fd) (hb : bdOf st = bd) (hn : fd.scope.names = nsOf st) : DefAt W f st := by
  subst hp hb
  exact ⟨fd, F, hn⟩
theorem DefAt.is {W : Wd} {f : Addr} {st : Stmt} {oc od osl} {fd : FuncData} {bd : List Stmt} (D : DefAt W f st) (h : W.K.lookup f = some ⟨oc, od, .func fd, osl⟩) (hb : fd.body = .stmts bd) : bdOf st = bd ∧ nsOf st = fd.scope.names := by
  obtain ⟨fd', F, e⟩ := D
  obtain ⟨_, _, _, q⟩ := F.at_
  rw [h] at q
  injection q with q
  injection q with _ _ q _
  injection q with q
  subst q
  have := F.body
  rw [hb] at this
  injection this with this
  exact ⟨this.symm, e.symm⟩
theorem ws_lit2 {W : Wd} {n : Nat} {env : Env} {ns ns' : List (Str × NameKind)} {bd bd' : List Stmt} {σ : Sg} {P : Out → Prop} (ev : Ev env ns) (q : ns = ns') (e : bd = bd') (h : Ev env ns' → WS W n env bd' σ P) : WS W n env bd σ P := by
  subst q e
  exact h ev

theorem Fun.mk' {W : Wd} {f : Addr} {ps : List Str} {bd : List Stmt} {fd : FuncData} {oc od osl} (at_ : W.K.lookup f = some ⟨oc, od, .func fd, osl⟩) (code : codeIn W.K fd.code fd.qualname = true) (body : fd.body = .stmts bd)
  (clo : fd.closure = []) (glob : fd.globals = mainGlobals) (bi : fd.builtins = builtinsNs) (kind : fd.scope.kind = .function) (co : fd.scope.isCoroutine = false) (gen : fd.scope.isGenerator = false)
  (bind : ∀ vs : List Value, vs.length = ps.length → bindArgs fd ⟨vs, []⟩ = pure (ps.zip vs)) (nodup : ps.Nodup) (kinds : (ps.all fun x => fd.scope.names.lookup x == some .local || fd.scope.names.lookup x == some .cell) = true) :
  Fun W f ps bd fd := ⟨⟨oc, od, osl, at_⟩, code, body, clo, glob, bi, kind, co, gen, fun _ vs _ e => BindsTo.of_eq (bind vs e), nodup, fun x hx => by
    have := List.all_eq_true.mp kinds x hx
    rcases Bool.or_eq_true_iff.mp this with q | q
    · exact .inl (by simpa using q)
    · have q' : fd.scope.names.lookup x = some .cell := by simpa using q
      exact .inr ⟨q', fun n => cellsFrom_some _ _ _ (.inl q')⟩⟩
theorem Fun.mkd {W : Wd} {f : Addr} {ps : List Str} {bd : List Stmt} {fd : FuncData} {oc od osl} {T : Addr} {o : Obj} {items : Array Value} {n : Nat} (at_ : W.K.lookup f = some ⟨oc, od, .func fd, osl⟩) (code : codeIn W.K fd.code fd.qualname = true) (body : fd.body = .stmts bd)
  (clo : fd.closure = []) (glob : fd.globals = mainGlobals) (bi : fd.builtins = builtinsNs) (kind : fd.scope.kind = .function) (co : fd.scope.isCoroutine = false) (gen : fd.scope.isGenerator = false)
  (dT : fd.defaults = .ref T) (hT : W.K.lookup T = some o) (hs : o.data = .seq items n)
  (bind : ∀ vs : List Value, vs.length = ps.length → ∃ k, bindArgs fd ⟨vs, []⟩ = seqItems? fd.defaults >>= k ∧ k (some items) = pure (ps.zip vs)) (nodup : ps.Nodup) (kinds : (ps.all fun x => fd.scope.names.lookup x == some .local || fd.scope.names.lookup x == some .cell) = true) :
  Fun W f ps bd fd := ⟨⟨oc, od, osl, at_⟩, code, body, clo, glob, bi, kind, co, gen, fun s vs X e => by
    obtain ⟨k, h1, h2⟩ := bind vs e
    exact binds_K X dT hT hs h1 h2, nodup, fun x hx => by
    have := List.all_eq_true.mp kinds x hx
    rcases Bool.or_eq_true_iff.mp this with q | q
    · exact .inl (by simpa using q)
    · have q' : fd.scope.names.lookup x = some .cell := by simpa using q
      exact .inr ⟨q', fun n => cellsFrom_some _ _ _ (.inl q')⟩⟩
theorem bind3d {a b c : Str} {vs : List Value} {fd : FuncData} {items : Array Value} (h : ∀ x y z, ∃ k, bindArgs fd ⟨[x, y, z], []⟩ = seqItems? fd.defaults >>= k ∧ k (some items) = pure [(a, x), (b, y), (c, z)]) (e : vs.length = [a, b, c].length) : ∃ k, bindArgs fd ⟨vs, []⟩ = seqItems? fd.defaults >>= k ∧ k (some items) = pure ([a, b, c].zip vs) := by
  match vs, e with
  | [x, y, z], _ => exact h x y z
/-- the class's __init__ -/
def InitAt (K : Frag) (f : Addr) (st : Stmt) : Prop := ∃ (oc : Value) (od : Option Addr) (osl : Array (Option Value)) (fd : FuncData) (T : Addr) (o : Obj) (items : Array Value) (n : Nat), K.lookup f = some ⟨oc, od, .func fd, osl⟩ ∧ codeIn K fd.code fd.qualname = true ∧ fd.body = .stmts (bdOf st) ∧
  fd.defaults = .ref T ∧ K.lookup T = some o ∧ o.data = .seq items n ∧ (∀ a b c, ∃ k, bindArgs fd ⟨[a, b, c], []⟩ = seqItems? fd.defaults >>= k ∧ k (some items) = pure [(Str.ofString "self", a), (Str.ofString "kind", b), (Str.ofString "items", c), (Str.ofString "attrs", .none)]) ∧
  fd.scope = { kind := .function, names := [(Str.ofString "self", .local), (Str.ofString "kind", .local), (Str.ofString "items", .local), (Str.ofString "attrs", .local)], isGenerator := false, isCoroutine := false }
/-- what is asked of the frozen heap's fragment -/
structure KF (x : Xd) : Prop where
  d61 : DefAt (Wx x) 61 (stAt 6)
  d68 : DefAt (Wx x) 68 (stAt 7)
  d75 : DefAt (Wx x) 75 (stAt 8)
  d82 : DefAt (Wx x) 82 (stAt 9)
  d89 : DefAt (Wx x) 89 (stAt 10)
  d96 : DefAt (Wx x) 96 (stAt 11)
  d110 : DefAt (Wx x) 110 (stAt 13)
  d117 : DefAt (Wx x) 117 (stAt 14)
  d124 : DefAt (Wx x) 124 (stAt 15)
  d131 : DefAt (Wx x) 131 (stAt 16)
  d138 : DefAt (Wx x) 138 (stAt 17)
  d145 : DefAt (Wx x) 145 (stAt 18)
  d152 : DefAt (Wx x) 152 (stAt 19)
  d188 : DefAt (Wx x) 188 (stAt 23)
  d195 : DefAt (Wx x) 195 (stAt 24)
  d202 : DefAt (Wx x) 202 (stAt 25)
  d209 : DefAt (Wx x) 209 (stAt 27)
  d216 : DefAt (Wx x) 216 (stAt 29)
  d223 : DefAt (Wx x) 223 (stAt 30)
  d230 : DefAt (Wx x) 230 (stAt 31)
  d237 : DefAt (Wx x) 237 (stAt 32)
  d244 : DefAt (Wx x) 244 (stAt 33)
  d249 : DefAt (Wx x) 249 (stAt 34)
  d254 : DefAt (Wx x) 254 (stAt 35)
  d261 : DefAt (Wx x) 261 (stAt 36)
  d269 : DefAt (Wx x) 269 (stAt 37)
  d276 : DefAt (Wx x) 276 (stAt 39)
  d283 : DefAt (Wx x) 283 (stAt 41)
  d288 : DefAt (Wx x) 288 (stAt 42)
  d293 : DefAt (Wx x) 293 (stAt 43)
  d300 : DefAt (Wx x) 300 (stAt 44)
  d305 : DefAt (Wx x) 305 (stAt 45)
  d310 : DefAt (Wx x) 310 (stAt 46)
  d317 : DefAt (Wx x) 317 (stAt 48)
  d324 : DefAt (Wx x) 324 (stAt 49)
  d329 : DefAt (Wx x) 329 (stAt 50)
  d336 : DefAt (Wx x) 336 (stAt 51)
  d343 : DefAt (Wx x) 343 (stAt 52)
  d348 : DefAt (Wx x) 348 (stAt 53)
  d353 : DefAt (Wx x) 353 (stAt 54)
  d360 : DefAt (Wx x) 360 (stAt 55)
  d367 : DefAt (Wx x) 367 (stAt 56)
  d372 : DefAt (Wx x) 372 (stAt 57)
  g_gcd : Glb (Wx x) (Str.ofString "gcd") (.ref 61)
  b_abs : Bti (Wx x) (Str.ofString "abs") (.builtin "abs")
  g_make : Glb (Wx x) (Str.ofString "make") (.ref 68)
  g_is_na : Glb (Wx x) (Str.ofString "is_na") (.ref 82)
  g_is_nan : Glb (Wx x) (Str.ofString "is_nan") (.ref 89)
  g_is_finite : Glb (Wx x) (Str.ofString "is_finite") (.ref 96)
  g_neg : Glb (Wx x) (Str.ofString "neg") (.ref 110)
  g_add : Glb (Wx x) (Str.ofString "add") (.ref 117)
  g_ratio : Glb (Wx x) (Str.ofString "_law_ratio") (.ref 317)
  g_cell : Glb (Wx x) (Str.ofString "_law_cell") (.ref 324)
  g_below : Glb (Wx x) (Str.ofString "_law_below") (.ref 343)
  b_len : Bti (Wx x) (Str.ofString "len") (.builtin "len")
  b_range : Bti (Wx x) (Str.ofString "range") (.type "range")
  g_compare : Glb (Wx x) (Str.ofString "compare") (.ref 152)
  g_lackc : Glb (Wx x) (Str.ofString "is_lacking_cuts") (.ref 276)
  g_code : Glb (Wx x) (Str.ofString "interval_code") (.ref 300)
  g_Vector : Glb (Wx x) (Str.ofString "Vector") (.ref 177)
  g_double : Glb (Wx x) (Str.ofString "double") (.ref 195)
  b_list : Bti (Wx x) (Str.ofString "list") (.type "list")
  b_isinstance : Bti (Wx x) (Str.ofString "isinstance") (.builtin "isinstance")
  g_lacks : Glb (Wx x) (Str.ofString "is_lacking_sorting") (.ref 209)
  g_citems : Glb (Wx x) (Str.ofString "compare_items") (.ref 216)
  g_cplaces : Glb (Wx x) (Str.ofString "compare_places") (.ref 230)
  g_ckeys : Glb (Wx x) (Str.ofString "compare_keys") (.ref 237)
  g_mruns : Glb (Wx x) (Str.ofString "merge_runs") (.ref 244)
  g_msort : Glb (Wx x) (Str.ofString "merge_sort") (.ref 249)
  g_length : Glb (Wx x) (Str.ofString "length") (.ref 202)
  g_sortable : Glb (Wx x) (Str.ofString "check_sortable") (.ref 223)
  g_eachkey : Glb (Wx x) (Str.ofString "each_key") (.ref 254)
  g_kept : Glb (Wx x) (Str.ofString "kept_places") (.ref 261)
  g_orderby : Glb (Wx x) (Str.ofString "order_by") (.ref 269)
  g_toint : Glb (Wx x) (Str.ofString "to_whole") (.ref 145)
  g_fromint : Glb (Wx x) (Str.ofString "from_int") (.ref 75)
  g_sub : Glb (Wx x) (Str.ofString "sub") (.ref 124)
  g_mul : Glb (Wx x) (Str.ofString "mul") (.ref 131)
  g_div : Glb (Wx x) (Str.ofString "div") (.ref 138)
  g_room : Glb (Wx x) (Str.ofString "room") (.ref 188)
  g_rangeof : Glb (Wx x) (Str.ofString "range_of") (.ref 283)
  g_equal : Glb (Wx x) (Str.ofString "equal_breaks") (.ref 288)
  g_bvals : Glb (Wx x) (Str.ofString "break_values") (.ref 293)
  g_codes : Glb (Wx x) (Str.ofString "cut_codes") (.ref 305)
  g_breaks : Glb (Wx x) (Str.ofString "_law_breaks") (.ref 329)
  g_numbers : Glb (Wx x) (Str.ofString "_law_numbers") (.ref 336)
  g_turned : Glb (Wx x) (Str.ofString "_law_turned") (.ref 348)
  g_moved : Glb (Wx x) (Str.ofString "_law_moved") (.ref 353)
  g_homes : Glb (Wx x) (Str.ofString "_law_homes") (.ref 360)
  g_lawequal : Glb (Wx x) (Str.ofString "_law_equal") (.ref 367)
  g_places : Glb (Wx x) (Str.ofString "interval_places") (.ref 310)
  b_sorted : Bti (Wx x) (Str.ofString "sorted") (.builtin "sorted")
  a_kind : AttrK x.K 177 (Str.ofString "kind")
  a_items : AttrK x.K 177 (Str.ofString "items")
  i_vec : isIn x.K (.ref 177) 177 = true
  v_make : makesIn x.K 177 = true
  v_find : findIn x.K (.ref 177) "__init__" = some (some (.ref 167))
  v_type : typeIn x.K (.ref 167) = some (.type "function")
  v_init : InitAt x.K 167 (nth (bdOf (stAt 22)) 0)
  v_set : findIn x.K (.ref 177) "__setattr__" = some (some (.builtin "object.__setattr__"))
  v_plain : plainOver x.K 177 = true
  v_has : hasDictIn x.K 177 = true
  v_tkind : takerIn x.K 177 (Str.ofString "kind") = some none
  v_titems : takerIn x.K 177 (Str.ofString "items") = some none
  v_tattrs : takerIn x.K 177 (Str.ofString "attrs") = some none
  v_tshared : takerIn x.K 177 (Str.ofString "shared") = some none
  v_tloose : takerIn x.K 177 (Str.ofString "loose") = some none
  g_most : ∃ u, nsIn x.K mainGlobals (Str.ofString "MOST_LENGTH") = some (some (.int 1000000 u))
structure Xs extends Xd where
  ok : KF toXd
noncomputable def Wc (x : Xs) : Wd := Wx x.toXd
end

section
open PySem PySem.W PySem.Calls PyProof.Rows
set_option linter.unusedVariables false
set_option maxRecDepth 100000
local macro_rules
  | `(tactic| walk_at "lit") => `(tactic| (conv => lhs; whnf))
local macro_rules
  | `(tactic| walk_at "st") => `(tactic| first | (refine Ev.st (by assumption) ?_; rfl) | exact .inl rfl)
local macro_rules
  | `(tactic| walk_at "s") => `(tactic| first
    | ((with_reducible show WE _ _ _ _ _ _); first
      | ((with_reducible show WE _ _ _ _ (.Name _ _) _); refine we_name rfl ?_)
      | with_reducible refine we_int ?_
      | with_reducible refine we_bin ?_
      | ((with_reducible show WE _ _ _ _ (.Subscript (.Name _ _) _ _) _); refine we_item ?_)
      | ((with_reducible show WE _ _ _ _ (.Subscript _ _ _) _); refine we_itemA ?_)
      | ((with_reducible show WE _ _ _ _ (.Compare _ _ _ _) _); refine we_cmp ?_)
      | with_reducible refine we_tuple ?_
      | with_reducible refine we_none ?_
      | with_reducible refine we_bool ?_
      | with_reducible refine we_str ?_
      | with_reducible refine we_not ?_
      | with_reducible refine we_neg ?_
      | with_reducible refine we_ifexp ?_
      | with_reducible refine we_one ?_
      | with_reducible refine we_and ?_
      | with_reducible refine we_or ?_)
    | ((with_reducible show WL _ _ _ _ _ _); first
      | with_reducible refine wl_nil ?_
      | refine wl_cons ?_)
    | ((with_reducible show V2 _ _ _ _ _ _); first
      | with_reducible refine v_add ?_
      | with_reducible refine v_sub ?_
      | with_reducible refine v_is ?_
      | with_reducible refine v_eq ?_
      | with_reducible refine v_lt ?_
      | with_reducible refine v_le ?_
      | with_reducible refine v_gt ?_
      | with_reducible refine v_ge ?_
      | with_reducible refine v_ne ?_
      | with_reducible refine v_isnot ?_
      | with_reducible refine v_eqs ?_)
    | ((with_reducible show WT _ _ _ _ _ _); first
      | ((with_reducible show WT _ _ _ _ (.Compare _ _ _ _) _); refine wt_cmp ?_)
      | with_reducible refine wt_and_nil ?_
      | with_reducible refine wt_or_nil ?_
      | with_reducible refine wt_and ?_
      | with_reducible refine wt_or ?_
      | with_reducible refine wt_not ?_
      | ((with_reducible show WT _ _ _ _ (.Name _ _) _); refine wt_val ?_)
      | ((with_reducible show WT _ _ _ _ (.Call _ _ _ _) _); refine wt_val ?_))
    | ((with_reducible show WS _ _ _ _ _ _); first
      | with_reducible refine ws_nil ?_
      | with_reducible refine ws_cons ?_)
    | ((with_reducible show WX _ _ _ _ _ _); first
      | ((with_reducible show WX _ _ _ (.Assign [.Name _ _] (.List _ _) _) _ _); refine wx_assign_own (by walk_at "st") (wo_list ?_))
      | ((with_reducible show WX _ _ _ (.Assign [.Name _ _] _ _) _ _); (fail_if_success (with_reducible show WX _ _ _ (.Assign [.Name _ _] (.ListComp _ _ _ _) _) _ _)); refine wx_assign (by walk_at "st") ?_)
      | with_reducible refine wx_if ?_
      | with_reducible refine wx_ret ?_
      | with_reducible refine wx_continue ?_)
    | with_reducible refine seq_next ?_
    | with_reducible refine seq_ret ?_
    | with_reducible refine seq_brk ?_
    | with_reducible refine seq_cont ?_
    | with_reducible refine back_ret ?_
    | with_reducible refine back_next ?_
    | with_reducible refine turnN_ret ?_
    | ((with_reducible show @ite _ _ _ _ _); first
      | (refine if_lf ?_)
      | (refine if_lt ?_))
    | ((with_reducible show @Exists _ _); first
      | (refine ⟨_, rfl, ?_⟩)
      | (refine ⟨0, _, rfl, item0, ?_⟩)
      | (refine ⟨1, _, rfl, item1, ?_⟩))
    | ((with_reducible show And _ _); refine ⟨Nat.le_of_ble_eq_true rfl, ?_⟩))
local macro_rules
  | `(tactic| walk_at "ss") => `(tactic| repeat walk_at "s")
local macro_rules
  | `(tactic| walk_at "d") => `(tactic| refine if_f den_ne ?_)
local macro_rules
  | `(tactic| walk_at "g") => `(tactic| (refine Ev.g (by assumption) ?_; rfl))
local macro_rules
  | `(tactic| walk_at "ns") => `(tactic| (dsimp only; first | done | rfl))
local macro_rules
  | `(tactic| walk_at "si") => `(tactic| repeat ((fail_if_success (with_reducible show WX _ _ _ (.If _ _ _ _) _ _)); walk_at "s"))
local macro_rules
  | `(tactic| walk_at "sb") => `(tactic| repeat' (first | walk_at "s" | refine if_b (fun _ => ?_) (fun _ => ?_)))
theorem gcd_step (x y : Int) : Int.gcd y (x % y) = Int.gcd x y := by
  have := Int.gcd_add_mul_left_right y (x % y) (x / y)
  rw [Int.emod_add_mul_ediv] at this
  rw [← this, Int.gcd_comm]

set_option maxHeartbeats 400000 in
theorem c_gcd (x : Xs) (a b : Int) (ha : 0 ≤ a) (hb : 0 ≤ b) : CallOK (Wc x) 1 (.ref 61) [.int a, .int b] (fun d => d = .int (Int.gcd a b)) := by
  refine callOK_d (ps := [Str.ofString "a", Str.ofString "b"]) (x.ok.d61) rfl (by walk_at "lit") (by walk_at "lit") rfl ?_
  intro env ev
  refine ws_cons ?_
  refine wx_while (fun k τ => ∃ x y : Int, τ = [(Str.ofString "a", .val (.int x)), (Str.ofString "b", .val (.int y))] ∧ 0 ≤ x ∧ 0 ≤ y ∧ k = y.toNat ∧ Int.gcd x y = Int.gcd a b) ?_ ⟨a, b, rfl, ha, hb, rfl, rfl⟩ Has.refl
  rintro k _ ⟨x, y, rfl, hx, hy, rfl, hg⟩
  walk_at "ss"
  refine if_b (fun h => ?_) (fun h => ?_)
  · have hy0 : 0 < y := by simpa using h
    walk_at "s"
    refine wx_swap (ev.stor rfl) (ev.stor rfl) ?_ rfl (ev.sws rfl)
    walk_at "ss"
    refine v_mod hy0 ?_
    walk_at "ss"
    refine ⟨_, _, rfl, ?_⟩
    walk_at "ss"
    refine ⟨_, _, ?_, ⟨y, x % y, rfl, hy, Int.emod_nonneg _ (by omega), rfl, ?_⟩, ?_⟩
    · have := Int.emod_lt_of_pos x hy0
      have := Int.emod_nonneg x (b := y) (by omega)
      omega
    · rw [← hg]; exact gcd_step x y
    · exact Has.cons rfl (Has.cons rfl Has.nil)
  · have hy0 : y = 0 := by simp at h; omega
    walk_at "ss"
    subst hy0
    show D.int x = D.int _
    rw [← hg, Int.gcd_zero_right]
    congr 1
    omega

theorem g_gcd (x : Xs) : Glb (Wc x) (Str.ofString "gcd") (.ref 61) := x.ok.g_gcd
theorem b_abs (x : Xs) : Bti (Wc x) (Str.ofString "abs") (.builtin "abs") := x.ok.b_abs
theorem g_make (x : Xs) : Glb (Wc x) (Str.ofString "make") (.ref 68) := x.ok.g_make
theorem g_is_na (x : Xs) : Glb (Wc x) (Str.ofString "is_na") (.ref 82) := x.ok.g_is_na
theorem g_is_nan (x : Xs) : Glb (Wc x) (Str.ofString "is_nan") (.ref 89) := x.ok.g_is_nan
theorem g_is_finite (x : Xs) : Glb (Wc x) (Str.ofString "is_finite") (.ref 96) := x.ok.g_is_finite
theorem g_neg (x : Xs) : Glb (Wc x) (Str.ofString "neg") (.ref 110) := x.ok.g_neg
theorem g_add (x : Xs) : Glb (Wc x) (Str.ofString "add") (.ref 117) := x.ok.g_add

theorem c_is_na (X : Xs) (q : Rat) : CallOK (Wc X) 1 (.ref 82) [rat q] (fun d => d = .bool false) := by
  refine callOK_d (ps := [Str.ofString "x"]) (X.ok.d82) rfl (by walk_at "lit") (by walk_at "lit") rfl ?_
  intro env ev
  walk_at "ss"
  refine if_b (fun h => ?_) (fun h => ?_)
  · walk_at "ss"
    have := den_ne (q := q)
    simpa using this
  · simp at h
    walk_at "ss"
    simp [h]
theorem c_is_nan (X : Xs) (q : Rat) : CallOK (Wc X) 1 (.ref 89) [rat q] (fun d => d = .bool false) := by
  refine callOK_d (ps := [Str.ofString "x"]) (X.ok.d89) rfl (by walk_at "lit") (by walk_at "lit") rfl ?_
  intro env ev
  walk_at "ss"
  refine if_b (fun h => ?_) (fun h => ?_)
  · walk_at "ss"
    have := den_ne (q := q)
    simpa using this
  · simp at h
    walk_at "ss"
    simp [h]
theorem c_is_finite (X : Xs) (q : Rat) : CallOK (Wc X) 1 (.ref 96) [rat q] (fun d => d = .bool true) := by
  refine callOK_d (ps := [Str.ofString "x"]) (X.ok.d96) rfl (by walk_at "lit") (by walk_at "lit") rfl ?_
  intro env ev
  walk_at "ss"
  have := q.den_pos
  simp [this]
theorem c_from_int (X : Xs) (n : Int) : CallOK (Wc X) 1 (.ref 75) [.int n] (fun d => d = rat (n : Rat)) := by
  refine callOK_d (ps := [Str.ofString "n"]) (X.ok.d75) rfl (by walk_at "lit") (by walk_at "lit") rfl ?_
  intro env ev
  walk_at "ss"
  rfl
theorem c_neg (X : Xs) (q : Rat) : CallOK (Wc X) 1 (.ref 110) [rat q] (fun d => d = rat (-q)) := by
  refine callOK_d (ps := [Str.ofString "x"]) (X.ok.d110) rfl (by walk_at "lit") (by walk_at "lit") rfl ?_
  intro env ev
  walk_at "ss"
  show _ = D.tup [.int (-q).num, .int (-q).den]
  have e : (-q).num = -q.num := rfl
  rw [e, Int.zero_sub]
  rfl
set_option maxHeartbeats 400000 in
theorem c_make (X : Xs) (n d : Int) (hd : d ≠ 0) (hz : Sz d) : CallOK (Wc X) 2 (.ref 68) [.int n, .int d] (fun r => r = rat (Rat.divInt n d)) := by
  refine callOK_d (ps := [Str.ofString "n", Str.ofString "d"]) (X.ok.d68) rfl (by walk_at "lit") (by walk_at "lit") rfl ?_
  intro env ev
  walk_at "ss"
  refine if_f (by simpa using hd) ?_
  walk_at "ss"
  refine if_b (fun h => ?_) (fun h => ?_)
  · have h' : d < 0 := by simpa using h
    walk_at "ss"
    refine we_call (g_gcd X) (by walk_at "g") ?_
    walk_at "s"
    refine we_builtin (b_abs X) (by walk_at "g") ?_
    walk_at "ss"
    refine c_abs ?_
    walk_at "ss"
    refine (c_gcd X _ _ (by omega) (by omega)).eq (by decide) ?_
    walk_at "ss"
    have hg : 0 < (0 - d) := by omega
    have hgp : 0 < Int.gcd ((0 - n).natAbs : Int) (0 - d) := Int.gcd_pos_of_ne_zero_right _ (by omega)
    have hgl : Int.gcd ((0 - n).natAbs : Int) (0 - d) ≤ d.natAbs := by
      have := Int.gcd_le_natAbs_right ((0 - n).natAbs : Int) (b := 0 - d) (by omega)
      omega
    have hgz : Sz (Int.gcd ((0 - n).natAbs : Int) (0 - d)) := by unfold Sz at *; rw [Int.natAbs_natCast]; exact Nat.lt_of_le_of_lt hgl hz
    refine v_div (by omega) hgz ?_
    walk_at "ss"
    refine v_div (by omega) hgz ?_
    walk_at "ss"
    rw [show Rat.divInt n d = Rat.divInt (0 - n) (0 - d) by rw [Int.zero_sub, Int.zero_sub, Rat.neg_divInt_neg]]
    refine rat_mk hg ?_
    rw [Int.gcd_eq_natAbs_gcd_natAbs, Int.gcd_eq_natAbs_gcd_natAbs, Int.natAbs_natCast]
  · have h' : 0 < d := by simp at h; omega
    walk_at "ss"
    refine we_call (g_gcd X) (by walk_at "g") ?_
    walk_at "s"
    refine we_builtin (b_abs X) (by walk_at "g") ?_
    walk_at "ss"
    refine c_abs ?_
    walk_at "ss"
    refine (c_gcd X _ _ (by omega) (by omega)).eq (by decide) ?_
    walk_at "ss"
    have hgp : 0 < Int.gcd (n.natAbs : Int) d := Int.gcd_pos_of_ne_zero_right _ (by omega)
    have hgl : Int.gcd (n.natAbs : Int) d ≤ d.natAbs := Int.gcd_le_natAbs_right _ (by omega)
    have hgz : Sz (Int.gcd (n.natAbs : Int) d) := by unfold Sz at *; rw [Int.natAbs_natCast]; exact Nat.lt_of_le_of_lt hgl hz
    refine v_div (by omega) hgz ?_
    walk_at "ss"
    refine v_div (by omega) hgz ?_
    walk_at "ss"
    refine rat_mk h' ?_
    rw [Int.gcd_eq_natAbs_gcd_natAbs, Int.gcd_eq_natAbs_gcd_natAbs, Int.natAbs_natCast]

set_option maxHeartbeats 400000 in
theorem c_add (X : Xs) (x y : Rat) (hx : Sm 1000 x) (hy : Sm 1000 y) : CallOK (Wc X) 3 (.ref 117) [rat x, rat y] (fun d => d = rat (x + y)) := by
  refine callOK_d (ps := [Str.ofString "x", Str.ofString "y"]) (X.ok.d117) rfl (by walk_at "lit") (by walk_at "lit") rfl ?_
  intro env ev
  walk_at "ss"
  refine we_call (g_is_na X) (by walk_at "g") ?_
  walk_at "ss"
  refine (c_is_na X x).eq (by decide) ?_
  walk_at "ss"
  refine we_call (g_is_na X) (by walk_at "g") ?_
  walk_at "ss"
  refine (c_is_na X y).eq (by decide) ?_
  walk_at "ss"
  walk_at "d"
  walk_at "ss"
  walk_at "d"
  walk_at "ss"
  walk_at "d"
  walk_at "ss"
  refine we_call (g_make X) (by walk_at "g") ?_
  walk_at "ss"
  refine v_mul hx.n hy.d ?_
  walk_at "ss"
  refine v_mul hy.n hx.d ?_
  walk_at "ss"
  refine v_mul hx.d hy.d ?_
  walk_at "ss"
  refine (c_make X _ _ (Int.ne_of_gt (Int.mul_pos (den_pos x) (den_pos y))) (Sz.of (hx.lcm hy) (by decide))).eq (by decide) ?_
  walk_at "ss"
  rw [add_eq]
theorem c_sub (X : Xs) (x y : Rat) (hx : Sm 1000 x) (hy : Sm 1000 y) : CallOK (Wc X) 4 (.ref 124) [rat x, rat y] (fun d => d = rat (x - y)) := by
  refine callOK_d (ps := [Str.ofString "x", Str.ofString "y"]) (X.ok.d124) rfl (by walk_at "lit") (by walk_at "lit") rfl ?_
  intro env ev
  walk_at "ss"
  refine we_call (g_add X) (by walk_at "g") ?_
  walk_at "ss"
  refine we_call (g_neg X) (by walk_at "g") ?_
  walk_at "ss"
  refine (c_neg X y).eq (by decide) ?_
  walk_at "ss"
  refine (c_add X _ _ hx hy.neg).eq (by decide) ?_
  walk_at "ss"
  rw [Rat.sub_eq_add_neg]
set_option maxHeartbeats 400000 in
theorem c_mul (X : Xs) (x y : Rat) (hx : Sm 1000 x) (hy : Sm 1000 y) : CallOK (Wc X) 3 (.ref 131) [rat x, rat y] (fun d => d = rat (x * y)) := by
  refine callOK_d (ps := [Str.ofString "x", Str.ofString "y"]) (X.ok.d131) rfl (by walk_at "lit") (by walk_at "lit") rfl ?_
  intro env ev
  walk_at "ss"
  refine we_call (g_is_na X) (by walk_at "g") ?_
  walk_at "ss"
  refine (c_is_na X x).eq (by decide) ?_
  walk_at "ss"
  refine we_call (g_is_na X) (by walk_at "g") ?_
  walk_at "ss"
  refine (c_is_na X y).eq (by decide) ?_
  walk_at "ss"
  refine we_call (g_make X) (by walk_at "g") ?_
  walk_at "ss"
  refine v_mul hx.n hy.n ?_
  walk_at "ss"
  refine v_mul hx.d hy.d ?_
  walk_at "ss"
  refine (c_make X _ _ (Int.ne_of_gt (Int.mul_pos (den_pos x) (den_pos y))) (Sz.of (hx.lcm hy) (by decide))).eq (by decide) ?_
  walk_at "ss"
  rw [mul_eq]
set_option maxHeartbeats 400000 in
theorem c_div (X : Xs) (x y : Rat) (hx : Sm 1000 x) (hy : Sm 1000 y) (h0 : y.num ≠ 0) : CallOK (Wc X) 3 (.ref 138) [rat x, rat y] (fun d => d = rat (x / y)) := by
  refine callOK_d (ps := [Str.ofString "x", Str.ofString "y"]) (X.ok.d138) rfl (by walk_at "lit") (by walk_at "lit") rfl ?_
  intro env ev
  walk_at "ss"
  refine we_call (g_is_na X) (by walk_at "g") ?_
  walk_at "ss"
  refine (c_is_na X x).eq (by decide) ?_
  walk_at "ss"
  refine we_call (g_is_na X) (by walk_at "g") ?_
  walk_at "ss"
  refine (c_is_na X y).eq (by decide) ?_
  walk_at "ss"
  walk_at "d"
  walk_at "ss"
  walk_at "d"
  walk_at "ss"
  refine we_call (g_make X) (by walk_at "g") ?_
  walk_at "ss"
  refine v_mul hx.n hy.d ?_
  walk_at "ss"
  refine v_mul hx.d hy.n ?_
  walk_at "ss"
  refine (c_make X _ _ (Int.mul_ne_zero (Int.ne_of_gt (den_pos x)) h0) (Sz.of (k := 2000) (by rw [Int.natAbs_mul]; exact lt_mul hx.2 hy.1) (by decide))).eq (by decide) ?_
  walk_at "ss"
  rw [div_eq]
theorem c_to_whole (X : Xs) (n : Nat) : CallOK (Wc X) 2 (.ref 145) [rat ((n : Int) : Rat)] (fun d => d = .int n) := by
  refine callOK_d (ps := [Str.ofString "x"]) (X.ok.d145) rfl (by walk_at "lit") (by walk_at "lit") rfl ?_
  intro env ev
  walk_at "ss"
  refine we_call (g_is_finite X) (by walk_at "g") ?_
  walk_at "ss"
  refine (c_is_finite X _).eq (by decide) ?_
  walk_at "ss"
  refine we_builtin (b_abs X) (by walk_at "g") ?_
  walk_at "ss"
  refine c_abs ?_
  walk_at "ss"
  refine v_div (den_pos _) (show Sz 1 from Sz.of (k := 1) (by decide) (by decide)) ?_
  walk_at "ss"
  have h1 : ((n : Int) : Rat).num = n := rfl
  have h2 : ((n : Int) : Rat).den = 1 := rfl
  rw [h1, h2]; simp
set_option maxHeartbeats 400000 in
theorem c_compare (X : Xs) (x y : Rat) (hx : Sm 1000 x) (hy : Sm 1000 y) : CallOK (Wc X) 2 (.ref 152) [rat x, rat y] (fun d => d = .int (cmpq x y)) := by
  refine callOK_d (ps := [Str.ofString "x", Str.ofString "y"]) (X.ok.d152) rfl (by walk_at "lit") (by walk_at "lit") rfl ?_
  intro env ev
  walk_at "ss"
  refine we_call (g_is_na X) (by walk_at "g") ?_
  walk_at "ss"
  refine (c_is_na X x).eq (by decide) ?_
  walk_at "ss"
  refine we_call (g_is_na X) (by walk_at "g") ?_
  walk_at "ss"
  refine (c_is_na X y).eq (by decide) ?_
  walk_at "ss"
  walk_at "d"
  walk_at "ss"
  refine v_mul hx.n hy.d ?_
  walk_at "ss"
  refine v_mul hy.n hx.d ?_
  walk_at "ss"
  walk_at "d"
  walk_at "ss"
  walk_at "d"
  walk_at "ss"
  refine if_b (fun h => ?_) (fun h => ?_)
  · walk_at "ss"
    rw [cmpq, if_pos (eq_iff_cross.mpr (by simpa using h))]
  · have hne : x ≠ y := fun e => by have := eq_iff_cross.mp e; simp [this] at h
    walk_at "ss"
    rw [cmpq, if_neg hne]
    refine if_b (fun h => ?_) (fun h => ?_)
    · walk_at "ss"
      rw [if_pos ((Rat.lt_iff _ _).mpr (by simpa using h))]
    · walk_at "ss"
      rw [if_neg (fun e => by have := (Rat.lt_iff _ _).mp e; simp at h; omega)]
set_option maxHeartbeats 400000 in
theorem c_ratio (X : Xs) (a b : Int) (hb : 0 < b) (hz : Sz b) : CallOK (Wc X) 1 (.ref 317) [.int a, .int b] (fun d => d = rat (Rat.divInt a b)) := by
  refine callOK_d (ps := [Str.ofString "over", Str.ofString "under"]) (X.ok.d317) rfl (by walk_at "lit") (by walk_at "lit") rfl ?_
  intro env ev
  walk_at "s"
  walk_at "s"
  refine WE.mono (Q := fun d => d = .int a.natAbs) ?_ ?_
  · walk_at "ss"
    refine if_b (fun h => ?_) (fun h => ?_)
    · walk_at "ss"
      have : 0 ≤ a := by simpa using h
      show D.int a = D.int (a.natAbs : Int)
      rw [show (a.natAbs : Int) = a by omega]
    · walk_at "ss"
      have : ¬ 0 ≤ a := by simpa using h
      show D.int (0 - a) = D.int (a.natAbs : Int)
      rw [show (a.natAbs : Int) = 0 - a by omega]
  rintro _ rfl
  walk_at "ss"
  refine wx_while (fun k τ => ∃ x y : Int, τ = [(Str.ofString "y", .val (.int y)), (Str.ofString "x", .val (.int x)), (Str.ofString "over", .val (.int a)), (Str.ofString "under", .val (.int b))] ∧ 0 ≤ x ∧ 0 ≤ y ∧ k = y.toNat ∧ Int.gcd x y = Int.gcd a.natAbs b) ?_ ⟨a.natAbs, b, rfl, by omega, by omega, rfl, rfl⟩ Has.refl
  rintro k _ ⟨x, y, rfl, hx, hy, rfl, hg⟩
  walk_at "ss"
  refine if_b (fun h => ?_) (fun h => ?_)
  · have hy0 : 0 < y := by simpa using h
    walk_at "s"
    refine wx_swap (ev.stor rfl) (ev.stor rfl) ?_ rfl (ev.sws rfl)
    walk_at "ss"
    refine v_mod hy0 ?_
    walk_at "ss"
    refine ⟨_, _, rfl, ?_⟩
    walk_at "ss"
    refine ⟨_, _, ?_, ⟨y, x % y, rfl, hy, Int.emod_nonneg _ (by omega), rfl, ?_⟩, ?_⟩
    · have := Int.emod_lt_of_pos x hy0
      have := Int.emod_nonneg x (b := y) (by omega)
      omega
    · rw [← hg]; exact gcd_step x y
    · exact Has.cons rfl (Has.cons rfl (Has.cons rfl (Has.cons rfl Has.nil)))
  · have hy0 : y = 0 := by simp at h; omega
    subst hy0
    rw [Int.gcd_zero_right] at hg
    have hxe : x = (Int.gcd a b : Int) := by
      have : (x.natAbs : Int) = x := by omega
      rw [← this, hg, Int.gcd_eq_natAbs_gcd_natAbs, Int.gcd_eq_natAbs_gcd_natAbs, Int.natAbs_natCast]
    have hgp : 0 < Int.gcd a b := Int.gcd_pos_of_ne_zero_right _ (by omega)
    have hgl : Int.gcd a b ≤ b.natAbs := Int.gcd_le_natAbs_right _ (by omega)
    have hgz : Sz x := by rw [hxe]; unfold Sz at *; rw [Int.natAbs_natCast]; exact Nat.lt_of_le_of_lt hgl hz
    walk_at "ss"
    refine v_div (by omega) hgz ?_
    walk_at "ss"
    refine v_div (by omega) hgz ?_
    walk_at "ss"
    exact rat_mk hb hxe
theorem g_ratio (X : Xs) : Glb (Wc X) (Str.ofString "_law_ratio") (.ref 317) := X.ok.g_ratio
theorem g_cell (X : Xs) : Glb (Wc X) (Str.ofString "_law_cell") (.ref 324) := X.ok.g_cell
theorem g_below (X : Xs) : Glb (Wc X) (Str.ofString "_law_below") (.ref 343) := X.ok.g_below
theorem b_len (X : Xs) : Bti (Wc X) (Str.ofString "len") (.builtin "len") := X.ok.b_len
theorem b_range (X : Xs) : Bti (Wc X) (Str.ofString "range") (.type "range") := X.ok.b_range

def cell (ns : List Int) (i : Nat) : Nat := (ns[i]?.getD 0).natAbs
theorem c_cell (X : Xs) (ns : List Int) (hn : ns.length ≤ 63) (i : Nat) : CallOK (Wc X) 1 (.ref 324) [intl ns, .int i] (fun d => d = .int (cell ns i)) := by
  refine callOK_d (ps := [Str.ofString "script", Str.ofString "spot"]) (X.ok.d324) rfl (by walk_at "lit") (by walk_at "lit") rfl ?_
  intro env ev
  walk_at "ss"
  refine we_builtin (b_len X) (by walk_at "g") ?_
  walk_at "ss"
  refine c_len (by simp; omega) ?_
  walk_at "ss"
  refine if_b (fun h => ?_) (fun h => ?_)
  · have hi : i < ns.length := by simpa using h
    refine we_builtin (b_abs X) (by walk_at "g") ?_
    walk_at "ss"
    refine ⟨i, _, rfl, intl_item (List.getElem?_eq_getElem hi) (by omega), ?_⟩
    walk_at "ss"
    refine c_abs ?_
    unfold cell; rw [List.getElem?_eq_getElem hi]; rfl
  · have hi : ns.length ≤ i := by simpa using h
    walk_at "ss"
    unfold cell; rw [List.getElem?_eq_none hi]; rfl
theorem c_below (X : Xs) (x y : Rat) (hx : Sm 1000 x) (hy : Sm 1000 y) : CallOK (Wc X) 1 (.ref 343) [rat x, rat y] (fun d => d = .bool (decide (x < y))) := by
  refine callOK_d (ps := [Str.ofString "one", Str.ofString "other"]) (X.ok.d343) rfl (by walk_at "lit") (by walk_at "lit") rfl ?_
  intro env ev
  walk_at "ss"
  refine v_mul hx.n hy.d ?_
  walk_at "ss"
  refine v_mul hy.n hx.d ?_
  walk_at "ss"
  congr 1
  rw [decide_eq_decide, Rat.lt_iff]

def ofRat (g : Rat → Rat) : D → D
  | .tup [.int n, .int d] => rat (g (Rat.divInt n d))
  | d => d
theorem ofRat_rat {g : Rat → Rat} {q : Rat} : ofRat g (rat q) = rat (g q) := by
  show rat (g (Rat.divInt q.num q.den)) = _
  rw [Rat.num_divInt_den]
theorem filter_t {α : Type} (l : List α) : l.filter (fun _ => true) = l := by induction l <;> simp_all
theorem ofRat_rats {g : Rat → Rat} {l : List Rat} : ((l.map rat).filter fun _ => true).map (ofRat g) = (l.map g).map rat := by
  rw [filter_t, List.map_map, List.map_map]
  exact List.map_congr_left fun q _ => ofRat_rat
theorem c_turned (X : Xs) (l : List Rat) (hl : l.length ≤ 1000) : CallOwn (Wc X) 1 (.ref 348) [rats l] (fun d => d = (l.map fun q => -q).map rat) := by
  refine callOwn_d (ps := [Str.ofString "values"]) (X.ok.d348) rfl (by walk_at "lit") (by walk_at "lit") rfl ?_
  intro env ev
  refine wo_comp (fun _ => true) (ofRat fun q => -q) (τ := []) ⟨rfl, by decide, rfl, by decide, ev.clo rfl⟩ Cap.nil ?_
  refine wi_list ?_
  walk_at "ss"
  refine ⟨⟨by simp; omega, fun d hd C => .inl ⟨rfl, rfl⟩, fun d hd _ C => ?_⟩, ofRat_rats⟩
  obtain ⟨q, _, rfl⟩ := List.mem_map.mp hd
  walk_at "ss"
  rw [ofRat_rat, Int.zero_sub]
  rfl
theorem c_moved (X : Xs) (l : List Rat) (hl : l.length ≤ 1000) (hs : ∀ q ∈ l, Sm 100 q) : CallOK (Wc X) 2 (.ref 353) [rats l, .tup [.int 7, .int 3]] (fun d => d = rats (l.map fun q => q + Rat.divInt 7 3)) := by
  refine callOK_d (ps := [Str.ofString "values", Str.ofString "by"]) (X.ok.d353) rfl (by walk_at "lit") (by walk_at "lit") rfl ?_
  intro env ev
  walk_at "ss"
  refine WO.frozen ?_
  refine wo_comp (fun _ => true) (ofRat fun q => q + Rat.divInt 7 3) (τ := [(Str.ofString "by", .val (.tup [.int 7, .int 3]))]) ⟨rfl, by decide, rfl, by decide, ev.clo rfl⟩ (Cap.cons rfl rfl (ev.cell rfl) Cap.nil) ?_
  refine wi_list ?_
  walk_at "ss"
  refine ⟨⟨by simp; omega, fun d hd C => .inl ⟨rfl, rfl⟩, fun d hd _ C => ?_⟩, ?_⟩
  · obtain ⟨q, hq, rfl⟩ := List.mem_map.mp hd
    have hq := (hs q hq)
    refine we_call (g_ratio X) rfl ?_
    have h7 : Sz 7 := Sz.of (k := 10) (by decide) (by decide)
    have h3 : Sz 3 := Sz.of (k := 10) (by decide) (by decide)
    walk_at "ss"
    refine v_mul hq.n h3 ?_
    walk_at "ss"
    refine v_mul h7 hq.d ?_
    walk_at "ss"
    refine v_mul hq.d h3 ?_
    walk_at "ss"
    refine (c_ratio X _ _ (by have := den_pos q; omega) (Sz.of (k := 110) (by have := hq.2; rw [Int.natAbs_mul, Int.natAbs_natCast]; exact lt_mul (m := 10) this (by decide)) (by decide))).eq (by decide) ?_
    rw [ofRat_rat]
    have h := Rat.divInt_add_divInt q.num 7 (d₁ := q.den) (d₂ := 3) (by have := q.den_nz; omega) (by decide)
    rw [Rat.num_divInt_den] at h
    rw [h]
  · show D.lst _ = D.lst _
    rw [ofRat_rats]
theorem divInt_inj {a b u : Int} (hu : u ≠ 0) (h : Rat.divInt a u = Rat.divInt b u) : a = b := by
  rw [Rat.divInt_eq_divInt_iff hu hu] at h
  exact Int.eq_of_mul_eq_mul_right hu h
theorem nodup_append1 {l : List Int} {a : Int} (h : l.Nodup) (ha : a ∉ l) : (l ++ [a]).Nodup := by
  rw [List.nodup_append]
  refine ⟨h, by simp, fun x hx y hy e => ?_⟩
  rw [List.mem_singleton] at hy
  subst e; subst hy; exact ha hx
structure BrkOk (qs : List Rat) : Prop where
  nodup : qs.Nodup
  two : 2 ≤ qs.length
  six : qs.length ≤ 6
  sm : ∀ q ∈ qs, Sm 5 q
theorem brkOk {os : List Int} {u : Int} (hu : 0 < u ∧ u ≤ 4) (hn : os.Nodup) (h2 : 2 ≤ os.length) (h6 : os.length ≤ 6) (hb : ∀ o ∈ os, -10 ≤ o ∧ o ≤ 10) : BrkOk (os.map fun o => Rat.divInt o u) := by
  refine ⟨?_, by simpa, by simpa, fun q hq => ?_⟩
  · exact List.Pairwise.map _ (fun a b hab e => hab (divInt_inj (by omega) e)) hn
  · obtain ⟨o, ho, rfl⟩ := List.mem_map.mp hq
    have := hb o ho
    exact Sm.divInt (by omega) (by omega) (by omega)

def ratioOf (u : Int) : D → D
  | .int o => rat (Rat.divInt o u)
  | d => d
set_option maxHeartbeats 1000000 in
theorem c_breaks (X : Xs) (ns : List Int) (hn : ns.length ≤ 63) : CallOK (Wc X) 2 (.ref 329) [intl ns] (fun d => ∃ qs, d = rats qs ∧ BrkOk qs) := by
  refine callOK_d (ps := [Str.ofString "script"]) (X.ok.d329) rfl (by walk_at "lit") (by walk_at "lit") rfl ?_
  intro env ev
  walk_at "ss"
  refine we_call (g_cell X) (by walk_at "g") ?_
  walk_at "ss"
  refine (c_cell X ns hn 1).eq (by decide) ?_
  walk_at "ss"
  refine v_mod (by decide) ?_
  walk_at "ss"
  generalize hu : (1 + (cell ns 1 : Int) % 4) = u
  have hu' : 0 < u ∧ u ≤ 4 := by omega
  · walk_at "ss"
    refine wx_goes (fun τ => ∃ os : List Int, τ = [(Str.ofString "found", .own (os.map .int)), (Str.ofString "under", .val (.int u)), (Str.ofString "script", .val (intl ns))] ∧ os.Nodup ∧ os.length ≤ 6 ∧ 1 ≤ os.length ∧ ∀ o ∈ os, -7 ≤ o ∧ o ≤ 7) ?_ ?_
    · refine wx_for_n (fun i τ => ∃ os : List Int, τ = [(Str.ofString "found", .own (os.map .int)), (Str.ofString "under", .val (.int u)), (Str.ofString "script", .val (intl ns))] ∧ os.Nodup ∧ os.length ≤ i ∧ (0 < i → 1 ≤ os.length) ∧ ∀ o ∈ os, -7 ≤ o ∧ o ≤ 7) (by walk_at "st") ?_
      refine wi_range2 (b_range X) (by walk_at "g") ?_
      walk_at "ss"
      refine ⟨2, 8, rfl, rfl, by decide, by decide, by decide, by decide, ⟨_, ⟨[], rfl, by simp, by simp, by simp, by simp⟩, Has.cons rfl (Has.cons rfl (Has.cons rfl Has.nil))⟩, ?_, ?_⟩
      · rintro i d _ hd ⟨os, rfl, h1, h2, h3, h4⟩
        obtain ⟨hi, rfl⟩ := rng_get1 hd
        have hi6 : i < 6 := hi
        have e : (2 + (i : Int)) = ((2 + i : Nat) : Int) := by omega
        rw [e]
        walk_at "ss"
        refine we_call (g_cell X) (by walk_at "g") ?_
        walk_at "ss"
        refine (c_cell X ns hn (2 + i)).eq (by decide) ?_
        walk_at "ss"
        refine v_mod (by decide) ?_
        walk_at "si"
        generalize ho : (cell ns (2 + i) : Int) % 15 - 7 = o
        refine wx_if (wt_borrow (x := Str.ofString "found") (by rfl) ?_)
        walk_at "ss"
        refine v_notin intOk rfl fun b hb => ⟨b, rfl, if_p hb (fun h => ?_) (fun h => ?_)⟩
        · rw [int_mem] at h
          walk_at "s"
          refine wx_append (by rfl) (by simp; omega) ?_
          walk_at "ss"
          refine turnN_next ⟨os ++ [o], rfl, nodup_append1 h1 h, by simp; omega, by simp, fun x hx => ?_⟩ (Has.cons (by rw [List.map_append]; rfl) (Has.cons rfl (Has.cons rfl Has.nil)))
          rcases List.mem_append.mp hx with hx | hx
          · exact h4 x hx
          · rw [List.mem_singleton] at hx; subst hx; omega
        · rw [int_mem] at h
          walk_at "ss"
          refine turnN_next ⟨os, rfl, h1, by omega, fun _ => ?_, h4⟩ (Has.cons rfl (Has.cons rfl (Has.cons rfl Has.nil)))
          exact List.length_pos_of_mem (Decidable.not_not.mp h)
      · rintro _ ⟨os, rfl, h1, h2, h3, h4⟩
        rw [rng_len] at h2 h3
        exact Goes.mk ⟨os, rfl, h1, h2, h3 (by decide), h4⟩ Has.refl
    · rintro _ ⟨os, rfl, h1, h2, h3, h4⟩
      walk_at "s"
      refine wx_goes (fun τ => ∃ os : List Int, τ = [(Str.ofString "found", .own (os.map .int)), (Str.ofString "under", .val (.int u)), (Str.ofString "script", .val (intl ns))] ∧ os.Nodup ∧ os.length ≤ 6 ∧ 2 ≤ os.length ∧ ∀ o ∈ os, -10 ≤ o ∧ o ≤ 10) ?_ ?_
      · walk_at "s"
        refine wt_borrow (x := Str.ofString "found") (by rfl) ?_
        walk_at "s"
        refine we_builtin (b_len X) (by walk_at "g") ?_
        walk_at "ss"
        refine c_len (by simp; omega) ?_
        walk_at "ss"
        refine if_b (fun h => ?_) (fun h => ?_)
        · have hl : os.length = 1 := by simp at h; omega
          obtain ⟨o, rfl⟩ := List.length_eq_one_iff.mp hl
          walk_at "s"
          refine wx_append (by rfl) (by simp) ?_
          refine we_borrow (x := Str.ofString "found") (by rfl) ?_
          walk_at "ss"
          refine ⟨(0 : Nat), _, rfl, intl_item (l := [o]) (q := o) rfl (by simp), ?_⟩
          walk_at "ss"
          refine ⟨rfl, ?_⟩
          walk_at "ss"
          have := h4 o (by simp)
          refine Goes.mk ⟨[o, o - 3], rfl, by simp; omega, by simp, by simp, fun x hx => ?_⟩ (Has.cons rfl (Has.cons rfl (Has.cons rfl Has.nil)))
          simp at hx; omega
        · have hl : os.length ≠ 1 := by simp at h; omega
          walk_at "ss"
          exact Goes.mk ⟨os, rfl, h1, h2, by omega, fun x hx => by have := h4 x hx; omega⟩ Has.refl
      · rintro _ ⟨os, rfl, h1, h2, h3, h4⟩
        refine ws_freeze (x := Str.ofString "found") (by rfl) ?_
        walk_at "ss"
        refine WO.frozen ?_
        refine wo_comp (fun _ => true) (ratioOf u) (τ := [(Str.ofString "under", .val (.int u))]) ⟨rfl, by decide, rfl, by decide, ev.clo rfl⟩ (Cap.cons rfl rfl (ev.cell rfl) Cap.nil) ?_
        refine wi_list ?_
        walk_at "ss"
        refine ⟨⟨by simp; omega, fun d hd C => .inl ⟨rfl, rfl⟩, fun d hd _ C => ?_⟩, ?_⟩
        · obtain ⟨o, ho, rfl⟩ := List.mem_map.mp hd
          refine we_call (g_ratio X) rfl ?_
          walk_at "ss"
          exact (c_ratio X _ _ (by omega) (Sz.of (k := 3) (by omega) (by decide))).eq (by decide) rfl
        · refine ⟨_, ?_, brkOk hu' h1 h3 h2 h4⟩
          rw [filter_t, List.map_map, rats, List.map_map]
          rfl
theorem homes_step {B : List Rat} {x : Rat} {i : Nat} {a b : Rat} (ha : B[i]? = some a) (hb : B[i + 1]? = some b) :
    ((List.range (i + 1)).filter fun j => decide (B.getD j 0 < x) && !decide (B.getD (j + 1) 0 < x)) = ((List.range i).filter fun j => decide (B.getD j 0 < x) && !decide (B.getD (j + 1) 0 < x)) ++ (if a < x ∧ ¬ b < x then [i] else []) := by
  rw [List.range_succ, List.filter_append]
  congr 1
  rw [List.filter_cons, List.filter_nil]
  simp only [List.getD_eq_getElem?_getD, ha, hb, Option.getD_some]
  by_cases h1 : a < x <;> by_cases h2 : b < x <;> simp [h1, h2]
/-- the homes that the law seeks -/
def homes (x : Rat) (B : List Rat) (k : Nat) : List Int := ((List.range k).filter fun j => decide (B.getD j 0 < x) && !decide (B.getD (j + 1) 0 < x)).map fun j => ((j + 1 : Nat) : Int)
theorem homes_succ {B : List Rat} {x : Rat} {i : Nat} {a b : Rat} (ha : B[i]? = some a) (hb : B[i + 1]? = some b) : homes x B (i + 1) = homes x B i ++ (if a < x ∧ ¬ b < x then [((i + 1 : Nat) : Int)] else []) := by
  unfold homes
  rw [homes_step ha hb, List.map_append]
  congr 1
  split <;> rfl

set_option maxHeartbeats 1000000 in
theorem c_homes (X : Xs) (x : Rat) (B : List Rat) (hB : B.length ≤ 1000) (hx : Sm 1000 x) (hs : ∀ q ∈ B, Sm 1000 q) : CallOK (Wc X) 2 (.ref 360) [rat x, rats B] (fun d => d = intl (homes x B (B.length - 1))) := by
  refine callOK_d (ps := [Str.ofString "x", Str.ofString "bounds"]) (X.ok.d360) rfl (by walk_at "lit") (by walk_at "lit") rfl ?_
  intro env ev
  walk_at "ss"
  refine wx_goes (fun τ => τ = [(Str.ofString "homes", .own ((homes x B (B.length - 1)).map .int))]) ?_ ?_
  · refine wx_for_n (fun i τ => τ = [(Str.ofString "homes", .own ((homes x B i).map .int)), (Str.ofString "x", .val (rat x)), (Str.ofString "bounds", .val (rats B))]) (by walk_at "st") ?_
    refine wi_range2 (b_range X) (by walk_at "g") ?_
    walk_at "ss"
    refine we_builtin (b_len X) (by walk_at "g") ?_
    walk_at "ss"
    refine c_len (by simp; omega) ?_
    refine ⟨1, _, rfl, rfl, by decide, by decide, by simp; omega, by omega, ⟨_, rfl, Has.cons rfl (Has.cons rfl (Has.cons rfl Has.nil))⟩, ?_, ?_⟩
    · rintro i d _ hd rfl
      obtain ⟨hi, rfl⟩ := rng_get1 hd
      have hi' : i + 1 < B.length := by simp at hi; omega
      have ga : B[i]? = some B[i] := List.getElem?_eq_getElem (by omega)
      have gb : B[i + 1]? = some B[i + 1] := List.getElem?_eq_getElem hi'
      have sa := hs _ (List.mem_of_getElem? ga)
      have sb := hs _ (List.mem_of_getElem? gb)
      have e : (1 + (i : Int)) = ((i + 1 : Nat) : Int) := by omega
      rw [e]
      have hm := homes_succ (x := x) ga gb
      generalize B[i] = a at *
      generalize B[i + 1] = b at *
      walk_at "ss"
      refine we_call (g_below X) (by walk_at "g") ?_
      walk_at "ss"
      refine ⟨(i : Nat), _, by congr 1; omega, rats_item ga (by omega), ?_⟩
      walk_at "ss"
      refine (c_below X a x sa hx).eq (by decide) ?_
      walk_at "ss"
      have no : ¬ (a < x ∧ ¬ b < x) → TurnN (fun i τ => τ = [(Str.ofString "homes", Slot.own ((homes x B i).map .int)), (Str.ofString "x", .val (rat x)), (Str.ofString "bounds", .val (rats B))]) (Goes fun τ => τ = [(Str.ofString "homes", .own ((homes x B (B.length - 1)).map .int))]) (i + 1) (Out.next ((Str.ofString "at", Slot.val (D.int ((i + 1 : Nat) : Int))) :: [(Str.ofString "homes", Slot.own ((homes x B i).map .int)), (Str.ofString "x", .val (rat x)), (Str.ofString "bounds", .val (rats B))])) := fun h =>
        turnN_next rfl (Has.cons (by rw [hm, if_neg h, List.append_nil]; rfl) (Has.cons rfl (Has.cons rfl Has.nil)))
      refine if_b (fun h1 => ?_) (fun h1 => ?_)
      · walk_at "ss"
        refine we_call (g_below X) (by walk_at "g") ?_
        walk_at "ss"
        refine ⟨((i + 1 : Nat) : Int), _, rfl, rats_item gb (by omega), ?_⟩
        walk_at "ss"
        refine (c_below X b x sb hx).eq (by decide) ?_
        walk_at "ss"
        refine if_b (fun h2 => ?_) (fun h2 => ?_)
        · walk_at "ss"
          refine wx_append (by rfl) ?_ ?_
          · have : (homes x B i).length ≤ i := by
              unfold homes
              rw [List.length_map]
              exact Nat.le_trans (List.length_filter_le _ _) (by simp)
            simp; omega
          walk_at "ss"
          refine turnN_next rfl (Has.cons (by rw [hm, if_pos ⟨by simpa using h1, by simpa using h2⟩, List.map_append]; rfl) (Has.cons rfl (Has.cons rfl Has.nil)))
        · walk_at "ss"
          exact no fun h => h.2 (by simpa using h2)
      · walk_at "ss"
        exact no fun h => absurd h.1 (by simpa using h1)
    · rintro _ rfl
      rw [rng_len]
      refine Goes.mk rfl (Has.cons ?_ Has.nil)
      show some (Slot.own _) = _
      congr 4
      simp
  · rintro _ rfl
    refine ws_freeze (x := Str.ofString "homes") (by rfl) ?_
    walk_at "ss"
    rfl

structure NumOk (xs : List Rat) : Prop where
  one : 1 ≤ xs.length
  six : xs.length ≤ 6
  sm : ∀ q ∈ xs, Sm 6 q
set_option maxHeartbeats 1000000 in
theorem c_numbers (X : Xs) (ns : List Int) (hn : ns.length ≤ 63) (B : List Rat) (hB : B.length ≤ 6) (hB1 : 1 ≤ B.length) (hs : ∀ q ∈ B, Sm 5 q) : CallOK (Wc X) 2 (.ref 336) [intl ns, rats B] (fun d => ∃ xs, d = rats xs ∧ NumOk xs) := by
  refine callOK_d (ps := [Str.ofString "script", Str.ofString "bounds"]) (X.ok.d336) rfl (by walk_at "lit") (by walk_at "lit") rfl ?_
  intro env ev
  walk_at "ss"
  refine we_call (g_cell X) (by walk_at "g") ?_
  walk_at "ss"
  refine (c_cell X ns hn 8).eq (by decide) ?_
  walk_at "ss"
  refine v_mod (by decide) ?_
  walk_at "ss"
  generalize hu : (1 + (cell ns 8 : Int) % 6) = u
  have hu' : 0 < u ∧ u ≤ 6 := by omega
  refine wx_goes (fun τ => ∃ xs : List Rat, τ = [(Str.ofString "found", .own (xs.map rat))] ∧ NumOk xs) ?_ ?_
  · refine wx_for_n (fun i τ => ∃ xs : List Rat, τ = [(Str.ofString "found", .own (xs.map rat)), (Str.ofString "script", .val (intl ns)), (Str.ofString "bounds", .val (rats B))] ∧ xs.length = i ∧ ∀ q ∈ xs, Sm 6 q) (by walk_at "st") ?_
    refine wi_range2 (b_range X) (by walk_at "g") ?_
    walk_at "ss"
    refine ⟨9, 9 + u, rfl, rfl, by decide, by decide, by omega, by omega, ⟨_, ⟨[], rfl, rfl, by simp⟩, Has.cons rfl (Has.cons rfl (Has.cons rfl Has.nil))⟩, ?_, ?_⟩
    · rintro i d _ hd ⟨xs, rfl, hx, hsm⟩
      obtain ⟨hi, rfl⟩ := rng_get1 hd
      have hi6 : i < 6 := by omega
      have e : (9 + (i : Int)) = ((9 + i : Nat) : Int) := by omega
      rw [e]
      walk_at "ss"
      refine we_call (g_cell X) (by walk_at "g") ?_
      walk_at "ss"
      refine (c_cell X ns hn (9 + i)).eq (by decide) ?_
      walk_at "ss"
      generalize cell ns (9 + i) = dr
      refine v_mod (by decide) ?_
      walk_at "ss"
      have h2 : Sz 2 := Sz.of (k := 10) (by decide) (by decide)
      refine if_b (fun h => ?_) (fun h => ?_)
      · walk_at "s"
        refine wx_append (by rfl) (by simp; omega) ?_
        walk_at "ss"
        refine v_div (by decide) h2 ?_
        walk_at "ss"
        refine we_builtin (b_len X) (by walk_at "g") ?_
        walk_at "ss"
        refine c_len (by simp; omega) ?_
        refine v_mod (by simp; omega) ?_
        have hlen : ((B.map rat).length : Int) = (B.length : Int) := by simp
        have k0 := Int.emod_nonneg ((dr : Int) / 2) (b := (B.length : Int)) (by omega)
        have k1 := Int.emod_lt_of_pos ((dr : Int) / 2) (b := (B.length : Int)) (by omega)
        have hk : (((dr : Int) / 2 % (B.length : Int)).toNat) < B.length := by omega
        have ga : B[((dr : Int) / 2 % (B.length : Int)).toNat]? = some _ := List.getElem?_eq_getElem hk
        have sa := hs _ (List.mem_of_getElem? ga)
        refine ⟨(((dr : Int) / 2 % (B.length : Int)).toNat : Nat), _, by rw [hlen]; (congr 1 <;> omega), rats_item ga (by omega), ?_⟩
        generalize B[((dr : Int) / 2 % (B.length : Int)).toNat] = q at *
        walk_at "ss"
        refine turnN_next ⟨xs ++ [q], rfl, by simp; omega, fun x hx => ?_⟩ (Has.cons (by rw [List.map_append] <;> rfl) (Has.cons rfl (Has.cons rfl Has.nil)))
        rcases List.mem_append.mp hx with hx | hx
        · exact hsm x hx
        · rw [List.mem_singleton] at hx; subst hx; exact sa.mono (by decide)
      · walk_at "s"
        refine wx_append (by rfl) (by simp; omega) ?_
        refine we_call (g_ratio X) (by walk_at "g") ?_
        walk_at "ss"
        refine v_div (by decide) h2 ?_
        walk_at "ss"
        refine v_mod (by decide) ?_
        walk_at "ss"
        refine v_mod (by decide) ?_
        walk_at "ss"
        have s1 : Sm 6 (Rat.divInt ((dr : Int) / 2 % 41 - 20) (1 + (dr : Int) % 5)) := Sm.divInt (by omega) (by omega) (by omega)
        refine (c_ratio X _ _ (by omega) (Sz.of (k := 6) (by omega) (by decide))).eq (by decide) ?_
        generalize Rat.divInt ((dr : Int) / 2 % 41 - 20) (1 + (dr : Int) % 5) = q at *
        walk_at "ss"
        refine turnN_next ⟨xs ++ [q], rfl, by simp; omega, fun x hx => ?_⟩ (Has.cons (by rw [List.map_append] <;> rfl) (Has.cons rfl (Has.cons rfl Has.nil)))
        rcases List.mem_append.mp hx with hx | hx
        · exact hsm x hx
        · rw [List.mem_singleton] at hx; subst hx; exact s1
    · rintro _ ⟨xs, rfl, hx, hsm⟩
      rw [rng_len] at hx
      exact Goes.mk ⟨xs, rfl, by omega, by omega, hsm⟩ (Has.cons rfl Has.nil)
  · rintro _ ⟨xs, rfl, hx⟩
    refine ws_freeze (x := Str.ofString "found") (by rfl) ?_
    walk_at "ss"
    exact hx
theorem g_compare (X : Xs) : Glb (Wc X) (Str.ofString "compare") (.ref 152) := X.ok.g_compare
theorem g_lackc (X : Xs) : Glb (Wc X) (Str.ofString "is_lacking_cuts") (.ref 276) := X.ok.g_lackc
theorem g_code (X : Xs) : Glb (Wc X) (Str.ofString "interval_code") (.ref 300) := X.ok.g_code
theorem c_lackc (X : Xs) (q : Rat) : CallOK (Wc X) 2 (.ref 276) [rat q] (fun d => d = .bool false) := by
  refine callOK_d (ps := [Str.ofString "x"]) (X.ok.d276) rfl (by walk_at "lit") (by walk_at "lit") rfl ?_
  intro env ev
  walk_at "ss"
  refine we_call (g_is_nan X) (by walk_at "g") ?_
  walk_at "ss"
  exact (c_is_nan X q).eq (by decide) rfl

/-- is x in the interval from a to b? -/
def fits (right lowest : Bool) (i last : Nat) (a b x : Rat) : Bool :=
  if right then (decide (a < x) || (lowest && (i == 0) && decide (x = a))) && decide (x ≤ b)
  else decide (a ≤ x) && (decide (x < b) || (lowest && (i + 1 == last) && decide (x = b)))
/-- the code that interval_code gives, from the i-th interval on -/
def codeFrom (right lowest : Bool) (B : List Rat) (x : Rat) : Nat → Nat → Option Nat
  | _, 0 => none
  | i, k + 1 => if fits right lowest i (B.length - 1) (B.getD i 0) (B.getD (i + 1) 0) x then some (i + 1) else codeFrom right lowest B x (i + 1) k
def codeD : Option Nat → D
  | none => .none
  | some k => .int k
abbrev code (right lowest : Bool) (B : List Rat) (x : Rat) : Option Nat := codeFrom right lowest B x 0 (B.length - 1)

set_option maxHeartbeats 2000000 in
theorem c_code (X : Xs) (x : Rat) (B : List Rat) (right lowest : Bool) (hB : B.length ≤ 1000) (hB1 : 1 ≤ B.length) (hx : Sm 1000 x) (hs : ∀ q ∈ B, Sm 1000 q) : CallOK (Wc X) 4 (.ref 300) [rat x, rats B, .bool right, .bool lowest] (fun d => d = codeD (code right lowest B x)) := by
  refine callOK_d (ps := [Str.ofString "x", Str.ofString "bounds", Str.ofString "right", Str.ofString "lowest"]) (X.ok.d300) rfl (by walk_at "lit") (by walk_at "lit") rfl ?_
  intro env ev
  walk_at "ss"
  refine we_call (g_lackc X) (by walk_at "g") ?_
  walk_at "ss"
  refine (c_lackc X x).eq (by decide) ?_
  walk_at "ss"
  refine we_builtin (b_len X) (by walk_at "g") ?_
  walk_at "ss"
  refine c_len (by simp; omega) ?_
  walk_at "ss"
  have hlen : ((B.map rat).length : Int) - 1 = ((B.length - 1 : Nat) : Int) := by simp; omega
  rw [hlen]
  refine wx_for_n (fun i τ => τ = [(Str.ofString "last", .val (.int ((B.length - 1 : Nat) : Int))), (Str.ofString "x", .val (rat x)), (Str.ofString "bounds", .val (rats B)), (Str.ofString "right", .val (.bool right)), (Str.ofString "lowest", .val (.bool lowest))] ∧ code right lowest B x = codeFrom right lowest B x i (B.length - 1 - i)) (by walk_at "st") ?_
  refine wi_range1 (b_range X) (by walk_at "g") ?_
  walk_at "ss"
  refine ⟨by omega, by omega, ⟨_, ⟨rfl, rfl⟩, Has.cons rfl (Has.cons rfl (Has.cons rfl (Has.cons rfl (Has.cons rfl Has.nil))))⟩, ?_, ?_⟩
  · rintro i d _ hd ⟨rfl, hJ⟩
    obtain ⟨hi, rfl⟩ := rng_get1 hd
    have hi' : i + 1 < B.length := by simp at hi; omega
    have ga : B[i]? = some B[i] := List.getElem?_eq_getElem (by omega)
    have gb : B[i + 1]? = some B[i + 1] := List.getElem?_eq_getElem hi'
    have sa := hs _ (List.mem_of_getElem? ga)
    have sb := hs _ (List.mem_of_getElem? gb)
    have e : (0 + (i : Int)) = (i : Int) := by omega
    rw [e]
    have hk : B.length - 1 - i = (B.length - 1 - (i + 1)) + 1 := by omega
    rw [hk, codeFrom, List.getD_eq_getElem?_getD, List.getD_eq_getElem?_getD, ga, gb, Option.getD_some, Option.getD_some] at hJ
    generalize B[i] = a at *
    generalize B[i + 1] = b at *
    walk_at "ss"
    refine we_call (g_compare X) (by walk_at "g") ?_
    walk_at "ss"
    refine ⟨(i : Nat), _, rfl, rats_item ga (by omega), ?_⟩
    walk_at "ss"
    refine (c_compare X x a hx sa).eq (by decide) ?_
    walk_at "ss"
    refine we_call (g_compare X) (by walk_at "g") ?_
    walk_at "ss"
    refine ⟨((i + 1 : Nat) : Int), _, rfl, rats_item gb (by omega), ?_⟩
    walk_at "ss"
    refine (c_compare X x b hx sb).eq (by decide) ?_
    generalize hl : cmpq x a = lo
    generalize hh : cmpq x b = hg
    walk_at "si"
    refine wx_if (WT.mono (Q := fun c => c = (right && ((decide (lo > 0) || (lowest && ((i : Int) == 0) && (lo == 0))) && decide (hg ≤ 0)))) ?_ ?_)
    · clear hJ hd hk ga gb sa sb hlen hi hl hh
      walk_at "sb"
      all_goals simp [*]
    rintro _ rfl
    have l1 : decide (lo > 0) = decide (a < x) := by rw [decide_eq_decide, ← hl]; exact cmpq_gt
    have l2 : (lo == 0) = decide (x = a) := by rw [Bool.eq_iff_iff, beq_iff_eq, decide_eq_true_eq, ← hl]; exact cmpq_eq
    have l3 : decide (lo ≥ 0) = decide (a ≤ x) := by rw [decide_eq_decide, ← hl]; exact cmpq_ge
    have h1 : decide (hg ≤ 0) = decide (x ≤ b) := by rw [decide_eq_decide, ← hh]; exact cmpq_le
    have h2 : (hg == 0) = decide (x = b) := by rw [Bool.eq_iff_iff, beq_iff_eq, decide_eq_true_eq, ← hh]; exact cmpq_eq
    have h3 : decide (hg < 0) = decide (x < b) := by rw [decide_eq_decide, ← hh]; exact cmpq_lt
    have i0 : (((i : Int)) == 0) = (i == 0) := by rw [Bool.eq_iff_iff, beq_iff_eq, beq_iff_eq]; omega
    have i1 : (((i : Int)) == ((B.length - 1 : Nat) : Int) - 1) = (i + 1 == B.length - 1) := by rw [Bool.eq_iff_iff, beq_iff_eq, beq_iff_eq]; omega
    rw [l1, i0, l2, h1]
    refine if_b (fun q => ?_) (fun q => ?_)
    · walk_at "ss"
      rw [hJ, if_pos]
      · rfl
      · unfold fits
        cases right <;> simp_all
    walk_at "si"
    refine wx_if (WT.mono (Q := fun c => c = (!right && (decide (lo ≥ 0) && (decide (hg < 0) || (lowest && ((i : Int) == ((B.length - 1 : Nat) : Int) - 1) && (hg == 0)))))) ?_ ?_)
    · clear l1 l2 l3 h1 h2 h3 i0 i1 q hJ hd hk ga gb sa sb hlen hi hl hh
      walk_at "sb"
      all_goals simp [*]
    rintro _ rfl
    rw [l3, i1, h2, h3]
    refine if_b (fun q' => ?_) (fun q' => ?_)
    · walk_at "ss"
      rw [hJ, if_pos]
      · rfl
      · unfold fits
        cases right <;> simp_all
    walk_at "ss"
    refine turnN_next ⟨rfl, ?_⟩ (Has.cons rfl (Has.cons rfl (Has.cons rfl (Has.cons rfl (Has.cons rfl Has.nil)))))
    rw [hJ, if_neg]
    unfold fits
    cases right <;> simp_all
  · rintro _ ⟨rfl, hJ⟩
    rw [rng_len] at hJ
    simp only [Int.toNat_natCast, Nat.sub_self] at hJ
    walk_at "ss"
    rw [hJ]; rfl
def onRat (g : Rat → D) : D → D
  | .tup [.int n, .int d] => g (Rat.divInt n d)
  | d => d
theorem onRat_rat {g : Rat → D} {q : Rat} : onRat g (rat q) = g q := by
  show g (Rat.divInt q.num q.den) = _
  rw [Rat.num_divInt_den]
def onRatB (g : Rat → Bool) : D → Bool
  | .tup [.int n, .int d] => g (Rat.divInt n d)
  | _ => true
theorem onRatB_rat {g : Rat → Bool} {q : Rat} : onRatB g (rat q) = g q := by
  show g (Rat.divInt q.num q.den) = _
  rw [Rat.num_divInt_den]
theorem onRat_map {g : Rat → D} {l : List Rat} : ((l.map rat).filter fun _ => true).map (onRat g) = l.map g := by
  rw [filter_t, List.map_map]
  exact List.map_congr_left fun q _ => onRat_rat
theorem onRatB_filter {g : Rat → Bool} {l : List Rat} : (l.map rat).filter (onRatB g) = (l.filter g).map rat := by
  rw [List.filter_map]
  congr 1
  exact List.filter_congr fun q _ => onRatB_rat
abbrev codes (right lowest : Bool) (B xs : List Rat) : D := .lst (xs.map fun x => codeD (code right lowest B x))
theorem c_codes (X : Xs) (xs B : List Rat) (right lowest : Bool) (hX : xs.length ≤ 1000) (hB : B.length ≤ 1000) (hB1 : 1 ≤ B.length) (hx : ∀ q ∈ xs, Sm 1000 q) (hs : ∀ q ∈ B, Sm 1000 q) : CallOK (Wc X) 5 (.ref 305) [rats xs, rats B, .bool right, .bool lowest] (fun d => d = codes right lowest B xs) := by
  refine callOK_d (ps := [Str.ofString "xs", Str.ofString "bounds", Str.ofString "right", Str.ofString "lowest"]) (X.ok.d305) rfl (by walk_at "lit") (by walk_at "lit") rfl ?_
  intro env ev
  walk_at "ss"
  refine WO.frozen ?_
  refine wo_comp (fun _ => true) (onRat fun q => codeD (code right lowest B q)) (τ := [(Str.ofString "bounds", .val (rats B)), (Str.ofString "right", .val (.bool right)), (Str.ofString "lowest", .val (.bool lowest))]) ⟨rfl, by decide, rfl, by decide, ev.clo rfl⟩ (Cap.cons rfl rfl (ev.cell rfl) (Cap.cons rfl rfl (ev.cell rfl) (Cap.cons rfl rfl (ev.cell rfl) Cap.nil))) ?_
  refine wi_list ?_
  walk_at "ss"
  refine ⟨⟨by simp; omega, fun d hd C => .inl ⟨rfl, rfl⟩, fun d hd _ C => ?_⟩, ?_⟩
  · obtain ⟨q, hq, rfl⟩ := List.mem_map.mp hd
    refine we_call (g_code X) rfl ?_
    walk_at "ss"
    exact (c_code X q B right lowest hB hB1 (hx q hq) hs).eq (by decide) (by rw [onRat_rat])
  · rw [onRat_map]
    exact rfl

def countLe (B : List Rat) (x : Rat) : Nat := (B.filter fun b => decide (b ≤ x)).length
set_option maxHeartbeats 1000000 in
theorem c_places (X : Xs) (xs B : List Rat) (hX : xs.length ≤ 1000) (hB : B.length ≤ 1000) (hB1 : 1 ≤ B.length) (hx : ∀ q ∈ xs, Sm 1000 q) (hs : ∀ q ∈ B, Sm 1000 q) (hsort : ∀ i a b, B[i]? = some a → B[i + 1]? = some b → a ≤ b) : CallOK (Wc X) 5 (.ref 310) [rats xs, rats B] (fun d => d = intl (xs.map fun x => (countLe B x : Int))) := by
  refine callOK_d (ps := [Str.ofString "xs", Str.ofString "bounds"]) (X.ok.d310) rfl (by walk_at "lit") (by walk_at "lit") rfl ?_
  intro env ev
  walk_at "ss"
  refine wx_goes (fun τ => τ = [(Str.ofString "xs", .val (rats xs)), (Str.ofString "bounds", .val (rats B))]) ?_ ?_
  · refine wx_for_n (fun i τ => τ = [(Str.ofString "xs", .val (rats xs)), (Str.ofString "bounds", .val (rats B))]) (by walk_at "st") ?_
    refine wi_list ?_
    walk_at "ss"
    refine ⟨⟨_, rfl, Has.refl⟩, ?_, ?_⟩
    · rintro i d _ hd rfl
      obtain ⟨q, hq, rfl⟩ := rats_get hd
      walk_at "ss"
      refine we_call (g_lackc X) (by walk_at "g") ?_
      walk_at "ss"
      refine (c_lackc X q).eq (by decide) ?_
      walk_at "ss"
      exact turnN_next rfl (Has.cons rfl (Has.cons rfl Has.nil))
    · rintro _ rfl
      exact Goes.mk rfl Has.refl
  rintro _ rfl
  walk_at "ss"
  refine wx_goes (fun τ => τ = [(Str.ofString "xs", .val (rats xs)), (Str.ofString "bounds", .val (rats B))]) ?_ ?_
  · refine wx_for_n (fun i τ => τ = [(Str.ofString "xs", .val (rats xs)), (Str.ofString "bounds", .val (rats B))]) (by walk_at "st") ?_
    refine wi_range1 (b_range X) (by walk_at "g") ?_
    walk_at "ss"
    refine we_builtin (b_len X) (by walk_at "g") ?_
    walk_at "ss"
    refine c_len (by simp; omega) ?_
    walk_at "ss"
    refine ⟨by simp; omega, by simp; omega, ⟨_, rfl, Has.refl⟩, ?_, ?_⟩
    · rintro i d _ hd rfl
      obtain ⟨hi, rfl⟩ := rng_get1 hd
      have hi' : i + 1 < B.length := by simp at hi; omega
      have ga : B[i]? = some B[i] := List.getElem?_eq_getElem (by omega)
      have gb : B[i + 1]? = some B[i + 1] := List.getElem?_eq_getElem hi'
      have sa := hs _ (List.mem_of_getElem? ga)
      have sb := hs _ (List.mem_of_getElem? gb)
      have e : (0 + (i : Int)) = (i : Int) := by omega
      rw [e]
      have hab := hsort i _ _ ga gb
      generalize B[i] = a at *
      generalize B[i + 1] = b at *
      walk_at "ss"
      refine we_call (g_compare X) (by walk_at "g") ?_
      walk_at "ss"
      refine ⟨(i : Nat), _, rfl, rats_item ga (by omega), ?_⟩
      walk_at "ss"
      refine ⟨((i + 1 : Nat) : Int), _, rfl, rats_item gb (by omega), ?_⟩
      walk_at "ss"
      refine (c_compare X a b sa sb).eq (by decide) ?_
      walk_at "ss"
      refine if_f (by rw [decide_eq_true_eq, cmpq_gt]; exact Rat.not_lt.mpr hab) ?_
      walk_at "ss"
      exact turnN_next rfl (Has.cons rfl (Has.cons rfl Has.nil))
    · rintro _ rfl
      exact Goes.mk rfl Has.refl
  rintro _ rfl
  walk_at "ss"
  refine wx_goes (fun τ => τ = [(Str.ofString "found", .own ((xs.map fun x => (countLe B x : Int)).map .int))]) ?_ ?_
  · refine wx_for_n (fun i τ => τ = [(Str.ofString "found", .own (((xs.take i).map fun x => (countLe B x : Int)).map .int)), (Str.ofString "xs", .val (rats xs)), (Str.ofString "bounds", .val (rats B))]) (by walk_at "st") ?_
    refine wi_list ?_
    walk_at "ss"
    refine ⟨⟨_, rfl, Has.cons rfl (Has.cons rfl (Has.cons rfl Has.nil))⟩, ?_, ?_⟩
    · rintro i d _ hd rfl
      obtain ⟨q, hq, rfl⟩ := rats_get hd
      have sq := hx q (List.mem_of_getElem? hq)
      have ht := (take_step' hq)
      walk_at "ss"
      refine we_call (g_lackc X) (by walk_at "g") ?_
      walk_at "ss"
      refine (c_lackc X q).eq (by decide) ?_
      walk_at "ss"
      refine wx_append (by rfl) (by simp; omega) ?_
      refine we_builtin (b_len X) (by walk_at "g") ?_
      walk_at "ss"
      refine WO.frozen ?_
      refine wo_comp (onRatB fun b => decide (b ≤ q)) (fun d => d) (τ := [(Str.ofString "x", .val (rat q))]) ⟨rfl, by decide, rfl, by decide, ev.clo rfl⟩ (Cap.cons rfl rfl (ev.cell rfl) Cap.nil) ?_
      refine wi_list ?_
      walk_at "ss"
      refine ⟨⟨by simp; omega, fun d hd C => .inr ⟨_, rfl, ?_⟩, fun d hd _ C => ?_⟩, ?_⟩
      · obtain ⟨b, hb, rfl⟩ := List.mem_map.mp hd
        rw [onRatB_rat]
        walk_at "ss"
        refine we_call (g_compare X) rfl ?_
        walk_at "ss"
        refine (c_compare X b q (hs b hb) sq).eq (by decide) ?_
        walk_at "ss"
        rw [decide_eq_decide]; exact cmpq_le
      · walk_at "ss"
        rfl
      · rw [List.map_id', onRatB_filter]
        walk_at "ss"
        refine c_len ?_ ?_
        · rw [List.length_map]
          exact Nat.le_trans (List.length_filter_le _ _) (by omega)
        walk_at "ss"
        refine turnN_next rfl (Has.cons ?_ (Has.cons rfl (Has.cons rfl Has.nil)))
        rw [ht, List.map_append, List.map_append, List.length_map]
        rfl
    · rintro _ rfl
      rw [List.length_map, List.take_length]
      exact Goes.mk rfl (Has.cons rfl Has.nil)
  rintro _ rfl
  refine ws_freeze (x := Str.ofString "found") (by rfl) ?_
  walk_at "ss"
  rfl
theorem g_Vector (X : Xs) : Glb (Wc X) (Str.ofString "Vector") (.ref 177) := X.ok.g_Vector
theorem g_double (X : Xs) : Glb (Wc X) (Str.ofString "double") (.ref 195) := X.ok.g_double
theorem b_list (X : Xs) : Bti (Wc X) (Str.ofString "list") (.type "list") := X.ok.b_list
theorem b_isinstance (X : Xs) : Bti (Wc X) (Str.ofString "isinstance") (.builtin "isinstance") := X.ok.b_isinstance
theorem a_kind (X : Xs) : AttrK (Wc X).K (Wc X).vecC (Str.ofString "kind") := X.ok.a_kind
theorem a_items (X : Xs) : AttrK (Wc X).K (Wc X).vecC (Str.ofString "items") := X.ok.a_items

theorem i_vec (X : Xs) : isIn (Wc X).K (.ref (Wc X).vecC) (Wc X).vecC = true := X.ok.i_vec

theorem none_ge {h : Heap} {a : Addr} (hk : h.objs.size ≤ a) : h.get? a = none := by
  cases e : h.get? a with
  | none => rfl
  | some o => exact absurd (Heap.lt_size e) (Nat.not_lt.mpr hk)
theorem call_init {prog : Program} {w : World} {A : Around} {s : Shared} {R : Result → Shared → Prop} {K : Frag} {f : Addr} {oc od osl} {fd : FuncData} {bd : List Stmt} {args : Args} {binds : List (Str × Value)} {T : Addr} {o : Obj} {items : Array Value} {n : Nat} {k : Option (Array Value) → Sem (List (Str × Value))}
    (at_ : K.lookup f = some ⟨oc, od, .func fd, osl⟩) (code : codeIn K fd.code fd.qualname = true) (body : fd.body = .stmts bd) (hd : fd.defaults = .ref T) (ho : K.lookup T = some o) (hs : o.data = .seq items n)
    (h₁ : bindArgs fd args = seqItems? fd.defaults >>= k) (h₂ : k (some items) = pure binds) (hcell : ∀ x ∈ fd.scope.names, x.2 ≠ .cell) (hloc : ∀ x ∈ binds, fd.scope.names.lookup x.1 = some .local) (hco : fd.scope.isCoroutine = false) (hgen : fd.scope.isGenerator = false) (hk : fd.scope.kind = .function)
    (X : K.In s.heap) (hl : s.heap.NoLimit) (hdep : A.depth < recursionLimit)
    (h : ∀ h₀, h₀.Ns s.heap.objs.size (fun x => binds.reverse.lookup x) → (∀ b o, s.heap.get? b = some o → h₀.get? b = some o) →
      wpAny (model prog w) (A.deeper (callEnv fd s.heap.objs.size f)) (execs bd (callEnv fd s.heap.objs.size f)) (fun f s' => R (.ok (.ret (match f with | .ret v => v | _ => .none))) s')
        (fun e s' => wpAny (model prog w) (A.deeper (callEnv fd s.heap.objs.size f)) (leaving (callEnv fd s.heap.objs.size f) e) (fun _ s'' => R (.error e) s'') (fun e' s'' => R (.error e') s'') s')
        { s with heap := h₀, toks := s.toks + binds.length }) :
    codeAny (model prog w) A (.call (.ref f) args) R s :=
  codeAny_call_def hdep (X _ _ at_) rfl hl (codeRec_of X code) body (binds_K X hd ho hs h₁ h₂) hcell hloc h hco hgen hk

theorem c_Vector (X : Xs) (l : List D) : CallOK (Wc X) 2 (.ref 177) [.str (Str.ofString "double"), .lst l] (fun d => d = .vec l) := by
  intro A s B R E vs rm ok bh hi hR
  have X₀ : X.K.In s.heap := ok.1
  cases hi with
  | cons i1 r =>
    cases r with
    | cons i2 r =>
      cases r
      cases i1
      rename_i v t
      obtain ⟨h, g, dr, tk, os⟩ := s
      dsimp only at X₀ ok bh hR ⊢
      refine wpAny_call (make_core (C := 177) (init := .ref 167) (makes_of X₀ X.ok.v_make) (looks_findIn X₀ X.ok.v_find) (fun self => bind_fn X₀ self X.ok.v_type) (.inl rfl) ?_)
      obtain ⟨oc, od, osl, fd, T, o, items, m, kAt, kCode, kBody, kDef, kT, kO, kBind, kSc⟩ := X.ok.v_init
      obtain ⟨fnm, fqn, fps, fbd, fsc, fgl, fcl, fdf, fkd, fdc, fmo, fan, fco, fct, fbi⟩ := fd
      dsimp only at kCode kBody kDef kBind kSc
      subst kSc
      obtain ⟨kk, kB1, kB2⟩ := kBind (.ref (h.objs.size + 1)) (.str (Str.ofString "double") t) v
      have k2 : ∀ b o, h.get? b = some o → ((h.push emptyDict).push (instObj 177 h.objs.size)).get? b = some o := fun b o e => Heap.get?_push_of_some _ (Heap.get?_push_of_some _ e)
      have X1 := X₀.keeps k2
      have T1 := ok.2.keeps k2
      refine call_init (K := X.K) (binds := [(Str.ofString "self", .ref (h.objs.size + 1)), (Str.ofString "kind", .str (Str.ofString "double") t), (Str.ofString "items", v), (Str.ofString "attrs", .none)]) kAt kCode (kBody.trans (congrArg _ (by walk_at "lit"))) kDef kT kO kB1 kB2 (by dsimp only; decide) (locs rfl) rfl rfl rfl X1 T1.nolimit ?dep ?main
      case dep =>
        have := rm.dep
        rw [depth_under_make]
        unfold recursionLimit
        omega
      intro h₀ ns₀ k₀
      have hs2 : ((h.push emptyDict).push (instObj 177 h.objs.size)).objs.size = h.objs.size + 2 := by rw [Heap.size_push, Heap.size_push]
      have hx : ((h.push emptyDict).push (instObj 177 h.objs.size)).get? (h.objs.size + 1) = some (instObj 177 h.objs.size) := by
        have := Heap.get?_push_size (h.push emptyDict) (o := instObj 177 h.objs.size) rfl
        rwa [Heap.size_push] at this
      have hdx : ((h.push emptyDict).push (instObj 177 h.objs.size)).get? h.objs.size = some (dictOf [] 0) := Heap.get?_push_of_some _ (Heap.get?_push_size _ rfl)
      have F0 : Fr h ((h.push emptyDict).push (instObj 177 h.objs.size)).objs.size h₀ _ := ⟨ns₀, fun b o e => k₀ b o (k2 b o e), by rw [hs2]; omega⟩
      have N0 : News h ((h.push emptyDict).push (instObj 177 h.objs.size)).objs.size h₀ [(h.objs.size + 1, instObj 177 h.objs.size), (h.objs.size, dictOf [] 0)] := by
        intro p hp
        rw [hs2]
        rcases List.mem_cons.mp hp with rfl | hp
        · exact ⟨k₀ _ _ hx, Nat.ne_of_lt (Nat.lt_succ_self _), none_ge (Nat.le_succ _)⟩
        · rw [List.mem_singleton] at hp; subst hp
          exact ⟨k₀ _ _ hdx, Nat.ne_of_lt (Nat.lt_add_of_pos_right (by decide)), none_ge (Nat.le_refl _)⟩
      have ne1 : h.objs.size + 1 ≠ h.objs.size := Nat.succ_ne_self _
      generalize ((h.push emptyDict).push (instObj 177 h.objs.size)).objs.size = L at F0 N0
      clear ns₀ k₀ hx hdx hs2
      refine wpAny_execs_cons (plainObj_wpAny_Assign_Attribute (wpAny_Name (wpAny_loadName_local rfl rfl F0.ns rfl ?_) (by decide)))
      refine wpAny_Name (wpAny_loadName_local rfl rfl F0.ns rfl ?_) (by decide)
      refine set_dict (K := X.K) F0 X₀ N0 (InstAt.of_news N0 (.head _) (.tail _ (.head _))) rfl X.ok.v_set X.ok.v_plain X.ok.v_tkind X.ok.v_has rfl rfl (.tail ne1 (.head (fun _ h => (nomatch h)))) (Nat.le_of_ble_eq_true rfl) fun h1 F1 N1 => ?_
      refine wpAny_execs_cons (plainObj_wpAny_Assign_Attribute (wpAny_Name (wpAny_loadName_local rfl rfl F1.ns rfl ?_) (by decide)))
      refine wpAny_Name (wpAny_loadName_local rfl rfl F1.ns rfl ?_) (by decide)
      refine set_dict (K := X.K) F1 X₀ N1 (InstAt.of_news N1 (.head _) (.tail _ (.head _))) rfl X.ok.v_set X.ok.v_plain X.ok.v_titems X.ok.v_has rfl rfl (.tail ne1 (.head (fun _ h => (nomatch h)))) (Nat.le_of_ble_eq_true rfl) fun h2 F2 N2 => ?_
      refine wpAny_execs_cons (plainObj_wpAny_Assign_Attribute (wpAny_Name (wpAny_loadName_local rfl rfl F2.ns rfl ?_) (by decide)))
      refine wpAny_Name (wpAny_loadName_local rfl rfl F2.ns rfl ?_) (by decide)
      refine set_dict (K := X.K) F2 X₀ N2 (InstAt.of_news N2 (.head _) (.tail _ (.head _))) rfl X.ok.v_set X.ok.v_plain X.ok.v_tattrs X.ok.v_has rfl rfl (.tail ne1 (.head (fun _ h => (nomatch h)))) (Nat.le_of_ble_eq_true rfl) fun h3 F3 N3 => ?_
      refine wpAny_execs_cons (plainObj_wpAny_Assign_Attribute (PySem.wpAny_Constant_bool ?_))
      refine wpAny_Name (wpAny_loadName_local rfl rfl F3.ns rfl ?_) (by decide)
      refine set_dict (K := X.K) F3 X₀ N3 (InstAt.of_news N3 (.head _) (.tail _ (.head _))) rfl X.ok.v_set X.ok.v_plain X.ok.v_tshared X.ok.v_has rfl rfl (.tail ne1 (.head (fun _ h => (nomatch h)))) (Nat.le_of_ble_eq_true rfl) fun h4 F4 N4 => ?_
      refine wpAny_execs_cons (plainObj_wpAny_Assign_Attribute (PySem.wpAny_Constant_bool ?_))
      refine wpAny_Name (wpAny_loadName_local rfl rfl F4.ns rfl ?_) (by decide)
      refine set_dict (K := X.K) F4 X₀ N4 (InstAt.of_news N4 (.head _) (.tail _ (.head _))) rfl X.ok.v_set X.ok.v_plain X.ok.v_tloose X.ok.v_has rfl rfl (.tail ne1 (.head (fun _ h => (nomatch h)))) (Nat.le_of_ble_eq_true rfl) fun h5 F5 N5 => ?_
      refine wpAny_execs_nil ⟨rfl, ?_⟩
      obtain ⟨g1, _, f1⟩ := N5 _ (.head _)
      obtain ⟨g2, _, f2⟩ := N5 _ (.tail _ (.head _))
      refine hR _ _ h5 _ ((B.add _ _).add _ _) rfl (((Ext.heap bh F5.keep).freeze g1 f1).freeze g2 f2) (.vec (C := 177) (.inl Fz.add_self) Fz.add_self (by rfl) (by rfl) (i2.mono fun a o e => .inl (.inl e)))

theorem c_double (X : Xs) (l : List D) (hz : l.length ≤ 1000) : CallOK (Wc X) 3 (.ref 195) [.lst l] (fun d => d = .vec l) := by
  refine callOK_d (ps := [Str.ofString "items"]) (X.ok.d195) rfl (by walk_at "lit") (by walk_at "lit") rfl ?_
  intro env ev
  walk_at "ss"
  refine we_call (g_Vector X) (by walk_at "g") ?_
  walk_at "ss"
  refine WO.frozen ?_
  refine wo_listof (b_list X) (by walk_at "g") ?_
  walk_at "ss"
  refine ⟨by omega, ?_⟩
  walk_at "ss"
  exact (c_Vector X l).eq (by decide) rfl
theorem c_length (X : Xs) (l : List D) (hz : l.length ≤ 1000) : CallOK (Wc X) 1 (.ref 202) [.vec l] (fun d => d = .int l.length) := by
  refine callOK_d (ps := [Str.ofString "v"]) (X.ok.d202) rfl (by walk_at "lit") (by walk_at "lit") rfl ?_
  intro env ev
  walk_at "ss"
  refine we_kind (a_kind X) ?_
  walk_at "ss"
  refine we_isvec (b_isinstance X) (g_Vector X) (i_vec X) (by walk_at "g") (by walk_at "g") ?_
  walk_at "ss"
  refine we_builtin (b_len X) (by walk_at "g") ?_
  walk_at "s"
  refine we_items (a_items X) ?_
  walk_at "ss"
  exact c_len (by omega) rfl
theorem g_lacks (X : Xs) : Glb (Wc X) (Str.ofString "is_lacking_sorting") (.ref 209) := X.ok.g_lacks
theorem g_citems (X : Xs) : Glb (Wc X) (Str.ofString "compare_items") (.ref 216) := X.ok.g_citems
theorem g_cplaces (X : Xs) : Glb (Wc X) (Str.ofString "compare_places") (.ref 230) := X.ok.g_cplaces
theorem g_ckeys (X : Xs) : Glb (Wc X) (Str.ofString "compare_keys") (.ref 237) := X.ok.g_ckeys
theorem g_mruns (X : Xs) : Glb (Wc X) (Str.ofString "merge_runs") (.ref 244) := X.ok.g_mruns
theorem c_lacks (X : Xs) (q : Rat) : CallOK (Wc X) 1 (.ref 209) [.str (Str.ofString "double"), rat q] (fun d => d = .bool false) := by
  refine callOK_d (ps := [Str.ofString "kind", Str.ofString "item"]) (X.ok.d209) rfl (by walk_at "lit") (by walk_at "lit") rfl ?_
  intro env ev
  walk_at "ss"
  refine v_eqd (by rfl) (by rfl) fun b hb => ?_
  have : b = false := by
    cases b
    · rfl
    · have := hb.mp rfl
      injection this with this
      have := q.den_nz
      simp at *
      omega
  subst this
  walk_at "ss"
  rfl
theorem c_citems (X : Xs) (x y : Rat) (hx : Sm 1000 x) (hy : Sm 1000 y) : CallOK (Wc X) 3 (.ref 216) [.str (Str.ofString "double"), rat x, rat y] (fun d => d = .int (cmpq x y)) := by
  refine callOK_d (ps := [Str.ofString "kind", Str.ofString "a", Str.ofString "b"]) (X.ok.d216) rfl (by walk_at "lit") (by walk_at "lit") rfl ?_
  intro env ev
  walk_at "ss"
  refine we_call (g_compare X) (by walk_at "g") ?_
  walk_at "ss"
  exact (c_compare X x y hx hy).eq (by decide) rfl
theorem c_sortable (X : Xs) (l : List D) : CallOK (Wc X) 1 (.ref 223) [.vec l] (fun d => d = .none) := by
  refine callOK_d (ps := [Str.ofString "v"]) (X.ok.d223) rfl (by walk_at "lit") (by walk_at "lit") rfl ?_
  intro env ev
  walk_at "ss"
  refine we_kind (a_kind X) ?_
  walk_at "ss"
  refine v_notinT (by intro e he; simp only [List.mem_cons, List.not_mem_nil, or_false] at he; rcases he with rfl | rfl | rfl | rfl <;> decide +kernel) (by decide +kernel) fun b hb => ?_
  have : b = false := by
    cases b
    · rfl
    · exact absurd (by simp) (hb.mp rfl)
  subst this
  walk_at "ss"
  rfl
theorem c_cplaces (X : Xs) (qs : List Rat) (hz : qs.length ≤ 1000) (i j : Nat) (x y : Rat) (hi : qs[i]? = some x) (hj : qs[j]? = some y) (hx : Sm 1000 x) (hy : Sm 1000 y) :
    CallOK (Wc X) 4 (.ref 230) [.vec (qs.map rat), .int i, .int j, .bool false, .bool true] (fun d => d = .int (cmpq x y)) := by
  refine callOK_d (ps := [Str.ofString "v", Str.ofString "i", Str.ofString "j", Str.ofString "decreasing", Str.ofString "na_last"]) (X.ok.d230) rfl (by walk_at "lit") (by walk_at "lit") rfl ?_
  intro env ev
  walk_at "ss"
  refine we_items (a_items X) ?_
  walk_at "ss"
  refine ⟨(i : Nat), _, rfl, rats_item hi (by omega), ?_⟩
  walk_at "ss"
  refine we_items (a_items X) ?_
  walk_at "ss"
  refine ⟨(j : Nat), _, rfl, rats_item hj (by omega), ?_⟩
  walk_at "ss"
  refine we_call (g_lacks X) (by walk_at "g") ?_
  walk_at "s"
  refine we_kind (a_kind X) ?_
  walk_at "ss"
  refine (c_lacks X x).eq (by decide) ?_
  walk_at "ss"
  refine we_call (g_lacks X) (by walk_at "g") ?_
  walk_at "s"
  refine we_kind (a_kind X) ?_
  walk_at "ss"
  refine (c_lacks X y).eq (by decide) ?_
  walk_at "ss"
  refine we_call (g_citems X) (by walk_at "g") ?_
  walk_at "s"
  refine we_kind (a_kind X) ?_
  walk_at "ss"
  refine (c_citems X x y hx hy).eq (by decide) ?_
  walk_at "ss"
  rfl
theorem c_ckeys (X : Xs) (qs : List Rat) (hz : qs.length ≤ 1000) (i j : Nat) (x y : Rat) (hi : qs[i]? = some x) (hj : qs[j]? = some y) (hx : Sm 1000 x) (hy : Sm 1000 y) :
    CallOK (Wc X) 5 (.ref 237) [.lst [.vec (qs.map rat)], .int i, .int j, .lst [.bool false], .bool true] (fun d => d = .int (cmpq x y)) := by
  refine callOK_d (ps := [Str.ofString "vs", Str.ofString "i", Str.ofString "j", Str.ofString "decreasing", Str.ofString "na_last"]) (X.ok.d237) rfl (by walk_at "lit") (by walk_at "lit") rfl ?_
  intro env ev
  walk_at "ss"
  refine wx_for_n (fun i' τ => τ = [(Str.ofString "vs", .val (.lst [.vec (qs.map rat)])), (Str.ofString "i", .val (.int i)), (Str.ofString "j", .val (.int j)), (Str.ofString "decreasing", .val (.lst [.bool false])), (Str.ofString "na_last", .val (.bool true))] ∧ (0 < i' → cmpq x y = 0)) (by walk_at "st") ?_
  refine wi_range1 (b_range X) (by walk_at "g") ?_
  walk_at "ss"
  refine we_builtin (b_len X) (by walk_at "g") ?_
  walk_at "ss"
  refine c_len (by simp) ?_
  walk_at "ss"
  refine ⟨by simp, by simp, ⟨_, ⟨rfl, by simp⟩, Has.refl⟩, ?_, ?_⟩
  · rintro i' d _ hd ⟨rfl, _⟩
    obtain ⟨hi', rfl⟩ := rng_get1 hd
    have h0 : i' = 0 := by simp at hi'; omega
    subst h0
    walk_at "ss"
    refine we_call (g_cplaces X) (by walk_at "g") ?_
    walk_at "ss"
    refine ⟨(0 : Nat), _, rfl, itemL (l := [.vec (qs.map rat)]) rfl (by simp), ?_⟩
    walk_at "ss"
    refine ⟨(0 : Nat), _, rfl, itemL (l := [.bool false]) rfl (by simp), ?_⟩
    walk_at "ss"
    refine (c_cplaces X qs hz i j x y hi hj hx hy).eq (by decide) ?_
    walk_at "ss"
    refine if_b (fun h => ?_) (fun h => ?_)
    · walk_at "ss"
      rfl
    · walk_at "ss"
      refine turnN_next ⟨rfl, fun _ => by simpa using h⟩ (Has.cons rfl (Has.cons rfl (Has.cons rfl (Has.cons rfl (Has.cons rfl Has.nil)))))
  · rintro _ ⟨rfl, h⟩
    have := h (by simp [rng_len])
    walk_at "ss"
    rw [this]
set_option maxHeartbeats 2000000 in
theorem c_mruns (X : Xs) (qs : List Rat) (hz : qs.length ≤ 1000) (hs : ∀ q ∈ qs, Sm 1000 q) (l r : List Nat) (hl : ∀ p ∈ l, p < qs.length) (hr : ∀ p ∈ r, p < qs.length) (ll : l.length ≤ 1000) (rl : r.length ≤ 1000) :
    CallOK (Wc X) 6 (.ref 244) [plc l, plc r, .lst [.vec (qs.map rat)], .lst [.bool false], .bool true] (fun d => d = plc (List.merge l r (leq qs))) := by
  refine callOK_d (ps := [Str.ofString "left", Str.ofString "right", Str.ofString "vs", Str.ofString "decreasing", Str.ofString "na_last"]) (X.ok.d244) rfl (by walk_at "lit") (by walk_at "lit") rfl ?_
  intro env ev
  walk_at "ss"
  refine wx_while (fun k τ => ∃ (m : List Nat) (i j : Nat), τ = [(Str.ofString "j", .val (.int j)), (Str.ofString "i", .val (.int i)), (Str.ofString "merged", .own (m.map fun (p : Nat) => D.int (p : Int))), (Str.ofString "left", .val (plc l)), (Str.ofString "right", .val (plc r)), (Str.ofString "vs", .val (.lst [.vec (qs.map rat)])), (Str.ofString "decreasing", .val (.lst [.bool false])), (Str.ofString "na_last", .val (.bool true))] ∧ i ≤ l.length ∧ j ≤ r.length ∧ k = (l.length - i) + (r.length - j) ∧ m.length = i + j ∧ m ++ List.merge (l.drop i) (r.drop j) (leq qs) = List.merge l r (leq qs)) ?_ (k₀ := l.length + r.length) ⟨[], 0, 0, rfl, by omega, by omega, by omega, rfl, rfl⟩ (Has.cons rfl (Has.cons rfl (Has.cons rfl (Has.cons rfl (Has.cons rfl (Has.cons rfl (Has.cons rfl (Has.cons rfl Has.nil))))))))
  rintro k _ ⟨m, i, j, rfl, hi, hj, rfl, hm, hJ⟩
  refine WT.mono (Q := fun c => c = (decide (i < l.length) && decide (j < r.length))) ?_ ?_
  · walk_at "ss"
    refine we_builtin (b_len X) (by walk_at "g") ?_
    walk_at "ss"
    refine c_len (by simp; omega) ?_
    walk_at "ss"
    refine if_b (fun h => ?_) (fun h => ?_)
    · walk_at "ss"
      refine we_builtin (b_len X) (by walk_at "g") ?_
      walk_at "ss"
      refine c_len (by simp; omega) ?_
      walk_at "ss"
      simp at h
      refine if_b (fun h' => ?_) (fun h' => ?_)
      · walk_at "ss"
        simp at h'
        simp [h, h']
      · simp at h'
        simp [h, h']
    · simp at h
      simp; omega
  rintro _ rfl
  refine if_b (fun h => ?_) (fun h => ?_)
  · simp only [Bool.and_eq_true, decide_eq_true_eq] at h
    obtain ⟨hi', hj'⟩ := h
    have ga : l[i]? = some l[i] := List.getElem?_eq_getElem hi'
    have gb : r[j]? = some r[j] := List.getElem?_eq_getElem hj'
    have qa := hl _ (List.mem_of_getElem? ga)
    have qb := hr _ (List.mem_of_getElem? gb)
    rw [List.drop_eq_getElem_cons hi', List.drop_eq_getElem_cons hj', List.cons_merge_cons] at hJ
    generalize l[i] = a at *
    generalize r[j] = b at *
    have xa : qs[a]? = some qs[a] := List.getElem?_eq_getElem qa
    have xb : qs[b]? = some qs[b] := List.getElem?_eq_getElem qb
    have sa := hs _ (List.mem_of_getElem? xa)
    have sb := hs _ (List.mem_of_getElem? xb)
    have hle : (leq qs a b = true) ↔ cmpq qs[a] qs[b] ≤ 0 := by
      unfold leq
      rw [decide_eq_true_eq, List.getD_eq_getElem?_getD, List.getD_eq_getElem?_getD, xa, xb, cmpq_le]
      rfl
    generalize qs[a] = x at *
    generalize qs[b] = y at *
    walk_at "ss"
    refine we_call (g_ckeys X) (by walk_at "g") ?_
    walk_at "ss"
    refine ⟨(i : Nat), _, rfl, plc_item ga (by omega), ?_⟩
    walk_at "ss"
    refine ⟨(j : Nat), _, rfl, plc_item gb (by omega), ?_⟩
    walk_at "ss"
    refine (c_ckeys X qs hz a b x y xa xb sa sb).eq (by decide) ?_
    walk_at "ss"
    refine if_b (fun h => ?_) (fun h => ?_)
    · rw [if_pos (hle.mpr (by simpa using h))] at hJ
      walk_at "s"
      refine wx_append (by rfl) (by simp; omega) ?_
      walk_at "ss"
      refine ⟨(i : Nat), _, rfl, plc_item ga (by omega), ?_⟩
      walk_at "ss"
      refine wx_inc (by walk_at "st") (by rfl) ?_
      walk_at "ss"
      refine ⟨_, _, ?_, ⟨m ++ [a], i + 1, j, rfl, by omega, by omega, rfl, by simp; omega, ?_⟩, Has.cons rfl (Has.cons rfl (Has.cons (by rw [List.map_append]; rfl) (Has.cons rfl (Has.cons rfl (Has.cons rfl (Has.cons rfl (Has.cons rfl Has.nil)))))))⟩
      · omega
      · rw [List.append_assoc, List.drop_eq_getElem_cons hj', show r[j] = b from by
          have := (List.getElem?_eq_some_iff.mp gb).2; exact this]
        exact hJ
    · rw [if_neg (fun e => by have := hle.mp e; simp at h; omega)] at hJ
      walk_at "s"
      refine wx_append (by rfl) (by simp; omega) ?_
      walk_at "ss"
      refine ⟨(j : Nat), _, rfl, plc_item gb (by omega), ?_⟩
      walk_at "ss"
      refine wx_inc (by walk_at "st") (by rfl) ?_
      walk_at "ss"
      refine ⟨_, _, ?_, ⟨m ++ [b], i, j + 1, rfl, by omega, by omega, rfl, by simp; omega, ?_⟩, Has.cons rfl (Has.cons rfl (Has.cons (by rw [List.map_append]; rfl) (Has.cons rfl (Has.cons rfl (Has.cons rfl (Has.cons rfl (Has.cons rfl Has.nil)))))))⟩
      · omega
      · rw [List.append_assoc, List.drop_eq_getElem_cons hi', show l[i] = a from by
          have := (List.getElem?_eq_some_iff.mp ga).2; exact this]
        exact hJ
  · have hfin : m ++ l.drop i ++ r.drop j = List.merge l r (leq qs) := by
      rw [← hJ]
      simp only [Bool.and_eq_false_iff, decide_eq_false_iff_not] at h
      rcases h with h | h
      · rw [List.drop_eq_nil_of_le (by omega), List.nil_merge, List.append_nil]
      · rw [List.drop_eq_nil_of_le (as := r) (by omega), List.merge_right, List.append_nil]
    refine seq_next ?_
    refine ws_freeze (x := Str.ofString "merged") (by rfl) ?_
    walk_at "s"
    refine wx_ret (WO.frozen (wo_cat (WO.frozen (wo_cat ?_))))
    walk_at "s"
    refine WO.frozen (wo_from ?_)
    walk_at "ss"
    refine ⟨_, (i : Int), rfl, rfl, by omega, by simp; omega, by simp; omega, ?_⟩
    refine ⟨_, _, rfl, rfl, by simp; omega, by simp; omega, ?_⟩
    refine WO.frozen (wo_from ?_)
    walk_at "ss"
    refine ⟨_, (j : Int), rfl, rfl, by omega, by simp; omega, by simp; omega, ?_⟩
    refine ⟨_, _, rfl, rfl, by simp; omega, by simp; omega, ?_⟩
    show D.lst _ = D.lst _
    rw [← hfin, List.map_append, List.map_append, List.map_drop, List.map_drop]
    rfl

def single : D → D
  | .int i => .lst [.int i]
  | d => d
theorem g_msort (X : Xs) : Glb (Wc X) (Str.ofString "merge_sort") (.ref 249) := X.ok.g_msort
set_option maxHeartbeats 2000000 in
theorem c_msort (X : Xs) (qs : List Rat) (hz : qs.length ≤ 1000) (hs : ∀ q ∈ qs, Sm 1000 q) (pl : List Nat) (hp : ∀ p ∈ pl, p < qs.length) (l1 : 1 ≤ pl.length) (ll : pl.length ≤ 1000) :
    CallOK (Wc X) 7 (.ref 249) [plc pl, .lst [.vec (qs.map rat)], .lst [.bool false], .bool true] (fun d => ∃ ps, d = plc ps ∧ ps.Perm pl ∧ Srt qs ps) := by
  refine callOK_d (ps := [Str.ofString "places", Str.ofString "vs", Str.ofString "decreasing", Str.ofString "na_last"]) (X.ok.d249) rfl (by walk_at "lit") (by walk_at "lit") rfl ?_
  intro env ev
  walk_at "s"
  refine wx_comp (fun _ => true) single (τ := []) ⟨rfl, by decide, rfl, by decide, ev.clo rfl⟩ Cap.nil (by walk_at "st") ?_ (hsw := ev.swT rfl rfl)
  refine wi_list ?_
  walk_at "ss"
  refine ⟨⟨by simp; omega, fun d hd C => .inl ⟨rfl, rfl⟩, fun d hd _ C => ?_⟩, ?_⟩
  · obtain ⟨q, hq, rfl⟩ := List.mem_map.mp hd
    refine WO.frozen (wo_list ?_)
    walk_at "ss"
    rfl
  rw [filter_t, List.map_map]
  refine seq_next (ws_freeze (x := Str.ofString "runs") (by rfl) ?_)
  have e0 : (pl.map (single ∘ fun (p : Nat) => D.int (p : Int))) = (pl.map fun p => [p]).map plc := by
    rw [List.map_map]; exact List.map_congr_left fun p _ => rfl
  rw [e0]
  walk_at "ss"
  refine we_builtin (b_len X) (by walk_at "g") ?_
  walk_at "ss"
  refine c_len (by simp; omega) ?_
  walk_at "ss"
  refine if_f (by simp; intro h; subst h; simp at l1) ?_
  walk_at "ss"
  refine wx_while (fun k τ => ∃ rs : List (List Nat), τ = [(Str.ofString "runs", .val (.lst (rs.map plc))), (Str.ofString "vs", .val (.lst [.vec (qs.map rat)])), (Str.ofString "decreasing", .val (.lst [.bool false])), (Str.ofString "na_last", .val (.bool true))] ∧ k = rs.length ∧ 1 ≤ rs.length ∧ rs.length ≤ 1000 ∧ rs.flatten.Perm pl ∧ ∀ r ∈ rs, Srt qs r) ?_ (k₀ := pl.length)
    ⟨pl.map fun p => [p], rfl, by simp, by simpa, by simpa, by rw [flat_singles], fun r hr => by obtain ⟨p, _, rfl⟩ := List.mem_map.mp hr; exact List.pairwise_singleton _ _⟩ (Has.cons rfl (Has.cons rfl (Has.cons rfl (Has.cons rfl Has.nil))))
  rintro k _ ⟨rs, rfl, rfl, h1, hk, hperm, hsrt⟩
  have hmem : ∀ r ∈ rs, (∀ p ∈ r, p < qs.length) ∧ r.length ≤ 1000 := fun r hr => ⟨fun p hpr => hp p (hperm.mem_iff.mp (List.mem_flatten.mpr ⟨r, hr, hpr⟩)), Nat.le_trans (flat_mem_len hr) (by rw [hperm.length_eq]; exact ll)⟩
  walk_at "ss"
  refine we_builtin (b_len X) (by walk_at "g") ?_
  walk_at "ss"
  refine c_len (by simp; omega) ?_
  walk_at "ss"
  refine if_b (fun h => ?_) (fun h => ?_)
  · have h2 : 1 < rs.length := by
      have : (1 : Int) < rs.length := by simpa using h
      omega
    walk_at "ss"
    refine wx_goes (fun τ => ∃ lg : List (List Nat), τ = [(Str.ofString "longer", .own (lg.map plc)), (Str.ofString "runs", .val (.lst (rs.map plc))), (Str.ofString "vs", .val (.lst [.vec (qs.map rat)])), (Str.ofString "decreasing", .val (.lst [.bool false])), (Str.ofString "na_last", .val (.bool true))] ∧ lg.length = rs.length / 2 ∧ lg ++ pairUp qs (rs.drop (2 * (rs.length / 2))) = pairUp qs rs) ?_ ?_
    · refine wx_for_n (fun i τ => ∃ lg : List (List Nat), τ = [(Str.ofString "longer", .own (lg.map plc)), (Str.ofString "runs", .val (.lst (rs.map plc))), (Str.ofString "vs", .val (.lst [.vec (qs.map rat)])), (Str.ofString "decreasing", .val (.lst [.bool false])), (Str.ofString "na_last", .val (.bool true))] ∧ lg.length = i ∧ lg ++ pairUp qs (rs.drop (2 * i)) = pairUp qs rs) (by walk_at "st") ?_
      refine wi_range3 (b_range X) (by walk_at "g") ?_
      walk_at "ss"
      refine we_builtin (b_len X) (by walk_at "g") ?_
      walk_at "ss"
      refine c_len (by simp; omega) ?_
      walk_at "ss"
      refine ⟨_, rfl, rfl, rfl, by simp; omega, by simp; omega, ⟨_, ⟨[], rfl, rfl, rfl⟩, Has.cons rfl (Has.cons rfl (Has.cons rfl (Has.cons rfl (Has.cons rfl Has.nil))))⟩, ?_, ?_⟩
      · rintro i d _ hd ⟨lg, rfl, hlen, hJ⟩
        obtain ⟨hi, rfl⟩ := rng_get hd
        have hi' : 2 * i + 1 < rs.length := by simp at hi; omega
        have e : (0 + (i : Int) * 2) = ((2 * i : Nat) : Int) := by omega
        rw [e]
        have ga : rs[2 * i]? = some rs[2 * i] := List.getElem?_eq_getElem (by omega)
        have gb : rs[2 * i + 1]? = some rs[2 * i + 1] := List.getElem?_eq_getElem hi'
        rw [pairUp_step qs ga gb] at hJ
        have ma := hmem _ (List.mem_of_getElem? ga)
        have mb := hmem _ (List.mem_of_getElem? gb)
        have ia : (rs.map plc)[2 * i]? = some (plc rs[2 * i]) := by rw [List.getElem?_map, ga]; rfl
        have ib : (rs.map plc)[2 * i + 1]? = some (plc rs[2 * i + 1]) := by rw [List.getElem?_map, gb]; rfl
        generalize rs[2 * i] = a at *
        generalize rs[2 * i + 1] = b at *
        walk_at "s"
        refine wx_append (by rfl) (by simp; omega) ?_
        refine we_call (g_mruns X) (by walk_at "g") ?_
        walk_at "ss"
        refine ⟨((2 * i : Nat) : Int), _, rfl, itemL ia (by simp; omega), ?_⟩
        walk_at "ss"
        refine ⟨((2 * i + 1 : Nat) : Int), _, rfl, itemL ib (by simp; omega), ?_⟩
        walk_at "ss"
        refine (c_mruns X qs hz hs a b ma.1 mb.1 ma.2 mb.2).eq (by decide) ?_
        walk_at "ss"
        refine turnN_next ⟨lg ++ [List.merge a b (leq qs)], rfl, by simp; omega, by rw [List.append_assoc]; exact hJ⟩ (Has.cons (by rw [List.map_append]; rfl) (Has.cons rfl (Has.cons rfl (Has.cons rfl (Has.cons rfl Has.nil)))))
      · rintro _ ⟨lg, rfl, hlen, hJ⟩
        rw [rng_len] at hlen hJ
        have e : (((rs.map plc).length : Int) - 1).toNat = rs.length - 1 := by simp <;> omega
        rw [e, show (rs.length - 1 + 1) / 2 = rs.length / 2 by omega] at hlen hJ
        exact Goes.mk ⟨lg, rfl, hlen, hJ⟩ Has.refl
    rintro _ ⟨lg, rfl, hlen, hJ⟩
    walk_at "s"
    refine wx_goes (fun τ => ∃ lg : List (List Nat), τ = [(Str.ofString "longer", .own (lg.map plc)), (Str.ofString "runs", .val (.lst (rs.map plc))), (Str.ofString "vs", .val (.lst [.vec (qs.map rat)])), (Str.ofString "decreasing", .val (.lst [.bool false])), (Str.ofString "na_last", .val (.bool true))] ∧ lg = pairUp qs rs) ?_ ?_
    · walk_at "ss"
      refine we_builtin (b_len X) (by walk_at "g") ?_
      walk_at "ss"
      refine c_len (by simp; omega) ?_
      walk_at "ss"
      refine v_mod (by decide) ?_
      walk_at "ss"
      refine if_b (fun ho => ?_) (fun ho => ?_)
      · have ho' : rs.length % 2 = 1 := by simp at ho; omega
        obtain ⟨last, hl⟩ : ∃ last, rs.getLast? = some last := by
          cases hq : rs.getLast? with
          | none => rw [List.getLast?_eq_none_iff] at hq; subst hq; simp at h1
          | some x => exact ⟨x, rfl⟩
        have hd1 : rs.drop (2 * (rs.length / 2)) = [last] := by
          rw [List.getLast?_eq_getElem?] at hl
          obtain ⟨hlt, e⟩ := List.getElem?_eq_some_iff.mp hl
          have e2 : 2 * (rs.length / 2) = rs.length - 1 := by omega
          rw [e2, List.drop_eq_getElem_cons hlt, e, List.drop_eq_nil_of_le (by omega)]
        walk_at "s"
        refine wx_append (by rfl) (by simp; omega) ?_
        refine we_last ?_
        walk_at "s"
        walk_at "s"
        walk_at "s"
        refine ⟨1, rfl, rs.map plc, plc last, rfl, rfl, by rw [List.getLast?_map, hl]; rfl, ?_⟩
        walk_at "ss"
        refine Goes.mk ⟨lg ++ [last], rfl, ?_⟩ (Has.cons (by rw [List.map_append]; rfl) (Has.cons rfl (Has.cons rfl (Has.cons rfl (Has.cons rfl Has.nil)))))
        rw [← hJ, hd1]; rfl
      · have ho' : rs.length % 2 = 0 := by simp at ho; omega
        walk_at "ss"
        refine Goes.mk ⟨lg, rfl, ?_⟩ Has.refl
        rw [← hJ, List.drop_eq_nil_of_le (by omega), pairUp, List.append_nil]
        simp
    · rintro _ ⟨lg, rfl, rfl⟩
      refine ws_freeze (x := Str.ofString "longer") (by rfl) ?_
      walk_at "ss"
      have hl := pairUp_len qs rs
      refine ⟨_, _, ?_, ⟨pairUp qs rs, rfl, rfl, by omega, by omega, (pairUp_perm qs rs).trans hperm, pairUp_srt qs rs hsrt⟩, Has.cons rfl (Has.cons rfl (Has.cons rfl (Has.cons rfl Has.nil)))⟩
      omega
  · have h2 : rs.length = 1 := by simp at h; omega
    obtain ⟨r, rfl⟩ := List.length_eq_one_iff.mp h2
    walk_at "ss"
    refine ⟨(0 : Nat), _, rfl, itemL (l := [plc r]) rfl (by simp), ?_⟩
    walk_at "ss"
    exact ⟨by simpa using hperm, hsrt r (by simp)⟩
theorem g_length (X : Xs) : Glb (Wc X) (Str.ofString "length") (.ref 202) := X.ok.g_length
theorem g_sortable (X : Xs) : Glb (Wc X) (Str.ofString "check_sortable") (.ref 223) := X.ok.g_sortable
theorem g_eachkey (X : Xs) : Glb (Wc X) (Str.ofString "each_key") (.ref 254) := X.ok.g_eachkey
theorem g_kept (X : Xs) : Glb (Wc X) (Str.ofString "kept_places") (.ref 261) := X.ok.g_kept
theorem g_orderby (X : Xs) : Glb (Wc X) (Str.ofString "order_by") (.ref 269) := X.ok.g_orderby

theorem c_eachkey (X : Xs) : CallOK (Wc X) 1 (.ref 254) [.bool false, .int 1] (fun d => d = .lst [.bool false]) := by
  refine callOK_d (ps := [Str.ofString "decreasing", Str.ofString "count"]) (X.ok.d254) rfl (by walk_at "lit") (by walk_at "lit") rfl ?_
  intro env ev
  walk_at "ss"
  refine we_notlist (b_isinstance X) (b_list X) (by walk_at "g") (by walk_at "g") ?_
  walk_at "ss"
  refine WO.frozen (wo_list ?_)
  walk_at "ss"
  refine v_rep1 (by simp) ?_
  walk_at "ss"
  rfl

set_option maxHeartbeats 1000000 in
theorem c_kept (X : Xs) (qs : List Rat) (hz : qs.length ≤ 1000) : CallOK (Wc X) 2 (.ref 261) [.lst [.vec (qs.map rat)], .bool true] (fun d => d = plc (List.range qs.length)) := by
  refine callOK_d (ps := [Str.ofString "vs", Str.ofString "na_last"]) (X.ok.d261) rfl (by walk_at "lit") (by walk_at "lit") rfl ?_
  intro env ev
  walk_at "ss"
  refine wx_for_n (fun i τ => τ = [(Str.ofString "places", .own ((List.range i).map fun (p : Nat) => D.int (p : Int))), (Str.ofString "vs", .val (.lst [.vec (qs.map rat)])), (Str.ofString "na_last", .val (.bool true))]) (by walk_at "st") ?_
  refine wi_range1 (b_range X) (by walk_at "g") ?_
  refine we_call (g_length X) (by walk_at "g") ?_
  walk_at "ss"
  refine ⟨(0 : Nat), _, rfl, itemL (l := [.vec (qs.map rat)]) rfl (by simp), ?_⟩
  walk_at "ss"
  refine (c_length X _ (by simpa)).eq (by decide) ?_
  walk_at "ss"
  refine ⟨by simp; omega, by omega, ⟨_, rfl, Has.cons rfl (Has.cons rfl (Has.cons rfl Has.nil))⟩, ?_, ?_⟩
  · rintro i d _ hd rfl
    obtain ⟨hi, rfl⟩ := rng_get1 hd
    have hi' : i < qs.length := by simpa using hi
    have e : (0 + (i : Int)) = (i : Int) := by omega
    rw [e]
    walk_at "ss"
    refine wx_append (by rfl) (by simp; omega) ?_
    walk_at "ss"
    exact turnN_next rfl (Has.cons (by rw [List.range_succ, List.map_append]; rfl) (Has.cons rfl (Has.cons rfl Has.nil)))
  · rintro _ rfl
    refine seq_next (ws_freeze (x := Str.ofString "places") (by rfl) ?_)
    walk_at "ss"
    show D.lst _ = D.lst _
    rw [rng_len]
    simp

set_option maxHeartbeats 1000000 in
theorem c_orderby (X : Xs) (qs : List Rat) (hz : qs.length ≤ 1000) (h1 : 1 ≤ qs.length) (hs : ∀ q ∈ qs, Sm 1000 q) : CallOK (Wc X) 8 (.ref 269) [.lst [.vec (qs.map rat)], .bool false, .bool true] (fun d => ∃ ps, d = plc ps ∧ ps.Perm (List.range qs.length) ∧ Srt qs ps) := by
  refine callOK_d (ps := [Str.ofString "vs", Str.ofString "decreasing", Str.ofString "na_last"]) (X.ok.d269) rfl (by walk_at "lit") (by walk_at "lit") rfl ?_
  intro env ev
  walk_at "ss"
  refine we_builtin (b_len X) (by walk_at "g") ?_
  walk_at "ss"
  refine c_len (by simp) ?_
  walk_at "ss"
  refine wx_for_n (fun i τ => τ = [(Str.ofString "vs", .val (.lst [.vec (qs.map rat)])), (Str.ofString "decreasing", .val (.bool false)), (Str.ofString "na_last", .val (.bool true))]) (by walk_at "st") ?_
  refine wi_list ?_
  walk_at "ss"
  refine ⟨⟨_, rfl, Has.refl⟩, ?_, ?_⟩
  · rintro i d _ hd rfl
    have hd' : d = .vec (qs.map rat) := by
      cases i with
      | zero => simpa using hd.symm
      | succ i => simp at hd
    subst hd'
    walk_at "s"
    refine wx_expr ?_
    refine we_call (g_sortable X) (by walk_at "g") ?_
    walk_at "ss"
    refine (c_sortable X _).eq (by decide) ?_
    walk_at "ss"
    refine we_call (g_length X) (by walk_at "g") ?_
    walk_at "ss"
    refine (c_length X _ (by simpa)).eq (by decide) ?_
    refine we_call (g_length X) (by walk_at "g") ?_
    walk_at "ss"
    refine ⟨(0 : Nat), _, rfl, itemL (l := [.vec (qs.map rat)]) rfl (by simp), ?_⟩
    walk_at "ss"
    refine (c_length X _ (by simpa)).eq (by decide) ?_
    walk_at "ss"
    refine if_f (by simp) ?_
    walk_at "ss"
    exact turnN_next rfl (Has.cons rfl (Has.cons rfl (Has.cons rfl Has.nil)))
  · rintro _ rfl
    walk_at "ss"
    refine we_call (g_eachkey X) (by walk_at "g") ?_
    walk_at "ss"
    refine we_builtin (b_len X) (by walk_at "g") ?_
    walk_at "ss"
    refine c_len (by simp) ?_
    walk_at "ss"
    refine (c_eachkey X).eq (by decide) ?_
    walk_at "ss"
    refine we_call (g_msort X) (by walk_at "g") ?_
    walk_at "ss"
    refine we_call (g_kept X) (by walk_at "g") ?_
    walk_at "ss"
    refine (c_kept X qs hz).eq (by decide) ?_
    walk_at "ss"
    refine (c_msort X qs hz hs (List.range qs.length) (fun p hp => by simpa using hp) (by simpa) (by simpa)).use (by decide) fun d hd => ?_
    walk_at "ss"
    exact hd
theorem g_toint (X : Xs) : Glb (Wc X) (Str.ofString "to_whole") (.ref 145) := X.ok.g_toint
theorem g_fromint (X : Xs) : Glb (Wc X) (Str.ofString "from_int") (.ref 75) := X.ok.g_fromint
theorem g_sub (X : Xs) : Glb (Wc X) (Str.ofString "sub") (.ref 124) := X.ok.g_sub
theorem g_mul (X : Xs) : Glb (Wc X) (Str.ofString "mul") (.ref 131) := X.ok.g_mul
theorem g_div (X : Xs) : Glb (Wc X) (Str.ofString "div") (.ref 138) := X.ok.g_div
theorem g_room (X : Xs) : Glb (Wc X) (Str.ofString "room") (.ref 188) := X.ok.g_room
theorem g_rangeof (X : Xs) : Glb (Wc X) (Str.ofString "range_of") (.ref 283) := X.ok.g_rangeof
theorem g_equal (X : Xs) : Glb (Wc X) (Str.ofString "equal_breaks") (.ref 288) := X.ok.g_equal
def placeOf (qs : List Rat) : D → D
  | .int i => rat (qs.getD i.toNat 0)
  | d => d
set_option maxHeartbeats 2000000 in
theorem c_bvals (X : Xs) (qs : List Rat) (hz : qs.length ≤ 1000) (h2 : 2 ≤ qs.length) (hn : qs.Nodup) (hs : ∀ q ∈ qs, Sm 1000 q) : CallOK (Wc X) 9 (.ref 293) [.lst [], rats qs] (fun d => ∃ B, d = rats B ∧ B.Perm qs ∧ B.Pairwise (· < ·)) := by
  refine callOK_d (ps := [Str.ofString "xs", Str.ofString "breaks"]) (X.ok.d293) rfl (by walk_at "lit") (by walk_at "lit") rfl ?_
  intro env ev
  walk_at "ss"
  refine wx_goes (fun τ => τ = [(Str.ofString "breaks", .val (rats qs))]) ?_ ?_
  · refine wx_for_n (fun i τ => τ = [(Str.ofString "breaks", .val (rats qs))]) (by walk_at "st") ?_
    refine wi_list ?_
    walk_at "ss"
    refine ⟨⟨_, rfl, Has.cons rfl Has.nil⟩, ?_, ?_⟩
    · rintro i d _ hd rfl
      obtain ⟨q, hq, rfl⟩ := rats_get hd
      walk_at "ss"
      refine we_call (g_lackc X) (by walk_at "g") ?_
      walk_at "ss"
      refine (c_lackc X q).eq (by decide) ?_
      walk_at "ss"
      exact turnN_next rfl (Has.cons rfl Has.nil)
    · rintro _ rfl
      exact Goes.mk rfl Has.refl
  rintro _ rfl
  walk_at "ss"
  refine we_builtin (b_len X) (by walk_at "g") ?_
  walk_at "ss"
  refine c_len (by simp; omega) ?_
  walk_at "ss"
  refine if_f (by simp; intro h; subst h; simp at h2) ?_
  walk_at "ss"
  refine we_builtin (b_len X) (by walk_at "g") ?_
  walk_at "ss"
  refine c_len (by simp; omega) ?_
  walk_at "ss"
  refine if_f (by simp; omega) ?_
  walk_at "ss"
  refine wx_comp (fun _ => true) (placeOf qs) (τ := [(Str.ofString "breaks", .val (rats qs))]) ⟨rfl, by decide, rfl, by decide, ev.clo rfl⟩ (Cap.cons rfl rfl (ev.cell rfl) Cap.nil) (by walk_at "st") ?_ (hsw := ev.swT rfl rfl)
  refine wi_list ?_
  refine we_call (g_orderby X) (by walk_at "g") ?_
  walk_at "s"
  refine WO.frozen (wo_list ?_)
  walk_at "s"
  refine we_call (g_double X) (by walk_at "g") ?_
  walk_at "ss"
  refine (c_double X _ (by simpa)).eq (by decide) ?_
  walk_at "ss"
  refine (c_orderby X qs hz (by omega) hs).use (by decide) ?_
  rintro _ ⟨ps, rfl, hp, hsr⟩
  obtain ⟨f1, f2⟩ := sorted_of hp hsr hn
  have hpl : ps.length = qs.length := by simpa using hp.length_eq
  refine ⟨_, rfl, ⟨by simp; omega, fun d hd C => .inl ⟨rfl, rfl⟩, fun d hd _ C => ?_⟩, ?_⟩
  · obtain ⟨p, hq, rfl⟩ := List.mem_map.mp hd
    have hlt : p < qs.length := by simpa using hp.mem_iff.mp hq
    walk_at "ss"
    refine ⟨(p : Nat), _, rfl, rats_item (List.getElem?_eq_getElem hlt) (by omega), ?_⟩
    show rat _ = rat (qs.getD (p : Int).toNat 0)
    rw [Int.toNat_natCast, List.getD_eq_getElem?_getD, List.getElem?_eq_getElem hlt]
    rfl
  have eB : ((ps.map fun (p : Nat) => D.int (p : Int)).filter fun _ => true).map (placeOf qs) = (ps.map fun p => qs.getD p 0).map rat := by
    rw [filter_t, List.map_map, List.map_map]
    exact List.map_congr_left fun p _ => by show rat (qs.getD (p : Int).toNat 0) = _; rw [Int.toNat_natCast]; rfl
  rw [eB]
  generalize (ps.map fun p => qs.getD p 0) = B at *
  have hBl : B.length = qs.length := f1.length_eq
  have hsB : ∀ q ∈ B, Sm 1000 q := fun q hq => hs q (f1.mem_iff.mp hq)
  refine seq_next (ws_freeze (x := Str.ofString "bounds") (by rfl) ?_)
  walk_at "s"
  refine wx_goes (fun τ => τ = [(Str.ofString "bounds", .val (rats B))]) ?_ ?_
  · refine wx_for_n (fun i τ => τ = [(Str.ofString "bounds", .val (rats B))]) (by walk_at "st") ?_
    refine wi_range1 (b_range X) (by walk_at "g") ?_
    walk_at "ss"
    refine we_builtin (b_len X) (by walk_at "g") ?_
    walk_at "ss"
    refine c_len (by simp; omega) ?_
    walk_at "ss"
    refine ⟨by simp; omega, by simp; omega, ⟨_, rfl, Has.cons rfl Has.nil⟩, ?_, ?_⟩
    · rintro i d _ hd rfl
      obtain ⟨hi, rfl⟩ := rng_get1 hd
      have hi' : i + 1 < B.length := by simp at hi; omega
      have ga : B[i]? = some B[i] := List.getElem?_eq_getElem (by omega)
      have gb : B[i + 1]? = some B[i + 1] := List.getElem?_eq_getElem hi'
      have sa := hsB _ (List.mem_of_getElem? ga)
      have sb := hsB _ (List.mem_of_getElem? gb)
      have hab := pair_lt f2 (Nat.lt_succ_self i) ga gb
      have e : (0 + (i : Int)) = (i : Int) := by omega
      rw [e]
      generalize B[i] = a at *
      generalize B[i + 1] = b at *
      walk_at "ss"
      refine we_call (g_compare X) (by walk_at "g") ?_
      walk_at "ss"
      refine ⟨(i : Nat), _, rfl, rats_item ga (by omega), ?_⟩
      walk_at "ss"
      refine ⟨((i + 1 : Nat) : Int), _, rfl, rats_item gb (by omega), ?_⟩
      walk_at "ss"
      refine (c_compare X a b sa sb).eq (by decide) ?_
      walk_at "ss"
      refine if_f (by rw [beq_iff_eq, cmpq_eq]; intro h; exact Rat.lt_irrefl (h ▸ hab)) ?_
      walk_at "ss"
      exact turnN_next rfl (Has.cons rfl Has.nil)
    · rintro _ rfl
      exact Goes.mk rfl Has.refl
  rintro _ rfl
  walk_at "ss"
  exact ⟨f1, f2⟩

theorem c_room (X : Xs) (n : Int) (h : n ≤ 1000000) : CallOK (Wc X) 1 (.ref 188) [.int n] (fun d => d = .int n) := by
  refine callOK_d (ps := [Str.ofString "n"]) (X.ok.d188) rfl (by walk_at "lit") (by walk_at "lit") rfl ?_
  intro env ev
  walk_at "ss"
  obtain ⟨_, hmost⟩ := X.ok.g_most
  refine we_gint (by walk_at "g") hmost ?_
  walk_at "ss"
  refine if_f (by simp; omega) ?_
  walk_at "ss"
  rfl
set_option maxHeartbeats 2000000 in
theorem c_rangeof (X : Xs) (xs : List Rat) (hz : xs.length ≤ 1000) (h1 : 1 ≤ xs.length) (hs : ∀ q ∈ xs, Sm 1000 q) : CallOK (Wc X) 3 (.ref 283) [rats xs] (fun d => ∃ lo hi, d = .tup [rat lo, rat hi] ∧ lo ∈ xs ∧ hi ∈ xs ∧ ∀ q ∈ xs, lo ≤ q ∧ q ≤ hi) := by
  refine callOK_d (ps := [Str.ofString "xs"]) (X.ok.d283) rfl (by walk_at "lit") (by walk_at "lit") rfl ?_
  intro env ev
  walk_at "ss"
  refine wx_for_n (fun i τ => ∃ dl dm : D, τ = [(Str.ofString "least", .val dl), (Str.ofString "most", .val dm)] ∧ ((i = 0 ∧ dl = .none) ∨ ∃ lo, dl = rat lo ∧ lo ∈ xs ∧ ∀ p ∈ xs.take i, lo ≤ p) ∧ ((i = 0 ∧ dm = .none) ∨ ∃ hi, dm = rat hi ∧ hi ∈ xs ∧ ∀ p ∈ xs.take i, p ≤ hi)) (by walk_at "st") ?_
  refine wi_list ?_
  walk_at "ss"
  refine ⟨⟨_, ⟨.none, .none, rfl, .inl ⟨rfl, rfl⟩, .inl ⟨rfl, rfl⟩⟩, Has.cons rfl (Has.cons rfl Has.nil)⟩, ?_, ?_⟩
  · rintro i d _ hd ⟨dl, dm, rfl, hl, hm⟩
    obtain ⟨q, hq, rfl⟩ := rats_get hd
    have ht := take_step' hq
    have hqm := List.mem_of_getElem? hq
    have hqs := hs q hqm
    walk_at "ss"
    refine we_call (g_lackc X) (by walk_at "g") ?_
    walk_at "ss"
    refine (c_lackc X q).eq (by decide) ?_
    walk_at "ss"
    walk_at "d"
    walk_at "si"
    refine wx_goes (fun τ => ∃ lo, τ = [(Str.ofString "least", .val (rat lo)), (Str.ofString "most", .val dm), (Str.ofString "x", .val (rat q))] ∧ lo ∈ xs ∧ ∀ p ∈ xs.take (i + 1), lo ≤ p) ?_ ?_
    · rcases hl with ⟨rfl, rfl⟩ | ⟨lo, rfl, hlo, hmin⟩
      · walk_at "ss"
        refine Goes.mk ⟨q, rfl, hqm, fun p hp => ?_⟩ (Has.cons rfl (Has.cons rfl (Has.cons rfl Has.nil)))
        rw [ht] at hp; simp at hp; subst hp; exact Rat.le_refl
      · walk_at "ss"
        refine we_call (g_compare X) (by walk_at "g") ?_
        walk_at "ss"
        refine (c_compare X q lo hqs (hs lo hlo)).eq (by decide) ?_
        walk_at "ss"
        refine if_b (fun h => ?_) (fun h => ?_)
        · have h' : q < lo := by rw [decide_eq_true_eq] at h; exact cmpq_lt.mp h
          walk_at "ss"
          refine Goes.mk ⟨q, rfl, hqm, fun p hp => ?_⟩ (Has.cons rfl (Has.cons rfl (Has.cons rfl Has.nil)))
          rw [ht] at hp
          rcases List.mem_append.mp hp with hp | hp
          · exact Rat.le_trans (Rat.le_of_lt h') (hmin p hp)
          · rw [List.mem_singleton] at hp; subst hp; exact Rat.le_refl
        · have h' : lo ≤ q := by rw [decide_eq_false_iff_not] at h; exact Rat.not_lt.mp fun z => h (cmpq_lt.mpr z)
          walk_at "ss"
          refine Goes.mk ⟨lo, rfl, hlo, fun p hp => ?_⟩ (Has.cons rfl (Has.cons rfl (Has.cons rfl Has.nil)))
          rw [ht] at hp
          rcases List.mem_append.mp hp with hp | hp
          · exact hmin p hp
          · rw [List.mem_singleton] at hp; subst hp; exact h'
    rintro _ ⟨lo, rfl, hlo, hmin⟩
    walk_at "s"
    refine wx_goes (fun τ => ∃ hi, τ = [(Str.ofString "least", .val (rat lo)), (Str.ofString "most", .val (rat hi))] ∧ hi ∈ xs ∧ ∀ p ∈ xs.take (i + 1), p ≤ hi) ?_ ?_
    · rcases hm with ⟨rfl, rfl⟩ | ⟨hi, rfl, hhi, hmax⟩
      · walk_at "ss"
        refine Goes.mk ⟨q, rfl, hqm, fun p hp => ?_⟩ (Has.cons rfl (Has.cons rfl Has.nil))
        rw [ht] at hp; simp at hp; subst hp; exact Rat.le_refl
      · walk_at "ss"
        refine we_call (g_compare X) (by walk_at "g") ?_
        walk_at "ss"
        refine (c_compare X q hi hqs (hs hi hhi)).eq (by decide) ?_
        walk_at "ss"
        refine if_b (fun h => ?_) (fun h => ?_)
        · have h' : hi < q := by rw [decide_eq_true_eq] at h; exact cmpq_gt.mp h
          walk_at "ss"
          refine Goes.mk ⟨q, rfl, hqm, fun p hp => ?_⟩ (Has.cons rfl (Has.cons rfl Has.nil))
          rw [ht] at hp
          rcases List.mem_append.mp hp with hp | hp
          · exact Rat.le_trans (hmax p hp) (Rat.le_of_lt h')
          · rw [List.mem_singleton] at hp; subst hp; exact Rat.le_refl
        · have h' : q ≤ hi := by rw [decide_eq_false_iff_not] at h; exact Rat.not_lt.mp fun z => h (cmpq_gt.mpr z)
          walk_at "ss"
          refine Goes.mk ⟨hi, rfl, hhi, fun p hp => ?_⟩ (Has.cons rfl (Has.cons rfl Has.nil))
          rw [ht] at hp
          rcases List.mem_append.mp hp with hp | hp
          · exact hmax p hp
          · rw [List.mem_singleton] at hp; subst hp; exact h'
    rintro _ ⟨hi, rfl, hhi, hmax⟩
    walk_at "ss"
    exact turnN_next ⟨rat lo, rat hi, rfl, .inr ⟨lo, rfl, hlo, hmin⟩, .inr ⟨hi, rfl, hhi, hmax⟩⟩ Has.refl
  · rintro _ ⟨dl, dm, rfl, hl, hm⟩
    rw [List.length_map, List.take_length] at hl hm
    rcases hl with ⟨hl, _⟩ | ⟨lo, rfl, hlo, hmin⟩
    · omega
    rcases hm with ⟨hm, _⟩ | ⟨hi, rfl, hhi, hmax⟩
    · omega
    walk_at "ss"
    exact ⟨lo, hi, rfl, hlo, hhi, fun q hq => ⟨hmin q hq, hmax q hq⟩⟩
def linOf (lo st : Rat) : D → D
  | .int i => rat (lo + st * (i : Rat))
  | d => d
theorem linOf_map {lo st : Rat} {k : Nat} : ((rng 0 k 1).filter fun _ => true).map (linOf lo st) = (lin lo st k).map rat := by
  rw [filter_t, rng, lin, List.map_map, List.map_map]
  refine List.map_congr_left fun i _ => ?_
  show rat (lo + st * ((0 + (i : Int) * 1 : Int) : Rat)) = rat (lo + st * ((i : Int) : Rat))
  rw [Int.mul_one, Int.zero_add]
theorem pos_of_num {q : Rat} (h : 0 < q.num) : 0 < q := (Rat.lt_iff _ _).mpr (by show 0 * (q.den : Int) < q.num * 1; omega)
set_option maxHeartbeats 4000000 in
theorem c_equal (X : Xs) (xs : List Rat) (c : Nat) (hc : 2 ≤ c) (hc5 : c ≤ 5) (h1 : 1 ≤ xs.length) (h6 : xs.length ≤ 6) (hs : ∀ q ∈ xs, Sm 6 q) : CallOK (Wc X) 6 (.ref 288) [rats xs, .int c] (fun d => ∃ bs, d = rats bs ∧ EqOk xs c bs) := by
  refine callOK_d (ps := [Str.ofString "xs", Str.ofString "count"]) (X.ok.d288) rfl (by walk_at "lit") (by walk_at "lit") rfl ?_
  intro env ev
  walk_at "ss"
  refine if_f (by simp; omega) ?_
  walk_at "ss"
  refine wx_expr ?_
  refine we_call (g_room X) (by walk_at "g") ?_
  walk_at "ss"
  refine (c_room X c (by omega)).eq (by decide) ?_
  walk_at "ss"
  refine wx_two (by walk_at "st") (by walk_at "st") ?_
  refine we_call (g_rangeof X) (by walk_at "g") ?_
  walk_at "ss"
  refine (c_rangeof X xs (by omega) h1 fun q hq => (hs q hq).mono (by decide)).use (by decide) ?_
  rintro _ ⟨lo, hi, rfl, hlo, hhi, hb⟩
  have slo := hs lo hlo
  have shi := hs hi hhi
  have slo' := slo.mono (m := 1000) (by decide)
  have shi' := shi.mono (m := 1000) (by decide)
  have swd : Sm 13 (hi - lo) := shi.sub slo
  have s1000 : Sm 10 ((1000 : Int) : Rat) := ⟨by decide, by decide⟩
  have sc : Sm 3 ((c : Int) : Rat) := sm_int (by omega)
  have hcn : ((c : Int) : Rat).num ≠ 0 := by show (c : Int) ≠ 0; omega
  refine ⟨_, _, rfl, ?_⟩
  walk_at "ss"
  refine we_call (g_sub X) (by walk_at "g") ?_
  walk_at "ss"
  refine (c_sub X hi lo shi' slo').eq (by decide) ?_
  walk_at "ss"
  refine if_b (fun h => ?_) (fun h => ?_)
  · have hw0 : hi - lo = 0 := by
      have : (hi - lo).num = 0 := by simpa using h
      exact Rat.num_eq_zero.mp this
    have hall : ∀ x ∈ xs, x = lo := fun x hx => by
      have := hb x hx
      exact Rat.le_antisymm (by grind) this.1
    walk_at "si"
    refine wx_goes (fun τ => ∃ w, τ = [(Str.ofString "width", .val (rat w)), (Str.ofString "least", .val (rat lo)), (Str.ofString "count", .val (.int c))] ∧ 0 < w ∧ Sm 6 w) ?_ ?_
    · walk_at "ss"
      refine if_b (fun h => ?_) (fun h => ?_)
      · walk_at "ss"
        refine we_call (g_neg X) (by walk_at "g") ?_
        walk_at "ss"
        refine (c_neg X lo).eq (by decide) ?_
        walk_at "ss"
        refine Goes.mk ⟨-lo, rfl, ?_, slo.neg⟩ (Has.cons rfl (Has.cons rfl (Has.cons rfl Has.nil)))
        have h' : lo.num < 0 := by simpa using h
        have : 0 < (-lo).num := by show 0 < -lo.num; omega
        exact pos_of_num this
      · walk_at "ss"
        refine if_b (fun h' => ?_) (fun h' => ?_)
        · walk_at "ss"
          refine we_call (g_fromint X) (by walk_at "g") ?_
          walk_at "ss"
          refine (c_from_int X 1).eq (by decide) ?_
          walk_at "ss"
          exact Goes.mk ⟨((1 : Int) : Rat), rfl, by decide, ⟨by decide, by decide⟩⟩ (Has.cons rfl (Has.cons rfl (Has.cons rfl Has.nil)))
        · walk_at "ss"
          refine Goes.mk ⟨lo, rfl, ?_, slo⟩ (Has.cons rfl (Has.cons rfl (Has.cons rfl Has.nil)))
          have h2 : lo.num ≠ 0 := by intro e; rw [e] at h'; exact absurd h' (by decide)
          have h3 : ¬ lo.num < 0 := by simpa using h
          have : 0 < lo.num := by omega
          exact pos_of_num this
    rintro _ ⟨w, rfl, hw, sw⟩
    have sm : Sm 16 (w / ((1000 : Int) : Rat)) := sw.div s1000 (by decide)
    have s2 : Sm 2 ((2 : Int) : Rat) := ⟨by decide, by decide⟩
    walk_at "ss"
    refine we_call (g_div X) (by walk_at "g") ?_
    walk_at "ss"
    refine we_call (g_fromint X) (by walk_at "g") ?_
    walk_at "ss"
    refine (c_from_int X 1000).eq (by decide) ?_
    walk_at "ss"
    refine (c_div X w _ (sw.mono (by decide)) (s1000.mono (by decide)) (by decide)).eq (by decide) ?_
    walk_at "ss"
    refine we_call (g_sub X) (by walk_at "g") ?_
    walk_at "ss"
    refine (c_sub X lo _ slo' (sm.mono (by decide))).eq (by decide) ?_
    walk_at "ss"
    refine we_call (g_mul X) (by walk_at "g") ?_
    walk_at "ss"
    refine we_call (g_fromint X) (by walk_at "g") ?_
    walk_at "ss"
    refine (c_from_int X 2).eq (by decide) ?_
    walk_at "ss"
    refine (c_mul X _ _ (sm.mono (by decide)) (s2.mono (by decide))).eq (by decide) ?_
    walk_at "ss"
    refine we_call (g_div X) (by walk_at "g") ?_
    walk_at "ss"
    refine we_call (g_fromint X) (by walk_at "g") ?_
    walk_at "ss"
    refine (c_from_int X c).eq (by decide) ?_
    walk_at "ss"
    refine (c_div X _ _ ((sm.mul s2).mono (by decide)) (sc.mono (by decide)) hcn).eq (by decide) ?_
    walk_at "ss"
    have sL : Sm 23 (lo - w / ((1000 : Int) : Rat)) := slo.sub sm
    have sS : Sm 21 (w / ((1000 : Int) : Rat) * ((2 : Int) : Rat) / ((c : Int) : Rat)) := (sm.mul s2).div sc hcn
    have fin := eqA hc hc5 hall hw slo sw
    generalize lo - w / ((1000 : Int) : Rat) = L at *
    generalize w / ((1000 : Int) : Rat) * ((2 : Int) : Rat) / ((c : Int) : Rat) = S at *
    refine WO.frozen ?_
    refine wo_comp (fun _ => true) (linOf L S) (τ := [(Str.ofString "least", .val (rat L)), (Str.ofString "step", .val (rat S))]) ⟨rfl, by decide, rfl, by decide, ev.clo rfl⟩ (Cap.cons rfl rfl (ev.cell rfl) (Cap.cons rfl rfl (ev.cell rfl) Cap.nil)) ?_
    refine wi_range1 (b_range X) (by walk_at "g") ?_
    walk_at "ss"
    refine ⟨by omega, by omega, ⟨by rw [rng_len]; omega, fun d hd C => .inl ⟨rfl, rfl⟩, fun d hd _ C => ?_⟩, ?_⟩
    · obtain ⟨i, hi⟩ := List.mem_iff_getElem?.mp hd
      obtain ⟨hi, rfl⟩ := rng_get1 hi
      have si : Sm 3 (((i : Nat) : Int) : Rat) := sm_int (by omega)
      rw [Int.zero_add]
      refine we_call (g_add X) rfl ?_
      walk_at "ss"
      refine we_call (g_mul X) rfl ?_
      walk_at "ss"
      refine we_call (g_fromint X) rfl ?_
      walk_at "ss"
      refine (c_from_int X i).eq (by decide) ?_
      walk_at "ss"
      refine (c_mul X _ _ (sS.mono (by decide)) (si.mono (by decide))).eq (by decide) ?_
      walk_at "ss"
      exact (c_add X _ _ (sL.mono (by decide)) ((sS.mul si).mono (by decide))).eq (by decide) rfl
    · have e : ((c : Int) + 1).toNat = c + 1 := by omega
      rw [e, linOf_map]
      exact ⟨_, rfl, fin⟩
  · have hw : 0 < hi - lo := by
      have h0 : hi - lo ≠ 0 := fun e => by rw [e] at h; simp at h
      have := hb lo hlo
      exact Rat.lt_of_le_of_ne (by grind) (fun e => h0 e.symm)
    have fin := eqB hc hc5 hb hw slo shi
    have sm : Sm 23 ((hi - lo) / ((1000 : Int) : Rat)) := swd.div s1000 (by decide)
    have sS : Sm 16 ((hi - lo) / ((c : Int) : Rat)) := swd.div sc hcn
    walk_at "ss"
    refine we_call (g_div X) (by walk_at "g") ?_
    walk_at "ss"
    refine we_call (g_fromint X) (by walk_at "g") ?_
    walk_at "ss"
    refine (c_from_int X c).eq (by decide) ?_
    walk_at "ss"
    refine (c_div X _ _ (swd.mono (by decide)) (sc.mono (by decide)) hcn).eq (by decide) ?_
    walk_at "ss"
    refine wx_comp (fun _ => true) (linOf lo ((hi - lo) / ((c : Int) : Rat))) (τ := [(Str.ofString "least", .val (rat lo)), (Str.ofString "step", .val (rat ((hi - lo) / ((c : Int) : Rat))))]) ⟨rfl, by decide, rfl, by decide, ev.clo rfl⟩ (Cap.cons rfl rfl (ev.cell rfl) (Cap.cons rfl rfl (ev.cell rfl) Cap.nil)) (by walk_at "st") ?_ (hsw := ev.swT rfl rfl)
    refine wi_range1 (b_range X) (by walk_at "g") ?_
    walk_at "ss"
    refine ⟨by omega, by omega, ⟨by rw [rng_len]; omega, fun d hd C => .inl ⟨rfl, rfl⟩, fun d hd _ C => ?_⟩, ?_⟩
    · obtain ⟨i, hi⟩ := List.mem_iff_getElem?.mp hd
      obtain ⟨hi, rfl⟩ := rng_get1 hi
      have si : Sm 3 (((i : Nat) : Int) : Rat) := sm_int (by omega)
      rw [Int.zero_add]
      refine we_call (g_add X) rfl ?_
      walk_at "ss"
      refine we_call (g_mul X) rfl ?_
      walk_at "ss"
      refine we_call (g_fromint X) rfl ?_
      walk_at "ss"
      refine (c_from_int X i).eq (by decide) ?_
      walk_at "ss"
      refine (c_mul X _ _ (sS.mono (by decide)) (si.mono (by decide))).eq (by decide) ?_
      walk_at "ss"
      exact (c_add X _ _ slo' ((sS.mul si).mono (by decide))).eq (by decide) rfl
    have e : ((c : Int) + 1).toNat = c + 1 := by omega
    rw [e, linOf_map]
    have hl := lin_len (lo := lo) (st := (hi - lo) / ((c : Int) : Rat)) (k := c + 1)
    have s0 : Sm 3 ((0 : Int) : Rat) := sm_int (i := 0) (by decide)
    have g0 : (lin lo ((hi - lo) / ((c : Int) : Rat)) (c + 1))[0]? = some (lo + (hi - lo) / ((c : Int) : Rat) * ((0 : Int) : Rat)) := by
      unfold lin; rw [List.getElem?_map, List.getElem?_range (by omega)]; rfl
    have gc : (lin lo ((hi - lo) / ((c : Int) : Rat)) (c + 1))[c]? = some (lo + (hi - lo) / ((c : Int) : Rat) * ((c : Int) : Rat)) := by
      unfold lin; rw [List.getElem?_map, List.getElem?_range (by omega)]; rfl
    generalize lin lo ((hi - lo) / ((c : Int) : Rat)) (c + 1) = bl at *
    walk_at "ss"
    refine we_call (g_div X) (by walk_at "g") ?_
    walk_at "ss"
    refine we_call (g_fromint X) (by walk_at "g") ?_
    walk_at "ss"
    refine (c_from_int X 1000).eq (by decide) ?_
    walk_at "ss"
    refine (c_div X _ _ (swd.mono (by decide)) (s1000.mono (by decide)) (by decide)).eq (by decide) ?_
    walk_at "ss"
    refine wx_setitem (by rfl) (we_borrow (x := Str.ofString "bounds") (by rfl) ?_)
    refine we_call (g_sub X) (by walk_at "g") ?_
    walk_at "ss"
    refine ⟨(0 : Nat), _, rfl, rats_item g0 (by omega), ?_⟩
    walk_at "ss"
    refine (c_sub X _ _ ((slo.add (sS.mul s0)).mono (by decide)) (sm.mono (by decide))).eq (by decide) ⟨rfl, ?_⟩
    walk_at "ss"
    refine ⟨by decide, by decide, by simp; omega, ?_⟩
    walk_at "ss"
    refine wx_setitem (by rfl) (we_borrow (x := Str.ofString "bounds") (by rfl) ?_)
    refine we_call (g_add X) (by walk_at "g") ?_
    walk_at "ss"
    refine ⟨(c : Nat), _, rfl, itemL (by rw [show (0 : Int).toNat = 0 from rfl, List.getElem?_set_ne (by omega), List.getElem?_map, gc]; rfl) (by simp; omega), ?_⟩
    walk_at "ss"
    refine (c_add X _ _ ((slo.add (sS.mul sc)).mono (by decide)) (sm.mono (by decide))).eq (by decide) ⟨rfl, ?_⟩
    walk_at "ss"
    refine ⟨by omega, by omega, by simp; omega, ?_⟩
    refine seq_next (ws_freeze (x := Str.ofString "bounds") (by rfl) ?_)
    walk_at "ss"
    refine ⟨_, ?_, fin⟩
    show D.lst _ = D.lst _
    rw [List.map_set, List.map_set]
    rfl

section
set_option linter.unusedVariables false
set_option linter.unusedSimpArgs false
theorem codeFrom_some {r l : Bool} {B : List Rat} {x : Rat} : ∀ {k i m : Nat}, codeFrom r l B x i k = some m → i < m ∧ m ≤ i + k ∧ fits r l (m - 1) (B.length - 1) (B.getD (m - 1) 0) (B.getD m 0) x = true
  | 0, i, m, h => by simp [codeFrom] at h
  | k + 1, i, m, h => by
    rw [codeFrom] at h
    by_cases q : fits r l i (B.length - 1) (B.getD i 0) (B.getD (i + 1) 0) x = true
    · rw [if_pos q] at h
      injection h with h
      subst h
      exact ⟨by omega, by omega, by simpa using q⟩
    · rw [if_neg q] at h
      obtain ⟨a, b, c⟩ := codeFrom_some h
      exact ⟨by omega, by omega, c⟩
theorem codeFrom_none {r l : Bool} {B : List Rat} {x : Rat} : ∀ {k i : Nat}, codeFrom r l B x i k = none → ∀ j, i ≤ j → j < i + k → fits r l j (B.length - 1) (B.getD j 0) (B.getD (j + 1) 0) x = false
  | 0, i, h, j, h1, h2 => by omega
  | k + 1, i, h, j, h1, h2 => by
    rw [codeFrom] at h
    by_cases q : fits r l i (B.length - 1) (B.getD i 0) (B.getD (i + 1) 0) x = true
    · rw [if_pos q] at h; cases h
    · rw [if_neg q] at h
      by_cases e : i = j
      · subst e; simpa using q
      · exact codeFrom_none h j (by omega) (by omega)

abbrev Sorted (B : List Rat) : Prop := B.Pairwise (· < ·)
theorem getD_lt {B : List Rat} (h : Sorted B) {i j : Nat} (hij : i < j) (hj : j < B.length) : B.getD i 0 < B.getD j 0 := by
  rw [List.getD_eq_getElem?_getD, List.getD_eq_getElem?_getD, List.getElem?_eq_getElem hj, List.getElem?_eq_getElem (Nat.lt_trans hij hj)]
  exact List.pairwise_iff_getElem.mp h i j _ hj hij
theorem getD_le {B : List Rat} (h : Sorted B) {i j : Nat} (hij : i ≤ j) (hj : j < B.length) : B.getD i 0 ≤ B.getD j 0 := by
  rcases Nat.lt_or_eq_of_le hij with q | q
  · exact Rat.le_of_lt (getD_lt h q hj)
  · subst q; exact Rat.le_refl

abbrev fitsAt (r l : Bool) (B : List Rat) (x : Rat) (j : Nat) : Bool := fits r l j (B.length - 1) (B.getD j 0) (B.getD (j + 1) 0) x
theorem fits_right {l : Bool} {B : List Rat} {x : Rat} {j : Nat} (h : fitsAt true l B x j = true) : (B.getD j 0 < x ∨ (j = 0 ∧ x = B.getD 0 0)) ∧ x ≤ B.getD (j + 1) 0 := by
  simp only [fitsAt, fits, if_true, Bool.and_eq_true, Bool.or_eq_true, decide_eq_true_eq, beq_iff_eq] at h
  obtain ⟨h1, h2⟩ := h
  refine ⟨?_, h2⟩
  rcases h1 with h1 | ⟨⟨_, h1⟩, h3⟩
  · exact .inl h1
  · subst h1; exact .inr ⟨rfl, h3⟩
theorem fits_left {l : Bool} {B : List Rat} {x : Rat} {j : Nat} (h : fitsAt false l B x j = true) : B.getD j 0 ≤ x ∧ (x < B.getD (j + 1) 0 ∨ (j + 1 = B.length - 1 ∧ x = B.getD (j + 1) 0)) := by
  simp only [fitsAt, fits, Bool.false_eq_true, if_false, Bool.and_eq_true, Bool.or_eq_true, decide_eq_true_eq, beq_iff_eq] at h
  obtain ⟨h1, h2⟩ := h
  refine ⟨h1, ?_⟩
  rcases h2 with h2 | ⟨⟨_, h2⟩, h3⟩
  · exact .inl h2
  · exact .inr ⟨h2, h3⟩
theorem fits_uniq' {r l : Bool} {B : List Rat} (hS : Sorted B) {x : Rat} {i j : Nat} (hij : i < j) (hj : j < B.length - 1) (h1 : fitsAt r l B x i = true) (h2 : fitsAt r l B x j = true) : False := by
  have hle := getD_le hS (i := i + 1) (j := j) hij (by omega)
  cases r
  · have a := (fits_left h2).1
    rcases (fits_left h1).2 with b | ⟨b, _⟩
    · exact Rat.not_lt.mpr (Rat.le_trans hle a) b
    · omega
  · have a := (fits_right h1).2
    rcases (fits_right h2).1 with b | ⟨b, _⟩
    · exact Rat.not_lt.mpr (Rat.le_trans a hle) b
    · omega
theorem fits_uniq {r l : Bool} {B : List Rat} (hS : Sorted B) {x : Rat} {i j : Nat} (hi : i < B.length - 1) (hj : j < B.length - 1) (h1 : fitsAt r l B x i = true) (h2 : fitsAt r l B x j = true) : i = j := by
  rcases Nat.lt_trichotomy i j with q | q | q
  · exact (fits_uniq' hS q hj h1 h2).elim
  · exact q
  · exact (fits_uniq' hS q hi h2 h1).elim
theorem code_of_fits {r l : Bool} {B : List Rat} (hS : Sorted B) {x : Rat} {j : Nat} (hj : j < B.length - 1) (h : fitsAt r l B x j = true) : code r l B x = some (j + 1) := by
  cases q : code r l B x with
  | none =>
    have := codeFrom_none q j (Nat.zero_le _) (by omega)
    rw [fitsAt, this] at h; cases h
  | some m =>
    obtain ⟨a, b, c⟩ := codeFrom_some q
    have e : m - 1 + 1 = m := by omega
    have := fits_uniq hS (i := j) (j := m - 1) hj (by omega) h (by rw [fitsAt, e]; exact c)
    congr 1; omega
theorem code_none_of {r l : Bool} {B : List Rat} {x : Rat} (h : ∀ j, j < B.length - 1 → fitsAt r l B x j = false) : code r l B x = none := by
  cases q : code r l B x with
  | none => rfl
  | some m =>
    obtain ⟨a, b, c⟩ := codeFrom_some q
    have e : m - 1 + 1 = m := by omega
    have := h (m - 1) (by omega)
    rw [fitsAt, e, c] at this; cases this
theorem code_some {r l : Bool} {B : List Rat} {x : Rat} {m : Nat} (q : code r l B x = some m) : 1 ≤ m ∧ m ≤ B.length - 1 ∧ fitsAt r l B x (m - 1) = true := by
  obtain ⟨a, b, c⟩ := codeFrom_some q
  have e : m - 1 + 1 = m := by omega
  exact ⟨by omega, by omega, by rw [fitsAt, e]; exact c⟩
theorem code_none {r l : Bool} {B : List Rat} {x : Rat} (q : code r l B x = none) {j : Nat} (hj : j < B.length - 1) : fitsAt r l B x j = false := codeFrom_none q j (Nat.zero_le _) (by omega)

/-- told: the homes -/
theorem filter_one {p : Nat → Bool} {j : Nat} : ∀ {N : Nat}, j < N → p j = true → (∀ i, i < N → p i = true → i = j) → (List.range N).filter p = [j]
  | 0, h, _, _ => by omega
  | N + 1, h, hp, hu => by
    rw [List.range_succ, List.filter_append]
    by_cases q : j = N
    · subst q
      have e : (List.range j).filter p = [] := List.filter_eq_nil_iff.mpr fun i hi hpi => by
        have := List.mem_range.mp hi
        have := hu i (by omega) hpi
        omega
      rw [e, List.filter_cons, if_pos hp]; rfl
    · rw [filter_one (by omega) hp fun i hi => hu i (by omega)]
      have : p N = false := by
        cases z : p N with
        | false => rfl
        | true => have := hu N (by omega) z; omega
      rw [List.filter_cons, this]; rfl
theorem homes_eq {B : List Rat} (hS : Sorted B) {x : Rat} : homes x B (B.length - 1) = match code true false B x with | none => [] | some k => [(k : Int)] := by
  have hp : (fun j => decide (B.getD j 0 < x) && !decide (B.getD (j + 1) 0 < x)) = fun j => fitsAt true false B x j := by
    funext j
    simp only [fitsAt, fits, if_true, Bool.false_and, Bool.or_false]
    congr 1
    rw [Bool.eq_iff_iff, Bool.not_eq_true', decide_eq_false_iff_not, decide_eq_true_eq]
    exact Rat.not_lt
  unfold homes
  rw [hp]
  cases q : code true false B x with
  | none =>
    rw [List.filter_eq_nil_iff.mpr fun i hi => by rw [code_none q (List.mem_range.mp hi)]; simp]
    rfl
  | some m =>
    obtain ⟨a, b, c⟩ := code_some q
    rw [filter_one (j := m - 1) (by omega) c fun i hi h => fits_uniq hS hi (by omega) h c]
    show [((m - 1 + 1 : Nat) : Int)] = [(m : Int)]
    rw [show m - 1 + 1 = m by omega]
/-- closed -/
theorem closed_eq {B : List Rat} (hS : Sorted B) (h2 : 2 ≤ B.length) {x : Rat} : code true true B x = if x = B.getD 0 0 then some 1 else code true false B x := by
  by_cases h : x = B.getD 0 0
  · rw [if_pos h]
    refine code_of_fits hS (j := 0) (by omega) ?_
    have := getD_lt hS (i := 0) (j := 1) (by decide) (by omega)
    have hb : x ≤ B.getD (0 + 1) 0 := by rw [h]; exact Rat.le_of_lt this
    unfold fitsAt fits
    rw [if_pos rfl, decide_eq_true h, decide_eq_true hb]
    simp
  · rw [if_neg h]
    have key : ∀ j, fitsAt true true B x j = fitsAt true false B x j := by
      intro j
      unfold fitsAt fits
      rw [if_pos rfl, if_pos rfl]
      by_cases q : j = 0
      · subst q
        rw [decide_eq_false h, Bool.and_false, Bool.and_false]
      · have q' : (j == 0) = false := by simpa using q
        rw [q', Bool.and_false, Bool.and_false]
    cases q : code true false B x with
    | none => exact code_none_of fun j hj => by rw [key]; exact code_none q hj
    | some m =>
      obtain ⟨a, b, c⟩ := code_some q
      rw [code_of_fits hS (j := m - 1) (by omega) (by rw [key]; exact c)]
      congr 1; omega
/-- turned -/
abbrev turn (B : List Rat) : List Rat := (B.map fun q => -q).reverse
theorem turn_getD {B : List Rat} {j : Nat} (hj : j < B.length) : (turn B).getD j 0 = -(B.getD (B.length - 1 - j) 0) := by
  rw [turn, List.getD_eq_getElem?_getD, List.getElem?_reverse (by simpa using hj), List.getElem?_map, List.length_map, List.getD_eq_getElem?_getD, List.getElem?_eq_getElem (by omega)]
  rfl
theorem turn_len {B : List Rat} : (turn B).length = B.length := by simp [turn]
theorem turn_sorted {B : List Rat} (hS : Sorted B) : Sorted (turn B) := by
  refine List.pairwise_reverse.mpr (List.pairwise_map.mpr (hS.imp fun {a b} h => ?_))
  grind
theorem turn_fits {B : List Rat} {x : Rat} {lw : Bool} {j : Nat} (hj : j < B.length - 1) : fitsAt false lw (turn B) (-x) (B.length - 2 - j) = fitsAt true lw B x j := by
  have e1 : (turn B).getD (B.length - 2 - j) 0 = -(B.getD (j + 1) 0) := by
    rw [turn_getD (by omega)]; congr 2; omega
  have e2 : (turn B).getD (B.length - 2 - j + 1) 0 = -(B.getD j 0) := by
    rw [turn_getD (by omega)]; congr 2; omega
  simp only [fitsAt, fits, e1, e2, turn_len, Bool.false_eq_true, if_false, if_true]
  generalize B.getD j 0 = a
  generalize B.getD (j + 1) 0 = b
  have c1 : decide (-b ≤ -x) = decide (x ≤ b) := by rw [decide_eq_decide]; constructor <;> intro h <;> grind
  have c2 : decide (-x < -a) = decide (a < x) := by rw [decide_eq_decide]; constructor <;> intro h <;> grind
  have c3 : decide (-x = -a) = decide (x = a) := by rw [decide_eq_decide]; constructor <;> intro h <;> grind
  have c4 : (B.length - 2 - j + 1 == B.length - 1) = (j == 0) := by rw [Bool.eq_iff_iff, beq_iff_eq, beq_iff_eq]; omega
  rw [c1, c2, c3, c4, Bool.and_comm]
theorem turn_code {B : List Rat} (hS : Sorted B) (h2 : 2 ≤ B.length) {x : Rat} {lw : Bool} : code false lw (turn B) (-x) = (code true lw B x).map fun k => B.length - k := by
  cases q : code true lw B x with
  | none =>
    refine code_none_of fun j hj => ?_
    rw [turn_len] at hj
    have := turn_fits (B := B) (x := x) (lw := lw) (j := B.length - 2 - j) (by omega)
    rw [show B.length - 2 - (B.length - 2 - j) = j by omega] at this
    rw [this]
    exact code_none q (by omega)
  | some m =>
    obtain ⟨a, b, c⟩ := code_some q
    rw [code_of_fits (turn_sorted hS) (j := B.length - 2 - (m - 1)) (by rw [turn_len]; omega) (by rw [turn_fits (by omega)]; exact c)]
    show some _ = some (B.length - m)
    congr 1; omega
/-- moved -/
theorem moved_code {B : List Rat} {x t : Rat} : code true false (B.map fun q => q + t) (x + t) = code true false B x := by
  have key : ∀ k i, i + k ≤ B.length - 1 → codeFrom true false (B.map fun q => q + t) (x + t) i k = codeFrom true false B x i k := by
    intro k
    induction k with
    | zero => intro i _; rfl
    | succ k ih =>
      intro i hi
      rw [codeFrom, codeFrom, ih (i + 1) (by omega)]
      have g : ∀ j, j < B.length → (B.map fun q => q + t).getD j 0 = B.getD j 0 + t := fun j hj => by
        rw [List.getD_eq_getElem?_getD, List.getElem?_map, List.getElem?_eq_getElem hj, List.getD_eq_getElem?_getD, List.getElem?_eq_getElem hj]; rfl
      rw [g i (by omega), g (i + 1) (by omega)]
      have f : fits true false i ((B.map fun q => q + t).length - 1) (B.getD i 0 + t) (B.getD (i + 1) 0 + t) (x + t) = fits true false i (B.length - 1) (B.getD i 0) (B.getD (i + 1) 0) x := by
        simp only [fits, if_true, Bool.false_and, Bool.or_false]
        generalize B.getD i 0 = a
        generalize B.getD (i + 1) 0 = b
        congr 1
        · rw [decide_eq_decide]; constructor <;> intro h <;> grind
        · rw [decide_eq_decide]; constructor <;> intro h <;> grind
      rw [f]
  have := key (B.length - 1) 0 (by omega)
  unfold code
  rw [List.length_map]
  exact this
/-- counted -/
theorem count_iff {x : Rat} : ∀ {B : List Rat}, Sorted B → ∀ j a, B[j]? = some a → (a ≤ x ↔ j < countLe B x)
  | [], _, j, a, h => by simp at h
  | b :: t, hS, j, a, h => by
    obtain ⟨h1, h2⟩ := List.pairwise_cons.mp hS
    by_cases q : b ≤ x
    · have e : countLe (b :: t) x = countLe t x + 1 := by
        unfold countLe; rw [List.filter_cons, if_pos (by simpa using q), List.length_cons]
      rw [e]
      cases j with
      | zero => simp at h; subst h; simp [q]
      | succ j => rw [count_iff h2 j a (by simpa using h)]; omega
    · have hall : ∀ c ∈ t, ¬ c ≤ x := fun c hc hcx => q (Rat.le_trans (Rat.le_of_lt (h1 c hc)) hcx)
      have e : countLe (b :: t) x = 0 := by
        unfold countLe
        rw [List.filter_cons, if_neg (by simpa using q), List.filter_eq_nil_iff.mpr fun c hc => by simpa using hall c hc]; rfl
      rw [e]
      have ha : ¬ a ≤ x := by
        have := List.mem_of_getElem? h
        rcases List.mem_cons.mp this with rfl | hm
        · exact q
        · exact hall a hm
      simp [ha]
theorem count_le_len {B : List Rat} {x : Rat} : countLe B x ≤ B.length := List.length_filter_le _ _
theorem left_eq {B : List Rat} (hS : Sorted B) {x : Rat} : code false false B x = if 0 < countLe B x ∧ countLe B x < B.length then some (countLe B x) else none := by
  have g : ∀ j, j < B.length → (B.getD j 0 ≤ x ↔ j < countLe B x) := fun j hj => by
    refine count_iff hS j _ ?_
    rw [List.getD_eq_getElem?_getD, List.getElem?_eq_getElem hj]; rfl
  by_cases h : 0 < countLe B x ∧ countLe B x < B.length
  · rw [if_pos h, code_of_fits hS (j := countLe B x - 1) (by omega) ?_]
    · congr 1; omega
    · have a := (g (countLe B x - 1) (by omega)).mpr (by omega)
      have b : ¬ B.getD (countLe B x) 0 ≤ x := fun z => by have := (g _ h.2).mp z; omega
      simp only [fitsAt, fits, Bool.false_eq_true, if_false, Bool.and_eq_true, Bool.or_eq_true, decide_eq_true_eq]
      rw [show countLe B x - 1 + 1 = countLe B x by omega]
      exact ⟨a, .inl (Rat.not_le.mp b)⟩
  · rw [if_neg h]
    refine code_none_of fun j hj => ?_
    cases q : fitsAt false false B x j with
    | false => rfl
    | true =>
      have c := fits_left q
      have a := (g j (by omega)).mp c.1
      simp only [fitsAt, fits, Bool.false_eq_true, if_false, Bool.and_eq_true, Bool.or_eq_true, decide_eq_true_eq, Bool.false_and, or_false] at q
      have b : ¬ (j + 1) < countLe B x := fun z => Rat.not_lt.mpr ((g (j + 1) (by omega)).mpr z) q.2
      exact absurd ⟨by omega, by omega⟩ h
/-- equal breaks take in every number -/
theorem eq_right {xs bs : List Rat} {c : Nat} (h : EqOk xs c bs) {x : Rat} (hx : x ∈ xs) : code true false bs x ≠ none := fun q => by
  have key : ∀ j, j ≤ c → bs.getD j 0 < x := by
    intro j
    induction j with
    | zero => intro _; exact h.low x hx
    | succ j ih =>
      intro hj
      have f := code_none q (j := j) (by rw [h.len]; omega)
      have := ih (by omega)
      simp only [fitsAt, fits, if_true, Bool.false_and, Bool.or_false, this, decide_true, Bool.true_and, decide_eq_false_iff_not] at f
      exact Rat.not_le.mp f
  exact Rat.not_lt.mpr (Rat.le_of_lt (key c (Nat.le_refl _))) (h.high x hx)
theorem eq_left {xs bs : List Rat} {c : Nat} (h : EqOk xs c bs) {x : Rat} (hx : x ∈ xs) : code false false bs x ≠ none := fun q => by
  have key : ∀ j, j ≤ c → bs.getD j 0 ≤ x := by
    intro j
    induction j with
    | zero => intro _; exact Rat.le_of_lt (h.low x hx)
    | succ j ih =>
      intro hj
      have f := code_none q (j := j) (by rw [h.len]; omega)
      have := ih (by omega)
      simp only [fitsAt, fits, Bool.false_eq_true, if_false, Bool.false_and, Bool.or_false, this, decide_true, Bool.true_and, decide_eq_false_iff_not] at f
      exact Rat.not_lt.mp f
  exact Rat.not_lt.mpr (key c (Nat.le_refl _)) (h.high x hx)
end

section
open PySem PySem.W PySem.Calls PyProof.Rows
set_option linter.unusedVariables false
set_option maxRecDepth 100000
section
variable {prog : Program} {w : World} {A : Around} {E : Value → Shared → Prop} {s : Shared}
theorem list_sort_by {a : Addr} {vs : List Value} {n : Nat} {P : PySem.Fin → Shared → Prop} {κ : SortKind} {c : Nat → Nat → Bool} (ho : s.heap.get? a = some (seqObj "list" vs.toArray n)) (h2 : 2 ≤ vs.length) (h64 : vs.length < 64) (H : Cmp vs.length c)
    (hk : ∀ h' (Q : SortKind → Shared → Prop), (∀ b o, b ≠ a → s.heap.get? b = some o → h'.get? b = some o) → Q κ { s with heap := h' } → wpAny (model prog w) A (keyKind' vs.toArray) Q E { s with heap := h' })
    (hc : ∀ h', (∀ b o, b ≠ a → s.heap.get? b = some o → h'.get? b = some o) → ∀ i j C, i < vs.length → j < vs.length → C (c i j) { s with heap := h' } → kas_ask prog w A κ vs i j C { s with heap := h' })
    (h : ∀ (p : Array Nat) h' e, Inv vs.length p → SP c p vs.length → h'.get? a = some (seqObj "list" (p.toList.map fun i => vs.getD i Value.none).toArray e) → (∀ b o, b ≠ a → s.heap.get? b = some o → h'.get? b = some o) → P (.done (.ret .none)) { s with heap := h' }) :
    wpAny (model prog w) A (Builtin.«list.sort» ⟨[.ref a], []⟩) P E s := by
  have hlt : a < s.heap.objs.size := Heap.lt_size ho
  obtain ⟨e1, ho1⟩ : ∃ e1, (s.heap.update a (Obj.mapSeq fun _ => (#[] : Array Value))).get? a = some (seqObj "list" #[] e1) := ⟨_, get?_update_seq ho fun _ => #[]⟩
  have k1 : ∀ b o, b ≠ a → s.heap.get? b = some o → (((s.heap.update a (Obj.mapSeq fun _ => (#[] : Array Value))).push (seqObj "tuple" vs.toArray 0)).push (seqObj "list" #[] 0)).get? b = some o := fun b o ne e =>
    Heap.get?_push_of_some _ (Heap.get?_push_of_some _ ((Heap.get?_update_ne _ _ _ _ ne).trans e))
  have ha1 : (((s.heap.update a (Obj.mapSeq fun _ => (#[] : Array Value))).push (seqObj "tuple" vs.toArray 0)).push (seqObj "list" #[] 0)).get? a = some (seqObj "list" #[] e1) := Heap.get?_push_of_some _ (Heap.get?_push_of_some _ ho1)
  rw [list_sort_plain]
  refine wpAny_bind (listItems_at ho rfl ?_)
  refine wpAny_bind (listUpdate_at ho rfl ?_ (by rw [List.size_toArray, sizeLine_eq]; omega) (Nat.zero_le _))
  refine wpAny_bind (seqEpoch_at ho1 rfl ?_)
  refine wpAny_bind (wpAny_newTuple ?_ (by show vs.length ≤ _; rw [sizeLine_eq]; omega))
  refine wpAny_bind (wpAny_newList ?_ (Nat.zero_le _))
  refine wpAny_holding ?_
  dsimp only
  have hn2 : ¬ vs.toArray.size < 2 := by rw [List.size_toArray]; omega
  rw [if_neg hn2, if_neg hn2]
  refine wpAny_bind (hk _ _ k1 ?_)
  generalize hH : ((s.heap.update a (Obj.mapSeq fun _ => (#[] : Array Value))).push (seqObj "tuple" vs.toArray 0)).push (seqObj "list" #[] 0) = H1 at k1 ha1
  refine wpAny_bind (wpAny_mono (kat_run (s := { s with heap := H1 }) (κ := κ) (vs := vs) (ks := vs) (E := E) (A := A) (prog := prog) (w := w)
    (G := fun p s' => Inv vs.length p ∧ SP c p vs.length ∧ s' = { s with heap := H1 })
    (Q := fun st' s' => ∃ p : Array Nat, p.size = vs.length ∧ arrOf st' = p.map (kas_item (vs.toArray.zip vs.toArray)) ∧ failedOf st' = none ∧ Inv vs.length p ∧ SP c p vs.length ∧ s' = { s with heap := H1 }) rfl h2 h64
    (fun p st' s' hp har hf hG => ⟨p, hp, har, hf, hG⟩) (kasWp_good (hc _ k1) (Good.mono (fun p hp => ⟨hp.1, hp.2, rfl⟩) (good_sort H h2)))) ?_ fun _ _ e => e)
  rintro ⟨⟨⟩, st'⟩ s' ⟨p, hp, har, hf, hI, hS, rfl⟩
  dsimp only
  have hout := kat_snds (ks := vs) (vs := vs) rfl har
  have hsz : (List.toArray (p.toList.map fun i => vs.getD i Value.none)).size = vs.length := by rw [List.size_toArray, List.length_map, Array.length_toList, hp]
  rw [hout]
  refine wpAny_bind (seqEpoch_at ha1 rfl ?_)
  refine wpAny_bind (listUpdate_at ha1 rfl ?_ (Nat.zero_le _) (Nat.le_trans (Nat.le_of_eq hsz) (by rw [sizeLine_eq]; omega)))
  rw [hf]
  simp only [bne_self_eq_false, Bool.false_eq_true, if_false]
  refine wpAny_pure ?_
  exact h p _ _ hI hS (get?_update_seq ha1 fun _ => List.toArray (p.toList.map fun i => vs.getD i Value.none)) fun b o ne e => (Heap.get?_update_ne _ _ _ _ ne).trans (k1 b o ne e)
end

/-- the order of the pairs -/
def plt (a b : Rat) : Bool := if a.num = b.num then (if a.den = b.den then false else decide (a.den < b.den)) else decide (a.num < b.num)
theorem plt_tr {a b c : Rat} (h : plt a b = true) (k : plt b c = true) : plt a c = true := by
  unfold plt at *
  repeat' (split at h <;> split at k <;> split <;> simp_all)
  all_goals (try omega)
  all_goals (try split <;> simp_all <;> omega)
theorem plt_tot {a b : Rat} (ne : a ≠ b) (h : plt a b = false) : plt b a = true := by
  unfold plt at *
  by_cases q : a.num = b.num
  · have q2 : a.den ≠ b.den := fun e => ne (Rat.ext q e)
    rw [if_pos q, if_neg q2] at h
    rw [if_pos q.symm, if_neg q2.symm]
    simp at h ⊢
    omega
  · rw [if_neg q] at h
    rw [if_neg (fun e => q e.symm)]
    simp at h ⊢
    omega
theorem plt_ir (a : Rat) : plt a a = false := by simp [plt]
theorem cmp_of {qs : List Rat} (hn : qs.Nodup) : Cmp qs.length fun i j => plt (qs.getD i 0) (qs.getD j 0) where
  tr := fun i j k => plt_tr
  tot := fun i j hi hj ne h => plt_tot (fun e => by
    rw [List.getD_eq_getElem?_getD, List.getD_eq_getElem?_getD, List.getElem?_eq_getElem hi, List.getElem?_eq_getElem hj] at e
    exact ne ((List.getElem_inj hn).mp e)) h
  ir := fun i => plt_ir _
end

section
open PySem PySem.W PySem.Calls PyProof.Rows
set_option linter.unusedVariables false
set_option maxRecDepth 100000
section
variable {C : Addr} {B : Fz}
theorem rat_in {v : Value} {q : Rat} (h : In C B v (rat q)) : ∃ a o n t u, v = .ref a ∧ B a o ∧ o.cls = .type "tuple" ∧ o.data = .seq [Value.int q.num t, Value.int q.den u].toArray n := by
  cases h with
  | tup hb hc hd ha =>
    cases ha with
    | cons i1 r =>
      cases r with
      | cons i2 r =>
        cases r; cases i1; cases i2
        exact ⟨_, _, _, _, _, rfl, hb, hc, hd⟩
theorem firsts_of {h : Heap} (bh : ∀ a o, B a o → h.get? a = some o) : ∀ {vs : List Value} {qs : List Rat}, All C B vs (qs.map rat) → ∃ fs, fs.length = vs.length ∧ KatTups h vs fs ∧ ∀ v ∈ fs, ∃ i t, v = Value.int i t
  | [], [], _ => ⟨[], rfl, KatTups.nil, fun _ hm => nomatch hm⟩
  | [], _ :: _, ha => by cases ha
  | _ :: _, [], ha => by cases ha
  | v :: vs, q :: qs, ha => by
    cases ha with
    | cons i r =>
      obtain ⟨fs, h1, h2, h3⟩ := firsts_of bh r
      obtain ⟨a, o, n, t, u, rfl, hb, hc, hd⟩ := rat_in i
      refine ⟨.int q.num t :: fs, by simp [h1], KatTups.cons (bh _ _ hb) hc hd rfl h2, fun x hx => ?_⟩
      rcases List.mem_cons.mp hx with rfl | hx
      · exact ⟨_, _, rfl⟩
      · exact h3 x hx
theorem all_pick {vs : List Value} {qs : List Rat} (ha : All C B vs (qs.map rat)) : ∀ {l : List Nat}, (∀ i ∈ l, i < qs.length) → All C B (l.map fun i => vs.getD i Value.none) ((l.map fun i => qs.getD i 0).map rat)
  | [], _ => .nil
  | i :: l, h => by
    have hi := h i (by simp)
    obtain ⟨v, e1, e2⟩ := ha.get (k := i) (d := rat (qs.getD i 0)) (by rw [List.getElem?_map, List.getElem?_eq_getElem hi, List.getD_eq_getElem?_getD, List.getElem?_eq_getElem hi]; rfl)
    refine .cons ?_ (all_pick ha fun j hj => h j (by simp [hj]))
    dsimp only
    rw [List.getD_eq_getElem?_getD, e1]
    exact e2
variable {prog : Program} {w : World} {A : Around} {s : Shared}
theorem ask_rats {vs : List Value} {qs : List Rat} (bh : ∀ a o, B a o → s.heap.get? a = some o) (ha : All C B vs (qs.map rat)) {i j : Nat} {P : Bool → Shared → Prop} (hi : i < qs.length) (hj : j < qs.length) (h : P (plt (qs.getD i 0) (qs.getD j 0)) s) : kas_ask prog w A (tuples' true) vs i j P s := by
  obtain ⟨v, e1, i1⟩ := ha.get (k := i) (d := rat (qs.getD i 0)) (by rw [List.getElem?_map, List.getElem?_eq_getElem hi, List.getD_eq_getElem?_getD, List.getElem?_eq_getElem hi]; rfl)
  obtain ⟨v', e2, i2⟩ := ha.get (k := j) (d := rat (qs.getD j 0)) (by rw [List.getElem?_map, List.getElem?_eq_getElem hj, List.getD_eq_getElem?_getD, List.getElem?_eq_getElem hj]; rfl)
  unfold kas_ask
  rw [List.getD_eq_getElem?_getD, List.getD_eq_getElem?_getD, e1, e2]
  generalize qs.getD i 0 = x at *
  generalize qs.getD j 0 = y at *
  obtain ⟨a, o, n, t, u, rfl, hb, hc, hd⟩ := rat_in i1
  obtain ⟨a', o', n', t', u', rfl, hb', hc', hd'⟩ := rat_in i2
  refine kat_lt (bh _ _ hb) hd (bh _ _ hb') hd' ?_
  unfold plt at h
  refine kat_cons (wpAny_eqBool_int (kat_go (fun e => kat_yes ?_) fun e => kat_no ?_))
  · have e' : x.num = y.num := by simpa using e
    rw [if_pos e'] at h
    refine kat_cons (wpAny_eqBool_int (kat_go (fun e => kat_yes ?_) fun e => kat_no ?_))
    · have e2 : x.den = y.den := by have z : (x.den : Int) = (y.den : Int) := (by simpa using e); omega
      rw [if_pos e2] at h
      exact kat_nil h
    · have e2 : ¬ x.den = y.den := by have z : ¬ (x.den : Int) = (y.den : Int) := (by simpa using e); omega
      rw [if_neg e2] at h
      refine kat_one _ _ (PySem.P.lt_int ?_)
      have e3 : decide ((x.den : Int) < (y.den : Int)) = decide (x.den < y.den) := by rw [decide_eq_decide]; omega
      rw [e3]
      exact h
  · have e' : ¬ x.num = y.num := by simpa using e
    rw [if_neg e'] at h
    exact oneLt_int h

theorem c_sorted {W : Wd} {n : Nat} {qs : List Rat} (hn : qs.Nodup) (h2 : 2 ≤ qs.length) (h64 : qs.length < 64) : CallOK W n (.builtin "sorted") [rats qs] (fun d => ∃ out, d = rats out ∧ out.Perm qs ∧ out.Pairwise fun a b => plt a b = true) := by
  intro A s B R E vs rm ok bh hi hR
  cases hi with
  | cons i r =>
    cases r
    cases i with
    | lst hb hcl hd ha =>
      rename_i l o vs k
      have hlen : vs.length = qs.length := by simpa using ha.length
      have hl : s.heap.IsList l vs.toArray := ⟨_, bh _ _ hb, hcl, _, hd⟩
      refine Calls.call_function_entry kind_sorted plain_sorted entry_sorted (args_sorted1 _) ?_
      unfold Builtin.«sorted»
      refine wpAny_bind (m := checkCount "sorted" 1 1 _) (wpAny_pure ?_)
      refine wpAny_bind (collect_list hl ?_ (by rw [sizeLine_eq]; omega))
      refine wpAny_bind (wpAny_newList ?_ (by rw [sizeLine_eq]; omega))
      have hsz : ((s.heap.push (seqObj "list" #[] 0)).update s.heap.objs.size (Obj.mapSeq (· ++ vs.toArray))).objs.size = s.heap.objs.size + 1 := by
        rw [Heap.size_update, size_push']
      have hoL : (((s.heap.push (seqObj "list" #[] 0)).update s.heap.objs.size (Obj.mapSeq (· ++ vs.toArray))).push (seqObj "list" vs.toArray 0)).get? (s.heap.objs.size + 1) = some (seqObj "list" vs.toArray 0) := by
        rw [← hsz]; exact Heap.get?_push_size _ rfl
      have keep : ∀ b o, s.heap.get? b = some o → (((s.heap.push (seqObj "list" #[] 0)).update s.heap.objs.size (Obj.mapSeq (· ++ vs.toArray))).push (seqObj "list" vs.toArray 0)).get? b = some o := fun b o q =>
        Heap.get?_push_of_some _ ((Heap.get?_update_ne _ _ _ _ (Nat.ne_of_lt (Heap.lt_size q))).trans (Heap.get?_push_of_some _ q))
      show wpAny _ _ _ _ _ { s with heap := ((s.heap.push (seqObj "list" #[] 0)).update s.heap.objs.size (Obj.mapSeq (· ++ vs.toArray))).push (seqObj "list" vs.toArray 0) }
      rw [hsz]
      generalize ((s.heap.push (seqObj "list" #[] 0)).update s.heap.objs.size (Obj.mapSeq (· ++ vs.toArray))).push (seqObj "list" vs.toArray 0) = H1 at hoL keep ⊢
      have neD : ∀ b o, s.heap.get? b = some o → b ≠ s.heap.objs.size + 1 := fun b o q => Nat.ne_of_lt (Nat.lt_succ_of_lt (Heap.lt_size q))
      have up : ∀ {h' : Heap}, (∀ b o, b ≠ s.heap.objs.size + 1 → H1.get? b = some o → h'.get? b = some o) → ∀ b o, s.heap.get? b = some o → h'.get? b = some o := fun k b o q => k b o (neD b o q) (keep b o q)
      refine wpAny_bind (wpAny_holding (wpAny_call_entry slot_list_sort ⟨_, hoL, rfl⟩ entry_list_sort ?body (args_list_sort _)))
      case body =>
        refine list_sort_by (s := { s with heap := H1 }) (κ := tuples' true) (c := fun i j => plt (qs.getD i 0) (qs.getD j 0)) hoL (by omega) (by omega) (by rw [hlen]; exact cmp_of hn) (fun h' Q hk hQ => ?_) (fun h' hk i j P hi hj hP => ?_) fun p h' e hI hS ho' hk' => ?_
        · obtain ⟨fs, f1, f2, f3⟩ := firsts_of (fun a o z => up hk a o (bh a o z)) ha
          exact kat_kind (s := { s with heap := h' }) (T := .type "int") f2 (by omega) (fun v hv => by obtain ⟨i, t, rfl⟩ := f3 v hv; exact Looks.of_pure rfl) rfl hQ
        · exact ask_rats (s := { s with heap := h' }) (fun a o z => up hk a o (bh a o z)) ha (by omega) (by omega) hP
        · refine ⟨_, rfl, wpAny_pure ⟨_, rfl, ?_⟩⟩
          have hpl : ∀ i ∈ p.toList, i < qs.length := fun i hi => by
            have := (hI.toList.mem_iff (a := i)).mp hi
            simpa [hlen] using this
          have x1 : Ext s.heap B h' B := Ext.heap bh (up hk')
          refine hR (.ref (s.heap.objs.size + 1)) (rats (p.toList.map fun i => qs.getD i 0)) h' s.toks (B.add (s.heap.objs.size + 1) _) ⟨_, rfl, ?_, ?_⟩ (x1.freeze ho' (Heap.get?_none_of_le (Nat.le_succ _))) (.lst Fz.add_self rfl rfl ((all_pick ha hpl).mono Fz.sub_add))
          · have := hI.toList.map (fun i => qs.getD i 0)
            rw [hlen] at this
            have e : (List.toArray (List.range qs.length)).toList = List.range qs.length := by simp
            rw [e, range_getD] at this
            exact this
          · refine List.pairwise_map.mpr (List.pairwise_iff_getElem.mpr fun i j hi hj hij => ?_)
            have hps : p.size = vs.length := hI.size
            have := hS.lt (n := qs.length) (cmp_of hn) hij (by rw [← hps]; simpa using hj)
            have a1 : At p i = p.toList[i] := by simp at hi; simp [At, Array.getD, hi]
            have a2 : At p j = p.toList[j] := by simp at hj; simp [At, Array.getD, hj]
            rw [← a1, ← a2]
            exact this
end
end

section
open PySem PySem.W PySem.Calls PyProof.Rows
set_option linter.unusedVariables false
section
variable {W : Wd} {n : Nat} {env : Env} {σ : Sg} {Q : D → Prop}
theorem we_chain2 {l m r : Expr} {op₁ op₂ : CmpOp} {pos : Pos} (h : WE W n env σ l fun d1 => WE W n env σ m fun d2 => V2 W n (compareOp op₁) d1 d2 fun c => ∃ t, c.truth = some t ∧ if t then WE W n env σ r fun d3 => V2 W n (compareOp op₂) d2 d3 Q else Q c)
    (hm : lastMarks [op₁, op₂] [m, r] = false := by with_unfolding_all rfl) : WE W n env σ (.Compare l [op₁, op₂] [m, r] pos) Q := by
  intro A s Kp B₀ B R E rm S hR
  refine Compare_chain (h A s Kp B₀ B _ E rm S fun v1 d1 h1 t1 B1 q1 x1 i1 => ?_) hm
  refine chain_link (q1 A _ Kp B₀ B1 _ E rm (S.ext x1) fun v2 d2 h2 t2 B2 q2 x2 i2 => ?_)
  refine q2 A _ B2 _ E v1 v2 rm ((S.ext x1).ext x2).ok ((S.ext x1).ext x2).bh (In.mono x2.sub i1) i2 fun v d h3 t3 B3 q3 x3 i3 => ?_
  obtain ⟨t, ht, q3⟩ := q3
  refine truthy_in i3 ht ?_
  cases t with
  | false => exact hR v d h3 t3 B3 q3 ((x1.trans x2).trans x3) i3
  | true =>
    refine chain_last (q3 A _ Kp B₀ B3 _ E rm (((S.ext x1).ext x2).ext x3) fun v4 d4 h4 t4 B4 q4 x4 i4 => ?_)
    exact q4 A _ B4 R E v2 v4 rm ((((S.ext x1).ext x2).ext x3).ext x4).ok ((((S.ext x1).ext x2).ext x3).ext x4).bh (In.mono x4.sub (In.mono x3.sub i2)) i4 fun v d h' tk' B' q x i => hR v d h' tk' B' q ((((x1.trans x2).trans x3).trans x4).trans x) i
theorem CallOwn.room {f : Value} {ds : List D} {Q : List D → Prop} {m : Nat} (h : CallOwn W n f ds Q) (k : n ≤ m) : CallOwn W m f ds Q :=
  fun A s B R E vs r o b a hR => h A s B R E vs (r.mono k) o b a hR
theorem CallOwn.mono {f : Value} {ds : List D} {Q Q' : List D → Prop} (h : CallOwn W n f ds Q) (k : ∀ d, Q d → Q' d) : CallOwn W n f ds Q' :=
  fun A s B R E vs r o b a hR => h A s B R E vs r o b a fun a vs c ds h' tk' B' q => hR a vs c ds h' tk' B' (k ds q)
end
theorem lst_ok {l : List D} (h : ∀ d ∈ l, kqdOk 7 d.dat = true) : (D.lst l).ok := by
  show kqdOk 8 (.list (D.dats l)) = true
  rw [kqdOk, List.all_eq_true, dats_map]
  intro e he
  obtain ⟨d, hd, rfl⟩ := List.mem_map.mp he
  exact h d hd
theorem rats_ok {l : List Rat} : (rats l).ok := lst_ok fun d hd => by obtain ⟨q, _, rfl⟩ := List.mem_map.mp hd; rfl
theorem intl_ok {l : List Int} : (intl l).ok := lst_ok fun d hd => by obtain ⟨q, _, rfl⟩ := List.mem_map.mp hd; rfl
theorem codeD_ok7 {o : Option Nat} : kqdOk 7 (codeD o).dat = true := by cases o <;> rfl
theorem codesL_ok {α : Type} {l : List α} {g : α → Option Nat} : (D.lst (l.map fun x => codeD (g x))).ok := lst_ok fun d hd => by obtain ⟨q, _, rfl⟩ := List.mem_map.mp hd; exact codeD_ok7
theorem codeD_ok' {o : Option Nat} : (codeD o).ok := by cases o <;> rfl
theorem sort_uniq {a b : List Rat} (p : a.Perm b) (ha : a.Pairwise fun x y => plt x y = true) (hb : b.Pairwise fun x y => plt x y = true) : a = b :=
  List.Perm.eq_of_pairwise (fun x y _ _ h1 h2 => by have := plt_tr h1 h2; rw [plt_ir] at this; cases this) ha hb p
def dueOf (n : Nat) : D → D
  | .int k => .int (n - k)
  | d => d
theorem dueOf_code {n : Nat} {o : Option Nat} (h : ∀ k, o = some k → k ≤ n) : dueOf n (codeD o) = codeD (o.map fun k => n - k) := by
  cases o with
  | none => rfl
  | some k =>
    show D.int ((n : Int) - (k : Int)) = D.int ((n - k : Nat) : Int)
    have := h k rfl
    congr 1; omega
end

theorem g_bvals (X : Xs) : Glb (Wc X) (Str.ofString "break_values") (.ref 293) := X.ok.g_bvals
theorem g_codes (X : Xs) : Glb (Wc X) (Str.ofString "cut_codes") (.ref 305) := X.ok.g_codes
set_option maxHeartbeats 2000000 in
theorem c_bvals1 (X : Xs) (xs : List Rat) (c : Nat) (hc : 2 ≤ c) (hc5 : c ≤ 5) (h1 : 1 ≤ xs.length) (h6 : xs.length ≤ 6) (hs : ∀ q ∈ xs, Sm 6 q) : CallOK (Wc X) 9 (.ref 293) [rats xs, rats [((c : Int) : Rat)]] (fun d => ∃ bs, d = rats bs ∧ EqOk xs c bs) := by
  refine callOK_d (ps := [Str.ofString "xs", Str.ofString "breaks"]) (X.ok.d293) rfl (by walk_at "lit") (by walk_at "lit") rfl ?_
  intro env ev
  walk_at "ss"
  refine wx_goes (fun τ => τ = [(Str.ofString "xs", .val (rats xs)), (Str.ofString "breaks", .val (rats [((c : Int) : Rat)]))]) ?_ ?_
  · refine wx_for_n (fun i τ => τ = [(Str.ofString "xs", .val (rats xs)), (Str.ofString "breaks", .val (rats [((c : Int) : Rat)]))]) (by walk_at "st") ?_
    refine wi_list ?_
    walk_at "ss"
    refine ⟨⟨_, rfl, Has.cons rfl (Has.cons rfl Has.nil)⟩, ?_, ?_⟩
    · rintro i d _ hd rfl
      obtain ⟨q, hq, rfl⟩ := rats_get (l := [((c : Int) : Rat)]) hd
      walk_at "ss"
      refine we_call (g_lackc X) (by walk_at "g") ?_
      walk_at "ss"
      refine (c_lackc X q).eq (by decide) ?_
      walk_at "ss"
      exact turnN_next rfl (Has.cons rfl (Has.cons rfl Has.nil))
    · rintro _ rfl
      exact Goes.mk rfl Has.refl
  rintro _ rfl
  walk_at "ss"
  refine we_builtin (b_len X) (by walk_at "g") ?_
  walk_at "ss"
  refine c_len (by simp) ?_
  walk_at "ss"
  refine we_builtin (b_len X) (by walk_at "g") ?_
  walk_at "ss"
  refine c_len (by simp) ?_
  walk_at "ss"
  refine we_call (g_equal X) (by walk_at "g") ?_
  walk_at "ss"
  refine we_call (g_toint X) (by walk_at "g") ?_
  walk_at "ss"
  refine ⟨(0 : Nat), _, rfl, rats_item (l := [((c : Int) : Rat)]) (q := ((c : Int) : Rat)) rfl (by simp), ?_⟩
  walk_at "ss"
  refine (c_to_whole X c).eq (by decide) ?_
  walk_at "ss"
  refine (c_equal X xs c hc hc5 h1 h6 hs).use (by decide) fun d hd => ?_
  walk_at "ss"
  exact hd

theorem codeD_ok {o : Option Nat} : (codeD o).ok := by cases o <;> rfl
theorem codes_ok {r l : Bool} {B xs : List Rat} : ∀ e ∈ xs.map (fun x => codeD (code r l B x)), e.ok := fun e he => by
  obtain ⟨x, _, rfl⟩ := List.mem_map.mp he; exact codeD_ok
theorem none_codes {r l : Bool} {B xs : List Rat} (h : ∀ x ∈ xs, code r l B x ≠ none) : D.none ∉ xs.map (fun x => codeD (code r l B x)) := fun hm => by
  obtain ⟨x, hx, e⟩ := List.mem_map.mp hm
  cases q : code r l B x with
  | none => exact h x hx q
  | some k => rw [q] at e; cases e
set_option maxHeartbeats 4000000 in
theorem c_lawequal (X : Xs) (ns : List Int) (hn : ns.length ≤ 63) (xs : List Rat) (hx : NumOk xs) : CallOK (Wc X) 10 (.ref 367) [intl ns, rats xs] (fun d => d = .bool true) := by
  have h1 := hx.one
  have h6 := hx.six
  refine callOK_d (ps := [Str.ofString "script", Str.ofString "xs"]) (X.ok.d367) rfl (by walk_at "lit") (by walk_at "lit") rfl ?_
  intro env ev
  walk_at "ss"
  refine we_call (g_cell X) (by walk_at "g") ?_
  walk_at "ss"
  refine (c_cell X ns hn 0).eq (by decide) ?_
  walk_at "ss"
  refine v_mod (by decide) ?_
  walk_at "ss"
  obtain ⟨c, hc⟩ : ∃ c : Nat, (2 + (cell ns 0 : Int) % 4) = (c : Int) := ⟨2 + cell ns 0 % 4, by omega⟩
  have hc2 : 2 ≤ c := by omega
  have hc5 : c ≤ 5 := by omega
  rw [hc]
  refine we_call (g_bvals X) (by walk_at "g") ?_
  walk_at "ss"
  refine WO.frozen (wo_list ?_)
  walk_at "ss"
  refine (c_bvals1 X xs c hc2 hc5 h1 h6 hx.sm).use (by decide) ?_
  rintro _ ⟨bs, rfl, hb⟩
  have hbl := hb.len
  have hsb : ∀ q ∈ bs, Sm 1000 q := fun q hq => (hb.sm q hq).mono (by decide)
  have hsx : ∀ q ∈ xs, Sm 1000 q := fun q hq => (hx.sm q hq).mono (by decide)
  walk_at "ss"
  refine we_builtin (b_len X) (by walk_at "g") ?_
  walk_at "ss"
  refine c_len (by simp; omega) ?_
  walk_at "ss"
  refine if_f (by simp; omega) ?_
  walk_at "ss"
  refine we_call (g_codes X) (by walk_at "g") ?_
  walk_at "ss"
  refine (c_codes X xs bs true false (by omega) (by omega) (by omega) hsx hsb).eq (by decide) ?_
  refine v_in codes_ok rfl fun b hb1 => ⟨b, rfl, if_p hb1 (fun z => absurd z (none_codes fun x hx' => eq_right hb hx')) fun _ => ?_⟩
  walk_at "ss"
  refine we_call (g_codes X) (by walk_at "g") ?_
  walk_at "ss"
  refine (c_codes X xs bs false false (by omega) (by omega) (by omega) hsx hsb).eq (by decide) ?_
  refine v_in codes_ok rfl fun b hb1 => ⟨b, rfl, if_p hb1 (fun z => absurd z (none_codes fun x hx' => eq_left hb hx')) fun _ => ?_⟩
  walk_at "ss"
  obtain ⟨a, s, hs, hst⟩ := hb.step
  refine wx_goes (fun τ => ∃ k : Nat, τ = [(Str.ofString "apart", .own ((List.replicate k s).map rat))] ∧ k ≤ 5) ?_ ?_
  · refine wx_for_n (fun i τ => τ = [(Str.ofString "apart", .own ((List.replicate i s).map rat)), (Str.ofString "bounds", .val (rats bs))] ∧ i ≤ c) (by walk_at "st") ?_
    refine wi_range2 (b_range X) (by walk_at "g") ?_
    walk_at "ss"
    refine ⟨2, c, rfl, rfl, by decide, by decide, by omega, by omega, ⟨_, ⟨rfl, by omega⟩, Has.cons rfl (Has.cons rfl Has.nil)⟩, ?_, ?_⟩
    · rintro i d _ hd ⟨rfl, _⟩
      obtain ⟨hi, rfl⟩ := rng_get1 hd
      have hi' : i + 2 < c := by omega
      have e : (2 + (i : Int)) = ((i + 2 : Nat) : Int) := by omega
      rw [e]
      have ga : bs[i + 1]? = some bs[i + 1] := List.getElem?_eq_getElem (by omega)
      have gb : bs[i + 2]? = some bs[i + 2] := List.getElem?_eq_getElem (by omega)
      have sa := hb.sm _ (List.mem_of_getElem? ga)
      have sb := hb.sm _ (List.mem_of_getElem? gb)
      have va := hst (i + 1) (by omega) (by omega)
      have vb := hst (i + 2) (by omega) (by omega)
      rw [List.getD_eq_getElem?_getD, ga] at va
      rw [List.getD_eq_getElem?_getD, gb] at vb
      replace va : bs[i + 1] = a + s * (((i + 1 : Nat) : Int) : Rat) := va
      replace vb : bs[i + 2] = a + s * (((i + 2 : Nat) : Int) : Rat) := vb
      have hd' : bs[i + 2] - bs[i + 1] = s := by
        rw [va, vb]
        have e1 : (((i + 2 : Nat) : Int) : Rat) = (((i + 1 : Nat) : Int) : Rat) + 1 := by
          rw [show ((i + 2 : Nat) : Int) = ((i + 1 : Nat) : Int) + 1 by omega, Rat.intCast_add]; rfl
        rw [e1]
        grind
      generalize bs[i + 1] = x at *
      generalize bs[i + 2] = y at *
      walk_at "s"
      refine wx_swap (by walk_at "st") (by walk_at "st") ?_ rfl (ev.sws rfl)
      walk_at "ss"
      refine ⟨((i + 1 : Nat) : Int), _, by congr 1; omega, rats_item ga (by omega), ?_⟩
      walk_at "ss"
      refine ⟨((i + 2 : Nat) : Int), _, rfl, rats_item gb (by omega), ?_⟩
      walk_at "ss"
      refine ⟨_, _, rfl, ?_⟩
      walk_at "s"
      walk_at "s"
      refine wx_append (by rfl) (by simp; omega) ?_
      refine we_call (g_ratio X) (by walk_at "g") ?_
      walk_at "ss"
      refine v_mul sb.n sa.d ?_
      walk_at "ss"
      refine v_mul sa.n sb.d ?_
      walk_at "ss"
      refine v_mul sa.d sb.d ?_
      walk_at "ss"
      refine (c_ratio X _ _ (Int.mul_pos (den_pos x) (den_pos y)) (Sz.of (sa.lcm sb) (by decide))).eq (by decide) ?_
      have eq : Rat.divInt (y.num * x.den - x.num * y.den) (x.den * y.den) = s := by
        rw [← hd', Rat.sub_eq_add_neg, Rat.add_comm, add_eq]
        show _ = Rat.divInt (-x.num * y.den + y.num * x.den) (x.den * y.den)
        congr 1
        rw [Int.neg_mul]; omega
      rw [eq]
      walk_at "ss"
      exact turnN_next ⟨rfl, by omega⟩ (Has.cons (by rw [List.replicate_succ', List.map_append]; rfl) (Has.cons rfl Has.nil))
    · rintro _ ⟨rfl, h⟩
      exact Goes.mk ⟨_, rfl, by omega⟩ (Has.cons rfl Has.nil)
  rintro _ ⟨k, rfl, hk⟩
  refine ws_freeze (x := Str.ofString "apart") (by rfl) ?_
  walk_at "s"
  refine wx_for_n (fun i τ => τ = [(Str.ofString "apart", .val (rats (List.replicate k s)))]) (by walk_at "st") ?_
  refine wi_list ?_
  walk_at "ss"
  refine ⟨⟨_, rfl, Has.cons rfl Has.nil⟩, ?_, ?_⟩
  · rintro i d _ hd rfl
    obtain ⟨q, hq, rfl⟩ := rats_get hd
    have hi : i < k := by
      have := (List.getElem?_eq_some_iff.mp hq).1
      simpa using this
    have hq' : q = s := (List.mem_replicate.mp (List.mem_of_getElem? hq)).2
    subst hq'
    walk_at "ss"
    refine ⟨(0 : Nat), _, rfl, rats_item (q := q) (by rw [List.getElem?_replicate, if_pos (by omega)]) (by simp; omega), ?_⟩
    refine v_ned (by rfl) (by rfl) fun b hb2 => ⟨b, rfl, if_p hb2 (fun z => absurd rfl z) fun _ => ?_⟩
    walk_at "ss"
    have hp : 0 < q.num := by
      have := (Rat.lt_iff 0 q).mp hs
      have e : (0 : Rat).num * (q.den : Int) < q.num * ((0 : Rat).den : Int) := this
      have e0 : (0 : Rat).num = 0 := rfl
      have e1 : (0 : Rat).den = 1 := rfl
      rw [e0, e1] at e
      omega
    refine if_f (by simp; omega) ?_
    walk_at "ss"
    exact turnN_next rfl (Has.cons rfl Has.nil)
  · rintro _ rfl
    walk_at "ss"
    rfl
local macro_rules
  | `(tactic| walk_at "has") => `(tactic| repeat (first | exact Has.nil | refine Has.cons rfl ?_))
theorem g_breaks (X : Xs) : Glb (Wc X) (Str.ofString "_law_breaks") (.ref 329) := X.ok.g_breaks
theorem g_numbers (X : Xs) : Glb (Wc X) (Str.ofString "_law_numbers") (.ref 336) := X.ok.g_numbers
theorem g_turned (X : Xs) : Glb (Wc X) (Str.ofString "_law_turned") (.ref 348) := X.ok.g_turned
theorem g_moved (X : Xs) : Glb (Wc X) (Str.ofString "_law_moved") (.ref 353) := X.ok.g_moved
theorem g_homes (X : Xs) : Glb (Wc X) (Str.ofString "_law_homes") (.ref 360) := X.ok.g_homes
theorem g_lawequal (X : Xs) : Glb (Wc X) (Str.ofString "_law_equal") (.ref 367) := X.ok.g_lawequal
theorem g_places (X : Xs) : Glb (Wc X) (Str.ofString "interval_places") (.ref 310) := X.ok.g_places
theorem b_sorted (X : Xs) : Bti (Wc X) (Str.ofString "sorted") (.builtin "sorted") := X.ok.b_sorted
theorem c_turnedF (X : Xs) (l : List Rat) (hl : l.length ≤ 1000) : CallOK (Wc X) 1 (.ref 348) [rats l] (fun d => d = rats (l.map fun q => -q)) :=
  CallOwn.frozen ((c_turned X l hl).mono fun d e => by rw [e])
theorem rat_inj {x y : Rat} (h : rat x = rat y) : x = y := by
  injection h with h
  injection h with h1 h2
  injection h1 with h1
  injection h2 with h2
  injection h2 with h2
  exact Rat.ext h1 (by omega)
theorem due_list {B xs : List Rat} {lw : Bool} (hS : Sorted B) (h2 : 2 ≤ B.length) : ((xs.map fun x => codeD (code true lw B x)).filter fun _ => true).map (dueOf B.length) = (xs.map fun q => -q).map fun x => codeD (code false lw (turn B) x) := by
  rw [filter_t, List.map_map, List.map_map]
  refine List.map_congr_left fun x _ => ?_
  show dueOf B.length (codeD (code true lw B x)) = codeD (code false lw (turn B) (-x))
  rw [turn_code hS h2, dueOf_code]
  intro k hk
  have := code_some hk
  omega
set_option maxHeartbeats 8000000 in
theorem law_ws (X : Xs) (ns : List Int) (hn : ns.length ≤ 63) {bd : List Stmt} {names : List (Str × NameKind)} (hb : bdOf (stAt 57) = bd) (hnm : nsOf (stAt 57) = names) {env : Env} (ev : Ev env names) :
    WS (Wc X) 11 env bd [(Str.ofString "script", .val (intl ns))] (Back fun d => d = .bool true) := by
  subst hb hnm
  refine ws_lit2 ev (by walk_at "lit") (by walk_at "lit") ?_
  clear ev
  intro ev
  walk_at "ss"
  refine we_call (g_breaks X) (by walk_at "g") ?_
  walk_at "ss"
  refine (c_breaks X ns hn).use (by decide) ?_
  rintro _ ⟨qs, rfl, hq⟩
  have q2 := hq.two
  have q6 := hq.six
  walk_at "ss"
  refine we_call (g_bvals X) (by walk_at "g") ?_
  walk_at "s"
  refine WO.frozen (wo_list ?_)
  walk_at "ss"
  refine (c_bvals X qs (by omega) q2 hq.nodup fun q hm => (hq.sm q hm).mono (by decide)).use (by decide) ?_
  rintro _ ⟨B, rfl, hp, hS⟩
  have hlen := hp.length_eq
  have b2 : 2 ≤ B.length := by omega
  have b6 : B.length ≤ 6 := by omega
  have hB5 : ∀ q ∈ B, Sm 5 q := fun q hm => hq.sm q (hp.mem_iff.mp hm)
  have hBn : B.Nodup := hp.nodup_iff.mpr hq.nodup
  have hB : ∀ q ∈ B, Sm 1000 q := fun q hm => (hB5 q hm).mono (by decide)
  walk_at "ss"
  refine we_builtin (b_sorted X) (by walk_at "g") ?_
  walk_at "ss"
  refine (c_sorted hBn b2 (by omega)).mono ?_
  rintro _ ⟨o1, rfl, p1, s1⟩
  refine we_builtin (b_sorted X) (by walk_at "g") ?_
  walk_at "ss"
  refine (c_sorted hq.nodup q2 (by omega)).mono ?_
  rintro _ ⟨o2, rfl, p2, s2⟩
  have eo : o1 = o2 := sort_uniq ((p1.trans hp).trans p2.symm) s1 s2
  subst eo
  refine v_ned rats_ok rats_ok fun b hb1 => ⟨b, rfl, if_p hb1 (fun z => absurd rfl z) fun _ => ?_⟩
  walk_at "ss"
  clear hb1 p1 p2 s1 s2
  refine wx_goes (fun τ => τ = [(Str.ofString "script", .val (intl ns)), (Str.ofString "bounds", .val (rats B))]) ?_ ?_
  · refine wx_for_n (fun i τ => τ = [(Str.ofString "script", .val (intl ns)), (Str.ofString "bounds", .val (rats B))]) (by walk_at "st") ?_
    refine wi_range2 (b_range X) (by walk_at "g") ?_
    walk_at "ss"
    refine we_builtin (b_len X) (by walk_at "g") ?_
    walk_at "ss"
    refine c_len (by simp; omega) ?_
    refine ⟨1, _, rfl, rfl, by decide, by decide, by simp; omega, by omega, ⟨_, rfl, by walk_at "has"⟩, ?_, ?_⟩
    · rintro i d _ hd rfl
      obtain ⟨hi, rfl⟩ := rng_get1 hd
      have hi' : i + 1 < B.length := by simp at hi; omega
      have ga : B[i]? = some B[i] := List.getElem?_eq_getElem (by omega)
      have gb : B[i + 1]? = some B[i + 1] := List.getElem?_eq_getElem hi'
      have sa := hB _ (List.mem_of_getElem? ga)
      have sb := hB _ (List.mem_of_getElem? gb)
      have hab := pair_lt hS (Nat.lt_succ_self i) ga gb
      have e : (1 + (i : Int)) = ((i + 1 : Nat) : Int) := by omega
      rw [e]
      generalize B[i] = a at *
      generalize B[i + 1] = b at *
      walk_at "ss"
      refine we_call (g_below X) (by walk_at "g") ?_
      walk_at "ss"
      refine ⟨((i : Nat) : Int), _, by congr 1; omega, rats_item ga (by omega), ?_⟩
      walk_at "ss"
      refine ⟨((i + 1 : Nat) : Int), _, rfl, rats_item gb (by omega), ?_⟩
      walk_at "ss"
      refine (c_below X a b sa sb).eq (by decide) ?_
      walk_at "ss"
      refine if_f (by simp [hab]) ?_
      walk_at "ss"
      exact turnN_next rfl (by walk_at "has")
    · rintro _ rfl
      exact Goes.mk rfl Has.refl
  rintro _ rfl
  walk_at "ss"
  refine we_call (g_numbers X) (by walk_at "g") ?_
  walk_at "ss"
  refine (c_numbers X ns hn B b6 (by omega) hB5).use (by decide) ?_
  rintro _ ⟨xs, rfl, hx⟩
  have x1 := hx.one
  have x6 := hx.six
  have hX : ∀ q ∈ xs, Sm 1000 q := fun q hm => (hx.sm q hm).mono (by decide)
  walk_at "ss"
  refine we_call (g_codes X) (by walk_at "g") ?_
  walk_at "ss"
  refine (c_codes X xs B true false (by omega) (by omega) (by omega) hX hB).eq (by decide) ?_
  walk_at "ss"
  refine wx_goes (fun τ => τ = [(Str.ofString "script", .val (intl ns)), (Str.ofString "bounds", .val (rats B)), (Str.ofString "xs", .val (rats xs)), (Str.ofString "told", .val (codes true false B xs))]) ?_ ?_
  · refine wx_for_n (fun i τ => τ = [(Str.ofString "script", .val (intl ns)), (Str.ofString "bounds", .val (rats B)), (Str.ofString "xs", .val (rats xs)), (Str.ofString "told", .val (codes true false B xs))]) (by walk_at "st") ?_
    refine wi_range1 (b_range X) (by walk_at "g") ?_
    walk_at "ss"
    refine we_builtin (b_len X) (by walk_at "g") ?_
    walk_at "ss"
    refine c_len (by simp; omega) ?_
    refine ⟨_, rfl, by simp; omega, by omega, ⟨_, rfl, by walk_at "has"⟩, ?_, ?_⟩
    · rintro i d _ hd rfl
      obtain ⟨hi, rfl⟩ := rng_get1 hd
      have hi' : i < xs.length := by simpa using hi
      have ga : xs[i]? = some xs[i] := List.getElem?_eq_getElem (by omega)
      have sa := hX _ (List.mem_of_getElem? ga)
      have gt : (xs.map fun x => codeD (code true false B x))[i]? = some (codeD (code true false B xs[i])) := by rw [List.getElem?_map, ga]; rfl
      generalize xs[i] = x at *
      have e : (0 + (i : Int)) = (i : Int) := by omega
      rw [e]
      walk_at "ss"
      refine we_call (g_homes X) (by walk_at "g") ?_
      walk_at "ss"
      refine ⟨((i : Nat) : Int), _, rfl, rats_item ga (by omega), ?_⟩
      walk_at "ss"
      refine (c_homes X x B (by omega) sa hB).eq (by decide) ?_
      rw [homes_eq hS]
      generalize code true false B x = o at *
      walk_at "ss"
      refine we_builtin (b_len X) (by walk_at "g") ?_
      walk_at "ss"
      refine c_len (by cases o <;> simp) ?_
      walk_at "ss"
      refine if_f (by cases o <;> simp) ?_
      walk_at "ss"
      refine ⟨((i : Nat) : Int), _, rfl, itemL gt (by simp; omega), ?_⟩
      walk_at "ss"
      cases o with
      | none =>
        walk_at "ss"
        refine WO.frozen (wo_list ?_)
        walk_at "ss"
        refine v_ned intl_ok (lst_ok fun d hd => by cases hd) fun b hb1 => ⟨b, rfl, if_p hb1 (fun z => absurd rfl z) fun _ => ?_⟩
        walk_at "ss"
        exact turnN_next rfl (by walk_at "has")
      | some k =>
        walk_at "ss"
        refine WO.frozen (wo_list ?_)
        walk_at "ss"
        refine ⟨((i : Nat) : Int), _, rfl, itemL gt (by simp; omega), ?_⟩
        walk_at "ss"
        refine v_ned intl_ok (intl_ok (l := [(k : Int)])) fun b hb1 => ⟨b, rfl, if_p hb1 (fun z => absurd rfl z) fun _ => ?_⟩
        walk_at "ss"
        exact turnN_next rfl (by walk_at "has")
    · rintro _ rfl
      exact Goes.mk rfl Has.refl
  rintro _ rfl
  walk_at "ss"
  refine we_call (g_codes X) (by walk_at "g") ?_
  walk_at "ss"
  refine (c_codes X xs B true true (by omega) (by omega) (by omega) hX hB).eq (by decide) ?_
  walk_at "ss"
  refine wx_goes (fun τ => τ = [(Str.ofString "script", .val (intl ns)), (Str.ofString "bounds", .val (rats B)), (Str.ofString "xs", .val (rats xs)), (Str.ofString "told", .val (codes true false B xs)), (Str.ofString "closed", .val (codes true true B xs))]) ?_ ?_
  · refine wx_for_n (fun i τ => τ = [(Str.ofString "script", .val (intl ns)), (Str.ofString "bounds", .val (rats B)), (Str.ofString "xs", .val (rats xs)), (Str.ofString "told", .val (codes true false B xs)), (Str.ofString "closed", .val (codes true true B xs))]) (by walk_at "st") ?_
    refine wi_range1 (b_range X) (by walk_at "g") ?_
    walk_at "ss"
    refine we_builtin (b_len X) (by walk_at "g") ?_
    walk_at "ss"
    refine c_len (by simp; omega) ?_
    refine ⟨_, rfl, by simp; omega, by omega, ⟨_, rfl, by walk_at "has"⟩, ?_, ?_⟩
    · rintro i d _ hd rfl
      obtain ⟨hi, rfl⟩ := rng_get1 hd
      have hi' : i < xs.length := by simpa using hi
      have ga : xs[i]? = some xs[i] := List.getElem?_eq_getElem (by omega)
      have gt : (xs.map fun x => codeD (code true false B x))[i]? = some (codeD (code true false B xs[i])) := by rw [List.getElem?_map, ga]; rfl
      have gc : (xs.map fun x => codeD (code true true B x))[i]? = some (codeD (code true true B xs[i])) := by rw [List.getElem?_map, ga]; rfl
      have g0 : B[0]? = some (B.getD 0 0) := by rw [List.getD_eq_getElem?_getD, List.getElem?_eq_getElem (by omega)]; rfl
      rw [closed_eq hS b2] at gc
      generalize xs[i] = x at *
      have e : (0 + (i : Int)) = (i : Int) := by omega
      rw [e]
      walk_at "ss"
      refine ⟨((i : Nat) : Int), _, rfl, itemL gc (by simp; omega), ?_⟩
      walk_at "ss"
      refine ⟨((i : Nat) : Int), _, rfl, rats_item ga (by omega), ?_⟩
      walk_at "ss"
      refine ⟨((0 : Nat) : Int), _, rfl, rats_item g0 (by omega), ?_⟩
      refine v_eqd (by rfl) (by rfl) fun b hb1 => ⟨b, rfl, if_p hb1 (fun z => ?_) fun z => ?_⟩
      · have hx0 := rat_inj z
        walk_at "ss"
        refine v_ned codeD_ok' rfl fun b hb1 => ⟨b, rfl, if_p hb1 (fun z => absurd (by rw [if_pos hx0]; rfl) z) fun _ => ?_⟩
        walk_at "ss"
        exact turnN_next rfl (by walk_at "has")
      · have hx0 : ¬ x = B.getD 0 0 := fun e => z (by rw [e])
        walk_at "ss"
        refine ⟨((i : Nat) : Int), _, rfl, itemL gt (by simp; omega), ?_⟩
        refine v_ned codeD_ok' codeD_ok' fun b hb1 => ⟨b, rfl, if_p hb1 (fun z => absurd (by rw [if_neg hx0]) z) fun _ => ?_⟩
        walk_at "ss"
        exact turnN_next rfl (by walk_at "has")
    · rintro _ rfl
      exact Goes.mk rfl Has.refl
  rintro _ rfl
  walk_at "s"
  refine wx_assign_own (by walk_at "st") (wo_call (g_turned X) (by walk_at "g") ?_)
  walk_at "ss"
  refine ((c_turned X B (by omega)).room (by decide)).mono ?_
  rintro _ rfl
  refine seq_next ?_
  walk_at "s"
  refine wx_reverse (by rfl) (by simp; omega) ?_
  refine seq_next ?_
  rw [← List.map_reverse]
  refine ws_freeze (x := Str.ofString "back") (by rfl) ?_
  have tl : (turn B).length = B.length := turn_len
  have tS : ∀ q ∈ turn B, Sm 1000 q := fun q hq => by
    have := List.mem_reverse.mp hq
    obtain ⟨p, hp, rfl⟩ := List.mem_map.mp this
    exact (hB p hp).neg
  have tX : ∀ q ∈ xs.map (fun q => -q), Sm 1000 q := fun q hq => by
    obtain ⟨p, hp, rfl⟩ := List.mem_map.mp hq
    exact (hX p hp).neg
  walk_at "s"
  refine wx_comp (fun _ => true) (dueOf B.length) (τ := [(Str.ofString "bounds", .val (rats B))]) ⟨rfl, by decide, rfl, by decide, ev.clo rfl⟩ (Cap.cons rfl rfl (ev.cell rfl) Cap.nil) (by walk_at "st") ?_ (hsw := ev.swT rfl rfl)
  refine wi_list ?_
  walk_at "ss"
  refine ⟨⟨by simp; omega, fun d hd C => .inl ⟨rfl, rfl⟩, fun d hd _ C => ?_⟩, ?_⟩
  · obtain ⟨x, _, rfl⟩ := List.mem_map.mp hd
    generalize code true false B x = o
    cases o with
    | none =>
      walk_at "ss"
      rfl
    | some k =>
      walk_at "ss"
      refine we_builtin (b_len X) rfl ?_
      walk_at "ss"
      refine c_len (by simp; omega) ?_
      walk_at "ss"
      show V2 _ _ _ (D.int _) (D.int (k : Int)) _
      refine v_sub ?_
      show D.int (((B.map rat).length : Int) - (k : Int)) = D.int ((B.length : Int) - (k : Int))
      simp
  rw [due_list hS b2]
  refine seq_next (ws_freeze (x := Str.ofString "due") (by rfl) ?_)
  walk_at "ss"
  refine we_call (g_codes X) (by walk_at "g") ?_
  walk_at "s"
  refine we_call (g_turned X) (by walk_at "g") ?_
  walk_at "ss"
  refine (c_turnedF X xs (by omega)).eq (by decide) ?_
  walk_at "ss"
  refine (c_codes X (xs.map fun q => -q) (turn B) false false (by simp; omega) (by omega) (by omega) tX tS).eq (by decide) ?_
  walk_at "ss"
  refine v_ned codesL_ok codesL_ok fun b hb1 => ⟨b, rfl, if_p hb1 (fun z => absurd rfl z) fun _ => ?_⟩
  walk_at "s"
  refine seq_next ?_
  walk_at "s"
  refine wx_comp (fun _ => true) (dueOf B.length) (τ := [(Str.ofString "bounds", .val (rats B))]) ⟨rfl, by decide, rfl, by decide, ev.clo rfl⟩ (Cap.cons rfl rfl (ev.cell rfl) Cap.nil) (by walk_at "st") ?_ (hsw := ev.swT rfl rfl)
  refine wi_list ?_
  walk_at "ss"
  refine ⟨⟨by simp; omega, fun d hd C => .inl ⟨rfl, rfl⟩, fun d hd _ C => ?_⟩, ?_⟩
  · obtain ⟨x, _, rfl⟩ := List.mem_map.mp hd
    generalize code true true B x = o
    cases o with
    | none =>
      walk_at "ss"
      rfl
    | some k =>
      walk_at "ss"
      refine we_builtin (b_len X) rfl ?_
      walk_at "ss"
      refine c_len (by simp; omega) ?_
      walk_at "ss"
      show V2 _ _ _ (D.int _) (D.int (k : Int)) _
      refine v_sub ?_
      show D.int (((B.map rat).length : Int) - (k : Int)) = D.int ((B.length : Int) - (k : Int))
      simp
  rw [due_list hS b2]
  refine seq_next (ws_freeze (x := Str.ofString "due") (by rfl) ?_)
  walk_at "ss"
  refine we_call (g_codes X) (by walk_at "g") ?_
  walk_at "s"
  refine we_call (g_turned X) (by walk_at "g") ?_
  walk_at "ss"
  refine (c_turnedF X xs (by omega)).eq (by decide) ?_
  walk_at "ss"
  refine (c_codes X (xs.map fun q => -q) (turn B) false true (by simp; omega) (by omega) (by omega) tX tS).eq (by decide) ?_
  walk_at "ss"
  refine v_ned codesL_ok codesL_ok fun b hb1 => ⟨b, rfl, if_p hb1 (fun z => absurd rfl z) fun _ => ?_⟩
  walk_at "ss"
  have sT : Sm 3 (Rat.divInt 7 3) := Sm.divInt (by decide) (by decide) (by decide)
  have mS : ∀ q ∈ B.map (fun q => q + Rat.divInt 7 3), Sm 1000 q := fun q hq => by
    obtain ⟨p, hp, rfl⟩ := List.mem_map.mp hq
    exact ((hB5 p hp).add sT).mono (by decide)
  have mX : ∀ q ∈ xs.map (fun q => q + Rat.divInt 7 3), Sm 1000 q := fun q hq => by
    obtain ⟨p, hp, rfl⟩ := List.mem_map.mp hq
    exact ((hx.sm p hp).add sT).mono (by decide)
  refine we_call (g_codes X) (by walk_at "g") ?_
  walk_at "s"
  refine we_call (g_moved X) (by walk_at "g") ?_
  walk_at "ss"
  refine (c_moved X xs (by omega) fun q hq => (hx.sm q hq).mono (by decide)).eq (by decide) ?_
  walk_at "s"
  refine we_call (g_moved X) (by walk_at "g") ?_
  walk_at "ss"
  refine (c_moved X B (by omega) fun q hq => (hB5 q hq).mono (by decide)).eq (by decide) ?_
  walk_at "ss"
  refine (c_codes X _ _ true false (by simp; omega) (by simp; omega) (by simp; omega) mX mS).eq (by decide) ?_
  walk_at "ss"
  have em : codes true false (B.map fun q => q + Rat.divInt 7 3) (xs.map fun q => q + Rat.divInt 7 3) = codes true false B xs := by
    show D.lst _ = D.lst _
    rw [List.map_map]
    congr 1
    exact List.map_congr_left fun x _ => by show codeD (code true false _ (x + _)) = _; rw [moved_code]
  rw [em]
  refine v_ned codesL_ok codesL_ok fun b hb1 => ⟨b, rfl, if_p hb1 (fun z => absurd rfl z) fun _ => ?_⟩
  walk_at "ss"
  refine we_call (g_places X) (by walk_at "g") ?_
  walk_at "ss"
  refine (c_places X xs B (by omega) (by omega) (by omega) hX hB fun i a b ha hb => Rat.le_of_lt (pair_lt hS (Nat.lt_succ_self i) ha hb)).eq (by decide) ?_
  walk_at "ss"
  refine we_call (g_codes X) (by walk_at "g") ?_
  walk_at "ss"
  refine (c_codes X xs B false false (by omega) (by omega) (by omega) hX hB).eq (by decide) ?_
  walk_at "ss"
  refine wx_goes (fun τ => τ = [(Str.ofString "script", .val (intl ns)), (Str.ofString "bounds", .val (rats B)), (Str.ofString "xs", .val (rats xs)), (Str.ofString "counts", .val (intl (xs.map fun x => (countLe B x : Int)))), (Str.ofString "left", .val (codes false false B xs))]) ?_ ?_
  · refine wx_for_n (fun i τ => τ = [(Str.ofString "script", .val (intl ns)), (Str.ofString "bounds", .val (rats B)), (Str.ofString "xs", .val (rats xs)), (Str.ofString "counts", .val (intl (xs.map fun x => (countLe B x : Int)))), (Str.ofString "left", .val (codes false false B xs))]) (by walk_at "st") ?_
    refine wi_range1 (b_range X) (by walk_at "g") ?_
    walk_at "ss"
    refine we_builtin (b_len X) (by walk_at "g") ?_
    walk_at "ss"
    refine c_len (by simp; omega) ?_
    refine ⟨_, rfl, by simp; omega, by omega, ⟨_, rfl, by walk_at "has"⟩, ?_, ?_⟩
    · rintro i d _ hd rfl
      obtain ⟨hi, rfl⟩ := rng_get1 hd
      have hi' : i < xs.length := by simpa using hi
      have ga : xs[i]? = some xs[i] := List.getElem?_eq_getElem (by omega)
      have gn : (xs.map fun x => (countLe B x : Int))[i]? = some (countLe B xs[i] : Int) := by rw [List.getElem?_map, ga]; rfl
      have gl : (xs.map fun x => codeD (code false false B x))[i]? = some (codeD (code false false B xs[i])) := by rw [List.getElem?_map, ga]; rfl
      rw [left_eq hS] at gl
      generalize countLe B xs[i] = c at *
      have e : (0 + (i : Int)) = (i : Int) := by omega
      rw [e]
      walk_at "s"
      refine wx_assign (by walk_at "st") (WE.mono (Q := fun d => d = .bool (decide (0 < c ∧ c < B.length))) ?_ ?_)
      · refine we_chain2 ?_
        walk_at "ss"
        refine ⟨((i : Nat) : Int), _, rfl, intl_item gn (by simp; omega), ?_⟩
        walk_at "ss"
        refine if_b (fun h => ?_) (fun h => ?_)
        · have h' : 0 < c := by simpa using h
          refine we_builtin (b_len X) (by walk_at "g") ?_
          walk_at "ss"
          refine c_len (by simp; omega) ?_
          walk_at "ss"
          congr 1
          rw [decide_eq_decide]
          simp
          omega
        · have h' : ¬ 0 < c := by simpa using h
          show D.bool _ = D.bool _
          congr 1
          rw [decide_eq_decide]
          omega
      rintro _ rfl
      refine seq_next ?_
      walk_at "ss"
      refine ⟨((i : Nat) : Int), _, rfl, itemL gl (by simp; omega), ?_⟩
      walk_at "ss"
      refine if_b (fun h => ?_) (fun h => ?_)
      · have h' : 0 < c ∧ c < B.length := of_decide_eq_true h
        walk_at "ss"
        refine ⟨((i : Nat) : Int), _, rfl, intl_item gn (by simp; omega), ?_⟩
        refine v_ned codeD_ok' rfl fun b hb1 => ⟨b, rfl, if_p hb1 (fun z => absurd (by rw [if_pos h']; rfl) z) fun _ => ?_⟩
        walk_at "ss"
        exact turnN_next rfl (by walk_at "has")
      · have h' : ¬ (0 < c ∧ c < B.length) := of_decide_eq_false h
        walk_at "ss"
        refine v_ned codeD_ok' rfl fun b hb1 => ⟨b, rfl, if_p hb1 (fun z => absurd (by rw [if_neg h']; rfl) z) fun _ => ?_⟩
        walk_at "ss"
        exact turnN_next rfl (by walk_at "has")
    · rintro _ rfl
      exact Goes.mk rfl Has.refl
  rintro _ rfl
  walk_at "ss"
  refine we_call (g_lawequal X) (by walk_at "g") ?_
  walk_at "ss"
  refine (c_lawequal X ns hn xs hx).eq (by decide) ?_
  walk_at "ss"
  rfl
theorem ints_all {C : Addr} {B : Fz} : ∀ {vs : List Value} {ns : List Int}, IntsAre vs ns → All C B vs (ns.map .int)
  | _, _, .nil => .nil
  | _, _, .cons n t h => .cons (.int n t) (ints_all h)
theorem law_close {K : Frag} {p : Program} {loose : List Str} {w : World} {mean : ExcName → Option Value} {mg mb : Str → Option Value} {s₁ : Shared} {a fa : Addr} {vs : List Value} {ns : List Int} {h₁ : Heap} {tk₁ : Nat} {name : Str} {scope : Scope} {cd : Value} {oC : Obj} {bd : List Stmt} {Q : Flow → Shared → Prop} {E : Value → Shared → Prop} {fd : FuncData} {oc od osl}
    (ok : KF ⟨w, mean, mg, mb, K, p, loose⟩) (KX : K.In s₁.heap) (T : Top p loose mean mg mb s₁.heap)
    (hL : s₁.heap.IsList a vs.toArray) (hI : IntsAre vs ns) (hn : ns.length ≤ 63)
    (F : Fr s₁.heap s₁.heap.objs.size h₁ (bindL (envOfC name scope s₁.heap.objs.size fa cd).kindOf [(Str.ofString "script", .ref a)] fun _ => none))
    (N0 : News s₁.heap s₁.heap.objs.size h₁ [(s₁.heap.objs.size + 1, oC)]) (ho : oC.data = .cell (bindC (envOfC name scope s₁.heap.objs.size fa cd).kindOf [(Str.ofString "script", .ref a)] (fun _ => none) (Str.ofString "bounds")))
    (h : K.lookup 372 = some ⟨oc, od, .func fd, osl⟩) (hb : fd.body = .stmts bd) (hnm : scope.names = fd.scope.names) (hk : scope.kind = .function)
    (hcs : ∀ n, cellsFrom n scope.names [] = [(Str.ofString "bounds", n)]) (hsc : scope.names.lookup (Str.ofString "script") = some .local)
    (fin : ∀ h' tk' m, Fr s₁.heap s₁.heap.objs.size h' m → Q (.ret (.bool true)) { s₁ with heap := h', toks := tk' }) :
    wpAny (model PySem.Challenge.rw_ov0065_01.row.prog w) (callerA.deeper (envOfC name scope s₁.heap.objs.size fa cd)) (execs bd (envOfC name scope s₁.heap.objs.size fa cd)) Q E { s₁ with heap := h₁, toks := tk₁ } := by
  have ev : Ev (envOfC name scope s₁.heap.objs.size fa cd) scope.names := ⟨fun _ => rfl, fun x hx => cellsFrom_some _ _ _ (.inl hx), by
    unfold Env.blockKind
    show (if scope.kind.isAnnotationScope = true then ScopeKind.function else scope.kind) = _
    rw [hk]; rfl⟩
  have hcells : (envOfC name scope s₁.heap.objs.size fa cd).cells = [(Str.ofString "bounds", s₁.heap.objs.size + 1)] := hcs _
  have hloc : (envOfC name scope s₁.heap.objs.size fa cd).locals = s₁.heap.objs.size := rfl
  obtain ⟨g1, g2, g3⟩ := N0 _ (.head _)
  have mt : ∀ x, Mut (envOfC name scope s₁.heap.objs.size fa cd) x → s₁.heap.objs.size ≤ x := by
    rintro x (rfl | ⟨k, hk'⟩)
    · exact Nat.le_refl _
    · rw [hcells] at hk'
      have := lookup_mem hk'
      rw [List.mem_singleton] at this
      injection this with _ e
      rw [e]; exact Nat.le_succ _
  have low : ∀ x o, Mut (envOfC name scope s₁.heap.objs.size fa cd) x → s₁.heap.get? x = some o → False := fun x o hm e => Nat.not_lt.mpr (mt x hm) (Heap.lt_size e)
  have cellAt : ∀ n c, (envOfC name scope s₁.heap.objs.size fa cd).cells.lookup n = some c → n = Str.ofString "bounds" ∧ c = s₁.heap.objs.size + 1 := fun n c e => by
    rw [hcells] at e
    have := lookup_mem e
    rw [List.mem_singleton] at this
    injection this with e1 e2
    exact ⟨e1, e2⟩
  obtain ⟨oL, hoL, hcL, kL, hdL⟩ := hL
  have hb1 := bind_at (kindOf := (envOfC name scope s₁.heap.objs.size fa cd).kindOf) (binds := [(Str.ofString "script", Value.ref a)]) (m := fun _ => none) (cm := fun _ => none) (x := Str.ofString "script") (v := .ref a) (by simp) (.head _)
  have S : St (Wc ⟨⟨w, mean, mg, mb, K, p, loose⟩, ok⟩) (envOfC name scope s₁.heap.objs.size fa cd) (fun a o => s₁.heap.get? a = some o) (fun b o => b = a ∧ s₁.heap.get? b = some o) (fun b o => b = a ∧ s₁.heap.get? b = some o) [(Str.ofString "script", .val (intl ns))] h₁ := by
    refine ⟨hk, rfl, rfl, ⟨s₁.heap, ⟨KX, T⟩, fun _ _ e => e⟩, F.keep, fun b o e => F.keep b o e.2, fun _ _ e => e, fun _ _ e => .inl e, _, bindC (envOfC name scope s₁.heap.objs.size fa cd).kindOf [(Str.ofString "script", .ref a)] (fun _ => none), fun _ => 0, F.ns, fun n c e => ?_, ?_, fun n c e => ?_, fun b o hm e => low b o hm e, fun b o hm e => low b o hm e.2, ?_, ?_, ?_⟩
    · obtain ⟨rfl, rfl⟩ := cellAt n c e
      exact ⟨oC, g1, ho⟩
    · rw [hcells]; exact List.pairwise_singleton _ _
    · rw [hcells, List.mem_singleton] at e
      injection e with _ e
      rw [e]; exact Nat.succ_ne_self _
    · rintro b (rfl | ⟨k, hk'⟩)
      · obtain ⟨o, _, _, q, _⟩ := F.ns; exact ⟨o, q⟩
      · obtain ⟨_, rfl⟩ := cellAt k b hk'
        exact ⟨oC, g1⟩
    · intro x s e
      rcases look_cons e with ⟨rfl, rfl⟩ | ⟨_, e⟩
      · exact ⟨.ref a, .inl ⟨hsc, hb1.1 hsc⟩, .lst ⟨rfl, hoL⟩ hcL hdL (ints_all hI)⟩
      · simp at e
    · intro x y l l' e
      rcases look_cons e with ⟨_, e⟩ | ⟨_, e⟩
      · cases e
      · simp at e
  have rm : Room (callerA.deeper (envOfC name scope s₁.heap.objs.size fa cd)) 11 := ⟨rfl, by rw [depth_deeper]; decide, by rw [units_deeper]; decide⟩
  refine wpAny_mono (law_ws ⟨⟨w, mean, mg, mb, K, p, loose⟩, ok⟩ ns hn (ok.d372.is h hb).1 ((ok.d372.is h hb).2.trans hnm.symm) ev _ { s₁ with heap := h₁, toks := tk₁ } _ _ _ E rm S) (fun f s' hp => ?_) fun _ _ e => e
  obtain ⟨h', tk', B', rfl, hp⟩ := hp
  cases f with
  | next => obtain ⟨σ', q, _⟩ := hp; cases q
  | brk => obtain ⟨σ', q, _⟩ := hp; exact q.elim
  | cont => obtain ⟨σ', q, _⟩ := hp; exact q.elim
  | ret v =>
    obtain ⟨d, q, S', i⟩ := hp
    have hd' : d = .bool true := q
    subst hd'
    cases i
    obtain ⟨m, cm, ad, Fm'⟩ := S'.fm
    exact fin h' tk' m ⟨Fm'.ns, S'.kp, Nat.le_refl _⟩
end

section
open PySem PySem.W PySem.Calls PyProof.Rows
set_option Elab.async true
set_option maxRecDepth 100000
def XH.tw16866455022380631425 : Unit := ()
def XH.tw2629888541617559596 : Unit := ()
def XH.tw12129241937558295298 : Unit := ()
def XH.tw2099717643180522734 : Unit := ()
def XH.tw10844633854064862391 : Unit := ()
def XH.tw1493984571665171595 : Unit := ()
def XH.tw8640054821227355404 : Unit := ()
def XH.tw16337415814656585159 : Unit := ()
def XH.tw9954324808276519016 : Unit := ()
def XH.tw706404335243745961 : Unit := ()
def XH.tw17905535450186035118 : Unit := ()
def XH.tw8119760430643026033 : Unit := ()
def XH.tw13225006969272246124 : Unit := ()
def XH.tw3944872061581481130 : Unit := ()
def XH.tw7682008086001595466 : Unit := ()
def XH.tw1711481421957537506 : Unit := ()
def XH.tw12493718779011658479 : Unit := ()
def XH.tw4438447828336832163 : Unit := ()
def XH.tw4022748898645751116 : Unit := ()
def XH.tw4475945262010429539 : Unit := ()
def XH.tw1320544081100486612 : Unit := ()
def XH.tw552952196818853261 : Unit := ()
def XH.tw11403051788290346311 : Unit := ()
def XH.tw6426770576223066427 : Unit := ()
def XH.tw4410849631258254406 : Unit := ()
def XH.tw4593658681809754529 : Unit := ()
def XH.tw2331645647196634788 : Unit := ()
def XH.tw7279372840793527378 : Unit := ()
def XH.tw9259701525601245983 : Unit := ()
def XH.tw8240239120818433787 : Unit := ()
def XH.tw5503233830912554122 : Unit := ()
def XH.tw1965221498125838179 : Unit := ()
def XH.tw15872295755074435432 : Unit := ()
def XH.tw4452928411274741172 : Unit := ()
def XH.tw4533825416147788886 : Unit := ()
def XH.tw4255616604765738384 : Unit := ()
def XH.tw14875318332491399607 : Unit := ()
def XH.tw525294941612712329 : Unit := ()
def XH.tw3922767856756372876 : Unit := ()
def XH.tw3012367002632671517 : Unit := ()
def XH.tw3285069365996397154 : Unit := ()
def XH.tw12978681726954466673 : Unit := ()
def XH.tw13407132384720472169 : Unit := ()
def XH.tw8504131042855776247 : Unit := ()
def XH.tw11362977431230256434 : Unit := ()
def XH.tw9580092191779905972 : Unit := ()
def XH.tw10196212719381686686 : Unit := ()
def XH.tw12124503020199034749 : Unit := ()
def XH.tw7582553579826696069 : Unit := ()
def XH.tw9086798929660220086 : Unit := ()
def XH.tw16659513517359440852 : Unit := ()
def XH.tw12754149049536588327 : Unit := ()
def XH.tw17713122780313589158 : Unit := ()
def XH.tw17442410058867365470 : Unit := ()
def XH.tw15240531164627213820 : Unit := ()
def XH.tw13898811358669510912 : Unit := ()
def XH.tw16728715798146944555 : Unit := ()
def XH.tw1083609196768286603 : Unit := ()
def XH.tw16327093807477538863 : Unit := ()
def XH.tw416736188745968214 : Unit := ()
def XH.tw10535590744143526652 : Unit := ()
def XH.tw2374828275305301574 : Unit := ()
def XH.tw18061666182982718598 : Unit := ()
def XH.tw10523656731710786210 : Unit := ()
def XH.tw10025084855489333744 : Unit := ()
def XH.tw4468586337476540688 : Unit := ()

local macro_rules
  | `(tactic| walk_at "bnd") => `(tactic| (intro vs e; first | exact bindN1 (fun _ => rfl) e | exact bindN2 (fun _ _ => rfl) e | exact bindN3 (fun _ _ _ => rfl) e | exact bindN4 (fun _ _ _ _ => rfl) e | exact bindN5 (fun _ _ _ _ _ => rfl) e))
local macro_rules
  | `(tactic| walk_at "k") => `(tactic| (dsimp only [Wx]; k_is))
set_option maxHeartbeats 0 in
theorem XH : PySem.Challenge.rw_ov0065_01.Holds := by
  w_on; o_law; k_head
  case hw => w_witness2
  w_strict (
    k_go0
    refine Mine.law_close ?ok (by assumption) (by assumption) (by assumption) (by assumption) (by omega) (by assumption) (by assumption) (by assumption) (by k_is) (by rfl) (by rfl) (by rfl) (by intro _; rfl) (by rfl) ?_
    case ok => exact {
    d61 := DefAt.mk' (ps := [Str.ofString "a", Str.ofString "b"]) (by rfl) (Fun.mk' (by walk_at "k") (by walk_at "k") rfl rfl rfl rfl rfl rfl rfl (by walk_at "bnd") (by decide) rfl) (by rfl) (by rfl)
    d68 := DefAt.mk' (ps := [Str.ofString "n", Str.ofString "d"]) (by rfl) (Fun.mk' (by walk_at "k") (by walk_at "k") rfl rfl rfl rfl rfl rfl rfl (by walk_at "bnd") (by decide) rfl) (by rfl) (by rfl)
    d75 := DefAt.mk' (ps := [Str.ofString "n"]) (by rfl) (Fun.mk' (by walk_at "k") (by walk_at "k") rfl rfl rfl rfl rfl rfl rfl (by walk_at "bnd") (by decide) rfl) (by rfl) (by rfl)
    d82 := DefAt.mk' (ps := [Str.ofString "x"]) (by rfl) (Fun.mk' (by walk_at "k") (by walk_at "k") rfl rfl rfl rfl rfl rfl rfl (by walk_at "bnd") (by decide) rfl) (by rfl) (by rfl)
    d89 := DefAt.mk' (ps := [Str.ofString "x"]) (by rfl) (Fun.mk' (by walk_at "k") (by walk_at "k") rfl rfl rfl rfl rfl rfl rfl (by walk_at "bnd") (by decide) rfl) (by rfl) (by rfl)
    d96 := DefAt.mk' (ps := [Str.ofString "x"]) (by rfl) (Fun.mk' (by walk_at "k") (by walk_at "k") rfl rfl rfl rfl rfl rfl rfl (by walk_at "bnd") (by decide) rfl) (by rfl) (by rfl)
    d110 := DefAt.mk' (ps := [Str.ofString "x"]) (by rfl) (Fun.mk' (by walk_at "k") (by walk_at "k") rfl rfl rfl rfl rfl rfl rfl (by walk_at "bnd") (by decide) rfl) (by rfl) (by rfl)
    d117 := DefAt.mk' (ps := [Str.ofString "x", Str.ofString "y"]) (by rfl) (Fun.mk' (by walk_at "k") (by walk_at "k") rfl rfl rfl rfl rfl rfl rfl (by walk_at "bnd") (by decide) rfl) (by rfl) (by rfl)
    d124 := DefAt.mk' (ps := [Str.ofString "x", Str.ofString "y"]) (by rfl) (Fun.mk' (by walk_at "k") (by walk_at "k") rfl rfl rfl rfl rfl rfl rfl (by walk_at "bnd") (by decide) rfl) (by rfl) (by rfl)
    d131 := DefAt.mk' (ps := [Str.ofString "x", Str.ofString "y"]) (by rfl) (Fun.mk' (by walk_at "k") (by walk_at "k") rfl rfl rfl rfl rfl rfl rfl (by walk_at "bnd") (by decide) rfl) (by rfl) (by rfl)
    d138 := DefAt.mk' (ps := [Str.ofString "x", Str.ofString "y"]) (by rfl) (Fun.mk' (by walk_at "k") (by walk_at "k") rfl rfl rfl rfl rfl rfl rfl (by walk_at "bnd") (by decide) rfl) (by rfl) (by rfl)
    d145 := DefAt.mk' (ps := [Str.ofString "x"]) (by rfl) (Fun.mk' (by walk_at "k") (by walk_at "k") rfl rfl rfl rfl rfl rfl rfl (by walk_at "bnd") (by decide) rfl) (by rfl) (by rfl)
    d152 := DefAt.mk' (ps := [Str.ofString "x", Str.ofString "y"]) (by rfl) (Fun.mk' (by walk_at "k") (by walk_at "k") rfl rfl rfl rfl rfl rfl rfl (by walk_at "bnd") (by decide) rfl) (by rfl) (by rfl)
    d188 := DefAt.mk' (ps := [Str.ofString "n"]) (by rfl) (Fun.mk' (by walk_at "k") (by walk_at "k") rfl rfl rfl rfl rfl rfl rfl (by walk_at "bnd") (by decide) rfl) (by rfl) (by rfl)
    d195 := DefAt.mk' (ps := [Str.ofString "items"]) (by rfl) (Fun.mk' (by walk_at "k") (by walk_at "k") rfl rfl rfl rfl rfl rfl rfl (by walk_at "bnd") (by decide) rfl) (by rfl) (by rfl)
    d202 := DefAt.mk' (ps := [Str.ofString "v"]) (by rfl) (Fun.mk' (by walk_at "k") (by walk_at "k") rfl rfl rfl rfl rfl rfl rfl (by walk_at "bnd") (by decide) rfl) (by rfl) (by rfl)
    d209 := DefAt.mk' (ps := [Str.ofString "kind", Str.ofString "item"]) (by rfl) (Fun.mk' (by walk_at "k") (by walk_at "k") rfl rfl rfl rfl rfl rfl rfl (by walk_at "bnd") (by decide) rfl) (by rfl) (by rfl)
    d216 := DefAt.mk' (ps := [Str.ofString "kind", Str.ofString "a", Str.ofString "b"]) (by rfl) (Fun.mk' (by walk_at "k") (by walk_at "k") rfl rfl rfl rfl rfl rfl rfl (by walk_at "bnd") (by decide) rfl) (by rfl) (by rfl)
    d223 := DefAt.mk' (ps := [Str.ofString "v"]) (by rfl) (Fun.mk' (by walk_at "k") (by walk_at "k") rfl rfl rfl rfl rfl rfl rfl (by walk_at "bnd") (by decide) rfl) (by rfl) (by rfl)
    d230 := DefAt.mk' (ps := [Str.ofString "v", Str.ofString "i", Str.ofString "j", Str.ofString "decreasing", Str.ofString "na_last"]) (by rfl) (Fun.mk' (by walk_at "k") (by walk_at "k") rfl rfl rfl rfl rfl rfl rfl (by walk_at "bnd") (by decide) rfl) (by rfl) (by rfl)
    d237 := DefAt.mk' (ps := [Str.ofString "vs", Str.ofString "i", Str.ofString "j", Str.ofString "decreasing", Str.ofString "na_last"]) (by rfl) (Fun.mk' (by walk_at "k") (by walk_at "k") rfl rfl rfl rfl rfl rfl rfl (by walk_at "bnd") (by decide) rfl) (by rfl) (by rfl)
    d244 := DefAt.mk' (ps := [Str.ofString "left", Str.ofString "right", Str.ofString "vs", Str.ofString "decreasing", Str.ofString "na_last"]) (by rfl) (Fun.mk' (by walk_at "k") (by walk_at "k") rfl rfl rfl rfl rfl rfl rfl (by walk_at "bnd") (by decide) rfl) (by rfl) (by rfl)
    d249 := DefAt.mk' (ps := [Str.ofString "places", Str.ofString "vs", Str.ofString "decreasing", Str.ofString "na_last"]) (by rfl) (Fun.mk' (by walk_at "k") (by walk_at "k") rfl rfl rfl rfl rfl rfl rfl (by walk_at "bnd") (by decide) rfl) (by rfl) (by rfl)
    d254 := DefAt.mk' (ps := [Str.ofString "decreasing", Str.ofString "count"]) (by rfl) (Fun.mk' (by walk_at "k") (by walk_at "k") rfl rfl rfl rfl rfl rfl rfl (by walk_at "bnd") (by decide) rfl) (by rfl) (by rfl)
    d261 := DefAt.mk' (ps := [Str.ofString "vs", Str.ofString "na_last"]) (by rfl) (Fun.mk' (by walk_at "k") (by walk_at "k") rfl rfl rfl rfl rfl rfl rfl (by walk_at "bnd") (by decide) rfl) (by rfl) (by rfl)
    d269 := DefAt.mk' (ps := [Str.ofString "vs", Str.ofString "decreasing", Str.ofString "na_last"]) (by rfl) (Fun.mkd (by walk_at "k") (by walk_at "k") rfl rfl rfl rfl rfl rfl rfl rfl (by walk_at "k") rfl (fun vs e => bind3d (fun _ _ _ => ⟨_, rfl, rfl⟩) e) (by decide) rfl) (by rfl) (by rfl)
    d276 := DefAt.mk' (ps := [Str.ofString "x"]) (by rfl) (Fun.mk' (by walk_at "k") (by walk_at "k") rfl rfl rfl rfl rfl rfl rfl (by walk_at "bnd") (by decide) rfl) (by rfl) (by rfl)
    d283 := DefAt.mk' (ps := [Str.ofString "xs"]) (by rfl) (Fun.mk' (by walk_at "k") (by walk_at "k") rfl rfl rfl rfl rfl rfl rfl (by walk_at "bnd") (by decide) rfl) (by rfl) (by rfl)
    d288 := DefAt.mk' (ps := [Str.ofString "xs", Str.ofString "count"]) (by rfl) (Fun.mk' (by walk_at "k") (by walk_at "k") rfl rfl rfl rfl rfl rfl rfl (by walk_at "bnd") (by decide) rfl) (by rfl) (by rfl)
    d293 := DefAt.mk' (ps := [Str.ofString "xs", Str.ofString "breaks"]) (by rfl) (Fun.mk' (by walk_at "k") (by walk_at "k") rfl rfl rfl rfl rfl rfl rfl (by walk_at "bnd") (by decide) rfl) (by rfl) (by rfl)
    d300 := DefAt.mk' (ps := [Str.ofString "x", Str.ofString "bounds", Str.ofString "right", Str.ofString "lowest"]) (by rfl) (Fun.mk' (by walk_at "k") (by walk_at "k") rfl rfl rfl rfl rfl rfl rfl (by walk_at "bnd") (by decide) rfl) (by rfl) (by rfl)
    d305 := DefAt.mk' (ps := [Str.ofString "xs", Str.ofString "bounds", Str.ofString "right", Str.ofString "lowest"]) (by rfl) (Fun.mk' (by walk_at "k") (by walk_at "k") rfl rfl rfl rfl rfl rfl rfl (by walk_at "bnd") (by decide) rfl) (by rfl) (by rfl)
    d310 := DefAt.mk' (ps := [Str.ofString "xs", Str.ofString "bounds"]) (by rfl) (Fun.mk' (by walk_at "k") (by walk_at "k") rfl rfl rfl rfl rfl rfl rfl (by walk_at "bnd") (by decide) rfl) (by rfl) (by rfl)
    d317 := DefAt.mk' (ps := [Str.ofString "over", Str.ofString "under"]) (by rfl) (Fun.mk' (by walk_at "k") (by walk_at "k") rfl rfl rfl rfl rfl rfl rfl (by walk_at "bnd") (by decide) rfl) (by rfl) (by rfl)
    d324 := DefAt.mk' (ps := [Str.ofString "script", Str.ofString "spot"]) (by rfl) (Fun.mk' (by walk_at "k") (by walk_at "k") rfl rfl rfl rfl rfl rfl rfl (by walk_at "bnd") (by decide) rfl) (by rfl) (by rfl)
    d329 := DefAt.mk' (ps := [Str.ofString "script"]) (by rfl) (Fun.mk' (by walk_at "k") (by walk_at "k") rfl rfl rfl rfl rfl rfl rfl (by walk_at "bnd") (by decide) rfl) (by rfl) (by rfl)
    d336 := DefAt.mk' (ps := [Str.ofString "script", Str.ofString "bounds"]) (by rfl) (Fun.mk' (by walk_at "k") (by walk_at "k") rfl rfl rfl rfl rfl rfl rfl (by walk_at "bnd") (by decide) rfl) (by rfl) (by rfl)
    d343 := DefAt.mk' (ps := [Str.ofString "one", Str.ofString "other"]) (by rfl) (Fun.mk' (by walk_at "k") (by walk_at "k") rfl rfl rfl rfl rfl rfl rfl (by walk_at "bnd") (by decide) rfl) (by rfl) (by rfl)
    d348 := DefAt.mk' (ps := [Str.ofString "values"]) (by rfl) (Fun.mk' (by walk_at "k") (by walk_at "k") rfl rfl rfl rfl rfl rfl rfl (by walk_at "bnd") (by decide) rfl) (by rfl) (by rfl)
    d353 := DefAt.mk' (ps := [Str.ofString "values", Str.ofString "by"]) (by rfl) (Fun.mk' (by walk_at "k") (by walk_at "k") rfl rfl rfl rfl rfl rfl rfl (by walk_at "bnd") (by decide) rfl) (by rfl) (by rfl)
    d360 := DefAt.mk' (ps := [Str.ofString "x", Str.ofString "bounds"]) (by rfl) (Fun.mk' (by walk_at "k") (by walk_at "k") rfl rfl rfl rfl rfl rfl rfl (by walk_at "bnd") (by decide) rfl) (by rfl) (by rfl)
    d367 := DefAt.mk' (ps := [Str.ofString "script", Str.ofString "xs"]) (by rfl) (Fun.mk' (by walk_at "k") (by walk_at "k") rfl rfl rfl rfl rfl rfl rfl (by walk_at "bnd") (by decide) rfl) (by rfl) (by rfl)
    d372 := DefAt.mk' (ps := [Str.ofString "script"]) (by rfl) (Fun.mk' (by walk_at "k") (by walk_at "k") rfl rfl rfl rfl rfl rfl rfl (by walk_at "bnd") (by decide) rfl) (by rfl) (by rfl)
    g_gcd := ⟨by walk_at "k", by walk_at "k"⟩
    b_abs := ⟨by walk_at "k", by boot_fast, by decide⟩
    g_make := ⟨by walk_at "k", by walk_at "k"⟩
    g_is_na := ⟨by walk_at "k", by walk_at "k"⟩
    g_is_nan := ⟨by walk_at "k", by walk_at "k"⟩
    g_is_finite := ⟨by walk_at "k", by walk_at "k"⟩
    g_neg := ⟨by walk_at "k", by walk_at "k"⟩
    g_add := ⟨by walk_at "k", by walk_at "k"⟩
    g_ratio := ⟨by walk_at "k", by walk_at "k"⟩
    g_cell := ⟨by walk_at "k", by walk_at "k"⟩
    g_below := ⟨by walk_at "k", by walk_at "k"⟩
    b_len := ⟨by walk_at "k", by boot_fast, by decide⟩
    b_range := ⟨by walk_at "k", by boot_fast, by decide⟩
    g_compare := ⟨by walk_at "k", by walk_at "k"⟩
    g_lackc := ⟨by walk_at "k", by walk_at "k"⟩
    g_code := ⟨by walk_at "k", by walk_at "k"⟩
    g_Vector := ⟨by walk_at "k", by walk_at "k"⟩
    g_double := ⟨by walk_at "k", by walk_at "k"⟩
    b_list := ⟨by walk_at "k", by boot_fast, by decide⟩
    b_isinstance := ⟨by walk_at "k", by boot_fast, by decide⟩
    g_lacks := ⟨by walk_at "k", by walk_at "k"⟩
    g_citems := ⟨by walk_at "k", by walk_at "k"⟩
    g_cplaces := ⟨by walk_at "k", by walk_at "k"⟩
    g_ckeys := ⟨by walk_at "k", by walk_at "k"⟩
    g_mruns := ⟨by walk_at "k", by walk_at "k"⟩
    g_msort := ⟨by walk_at "k", by walk_at "k"⟩
    g_length := ⟨by walk_at "k", by walk_at "k"⟩
    g_sortable := ⟨by walk_at "k", by walk_at "k"⟩
    g_eachkey := ⟨by walk_at "k", by walk_at "k"⟩
    g_kept := ⟨by walk_at "k", by walk_at "k"⟩
    g_orderby := ⟨by walk_at "k", by walk_at "k"⟩
    g_toint := ⟨by walk_at "k", by walk_at "k"⟩
    g_fromint := ⟨by walk_at "k", by walk_at "k"⟩
    g_sub := ⟨by walk_at "k", by walk_at "k"⟩
    g_mul := ⟨by walk_at "k", by walk_at "k"⟩
    g_div := ⟨by walk_at "k", by walk_at "k"⟩
    g_room := ⟨by walk_at "k", by walk_at "k"⟩
    g_rangeof := ⟨by walk_at "k", by walk_at "k"⟩
    g_equal := ⟨by walk_at "k", by walk_at "k"⟩
    g_bvals := ⟨by walk_at "k", by walk_at "k"⟩
    g_codes := ⟨by walk_at "k", by walk_at "k"⟩
    g_breaks := ⟨by walk_at "k", by walk_at "k"⟩
    g_numbers := ⟨by walk_at "k", by walk_at "k"⟩
    g_turned := ⟨by walk_at "k", by walk_at "k"⟩
    g_moved := ⟨by walk_at "k", by walk_at "k"⟩
    g_homes := ⟨by walk_at "k", by walk_at "k"⟩
    g_lawequal := ⟨by walk_at "k", by walk_at "k"⟩
    g_places := ⟨by walk_at "k", by walk_at "k"⟩
    b_sorted := ⟨by walk_at "k", by boot_fast, by decide⟩
    a_kind := ⟨by walk_at "k", by walk_at "k", _, by walk_at "k", by walk_at "k"⟩
    a_items := ⟨by walk_at "k", by walk_at "k", _, by walk_at "k", by walk_at "k"⟩
    i_vec := by walk_at "k"
    v_make := by walk_at "k"
    v_find := by walk_at "k"
    v_type := by walk_at "k"
    v_init := ⟨_, _, _, _, _, _, _, _, by walk_at "k", by walk_at "k", by rfl, rfl, by walk_at "k", rfl, fun _ _ _ => ⟨_, rfl, rfl⟩, rfl⟩
    v_set := by walk_at "k"
    v_plain := by walk_at "k"
    v_has := by walk_at "k"
    v_tkind := by walk_at "k"
    v_titems := by walk_at "k"
    v_tattrs := by walk_at "k"
    v_tshared := by walk_at "k"
    v_tloose := by walk_at "k"
    g_most := ⟨_, by walk_at "k"⟩
      }
    intro h' tk' m F'
    refine goodW_bool F' (by assumption) (raisesW_false ?_) ?_
    · wrow_none_raised
    · wrow_post)
end

end Mine

theorem PySem.Challenge.cw_ov0065_01_holds : PySem.Challenge.rw_ov0065_01.Holds :=
  Mine.XH
